import PyProof.Rows.All
import Wide.All
import OpenK.AllK
import Wide.FinOn
import KE.OsRunLaw
import HandS.ForMost
import HandS.ForExc
import KE.KDictKeyed
import HandS.Walk
import HandS.Wide
import HandS.Defaults
import HandS.IsInst
import HandS.Flow
import HandS.Property
import HandS.MakeKw
import KE.KOpsOwn
import KE.SortData
import KE.KDictCopyH
import HandS.ListItems
import HandS.Conv
import HandS.TupAny
import HandS.Style
import HandS.EndBits
import HandS.ExcInit
import HandS.ExcCtx
import KE.KExcSuper
import HandS.WideBits
import HandS.TryOnly
import KE.GoesMore
import HandS.ExcOwn
import HandS.ExcField
import HandS.ExcIs
import KE.KExcIs
import HandS.Star
import HandS.Zip
import HandS.HotCalls
import HandS.WordsExc
import KE.KDictZip
import KE.DatumOrd
import HandS.SortKw
import KE.GoesZip
import HandS.DictComp
import HandS.TupLe
import HandS.CallSlots
import HandS.MakeKwOnly
import KE.KDictDisplayH
import HandS.Deep
import HandS.TupLen
import KE.SortCalls
import HandS.SetFor
import PyProof.ListRange
import HandS.ClsMeth
import HandS.TupMul
import KE.DataMinMax
import KE.KDictSum
import KE.GoesRaise
import HandS.GenList
import HandS.GenYield
import HandS.SuiteRaise
import PySem.Challenge.RW_playhall_k03_moves_merge
set_option Elab.async false
set_option linter.all false
set_option maxRecDepth 100000
namespace HD
open PySem PySem.W
def qv : Program := PySem.W.view PySem.Challenge.pw_playhall_k03_moves_merge [44]
def lo : List PySem.Str := [.ofString "HallError", .ofString "BadMove", .ofString "BadGame", .ofString "BadHall", .ofString "BadScoring", .ofString "BadSeason", .ofString "LETTERS", .ofString "LONGEST_NAME", .ofString "is_name", .ofString "is_label", .ofString "greater_low", .ofString "lesser_high", .ofString "is_need", .ofString "merged_needs", .ofString "merged_changes", .ofString "Move", .ofString "_law_cell", .ofString "_law_row", .ofString "_law_word", .ofString "_law_same", .ofString "_law_number", .ofString "_law_pool", .ofString "_law_chars", .ofString "_law_text", .ofString "_law_is_name", .ofString "_law_is_label", .ofString "_law_limit", .ofString "_law_needs", .ofString "_law_changes", .ofString "_law_refused", .ofString "_law_merged", .ofString "_law_summed", .ofString "_law_expected", .ofString "_law_build", .ofString "_law_shown", .ofString "_law_near", .ofString "_law_wrong_changes", .ofString "_law_spoilt", .ofString "_law_base", .ofString "_law_told"]
section
open PySem PySem.W PyProof.Rows
local macro_rules
  | `(tactic| o_headL $H) => `(tactic| (
    refine PySem.W.holds_open (q := HD.qv) (loose := HD.lo)
      (Xt := fun u => xlAt HD.qv [] u && recOk (RowW.records (OpenRow.toRowW (OpenLaw.row PySem.Challenge.rw_playhall_k03_moves_merge))) u)
      (XP := XL HD.qv []) (Yf := Hook.obs $H) (Ya := Hook.val $H) (YP := Hook.says $H) (N := 61000)
      ?hl (Hook.of $H) (Hook.keeps $H) (fun u ee => xl_of u (Bool.and_eq_true_iff.mp ee).1) XL.keeps
      (by rfl) (by rfl) (by rfl) (fun u ee => recFacts_of (Bool.and_eq_true_iff.mp ee).2)
      (by rfl) (by first | assumption | decide +kernel) (by decide +kernel)
      ⟨rfl, rfl, rfl, rfl, rfl, by decide +kernel⟩ ?hw ?hc
    case hl =>
      refine HeadRun.left_oneK (M := 60000) (by kernel_rfl) (by rfl) (fun u => by kernel_rfl) (by rfl) ?_
      intro w os
      kernel_rfl))
local macro_rules | `(tactic| k_head) => `(tactic| k_headL)
set_option maxHeartbeats 0 in
open_top top for PySem.Challenge.rw_playhall_k03_moves_merge
end
end HD

set_option maxHeartbeats 4000000
namespace PD
open PySem PySem.Spec PyProof.Rows L2

/-! ### data and owned things -/
inductive D where
  | non | bl (b : Bool) | int (i : Int) | str (x : Str) | lst (xs : List D) | tup (xs : List D)
  | dic (ks : List Key) (vs : List D) | obj (C : Addr) (fs : List Str) (vs : List D)
  /-- an exception in an except suite: the object a, its dict d, its class, its fields -/
  | exn (a : Addr) (d : Option Addr) (cls : Value) (ks : List Str) (vs : List D)
  /-- d, and M0 is a part of what is frozen -/
  | tagM (M0 : Hp) (d : D)
  /-- d, and the value itself has P, which what is done to the frozen part leaves -/
  | tagP (P : Hp → V → Prop) (d : D)
  /-- a dict whose keys are tuples of any depth -/
  | dicT (w : World) (ks : List NestedKey) (vs : List D)

inductive O where
  | unk | dat (d : D) | lst (xs : List O) | tup (xs : List O) | dic (ks : List Key) (vs : List O) | obj (C : Addr) (fs : List Str) (vs : List O) | raw (u : HO) | dicT (w : World) (ks : List NestedKey) (vs : List D)

mutual
def O.toD : O → Option D
  | .unk => none
  | .dat d => some d
  | .lst xs => (O.toDs xs).map .lst
  | .tup xs => (O.toDs xs).map .tup
  | .dic ks vs => (O.toDs vs).map (.dic ks)
  | .obj C fs vs => (O.toDs vs).map (.obj C fs)
  | .raw _ => none
  | .dicT w ks vs => some (.dicT w ks vs)
def O.toDs : List O → Option (List D)
  | [] => some []
  | o :: os => match O.toD o, O.toDs os with
    | some d, some ds => some (d :: ds)
    | _, _ => none
end

theorem Rd.up {M M' : Hp} {a : Addr} {u : HO} (s : ∀ b v, M b = some v → M' b = some v) (h : Rd M a u) : Rd M' a u := by
  rcases h with h | ⟨o, h⟩
  · exact .inl (s _ _ h)
  · exact .inr ⟨o, s _ _ h⟩
/-- a list that is looked at: tracked, or one of the written part -/
def SqX (K : PySem.W.Frag) (H : Hp) (a : Addr) (xs : List V) : Prop :=
  Rd H a (.lst xs) ∨ ∃ (its : Array Value) (n : Nat), K.lookup a = some ({ cls := .type "list", data := .seq its n } : Obj) ∧ its.size ≤ sizeLine ∧ Vals xs its.toList
theorem SqX.toL {K : PySem.W.Frag} {H : Hp} {a : Addr} {xs : List V} (h : SqX K H a xs) : SqL K H a xs := by
  rcases h with h | ⟨its, n, lk, hz, r⟩
  · exact .inl h
  · exact .inr ⟨_, its, n, lk, rfl, rfl, rfl, hz, r⟩
theorem sqX_same {K : PySem.W.Frag} {H H' : Hp} {a : Addr} {xs : List V} (e : Same H H') (h : SqX K H a xs) : SqX K H' a xs := by
  rcases h with (h | ⟨o, h⟩) | h
  · exact .inl (.inl (e _ _ h))
  · exact .inl (.inr ⟨o, e _ _ h⟩)
  · exact .inr h
theorem seqX {K : PySem.W.Frag} {H H' : Hp} {a : Addr} {xs : List V} (e : Same H H') (h : SqX K H a xs) : SqL K H' a xs := (sqX_same e h).toL
/-- the lists stand -/
def LSub (M M' : Hp) : Prop := ∀ a xs, M a = some (.lst xs) → M' a = some (.lst xs)
theorem sqT_same {K : PySem.W.Frag} {H H' : Hp} {a : Addr} {xs : List V} (e : Same H H') (h : SqT K H a xs) : SqT K H' a xs := by
  rcases h with (h | ⟨o, h⟩) | h
  · exact .inl (.inl (e _ _ h))
  · exact .inl (.inr ⟨o, e _ _ h⟩)
  · exact .inr h
/-! ### dicts whose keys are tuples -/
mutual
/-- the value is such a key -/
inductive NK (K : PySem.W.Frag) (M : Hp) : V → NestedKey → Prop
  | non : NK K M .non .none
  | bl (b : Bool) : NK K M (.bl b) (.num (if b then 1 else 0))
  | int (i : Int) : NK K M (.int i) (.num i)
  | str (x : Str) : NK K M (.str x) (.text x)
  | tup {a : Addr} {xs : List V} {ks : List NestedKey} : SqT K M a xs → NKs K M xs ks → NK K M (.ref a) (.tup ks)
inductive NKs (K : PySem.W.Frag) (M : Hp) : List V → List NestedKey → Prop
  | nil : NKs K M [] []
  | cons {v : V} {vs : List V} {k : NestedKey} {ks : List NestedKey} : NK K M v k → NKs K M vs ks → NKs K M (v :: vs) (k :: ks)
end
mutual
theorem NK.mono {K : PySem.W.Frag} {M M' : Hp} (s : Same M M') : ∀ {v : V} {k : NestedKey}, NK K M v k → NK K M' v k
  | _, _, .non => .non
  | _, _, .bl b => .bl b
  | _, _, .int i => .int i
  | _, _, .str x => .str x
  | _, _, .tup h hs => .tup (sqT_same s h) (NKs.mono s hs)
theorem NKs.mono {K : PySem.W.Frag} {M M' : Hp} (s : Same M M') : ∀ {vs : List V} {ks : List NestedKey}, NKs K M vs ks → NKs K M' vs ks
  | _, _, .nil => .nil
  | _, _, .cons h hs => .cons (NK.mono s h) (NKs.mono s hs)
end
abbrev TE3 := NestedKey × Addr × Value
/-- the dict object with these entries -/
def TDo (w : World) (a : Addr) (xs : List TE3) : HO := .ext fun h => ∃ o es ep, h.get? a = some o ∧ o.ExactDict ∧ o.data = .dict es ep ∧ es.toList = xs.map fun x => (⟨x.1.hash w, .ref x.2.1, x.2.2⟩ : DictEntry)
structure TDk (K : PySem.W.Frag) (M : Hp) (a : Addr) (xs : List TE3) (ks : List NestedKey) (vs : List V) : Prop where
  few : xs.length ≤ sizeLine
  nsys : (a == sysModules) = false
  nd : (xs.map (·.1)).Nodup
  eq : xs.map (·.1) = ks
  keys : ∀ x ∈ xs, NK K M (.ref x.2.1) x.1 ∧ x.1.depth ≤ 8
  vals : Vals vs (xs.map (·.2.2))
mutual
theorem NK.map {K : PySem.W.Frag} {M M' : Hp} (s : ∀ a xs, SqT K M a xs → SqT K M' a xs) : ∀ {v : V} {k : NestedKey}, NK K M v k → NK K M' v k
  | _, _, .non => .non
  | _, _, .bl b => .bl b
  | _, _, .int i => .int i
  | _, _, .str x => .str x
  | _, _, .tup h hs => .tup (s _ _ h) (NKs.map s hs)
theorem NKs.map {K : PySem.W.Frag} {M M' : Hp} (s : ∀ a xs, SqT K M a xs → SqT K M' a xs) : ∀ {vs : List V} {ks : List NestedKey}, NKs K M vs ks → NKs K M' vs ks
  | _, _, .nil => .nil
  | _, _, .cons h hs => .cons (NK.map s h) (NKs.map s hs)
end
theorem TDk.map {K : PySem.W.Frag} {M M' : Hp} {a : Addr} {xs : List TE3} {ks : List NestedKey} {vs : List V} (s : ∀ a xs, SqT K M a xs → SqT K M' a xs) (h : TDk K M a xs ks vs) : TDk K M' a xs ks vs :=
  ⟨h.few, h.nsys, h.nd, h.eq, fun x hx => ⟨(h.keys x hx).1.map s, (h.keys x hx).2⟩, h.vals⟩
theorem TDk.mono {K : PySem.W.Frag} {M M' : Hp} {a : Addr} {xs : List TE3} {ks : List NestedKey} {vs : List V} (s : Same M M') (h : TDk K M a xs ks vs) : TDk K M' a xs ks vs :=
  ⟨h.few, h.nsys, h.nd, h.eq, fun x hx => ⟨(h.keys x hx).1.mono s, (h.keys x hx).2⟩, h.vals⟩
mutual
inductive Dv (K : PySem.W.Frag) (M : Hp) : V → D → Prop
  | non : Dv K M .non .non
  | bl (b : Bool) : Dv K M (.bl b) (.bl b)
  | int (i : Int) : Dv K M (.int i) (.int i)
  | str (x : Str) : Dv K M (.str x) (.str x)
  | lst {a : Addr} {xs : List V} {ds : List D} : SqX K M a xs → Dvs K M xs ds → Dv K M (.ref a) (.lst ds)
  | tup {a : Addr} {xs : List V} {ds : List D} : SqT K M a xs → Dvs K M xs ds → Dv K M (.ref a) (.tup ds)
  | dic {a : Addr} {kvs : List (Key × V)} {ks : List Key} {ds : List D} : Rd M a (.dK kvs) → kvs.map (·.1) = ks → Dvs K M (kvs.map (·.2)) ds → Dv K M (.ref a) (.dic ks ds)
  | obj {a C dx : Addr} {fs : List (Str × V)} {ks : List Str} {ds : List D} : M a = some (.ins C dx fs) → M dx = some (.own a) → fs.map (·.1) = ks → Dvs K M (fs.map (·.2)) ds → Dv K M (.ref a) (.obj C ks ds)
  | exn0 {a : Addr} {cls : Value} : Dv K M (.ref a) (.exn a none cls [] [])
  | exn1 {a da : Addr} {cls : Value} {fs : List (Str × V)} {ks : List Str} {ds : List D} : M da = some (.xd fs) → fs.map (·.1) = ks → Dvs K M (fs.map (·.2)) ds → Dv K M (.ref a) (.exn a (some da) cls ks ds)
  | tagM {v : V} {M0 : Hp} {d : D} : (∀ a, M a = none → M0 a = none) → Dv K M v d → Dv K M v (.tagM M0 d)
  | tagP {v : V} {P : Hp → V → Prop} {d : D} : (∀ M', LSub M M' → P M' v) → Dv K M v d → Dv K M v (.tagP P d)
  | dicT {a : Addr} {w : World} {xs : List TE3} {ks : List NestedKey} {vs : List V} {ds : List D} : M a = some (TDo w a xs) → TDk K M a xs ks vs → Dvs K M vs ds → Dv K M (.ref a) (.dicT w ks ds)
inductive Dvs (K : PySem.W.Frag) (M : Hp) : List V → List D → Prop
  | nil : Dvs K M [] []
  | cons {v : V} {vs : List V} {d : D} {ds : List D} : Dv K M v d → Dvs K M vs ds → Dvs K M (v :: vs) (d :: ds)
end

section
variable {K : PySem.W.Frag} {M M' : Hp}
mutual
theorem Dv.mono (s : Same M M') : ∀ {v : V} {d : D}, Dv K M v d → Dv K M' v d
  | _, _, .non => .non
  | _, _, .bl b => .bl b
  | _, _, .int i => .int i
  | _, _, .str x => .str x
  | _, _, .lst h hs => .lst (sqX_same s h) (Dvs.mono s hs)
  | _, _, .tup h hs => .tup (sqT_same s h) (Dvs.mono s hs)
  | _, _, .dic h e hs => .dic (Rd.up s h) e (Dvs.mono s hs)
  | _, _, .obj h h2 e hs => .obj (s _ _ h) (s _ _ h2) e (Dvs.mono s hs)
  | _, _, .exn0 => .exn0
  | _, _, .exn1 h e hs => .exn1 (s _ _ h) e (Dvs.mono s hs)
  | _, _, .tagM h hs => .tagM (fun a e => h a (s.free e)) (Dv.mono s hs)
  | _, _, .tagP h hs => .tagP (fun M2 l => h M2 fun a xs e => l a xs (s _ _ e)) (Dv.mono s hs)
  | _, _, .dicT h t hs => .dicT (s _ _ h) (t.mono s) (Dvs.mono s hs)
theorem Dvs.mono (s : Same M M') : ∀ {vs : List V} {ds : List D}, Dvs K M vs ds → Dvs K M' vs ds
  | _, _, .nil => .nil
  | _, _, .cons h hs => .cons (Dv.mono s h) (Dvs.mono s hs)
end
theorem Dvs.length {vs : List V} {ds : List D} (h : Dvs K M vs ds) : vs.length = ds.length := by
  induction ds generalizing vs with
  | nil => cases h; rfl
  | cons d ds ih => cases h with | cons _ t => simp [ih t]
theorem Dvs.get : ∀ {vs : List V} {ds : List D} {i : Nat} {d : D}, Dvs K M vs ds → ds[i]? = some d → ∃ v, vs[i]? = some v ∧ Dv K M v d
  | _, _, 0, _, .cons h _, e => by simp at e; subst e; exact ⟨_, rfl, h⟩
  | _, _, i + 1, d, .cons _ t, e => by
    obtain ⟨v, e1, e2⟩ := Dvs.get (i := i) (d := d) t (by simpa using e)
    exact ⟨v, by simpa using e1, e2⟩
  | _, _, _, _, .nil, e => by simp at e
theorem Dvs.getV : ∀ {vs : List V} {ds : List D} {i : Nat} {v : V}, Dvs K M vs ds → vs[i]? = some v → ∃ d, ds[i]? = some d ∧ Dv K M v d
  | _, _, 0, _, .cons h _, e => by simp at e; subst e; exact ⟨_, rfl, h⟩
  | _, _, i + 1, d, .cons _ t, e => by
    obtain ⟨v, e1, e2⟩ := Dvs.getV (i := i) (v := d) t (by simpa using e)
    exact ⟨v, by simpa using e1, e2⟩
  | _, _, _, _, .nil, e => by simp at e
theorem Dvs.append : ∀ {vs ws : List V} {ds es : List D}, Dvs K M vs ds → Dvs K M ws es → Dvs K M (vs ++ ws) (ds ++ es)
  | _, _, _, _, .nil, s => s
  | _, _, _, _, .cons r t, s => .cons r (Dvs.append t s)
theorem Dvs.take : ∀ {vs : List V} {ds : List D} (n : Nat), Dvs K M vs ds → Dvs K M (vs.take n) (ds.take n)
  | _, _, 0, _ => .nil
  | _, _, _ + 1, .nil => .nil
  | _, _, n + 1, .cons r t => .cons r (Dvs.take n t)
theorem Dvs.drop : ∀ {vs : List V} {ds : List D} (n : Nat), Dvs K M vs ds → Dvs K M (vs.drop n) (ds.drop n)
  | _, _, 0, r => r
  | _, _, _ + 1, .nil => .nil
  | _, _, n + 1, .cons _ t => Dvs.drop n t
end

def MutO (u : HO) : Prop := (∃ xs, u = .lst xs) ∨ (∃ xs, u = .dK xs) ∨ (∃ C d fs, u = .ins C d fs) ∨ (∃ a, u = .own a) ∨ ∃ φ, u = .ext φ
mutual
inductive Ow (K : PySem.W.Frag) (M H : Hp) : O → Option V → List Addr → Prop
  | unk {v : Option V} : Ow K M H .unk v []
  | dat {v : V} {d : D} : Dv K M v d → Ow K M H (.dat d) (some v) []
  | lst {a : Addr} {xs : List V} {os : List O} {fp : List Addr} : H a = some (.lst xs) → Ows K M H os (xs.map some) fp → Ow K M H (.lst os) (some (.ref a)) (a :: fp)
  | tup {a : Addr} {xs : List V} {os : List O} {fp : List Addr} : M a = some (.tup xs) → Ows K M H os (xs.map some) fp → Ow K M H (.tup os) (some (.ref a)) fp
  | dic {a : Addr} {kvs : List (Key × V)} {ks : List Key} {os : List O} {fp : List Addr} : H a = some (.dK kvs) → kvs.map (·.1) = ks → Ows K M H os (kvs.map fun p => some p.2) fp → Ow K M H (.dic ks os) (some (.ref a)) (a :: fp)
  | obj {a C dx : Addr} {fs : List (Str × V)} {ks : List Str} {os : List O} {fp : List Addr} : H a = some (.ins C dx fs) → H dx = some (.own a) → fs.map (·.1) = ks → Ows K M H os (fs.map fun p => some p.2) fp →
      Ow K M H (.obj C ks os) (some (.ref a)) (a :: dx :: fp)
  | raw {a : Addr} {u : HO} : H a = some u → MutO u → Ow K M H (.raw u) (some (.ref a)) [a]
  | dicT {a : Addr} {w : World} {xs : List TE3} {ks : List NestedKey} {vs : List V} {ds : List D} : H a = some (TDo w a xs) → TDk K M a xs ks vs → Dvs K M vs ds → Ow K M H (.dicT w ks ds) (some (.ref a)) [a]
inductive Ows (K : PySem.W.Frag) (M H : Hp) : List O → List (Option V) → List Addr → Prop
  | nil : Ows K M H [] [] []
  | cons {o : O} {v : Option V} {f1 : List Addr} {os : List O} {vs : List (Option V)} {f2 : List Addr} : Ow K M H o v f1 → Ows K M H os vs f2 → Ows K M H (o :: os) (v :: vs) (f1 ++ f2)
end

section
variable {K : PySem.W.Frag} {M M' H H' : Hp}
mutual
theorem Ow.frame (s : Same M M') : ∀ {o : O} {v : Option V} {fp : List Addr}, Ow K M H o v fp → (∀ a ∈ fp, H' a = H a) → Ow K M' H' o v fp
  | _, _, _, .unk, _ => .unk
  | _, _, _, .dat h, _ => .dat (h.mono s)
  | _, _, _, .lst h hs, k => .lst ((k _ List.mem_cons_self).trans h) (Ows.frame s hs fun a ha => k a (List.mem_cons_of_mem _ ha))
  | _, _, _, .tup h hs, k => .tup (s _ _ h) (Ows.frame s hs k)
  | _, _, _, .dic h e hs, k => .dic ((k _ List.mem_cons_self).trans h) e (Ows.frame s hs fun a ha => k a (List.mem_cons_of_mem _ ha))
  | _, _, _, .obj h h2 e hs, k => .obj ((k _ List.mem_cons_self).trans h) ((k _ (List.mem_cons_of_mem _ List.mem_cons_self)).trans h2) e (Ows.frame s hs fun a ha => k a (List.mem_cons_of_mem _ (List.mem_cons_of_mem _ ha)))
  | _, _, _, .raw h m, k => .raw ((k _ List.mem_cons_self).trans h) m
  | _, _, _, .dicT h t hs, k => .dicT ((k _ List.mem_cons_self).trans h) (t.mono s) (hs.mono s)
theorem Ows.frame (s : Same M M') : ∀ {os : List O} {vs : List (Option V)} {fp : List Addr}, Ows K M H os vs fp → (∀ a ∈ fp, H' a = H a) → Ows K M' H' os vs fp
  | _, _, _, .nil, _ => .nil
  | _, _, _, .cons h hs, k => .cons (Ow.frame s h fun a ha => k a (List.mem_append_left _ ha)) (Ows.frame s hs fun a ha => k a (List.mem_append_right _ ha))
end
mutual
theorem Ow.dom : ∀ {o : O} {v : Option V} {fp : List Addr}, Ow K M H o v fp → ∀ a ∈ fp, H a ≠ none
  | _, _, _, .unk, _, h => nomatch h
  | _, _, _, .dat _, _, h => nomatch h
  | _, _, _, .lst h hs, a, ha => by
    rcases List.mem_cons.mp ha with rfl | ha
    · rw [h]; exact fun z => nomatch z
    · exact Ows.dom hs a ha
  | _, _, _, .tup _ hs, a, ha => Ows.dom hs a ha
  | _, _, _, .dic h _ hs, a, ha => by
    rcases List.mem_cons.mp ha with rfl | ha
    · rw [h]; exact fun z => nomatch z
    · exact Ows.dom hs a ha
  | _, _, _, .obj h h2 _ hs, a, ha => by
    rcases List.mem_cons.mp ha with rfl | ha
    · rw [h]; exact fun z => nomatch z
    · rcases List.mem_cons.mp ha with rfl | ha
      · rw [h2]; exact fun z => nomatch z
      · exact Ows.dom hs a ha
  | _, _, _, .raw h _, a, ha => by
    rw [List.mem_singleton.mp ha, h]; exact fun z => nomatch z
  | _, _, _, .dicT h _ _, a, ha => by
    rw [List.mem_singleton.mp ha, h]; exact fun z => nomatch z
theorem Ows.dom : ∀ {os : List O} {vs : List (Option V)} {fp : List Addr}, Ows K M H os vs fp → ∀ a ∈ fp, H a ≠ none
  | _, _, _, .nil, _, h => nomatch h
  | _, _, _, .cons h hs, a, ha => (List.mem_append.mp ha).elim (Ow.dom h a) (Ows.dom hs a)
end
theorem Ows.length : ∀ {os : List O} {vs : List (Option V)} {fp : List Addr}, Ows K M H os vs fp → vs.length = os.length
  | _, _, _, .nil => rfl
  | _, _, _, .cons _ hs => by simp [hs.length]
theorem Ows.append : ∀ {a b : List O} {va vb : List (Option V)} {fa fb : List Addr}, Ows K M H a va fa → Ows K M H b vb fb → Ows K M H (a ++ b) (va ++ vb) (fa ++ fb)
  | _, _, _, _, _, _, .nil, s => s
  | _, _, _, _, _, _, .cons r t, s => by
    rw [List.append_assoc]
    exact .cons r (Ows.append t s)
theorem Ows.split : ∀ {a b : List O} {va vb : List (Option V)} {fp : List Addr}, Ows K M H (a ++ b) (va ++ vb) fp → va.length = a.length → ∃ fa fb, fp = fa ++ fb ∧ Ows K M H a va fa ∧ Ows K M H b vb fb
  | [], _, [], _, fp, h, _ => ⟨[], fp, rfl, .nil, h⟩
  | o :: a, b, v :: va, vb, _, h, e => by
    cases h with
    | cons h hs =>
      obtain ⟨fa, fb, e1, h1, h2⟩ := Ows.split hs (by simpa using e)
      exact ⟨_ ++ fa, fb, by rw [e1, List.append_assoc], .cons h h1, h2⟩
  | [], _, _ :: _, _, _, _, e => by simp at e
  | _ :: _, _, [], _, _, _, e => by simp at e
end

/-- the state: M the frozen part, os the things known of the roots vs -/
def Rep (K : PySem.W.Frag) (M H : Hp) (os : List O) (vs : List (Option V)) : Prop :=
  Same M H ∧ ∃ fp, Ows K M H os vs fp ∧ fp.Nodup ∧ ∀ a ∈ fp, M a = none

section
variable {K : PySem.W.Frag} {M M' H H' : Hp} {os l r : List O} {vs lv rv : List (Option V)} {o : O} {v : Option V}
theorem Rep.same (h : Rep K M H os vs) : Same M H := h.1
theorem Rep.length (h : Rep K M H os vs) : vs.length = os.length := by obtain ⟨_, _, w, _⟩ := h; exact w.length
/-- a new object, not frozen -/
theorem Rep.grow (h : Rep K M H os vs) {p : Addr} {u : HO} (hp : H p = none) : Rep K M (upd H p u) os vs := by
  obtain ⟨s, fp, w, nd, nm⟩ := h
  refine ⟨fun b x e => ?_, fp, w.frame (Same.refl _) (fun a ha => upd_ne fun z => w.dom a ha (z ▸ hp)), nd, nm⟩
  rw [upd_ne (ne_of_none (s b x e) hp)]; exact s b x e
theorem same_updM {M : Hp} {p : Addr} (hp : M p = none) {u : HO} : Same M (upd M p u) := fun b x e => by
  rw [upd_ne (ne_of_none e hp)]; exact e
/-- a new frozen object -/
theorem Rep.growM (h : Rep K M H os vs) {p : Addr} {u : HO} (hp : H p = none) : Rep K (upd M p u) (upd H p u) os vs := by
  obtain ⟨s, fp, w, nd, nm⟩ := h
  have mp : M p = none := s.free hp
  refine ⟨fun b x e => ?_, fp, w.frame (same_updM mp) (fun a ha => upd_ne fun z => w.dom a ha (z ▸ hp)), nd, fun a ha => ?_⟩
  · by_cases hb : b = p
    · subst hb; rw [upd_same] at e ⊢; exact e
    · rw [upd_ne hb] at e ⊢; exact s b x e
  · rw [upd_ne (show a ≠ p from fun z => w.dom a ha (by rw [z]; exact hp))]; exact nm a ha
theorem Rep.mid (h : Rep K M H (l ++ o :: r) (lv ++ v :: rv)) (e : lv.length = l.length) : ∃ fa f fb, Ows K M H l lv fa ∧ Ow K M H o v f ∧ Ows K M H r rv fb ∧ (fa ++ (f ++ fb)).Nodup ∧ (∀ a ∈ fa ++ (f ++ fb), M a = none) := by
  obtain ⟨s, fp, w, nd, nm⟩ := h
  obtain ⟨fa, fb, e1, w1, w2⟩ := w.split e
  cases w2 with
  | cons h2 h3 =>
    subst e1
    exact ⟨_, _, _, w1, h2, h3, nd, nm⟩
theorem Rep.datAt (h : Rep K M H (l ++ o :: r) (lv ++ v :: rv)) (e : lv.length = l.length) {d : D} (ho : o = .dat d) : ∃ x, v = some x ∧ Dv K M x d := by
  obtain ⟨_, _, _, _, w, _⟩ := h.mid e
  subst ho
  cases w with | dat w => exact ⟨_, rfl, w⟩
/-- one root is dropped -/
theorem Rep.drop (h : Rep K M H (l ++ o :: r) (lv ++ v :: rv)) (e : lv.length = l.length) : Rep K M H (l ++ r) (lv ++ rv) := by
  obtain ⟨fa, f, fb, w1, w2, w3, nd, nm⟩ := h.mid e
  refine ⟨h.1, fa ++ fb, w1.append w3, ?_, fun a ha => nm a ?_⟩
  · refine List.Nodup.sublist ?_ nd
    exact List.Sublist.append (List.Sublist.refl _) (List.sublist_append_right _ _)
  · simp only [List.mem_append] at ha ⊢
    rcases ha with ha | ha
    · exact .inl ha
    · exact .inr (.inr ha)
/-- a frozen root is added -/
theorem Rep.push (h : Rep K M H (l ++ r) (lv ++ rv)) (e : lv.length = l.length) {x : V} {d : D} (hd : Dv K M x d) : Rep K M H (l ++ .dat d :: r) (lv ++ some x :: rv) := by
  obtain ⟨s, fp, w, nd, nm⟩ := h
  obtain ⟨fa, fb, e1, w1, w2⟩ := w.split e
  subst e1
  exact ⟨s, fa ++ ([] ++ fb), w1.append (.cons (.dat hd) w2), nd, nm⟩
theorem Rep.pushU (h : Rep K M H (l ++ r) (lv ++ rv)) (e : lv.length = l.length) (x : Option V) : Rep K M H (l ++ .unk :: r) (lv ++ x :: rv) := by
  obtain ⟨s, fp, w, nd, nm⟩ := h
  obtain ⟨fa, fb, e1, w1, w2⟩ := w.split e
  subst e1
  exact ⟨s, fa ++ ([] ++ fb), w1.append (.cons .unk w2), nd, nm⟩
theorem set_split {α : Type} (xs : List α) (i : Nat) (y : α) : (∃ a z b, xs = a ++ z :: b ∧ a.length = i ∧ xs.set i y = a ++ y :: b) ∨ (xs.length ≤ i ∧ xs.set i y = xs) := by
  by_cases h : i < xs.length
  · refine .inl ⟨xs.take i, xs[i], xs.drop (i + 1), ?_, by simp [Nat.le_of_lt h], ?_⟩
    · rw [← List.drop_eq_getElem_cons h, List.take_append_drop]
    · rw [List.set_eq_take_append_cons_drop, if_pos h]
  · exact .inr ⟨by omega, List.set_eq_of_length_le (by omega)⟩
/-- slot i becomes a frozen thing -/
theorem Rep.setD {i : Nat} (h : Rep K M H (l ++ r) (lv ++ rv)) (e : lv.length = l.length) {x : V} {d : D} (hd : Dv K M x d) : Rep K M H (l.set i (.dat d) ++ r) (lv.set i (some x) ++ rv) := by
  rcases set_split l i (O.dat d) with ⟨a, z, b, e1, e2, e3⟩ | ⟨e1, e2⟩
  · rcases set_split lv i (some x) with ⟨a', z', b', e1', e2', e3'⟩ | ⟨e1', e2'⟩
    · rw [e3, e3']
      have ll : a'.length = a.length := by omega
      subst e1; subst e1'
      simp only [List.append_assoc, List.cons_append] at h ⊢
      exact (h.drop ll).push ll hd
    · exfalso; rw [e1] at e; simp at e; omega
  · rw [e2, List.set_eq_of_length_le (by omega)]; exact h
theorem Rep.setU {i : Nat} (h : Rep K M H (l ++ r) (lv ++ rv)) (e : lv.length = l.length) (x : Option V) : Rep K M H (l.set i .unk ++ r) (lv.set i x ++ rv) := by
  rcases set_split l i O.unk with ⟨a, z, b, e1, e2, e3⟩ | ⟨e1, e2⟩
  · rcases set_split lv i x with ⟨a', z', b', e1', e2', e3'⟩ | ⟨e1', e2'⟩
    · rw [e3, e3']
      have ll : a'.length = a.length := by omega
      subst e1; subst e1'
      simp only [List.append_assoc, List.cons_append] at h ⊢
      exact (h.drop ll).pushU ll x
    · exfalso; rw [e1] at e; simp at e; omega
  · rw [e2, List.set_eq_of_length_le (by omega)]; exact h
/-- the temporary on top of the frame goes into slot i -/
theorem Rep.into {i : Nat} (h : Rep K M H (l ++ o :: r) (lv ++ v :: rv)) (e : lv.length = l.length) : Rep K M H (l.set i o ++ r) (lv.set i v ++ rv) := by
  rcases set_split l i o with ⟨a, z, b, e1, e2, e3⟩ | ⟨e1, e2⟩
  · rcases set_split lv i v with ⟨a', z', b', e1', e2', e3'⟩ | ⟨e1', e2'⟩
    · rw [e3, e3']
      have ll : a'.length = a.length := by omega
      have lb : b'.length = b.length := by rw [e1, e1'] at e; simp at e; omega
      subst e1; subst e1'
      simp only [List.append_assoc, List.cons_append] at h ⊢
      have h1 := h.drop ll
      obtain ⟨fa, fb, w1, w2, nd, nm⟩ : ∃ fa fb, Ows K M H a a' fa ∧ Ows K M H (b ++ o :: r) (b' ++ v :: rv) fb ∧ (fa ++ fb).Nodup ∧ ∀ c ∈ fa ++ fb, M c = none := by
        obtain ⟨s, fp, w, nd, nm⟩ := h1
        obtain ⟨fa, fb, e1, w1, w2⟩ := w.split ll
        subst e1
        exact ⟨fa, fb, w1, w2, nd, nm⟩
      obtain ⟨gb, gr, e5, w3, w4⟩ := w2.split lb
      cases w4 with
      | cons w5 w6 =>
        rename_i f1 f2
        subst e5
        have pm : (fa ++ (f1 ++ (gb ++ f2))).Perm (fa ++ (gb ++ (f1 ++ f2))) := by
          refine List.Perm.append_left fa ?_
          rw [← List.append_assoc, ← List.append_assoc]
          exact List.Perm.append_right f2 List.perm_append_comm
        exact ⟨h.1, fa ++ (f1 ++ (gb ++ f2)), w1.append (.cons w5 (w3.append w6)), pm.nodup_iff.mpr nd, fun c hc => nm c (pm.mem_iff.mp hc)⟩
    · exfalso; rw [e1] at e; simp at e; omega
  · rw [e2, List.set_eq_of_length_le (by omega)]; exact h.drop e

/-! ### freezing -/
mutual
theorem Ow.frz (s : Same M M') : ∀ {o : O} {v : V} {fp : List Addr} {d : D}, Ow K M H o (some v) fp → (∀ a ∈ fp, M' a = H a) → o.toD = some d → Dv K M' v d
  | _, _, _, d, .dat h, _, e => by
    have := Option.some.inj (show some _ = some d from e)
    subst this
    exact h.mono s
  | .lst os, _, _, d, .lst h hs, k, e => by
    unfold O.toD at e
    cases q : O.toDs os with
    | none => rw [q] at e; cases e
    | some ds =>
      rw [q] at e
      have e' := Option.some.inj (show some (D.lst ds) = some d from e)
      subst e'
      exact .lst (.inl (.inl ((k _ List.mem_cons_self).trans h))) (Ows.frz s hs (fun a ha => k a (List.mem_cons_of_mem _ ha)) q)
  | .tup os, _, _, d, .tup h hs, k, e => by
    unfold O.toD at e
    cases q : O.toDs os with
    | none => rw [q] at e; cases e
    | some ds =>
      rw [q] at e
      have e' := Option.some.inj (show some (D.tup ds) = some d from e)
      subst e'
      exact .tup (.inl (.inl (s _ _ h))) (Ows.frz s hs k q)
  | .dic ks os, _, _, d, .dic (kvs := kvs) (fp := fp0) h hk hs, k, e => by
    unfold O.toD at e
    cases q : O.toDs os with
    | none => rw [q] at e; cases e
    | some ds =>
      rw [q] at e
      have e' := Option.some.inj (show some (D.dic ks ds) = some d from e)
      subst e'
      have hs' : Ows K M H os ((kvs.map (·.2)).map some) fp0 := by rw [List.map_map]; exact hs
      exact .dic (.inl ((k _ List.mem_cons_self).trans h)) hk (Ows.frz s hs' (fun a ha => k a (List.mem_cons_of_mem _ ha)) q)
  | .obj C ks os, _, _, d, .obj (fs := kvs) (fp := fp0) h h2 hk hs, k, e => by
    unfold O.toD at e
    cases q : O.toDs os with
    | none => rw [q] at e; cases e
    | some ds =>
      rw [q] at e
      have e' := Option.some.inj (show some (D.obj C ks ds) = some d from e)
      subst e'
      have hs' : Ows K M H os ((kvs.map (·.2)).map some) fp0 := by rw [List.map_map]; exact hs
      exact .obj ((k _ List.mem_cons_self).trans h) ((k _ (List.mem_cons_of_mem _ List.mem_cons_self)).trans h2) hk (Ows.frz s hs' (fun a ha => k a (List.mem_cons_of_mem _ (List.mem_cons_of_mem _ ha))) q)
  | .raw u, _, _, d, .raw h _, k, e => nomatch (show (none : Option D) = some d from e)
  | .dicT w ks ds, _, _, d, .dicT h t hs, k, e => by
    have e' := Option.some.inj (show some (D.dicT w ks ds) = some d from e)
    subst e'
    exact .dicT ((k _ List.mem_cons_self).trans h) (t.mono s) (hs.mono s)
theorem Ows.frz (s : Same M M') : ∀ {os : List O} {vs : List V} {fp : List Addr} {ds : List D}, Ows K M H os (vs.map some) fp → (∀ a ∈ fp, M' a = H a) → O.toDs os = some ds → Dvs K M' vs ds
  | [], [], _, ds, .nil, _, e => by
    have e' := Option.some.inj (show some [] = some ds from e)
    subst e'
    exact .nil
  | o :: os, v :: vs, _, ds, .cons h hs, k, e => by
    unfold O.toDs at e
    cases q : O.toD o with
    | none => rw [q] at e; cases e
    | some d =>
      cases q2 : O.toDs os with
      | none => rw [q, q2] at e; cases e
      | some ds' =>
        rw [q, q2] at e
        have e' := Option.some.inj (show some (d :: ds') = some ds from e)
        subst e'
        exact .cons (Ow.frz s h (fun a ha => k a (List.mem_append_left _ ha)) q) (Ows.frz s hs (fun a ha => k a (List.mem_append_right _ ha)) q2)
end
theorem Rep.frz (h : Rep K M H (l ++ o :: r) (lv ++ v :: rv)) (e : lv.length = l.length) {d : D} {x : V} (hv : v = some x) (ho : o.toD = some d) :
    ∃ M', Same M M' ∧ Rep K M' H (l ++ .dat d :: r) (lv ++ v :: rv) ∧ Dv K M' x d := by
  obtain ⟨fa, f, fb, w1, w2, w3, nd, nm⟩ := h.mid e
  subst hv
  have s1 : Same M (fun a => if a ∈ f then H a else M a) := fun b y q => by
    have : b ∉ f := fun z => by
      have := nm b (by simp [z])
      rw [this] at q; cases q
    show (if b ∈ f then H b else M b) = some y
    rw [if_neg this]; exact q
  have kf : ∀ a ∈ f, (if a ∈ f then H a else M a) = H a := fun a ha => if_pos ha
  have dv := Ow.frz (H := H) s1 w2 kf ho
  have disj : ∀ a ∈ fa ++ fb, a ∉ f := fun a ha z => by
    rw [List.nodup_append] at nd
    obtain ⟨n1, n2, n3⟩ := nd
    rw [List.nodup_append] at n2
    rcases List.mem_append.mp ha with ha | ha
    · exact n3 a ha a (List.mem_append_left _ z) rfl
    · exact n2.2.2 a z a ha rfl
  refine ⟨_, s1, ⟨fun b y q => ?_, fa ++ ([] ++ fb), (w1.frame s1 fun _ _ => rfl).append (.cons (.dat dv) (w3.frame s1 fun _ _ => rfl)), ?_, fun a ha => ?_⟩, dv⟩
  · have q : (if b ∈ f then H b else M b) = some y := q
    split at q
    · exact q
    · exact h.1 b y q
  · refine List.Nodup.sublist ?_ nd
    exact List.Sublist.append (List.Sublist.refl _) (List.sublist_append_right _ _)
  · show (if a ∈ f then H a else M a) = none
    rw [if_neg (disj a (by simpa using ha))]
    refine nm a ?_
    rcases List.mem_append.mp ha with ha | ha
    · exact List.mem_append_left _ ha
    · exact List.mem_append_right _ (List.mem_append_right _ ha)
end
end PD

namespace PD
open PySem PySem.Spec PyProof.Rows L2

abbrev Ev := List O
/-- an error, as data -/
structure Exn where
  cls : Value
  fs : Option (List Str × List D)
def ExR (K : PySem.W.Frag) (M : Hp) (x : Exn) (cls : Value) (d : Option Addr) : Prop :=
  cls = x.cls ∧ ((x.fs = none ∧ d = none) ∨ ∃ ks ds da fvs, x.fs = some (ks, ds) ∧ d = some da ∧ M da = some (.xd fvs) ∧ fvs.map (·.1) = ks ∧ Dvs K M (fvs.map (·.2)) ds)

/-! ### readings by data -/
/-- a pure expression -/
def tP (K : PySem.W.Frag) (f : Ev → Option D) : TE := fun σ H Q => ∃ M ρ fo fv d, Rep K M H (ρ ++ fo) (σ ++ fv) ∧ σ.length = ρ.length ∧ f ρ = some d ∧
  ∀ M' H' v, Same M M' → Rep K M' H' (ρ ++ fo) (σ ++ fv) → Dv K M' v d → Q v H'
/-- an expression that may give a new thing of its own -/
def tO (K : PySem.W.Frag) (f : Ev → Option O) : TE := fun σ H Q => ∃ M ρ fo fv o, Rep K M H (ρ ++ fo) (σ ++ fv) ∧ σ.length = ρ.length ∧ f ρ = some o ∧
  ∀ M' H' v, Same M M' → Rep K M' H' (ρ ++ o :: fo) (σ ++ some v :: fv) → Q v H'
def tT (K : PySem.W.Frag) (f : Ev → Option Bool) : TT := fun σ H Q => ∃ M ρ fo fv b, Rep K M H (ρ ++ fo) (σ ++ fv) ∧ σ.length = ρ.length ∧ f ρ = some b ∧
  ∀ M' H', Same M M' → Rep K M' H' (ρ ++ fo) (σ ++ fv) → Q b H'
def tAr (K : PySem.W.Frag) (f : Ev → Option (List D)) : TA := fun σ H Q => ∃ M ρ fo fv ds, Rep K M H (ρ ++ fo) (σ ++ fv) ∧ σ.length = ρ.length ∧ f ρ = some ds ∧
  ∀ M' H' vs, Same M M' → Rep K M' H' (ρ ++ fo) (σ ++ fv) → Dvs K M' vs ds → Q vs H'

/-- how a statement ends -/
inductive Fl where
  | nx (ρ : Ev) | rt (o : O) (ρ : Ev) | bk (ρ : Ev) | ct (ρ : Ev) | ex (x : Exn) (ρ : Ev)
/-- the slots and what is known of them go together; the slots J hold what they held at first -/
def Lk (J : List Nat) (σ0 σ : L2.St) (ρ : Ev) : Prop := σ.length = ρ.length ∧ ∀ j ∈ J, σ[j]? = σ0[j]?
theorem Lk.set {J : List Nat} {σ0 σ : L2.St} {ρ : Ev} (h : Lk J σ0 σ ρ) {i : Nat} (hi : i ∉ J) (v : Option V) (o : O) : Lk J σ0 (σ.set i v) (ρ.set i o) := ⟨by simp [h.1], fun j hj => by
  have hne : i ≠ j := fun z => by subst z; exact hi hj
  rw [List.getElem?_set_ne hne]; exact h.2 j hj⟩
theorem Lk.setR {J : List Nat} {σ0 σ : L2.St} {ρ : Ev} (h : Lk J σ0 σ ρ) {i : Nat} (o : O) : Lk J σ0 σ (ρ.set i o) := ⟨by simp [h.1], h.2⟩
def ends (K : PySem.W.Frag) (W : WX) (J : List Nat) (σ0 : L2.St) (M : Hp) (fo : List O) (fv : List (Option V)) (E : Ends) : Fl → Prop
  | .nx ρ => ∀ M' H' σ', Same M M' → Rep K M' H' (ρ ++ fo) (σ' ++ fv) → Lk J σ0 σ' ρ → E.nx σ' H'
  | .bk ρ => ∀ M' H' σ', Same M M' → Rep K M' H' (ρ ++ fo) (σ' ++ fv) → Lk J σ0 σ' ρ → E.bk σ' H'
  | .ct ρ => ∀ M' H' σ', Same M M' → Rep K M' H' (ρ ++ fo) (σ' ++ fv) → Lk J σ0 σ' ρ → E.ct σ' H'
  | .rt o ρ => ∀ M' H' σ' v, Same M M' → Rep K M' H' (ρ ++ o :: fo) (σ' ++ some v :: fv) → Lk J σ0 σ' ρ → E.rt v H'
  | .ex x ρ => ∀ M' H' σ' cls d, Same M M' → Rep K M' H' (ρ ++ fo) (σ' ++ fv) → Lk J σ0 σ' ρ → ExR K M' x cls d → W cls d σ' H'
def tS (K : PySem.W.Frag) (W : WX) (J : List Nat) (g : Ev → Option Fl) : TS := fun E σ H => ∃ M ρ fo fv r σ0, Rep K M H (ρ ++ fo) (σ ++ fv) ∧ Lk J σ0 σ ρ ∧ g ρ = some r ∧ ends K W J σ0 M fo fv E r
theorem ends.later {K : PySem.W.Frag} {W : WX} {J : List Nat} {σ0 : L2.St} {M M1 : Hp} {fo : List O} {fv : List (Option V)} {E : Ends} {r : Fl} (h : ends K W J σ0 M fo fv E r) (s : Same M M1) : ends K W J σ0 M1 fo fv E r := by
  cases r with
  | nx ρ => exact fun M' H' σ' s' => h M' H' σ' (s.trans s')
  | bk ρ => exact fun M' H' σ' s' => h M' H' σ' (s.trans s')
  | ct ρ => exact fun M' H' σ' s' => h M' H' σ' (s.trans s')
  | rt o ρ => exact fun M' H' σ' v s' => h M' H' σ' v (s.trans s')
  | ex x ρ => exact fun M' H' σ' c d s' => h M' H' σ' c d (s.trans s')

section
variable {X : Cx}
theorem PE.imp {e : Expr} {t t' : TE} (h : PE X e t) (i : ∀ σ H Q, t' σ H Q → t σ H Q) : PE X e t' := ⟨fun p s σ H Q I w => h.run p s σ H Q I (i σ H Q w)⟩
theorem PT.imp {e : Expr} {t t' : TT} (h : PT X e t) (i : ∀ σ H Q, t' σ H Q → t σ H Q) : PT X e t' := ⟨fun p s σ H Q I w => h.run p s σ H Q I (i σ H Q w)⟩
theorem PW.imp {e : Expr} {t t' : TT} (h : PW X e t) (i : ∀ σ H Q, t' σ H Q → t σ H Q) : PW X e t' := ⟨fun wh p s σ H Q I w => h.run wh p s σ H Q I (i σ H Q w)⟩
theorem PA.imp {e : List Expr} {t t' : TA} (h : PA X e t) (i : ∀ σ H Q, t' σ H Q → t σ H Q) : PA X e t' := ⟨fun c p s σ H Q I w => h.run c p s σ H Q I (i σ H Q w)⟩
theorem PS.imp {e : Stmt} {t t' : TS} (h : PS X e t) (i : ∀ D σ H, t' D σ H → t D σ H) : PS X e t' := ⟨fun p s σ H D I w => h.run p s σ H D I (i D σ H w)⟩
theorem PSs.imp {e : List Stmt} {t t' : TS} (h : PSs X e t) (i : ∀ D σ H, t' D σ H → t D σ H) : PSs X e t' := ⟨fun p s σ H D I w => h.run p s σ H D I (i D σ H w)⟩
theorem PI.imp {tg e : Expr} {t t' : TI} (h : PI X tg e t) (i : ∀ σ H R, t' σ H R → t σ H R) : PI X tg e t' := ⟨fun p s σ H R I w => h.run p s σ H R I (i σ H R w)⟩
theorem PI.or {tg e : Expr} {t t' : TI} (h : PI X tg e t) (h' : PI X tg e t') : PI X tg e (fun σ H R => t σ H R ∨ t' σ H R) := ⟨fun p s σ H R I w => w.elim (h.run p s σ H R I) (h'.run p s σ H R I)⟩
theorem PE.or {e : Expr} {t t' : TE} (h : PE X e t) (h' : PE X e t') : PE X e (fun σ H R => t σ H R ∨ t' σ H R) := ⟨fun p s σ H R I w => w.elim (h.run p s σ H R I) (h'.run p s σ H R I)⟩
end

/-! ### lists by place -/
theorem Rep.slot {K : PySem.W.Frag} {M H : Hp} {ρ fo : List O} {σ fv : List (Option V)} (R : Rep K M H (ρ ++ fo) (σ ++ fv)) (l : σ.length = ρ.length) {i : Nat} {d : D} (e : ρ[i]? = some (.dat d)) : ∃ v, σ[i]? = some (some v) ∧ Dv K M v d := by
  obtain ⟨hi, e⟩ := List.getElem?_eq_some_iff.mp e
  have hi' : i < σ.length := by omega
  have e1 : ρ = ρ.take i ++ O.dat d :: ρ.drop (i + 1) := by rw [← e, ← List.drop_eq_getElem_cons hi, List.take_append_drop]
  have e2 : σ = σ.take i ++ σ[i] :: σ.drop (i + 1) := by rw [← List.drop_eq_getElem_cons hi', List.take_append_drop]
  rw [e1, e2] at R
  simp only [List.append_assoc, List.cons_append] at R
  obtain ⟨x, ex, dx⟩ := R.datAt (by simp; omega) rfl
  exact ⟨x, by rw [List.getElem?_eq_getElem hi', ex], dx⟩

/-- what slot i holds, frozen -/
def gv (i : Nat) (ρ : Ev) : Option D := match ρ[i]? with
  | some (.dat d) => some d
  | _ => none

section
variable {X : Cx}
/-! ### names and constants -/
theorem pVar (i : Nat) {x : Str} {pos : Pos} (hN : X.N[i]? = some x := by rfl) (hv : Vis X.env.scope x := by first | exact Or.inl rfl | exact Or.inr (Or.inl rfl) | exact Or.inr (Or.inr rfl)) (hd : (x == ("__debug__" : Str)) = false := by decide)
    (hcd : (x == ("__classdict__" : Str)) = false := by decide) : PE X (.Name x pos) (tP X.K (gv i)) :=
  PE.imp (pe_var hN hv hd hcd) fun σ H Q ⟨M, ρ, fo, fv, d, R, l, e, k⟩ => by
    unfold gv at e
    split at e
    · cases e
      rename_i d' e'
      obtain ⟨v, ev, dv⟩ := R.slot l e'
      exact ⟨v, ev, k M H v (Same.refl _) R dv⟩
    · cases e
theorem pC {e : Expr} {v : V} {d : D} (h : PE X e (tC v)) (hd : ∀ M, Dv X.K M v d) : PE X e (tP X.K fun _ => some d) :=
  PE.imp h fun σ H Q ⟨M, ρ, fo, fv, d', R, l, e, k⟩ => by
    cases e
    exact k M H v (Same.refl _) R (hd M)
theorem pInt {i j pos} : PE X (.Constant (.int i) j pos) (tP X.K fun _ => some (.int i)) := pC pe_int fun _ => .int _
theorem pBl {b j pos} : PE X (.Constant (.bool b) j pos) (tP X.K fun _ => some (.bl b)) := pC pe_bl fun _ => .bl _
theorem pNon {j pos} : PE X (.Constant .none j pos) (tP X.K fun _ => some .non) := pC pe_non fun _ => .non
theorem pStr {x j pos} : PE X (.Constant (.str x) j pos) (tP X.K fun _ => some (.str x)) := pC pe_str fun _ => .str _
/-- a constant of the module -/
theorem pGlobI {x : Str} {i : Int} {t : Tok} {pos : Pos} (hm : X.mg x = some (.int i t)) (hg : Gl X x := by rfl) (hd : (x == ("__debug__" : Str)) = false := by decide) : PE X (.Name x pos) (tP X.K fun _ => some (.int i)) := pC (pe_glob hg hm (v := .int i) ⟨t, rfl⟩ hd) fun _ => .int _
theorem pGlobS {x z : Str} {t : Tok} {pos : Pos} (hm : X.mg x = some (.str z t)) (hg : Gl X x := by rfl) (hd : (x == ("__debug__" : Str)) = false := by decide) : PE X (.Name x pos) (tP X.K fun _ => some (.str z)) := pC (pe_glob hg hm (v := .str z) ⟨t, rfl⟩ hd) fun _ => .str _

/-! ### two expressions in a row -/
def b2 (fa fb : Ev → Option D) (g : D → D → Option D) (ρ : Ev) : Option D := (fa ρ).bind fun x => (fb ρ).bind fun y => g x y
def b1 (fa : Ev → Option D) (g : D → Option D) (ρ : Ev) : Option D := (fa ρ).bind g
theorem b2_some {fa fb : Ev → Option D} {g : D → D → Option D} {ρ : Ev} {d : D} (h : b2 fa fb g ρ = some d) : ∃ x y, fa ρ = some x ∧ fb ρ = some y ∧ g x y = some d := by
  unfold b2 at h
  cases e1 : fa ρ with
  | none => rw [e1] at h; cases h
  | some x =>
    rw [e1] at h
    cases e2 : fb ρ with
    | none => rw [Option.bind_some, e2] at h; cases h
    | some y => rw [Option.bind_some, e2] at h; exact ⟨x, y, rfl, rfl, h⟩
theorem b1_some {fa : Ev → Option D} {g : D → Option D} {ρ : Ev} {d : D} (h : b1 fa g ρ = some d) : ∃ x, fa ρ = some x ∧ g x = some d := by
  unfold b1 at h
  cases e1 : fa ρ with
  | none => rw [e1] at h; cases h
  | some x => rw [e1] at h; exact ⟨x, rfl, h⟩
/-- an operation upon data: what it asks of the values -/
def rD (K : PySem.W.Frag) (g : D → D → Option D) : R2 := fun x y H Q => ∃ M fo fv dx dy d, Rep K M H fo fv ∧ Dv K M x dx ∧ Dv K M y dy ∧ g dx dy = some d ∧
  ∀ M' H' v, Same M M' → Rep K M' H' fo fv → Dv K M' v d → Q v H'
def rD1 (K : PySem.W.Frag) (g : D → Option D) : V → Hp → VK → Prop := fun x H Q => ∃ M fo fv dx d, Rep K M H fo fv ∧ Dv K M x dx ∧ g dx = some d ∧
  ∀ M' H' v, Same M M' → Rep K M' H' fo fv → Dv K M' v d → Q v H'
def rDs (K : PySem.W.Frag) (g : List D → Option D) : List V → Hp → VK → Prop := fun xs H Q => ∃ M fo fv ds d, Rep K M H fo fv ∧ Dvs K M xs ds ∧ g ds = some d ∧
  ∀ M' H' v, Same M M' → Rep K M' H' fo fv → Dv K M' v d → Q v H'
/-- .. that gives a new thing of its own -/
def rOs (K : PySem.W.Frag) (g : List D → Option O) : List V → Hp → VK → Prop := fun xs H Q => ∃ M fo fv ds o, Rep K M H fo fv ∧ Dvs K M xs ds ∧ g ds = some o ∧
  ∀ M' H' v, Same M M' → Rep K M' H' (o :: fo) (some v :: fv) → Q v H'
theorem seq2 {K : PySem.W.Frag} {fa fb : Ev → Option D} {g : D → D → Option D} {σ : L2.St} {H : Hp} {Q : VK} (h : tP K (b2 fa fb g) σ H Q) : tOp (rD K g) (tP K fa) (tP K fb) σ H Q := by
  obtain ⟨M, ρ, fo, fv, d, R, l, e, k⟩ := h
  obtain ⟨x, y, ea, eb, eg⟩ := b2_some e
  exact ⟨M, ρ, fo, fv, x, R, l, ea, fun M1 H1 v1 s1 R1 d1 => ⟨M1, ρ, fo, fv, y, R1, l, eb, fun M2 H2 v2 s2 R2 d2 => ⟨M2, ρ ++ fo, σ ++ fv, x, y, d, R2, d1.mono s2, d2, eg, fun M3 H3 v s3 R3 d3 => k M3 H3 v (s1.trans (s2.trans s3)) R3 d3⟩⟩⟩
variable {a b c : Expr} {pos : Pos} {fa fb fc : Ev → Option D} {g : D → D → Option D}
theorem pOp {op : Operator} (ho : OpR X (binaryOp op) (rD X.K g)) (ha : PE X a (tP X.K fa)) (hb : PE X b (tP X.K fb)) : PE X (.BinOp a op b pos) (tP X.K (b2 fa fb g)) := PE.imp (pe_op ho ha hb) fun _ _ _ h => seq2 h
theorem pCmp {op : CmpOp} (ho : OpR X (compareOp op) (rD X.K g)) (ha : PE X a (tP X.K fa)) (hb : PE X b (tP X.K fb)) (hm : behindInMarks op b = false := by first | exact nomark _ | rfl) : PE X (.Compare a [op] [b] pos) (tP X.K (b2 fa fb g)) := PE.imp (pe_cmpR ho ha hb hm) fun _ _ _ h => seq2 h
theorem pUn {op : UnaryOp} {g : D → Option D} (ho : UnR X (unaryOp op) (rD1 X.K g)) (ha : PE X a (tP X.K fa)) : PE X (.UnaryOp op a pos) (tP X.K (b1 fa g)) := PE.imp (pe_un ho ha) fun σ H Q ⟨M, ρ, fo, fv, d, R, l, e, k⟩ => by
  obtain ⟨x, ea, eg⟩ := b1_some e
  exact ⟨M, ρ, fo, fv, x, R, l, ea, fun M1 H1 v1 s1 R1 d1 => ⟨M1, ρ ++ fo, σ ++ fv, x, d, R1, d1, eg, fun M3 H3 v s3 R3 d3 => k M3 H3 v (s1.trans s3) R3 d3⟩⟩
theorem pIx (ho : IxR X (rD X.K g)) (ha : PE X a (tP X.K fa)) (hb : PE X b (tP X.K fb)) (hs : PlainIx b := by exact fun _ _ => rfl) : PE X (.Subscript a b pos) (tP X.K (b2 fa fb g)) := PE.imp (pe_ix ho ha hb hs) fun _ _ _ h => seq2 h

/-! ### tests -/
/-- a pure expression that gives a bool, as a test -/
def asB (f : Ev → Option D) (ρ : Ev) : Option Bool := match f ρ with
  | some (.bl b) => some b
  | _ => none
theorem asB_some {f : Ev → Option D} {ρ : Ev} {b : Bool} (h : asB f ρ = some b) : f ρ = some (.bl b) := by
  unfold asB at h
  split at h
  · cases h; assumption
  · cases h
theorem tB_of {K : PySem.W.Frag} {f : Ev → Option D} {σ : L2.St} {H : Hp} {Q : Bool → Hp → Prop} (h : tT K (asB f) σ H Q) : tB (tP K f) σ H Q := by
  obtain ⟨M, ρ, fo, fv, b, R, l, e, k⟩ := h
  exact ⟨M, ρ, fo, fv, .bl b, R, l, asB_some e, fun M' H' v s R' dv => by cases dv; exact ⟨b, rfl, k M' H' s R'⟩⟩
theorem tVal {e : Expr} {f : Ev → Option D} (h : PE X e (tP X.K f)) (he : ∀ whole, isTrue e X.env whole = (do let v ← whole; standAt e.pos; holding [v] (truthy v)) := by intro _; rfl) : PT X e (tT X.K (asB f)) := PT.imp (pt_val h he) fun _ _ _ h => tB_of h
theorem tCmp {op : CmpOp} (ho : OpR X (compareOp op) (rD X.K g)) (ha : PE X a (tP X.K fa)) (hb : PE X b (tP X.K fb)) (hm : behindInMarks op b = false := by first | exact nomark _ | rfl) : PT X (.Compare a [op] [b] pos) (tT X.K (asB (b2 fa fb g))) :=
  PT.imp (pt_cmpR ho ha hb hm) fun σ H Q ⟨M, ρ, fo, fv, b, R, l, e, k⟩ => seq2 (K := X.K) (Q := fun x H' => ∃ k, x = .bl k ∧ Q k H') ⟨M, ρ, fo, fv, .bl b, R, l, asB_some e, fun M' H' v s R' dv => by cases dv; exact ⟨b, rfl, k M' H' s R'⟩⟩
def andT (f g : Ev → Option Bool) (ρ : Ev) : Option Bool := match f ρ with
  | some true => g ρ
  | some false => some false
  | none => none
def orT (f g : Ev → Option Bool) (ρ : Ev) : Option Bool := match f ρ with
  | some true => some true
  | some false => g ρ
  | none => none
def notT (f : Ev → Option Bool) (ρ : Ev) : Option Bool := (f ρ).map (!·)
theorem tNotT {fa : Ev → Option Bool} (h : PT X a (tT X.K fa)) : PT X (.UnaryOp .Not a pos) (tT X.K (notT fa)) := PT.imp (pt_not h) fun σ H Q ⟨M, ρ, fo, fv, b, R, l, e, k⟩ => by
  unfold notT at e
  cases q : fa ρ with
  | none => rw [q] at e; cases e
  | some c =>
    rw [q] at e
    cases e
    exact ⟨M, ρ, fo, fv, c, R, l, q, k⟩
theorem tAnd1 {fa : Ev → Option Bool} (h : PT X a (tT X.K fa)) : PW X (.BoolOp .And [a] pos) (tT X.K fa) := pw_and1 h
theorem tOr1 {fa : Ev → Option Bool} (h : PT X a (tT X.K fa)) : PW X (.BoolOp .Or [a] pos) (tT X.K fa) := pw_or1 h
theorem tAndW {fa fb : Ev → Option Bool} {rest : List Expr} (ha : PT X a (tT X.K fa)) (hb : PW X (.BoolOp .And (b :: rest) pos) (tT X.K fb)) : PW X (.BoolOp .And (a :: b :: rest) pos) (tT X.K (andT fa fb)) := PW.imp (pw_and ha hb) fun σ H Q ⟨M, ρ, fo, fv, b, R, l, e, k⟩ => by
  unfold andT at e
  cases q : fa ρ with
  | none => rw [q] at e; cases e
  | some c =>
    rw [q] at e
    cases c with
    | true => exact ⟨M, ρ, fo, fv, true, R, l, q, fun M1 H1 s1 R1 => iteT ⟨M1, ρ, fo, fv, b, R1, l, e, fun M2 H2 s2 R2 => k M2 H2 (s1.trans s2) R2⟩⟩
    | false => cases e; exact ⟨M, ρ, fo, fv, false, R, l, q, fun M1 H1 s1 R1 => iteF (k M1 H1 s1 R1)⟩
theorem tOrW {fa fb : Ev → Option Bool} {rest : List Expr} (ha : PT X a (tT X.K fa)) (hb : PW X (.BoolOp .Or (b :: rest) pos) (tT X.K fb)) : PW X (.BoolOp .Or (a :: b :: rest) pos) (tT X.K (orT fa fb)) := PW.imp (pw_or ha hb) fun σ H Q ⟨M, ρ, fo, fv, b, R, l, e, k⟩ => by
  unfold orT at e
  cases q : fa ρ with
  | none => rw [q] at e; cases e
  | some c =>
    rw [q] at e
    cases c with
    | true => cases e; exact ⟨M, ρ, fo, fv, true, R, l, q, fun M1 H1 s1 R1 => iteT (k M1 H1 s1 R1)⟩
    | false => exact ⟨M, ρ, fo, fv, false, R, l, q, fun M1 H1 s1 R1 => iteF ⟨M1, ρ, fo, fv, b, R1, l, e, fun M2 H2 s2 R2 => k M2 H2 (s1.trans s2) R2⟩⟩
theorem tW {fa : Ev → Option Bool} (h : PW X a (tT X.K fa)) : PT X a (tT X.K fa) := h.pt
/-! ### and, or, not, if-else as values -/
def andV (f g : Ev → Option D) (ρ : Ev) : Option D := match f ρ with
  | some (.bl true) => g ρ
  | some (.bl false) => some (.bl false)
  | _ => none
def orV (f g : Ev → Option D) (ρ : Ev) : Option D := match f ρ with
  | some (.bl true) => some (.bl true)
  | some (.bl false) => g ρ
  | _ => none
def notV (f : Ev → Option D) (ρ : Ev) : Option D := match f ρ with
  | some (.bl b) => some (.bl (!b))
  | _ => none
def ifV (c : Ev → Option Bool) (f g : Ev → Option D) (ρ : Ev) : Option D := match c ρ with
  | some true => f ρ
  | some false => g ρ
  | none => none
theorem pOne {op} (h : PE X a (tP X.K fa)) : PE X (.BoolOp op [a] pos) (tP X.K fa) := pe_one h
theorem pAnd {rest : List Expr} (ha : PE X a (tP X.K fa)) (hb : PE X (.BoolOp .And (b :: rest) pos) (tP X.K fb)) : PE X (.BoolOp .And (a :: b :: rest) pos) (tP X.K (andV fa fb)) := PE.imp (pe_and ha hb) fun σ H Q ⟨M, ρ, fo, fv, d, R, l, e, k⟩ => by
  unfold andV at e
  split at e
  · rename_i q
    exact ⟨M, ρ, fo, fv, _, R, l, q, fun M1 H1 v s1 R1 dv => by cases dv; exact ⟨true, rfl, iteT ⟨M1, ρ, fo, fv, d, R1, l, e, fun M2 H2 v2 s2 R2 => k M2 H2 v2 (s1.trans s2) R2⟩⟩⟩
  · rename_i q
    cases e
    exact ⟨M, ρ, fo, fv, _, R, l, q, fun M1 H1 v s1 R1 dv => by cases dv; exact ⟨false, rfl, iteF (k M1 H1 _ s1 R1 (.bl _))⟩⟩
  · cases e
theorem pOr {rest : List Expr} (ha : PE X a (tP X.K fa)) (hb : PE X (.BoolOp .Or (b :: rest) pos) (tP X.K fb)) : PE X (.BoolOp .Or (a :: b :: rest) pos) (tP X.K (orV fa fb)) := PE.imp (pe_or ha hb) fun σ H Q ⟨M, ρ, fo, fv, d, R, l, e, k⟩ => by
  unfold orV at e
  split at e
  · rename_i q
    cases e
    exact ⟨M, ρ, fo, fv, _, R, l, q, fun M1 H1 v s1 R1 dv => by cases dv; exact ⟨true, rfl, iteT (k M1 H1 _ s1 R1 (.bl _))⟩⟩
  · rename_i q
    exact ⟨M, ρ, fo, fv, _, R, l, q, fun M1 H1 v s1 R1 dv => by cases dv; exact ⟨false, rfl, iteF ⟨M1, ρ, fo, fv, d, R1, l, e, fun M2 H2 v2 s2 R2 => k M2 H2 v2 (s1.trans s2) R2⟩⟩⟩
  · cases e
theorem pNot (ha : PE X a (tP X.K fa)) : PE X (.UnaryOp .Not a pos) (tP X.K (notV fa)) := PE.imp (pe_not ha) fun σ H Q ⟨M, ρ, fo, fv, d, R, l, e, k⟩ => by
  unfold notV at e
  split at e
  · rename_i b q
    cases e
    exact ⟨M, ρ, fo, fv, _, R, l, q, fun M1 H1 v s1 R1 dv => by cases dv; exact ⟨b, rfl, k M1 H1 _ s1 R1 (.bl _)⟩⟩
  · cases e
theorem pIf {fc : Ev → Option Bool} (hc : PT X c (tT X.K fc)) (ha : PE X a (tP X.K fa)) (hb : PE X b (tP X.K fb)) : PE X (.IfExp c a b pos) (tP X.K (ifV fc fa fb)) := PE.imp (pe_ifExp hc ha hb) fun σ H Q ⟨M, ρ, fo, fv, d, R, l, e, k⟩ => by
  unfold ifV at e
  split at e
  · rename_i q
    exact ⟨M, ρ, fo, fv, _, R, l, q, fun M1 H1 s1 R1 => iteT ⟨M1, ρ, fo, fv, d, R1, l, e, fun M2 H2 v2 s2 R2 => k M2 H2 v2 (s1.trans s2) R2⟩⟩
  · rename_i q
    exact ⟨M, ρ, fo, fv, _, R, l, q, fun M1 H1 s1 R1 => iteF ⟨M1, ρ, fo, fv, d, R1, l, e, fun M2 H2 v2 s2 R2 => k M2 H2 v2 (s1.trans s2) R2⟩⟩
  · cases e

/-! ### argument lists -/
def aCons (f : Ev → Option D) (g : Ev → Option (List D)) (ρ : Ev) : Option (List D) := (f ρ).bind fun d => (g ρ).bind fun ds => some (d :: ds)
def aNil (_ : Ev) : Option (List D) := some []
theorem aCons_some {f : Ev → Option D} {g : Ev → Option (List D)} {ρ : Ev} {ds : List D} (h : aCons f g ρ = some ds) : ∃ d r, f ρ = some d ∧ g ρ = some r ∧ ds = d :: r := by
  unfold aCons at h
  cases e1 : f ρ with
  | none => rw [e1] at h; cases h
  | some x =>
    rw [e1] at h
    cases e2 : g ρ with
    | none => rw [Option.bind_some, e2] at h; cases h
    | some y => rw [Option.bind_some, e2] at h; cases h; exact ⟨x, y, rfl, rfl, rfl⟩
theorem tCons_of {K : PySem.W.Frag} {f : Ev → Option D} {g : Ev → Option (List D)} {σ : L2.St} {H : Hp} {Q : List V → Hp → Prop} (h : tAr K (aCons f g) σ H Q) : tCons (tP K f) (tAr K g) σ H Q := by
  obtain ⟨M, ρ, fo, fv, ds, R, l, e, k⟩ := h
  obtain ⟨d, r, ef, eg, rfl⟩ := aCons_some e
  exact ⟨M, ρ, fo, fv, d, R, l, ef, fun M1 H1 v1 s1 R1 d1 => ⟨M1, ρ, fo, fv, r, R1, l, eg, fun M2 H2 vs s2 R2 d2 => k M2 H2 _ (s1.trans s2) R2 (.cons (d1.mono s2) d2)⟩⟩
theorem qNil : PA X [] (tAr X.K aNil) := PA.imp pa_nil fun σ H Q ⟨M, ρ, fo, fv, d, R, l, e, k⟩ => by
  cases e
  exact k M H [] (Same.refl _) R .nil
theorem qCons {es : List Expr} {g : Ev → Option (List D)} (ha : PE X a (tP X.K fa)) (hr : PA X es (tAr X.K g)) (hs : starEach (a :: es) X.env = (false, eval a X.env) :: starEach es X.env := by rfl) : PA X (a :: es) (tAr X.K (aCons fa g)) :=
  PA.imp (pa_cons ha hr hs) fun _ _ _ h => tCons_of h
theorem kNil : PK X [] (tAr X.K aNil) := ⟨fun p pins s σ H Q I ⟨M, ρ, fo, fv, d, R, l, e, k⟩ => by
  cases e
  exact pk_nil.run p pins s σ H Q I (k M H [] (Same.refl _) R .nil)⟩
theorem kCons {nm : Option Str} {kpos : Pos} {kws : List Keyword} {g : Ev → Option (List D)} (ha : PE X a (tP X.K fa)) (hr : PK X kws (tAr X.K g)) : PK X (⟨nm, a, kpos⟩ :: kws) (tAr X.K (aCons fa g)) :=
  ⟨fun p pins s σ H Q I h => (pk_cons ha hr).run p pins s σ H Q I (tCons_of h)⟩

/-! ### tuples and lists that are displayed -/
def mkTup (g : Ev → Option (List D)) (ρ : Ev) : Option D := (g ρ).bind fun ds => if ds.length ≤ sizeLine then some (.tup ds) else none
def mkLst (g : Ev → Option (List D)) (ρ : Ev) : Option D := (g ρ).bind fun ds => if ds.length ≤ sizeLine then some (.lst ds) else none
def mkLstO (g : Ev → Option (List D)) (ρ : Ev) : Option O := (g ρ).bind fun ds => if ds.length ≤ sizeLine then some (.lst (ds.map .dat)) else none
theorem mk_some {α : Type} {g : Ev → Option (List D)} {ρ : Ev} {h : List D → α} {d : α} (e : ((g ρ).bind fun ds => if ds.length ≤ sizeLine then some (h ds) else none) = some d) : ∃ ds, g ρ = some ds ∧ ds.length ≤ sizeLine ∧ d = h ds := by
  cases e1 : g ρ with
  | none => rw [e1] at e; cases e
  | some ds =>
    rw [e1, Option.bind_some] at e
    split at e
    · cases e; exact ⟨ds, rfl, by assumption, rfl⟩
    · cases e
variable {es : List Expr} {ga : Ev → Option (List D)}
theorem pTup {k : Nat} (h : PA X es (tAr X.K ga)) : PE X (.Tuple es k pos) (tP X.K (mkTup ga)) := PE.imp (pe_tup h) fun σ H Q ⟨M, ρ, fo, fv, d, R, l, e, k⟩ => by
  obtain ⟨ds, eg, hl, rfl⟩ := mk_some e
  refine ⟨M, ρ, fo, fv, ds, R, l, eg, fun M1 H1 vs s1 R1 d1 => ⟨by rw [d1.length]; exact hl, fun p hp => ?_⟩⟩
  have mp := R1.same.free hp
  have s2 : Same M1 (upd M1 p (.tup vs)) := same_updM mp
  exact k _ _ _ (s1.trans s2) (R1.growM hp) (.tup (.inl (.inl upd_same)) (d1.mono s2))
theorem pLst (h : PA X es (tAr X.K ga)) : PE X (.List es pos) (tP X.K (mkLst ga)) := PE.imp (pe_lst h) fun σ H Q ⟨M, ρ, fo, fv, d, R, l, e, k⟩ => by
  obtain ⟨ds, eg, hl, rfl⟩ := mk_some e
  refine ⟨M, ρ, fo, fv, ds, R, l, eg, fun M1 H1 vs s1 R1 d1 => ⟨by rw [d1.length]; exact hl, fun p hp => ?_⟩⟩
  have mp := R1.same.free hp
  have s2 : Same M1 (upd M1 p (.lst vs)) := same_updM mp
  exact k _ _ _ (s1.trans s2) (R1.growM hp) (.lst (.inl (.inl upd_same)) (d1.mono s2))
theorem ows_dat {K : PySem.W.Frag} {M H : Hp} : ∀ {vs : List V} {ds : List D}, Dvs K M vs ds → Ows K M H (ds.map O.dat) (vs.map some) []
  | _, _, .nil => .nil
  | _, _, .cons h t => by
    have := Ows.cons (Ow.dat (H := H) h) (ows_dat (H := H) t)
    exact this
/-- a new list of frozen things, of one's own -/
theorem Rep.newL {K : PySem.W.Frag} {M H : Hp} {l r : List O} {lv rv : List (Option V)} (R : Rep K M H (l ++ r) (lv ++ rv)) (e : lv.length = l.length) {p : Addr} (hp : H p = none) {vs : List V} {ds : List D} (d : Dvs K M vs ds) :
    Rep K M (upd H p (.lst vs)) (l ++ .lst (ds.map .dat) :: r) (lv ++ some (.ref p) :: rv) := by
  have R1 : Rep K M (upd H p (.lst vs)) (l ++ r) (lv ++ rv) := R.grow hp
  obtain ⟨s, fp, w, nd, nm⟩ := R
  obtain ⟨s1, fp1, w1, nd1, nm1⟩ := R1
  have pn : p ∉ fp := fun z => w.dom p z hp
  have w' : Ows K M (upd H p (.lst vs)) (l ++ r) (lv ++ rv) fp := w.frame (Same.refl _) fun a ha => upd_ne fun z => pn (z ▸ ha)
  obtain ⟨fa, fb, e1, wa, wb⟩ := w'.split e
  subst e1
  refine ⟨s1, fa ++ ([p] ++ fb), wa.append (.cons (.lst upd_same (ows_dat d)) wb), ?_, fun a ha => ?_⟩
  · rw [List.nodup_append] at nd ⊢
    obtain ⟨n1, n2, n3⟩ := nd
    refine ⟨n1, ?_, fun a ha b hb => ?_⟩
    · exact List.nodup_cons.mpr ⟨fun z => pn (List.mem_append_right _ z), n2⟩
    · rcases List.mem_cons.mp hb with rfl | hb
      · exact fun z => pn (z ▸ List.mem_append_left _ ha)
      · exact n3 a ha b hb
  · simp only [List.mem_append, List.mem_singleton] at ha
    rcases ha with ha | rfl | ha
    · exact nm a (List.mem_append_left _ ha)
    · exact s.free hp
    · exact nm a (List.mem_append_right _ ha)
theorem oLst (h : PA X es (tAr X.K ga)) : PE X (.List es pos) (tO X.K (mkLstO ga)) := PE.imp (pe_lst h) fun σ H Q ⟨M, ρ, fo, fv, d, R, l, e, k⟩ => by
  obtain ⟨ds, eg, hl, rfl⟩ := mk_some e
  exact ⟨M, ρ, fo, fv, ds, R, l, eg, fun M1 H1 vs s1 R1 d1 => ⟨by rw [d1.length]; exact hl, fun p hp => k _ _ _ s1 (R1.newL l hp d1)⟩⟩
/-- a frozen thing is a thing -/
def thaw (f : Ev → Option D) (ρ : Ev) : Option O := (f ρ).map .dat
def frz (f : Ev → Option O) (ρ : Ev) : Option D := (f ρ).bind O.toD
theorem oP {e : Expr} {f : Ev → Option D} (h : PE X e (tP X.K f)) : PE X e (tO X.K (thaw f)) := PE.imp h fun σ H Q ⟨M, ρ, fo, fv, d, R, l, e, k⟩ => by
  unfold thaw at e
  cases q : f ρ with
  | none => rw [q] at e; cases e
  | some d' =>
    rw [q] at e
    cases e
    exact ⟨M, ρ, fo, fv, d', R, l, q, fun M1 H1 v s1 R1 d1 => k M1 H1 v s1 (R1.push l d1)⟩
/-- a thing of one's own, frozen -/
theorem pO {e : Expr} {f : Ev → Option O} (h : PE X e (tO X.K f)) : PE X e (tP X.K (frz f)) := PE.imp h fun σ H Q ⟨M, ρ, fo, fv, d, R, l, e, k⟩ => by
  unfold frz at e
  cases q : f ρ with
  | none => rw [q] at e; cases e
  | some o =>
    rw [q] at e
    refine ⟨M, ρ, fo, fv, o, R, l, q, fun M1 H1 v s1 R1 => ?_⟩
    obtain ⟨M2, s2, R2, d2⟩ := R1.frz l rfl e
    exact k M2 H1 v (s1.trans s2) (R2.drop l) d2

/-! ### calls of built-ins -/
def cB (g : Ev → Option (List D)) (f : List D → Option D) (ρ : Ev) : Option D := (g ρ).bind f
theorem cB_some {g : Ev → Option (List D)} {f : List D → Option D} {ρ : Ev} {d : D} (h : cB g f ρ = some d) : ∃ ds, g ρ = some ds ∧ f ds = some d := by
  unfold cB at h
  cases e1 : g ρ with
  | none => rw [e1] at h; cases h
  | some x => rw [e1] at h; exact ⟨x, rfl, h⟩
theorem tCB_of {K : PySem.W.Frag} {g : Ev → Option (List D)} {f : List D → Option D} {σ : L2.St} {H : Hp} {Q : VK} (h : tP K (cB g f) σ H Q) : tCB (rDs K f) (tAr K g) σ H Q := by
  obtain ⟨M, ρ, fo, fv, d, R, l, e, k⟩ := h
  obtain ⟨ds, eg, ef⟩ := cB_some e
  exact ⟨M, ρ, fo, fv, ds, R, l, eg, fun M1 H1 vs s1 R1 d1 => ⟨M1, ρ ++ fo, σ ++ fv, ds, d, R1, d1, ef, fun M2 H2 v s2 R2 d2 => k M2 H2 v (s1.trans s2) R2 d2⟩⟩
theorem pCallB {id : String} {x : Str} {p : Pos} {f : List D → Option D} {e : Expr} {es : List Expr} (hc : CallR X (.builtin id) (rDs X.K f)) (hm : X.mg x = none) (hv : bootBuiltins x = some (.builtin id)) (ha : PA X (e :: es) (tAr X.K ga)) (hg : Gl X x := by rfl) (hn : x ≠ "__name__" := by decide) (hdb : (x == ("__debug__" : Str)) = false := by decide)
    (hpl : (backTo pos (starEach es X.env)).any (·.1) = false := by rfl) (hs : starEach (e :: es) X.env = (false, eval e X.env) :: starEach es X.env := by rfl) : PE X (.Call (.Name x p) (e :: es) [] pos) (tP X.K (cB ga f)) :=
  PE.imp (pe_callB hc hg hm hv ha hn hdb hs hpl) fun _ _ _ h => tCB_of h
theorem pCallT {T : String} {x : Str} {p : Pos} {f : List D → Option D} {e : Expr} {es : List Expr} (hc : CallR X (.type T) (rDs X.K f)) (hm : X.mg x = none) (hv : bootBuiltins x = some (.type T)) (ha : PA X (e :: es) (tAr X.K ga)) (hg : Gl X x := by rfl) (hn : x ≠ "__name__" := by decide) (hdb : (x == ("__debug__" : Str)) = false := by decide)
    (hpl : (backTo pos (starEach es X.env)).any (·.1) = false := by rfl) (hs : starEach (e :: es) X.env = (false, eval e X.env) :: starEach es X.env := by rfl) : PE X (.Call (.Name x p) (e :: es) [] pos) (tP X.K (cB ga f)) :=
  PE.imp (pe_callTy hc hg hm hv ha hn hdb hs hpl) fun _ _ _ h => tCB_of h
end
end PD

namespace PD
open PySem PySem.Spec L2

section
variable {X : Cx} {W : WX} {J : List Nat} {pos : Pos}
/-! ### blocks -/
def sq (f g : Ev → Option Fl) (ρ : Ev) : Option Fl := (f ρ).bind fun r => match r with
  | .nx ρ' => g ρ'
  | r => some r
def skip (ρ : Ev) : Option Fl := some (.nx ρ)
theorem sNil : PSs X [] (tS X.K W J skip) := PSs.imp pss_nil fun E σ H ⟨M, ρ, fo, fv, r, σ0, R, l, e, k⟩ => by
  cases e
  exact k M H σ (Same.refl _) R l
theorem tSeq_of {K : PySem.W.Frag} {f g : Ev → Option Fl} {E : Ends} {σ : L2.St} {H : Hp} (h : tS K W J (sq f g) E σ H) : tSeq (tS K W J f) (tS K W J g) E σ H := by
  obtain ⟨M, ρ, fo, fv, r, σ0, R, l, e, k⟩ := h
  unfold sq at e
  cases q : f ρ with
  | none => rw [q] at e; cases e
  | some r1 =>
    rw [q, Option.bind_some] at e
    refine ⟨M, ρ, fo, fv, r1, σ0, R, l, q, ?_⟩
    cases r1 with
    | nx ρ1 => exact fun M1 H1 σ1 s1 R1 l1 => ⟨M1, ρ1, fo, fv, r, σ0, R1, l1, e, k.later s1⟩
    | rt o ρ1 => cases e; exact k
    | bk ρ1 => cases e; exact k
    | ct ρ1 => cases e; exact k
    | ex x ρ1 => cases e; exact k
theorem sCons {st : Stmt} {rest : List Stmt} {f g : Ev → Option Fl} (h1 : PS X st (tS X.K W J f)) (h2 : PSs X rest (tS X.K W J g)) : PSs X (st :: rest) (tS X.K W J (sq f g)) := PSs.imp (pss_cons h1 h2) fun _ _ _ h => tSeq_of h
theorem sOne {st : Stmt} {f : Ev → Option Fl} (h1 : PS X st (tS X.K W J f)) : PSs X [st] (tS X.K W J f) := pss_one h1
def brk (ρ : Ev) : Option Fl := some (.bk ρ)
def cont (ρ : Ev) : Option Fl := some (.ct ρ)
/-! ### return -/
def rtV (f : Ev → Option D) (ρ : Ev) : Option Fl := (f ρ).map fun d => .rt (.dat d) ρ
theorem sRet {e : Expr} {f : Ev → Option D} (h : PE X e (tP X.K f)) : PS X (.Return (some e) pos) (tS X.K W J (rtV f)) := PS.imp (ps_ret h) fun E σ H ⟨M, ρ, fo, fv, r, σ0, R, l, e, k⟩ => by
  unfold rtV at e
  cases q : f ρ with
  | none => rw [q] at e; cases e
  | some d =>
    rw [q] at e
    cases e
    exact ⟨M, ρ, fo, fv, d, R, l.1, q, fun M1 H1 v s1 R1 d1 => k M1 H1 σ v s1 (R1.push l.1 d1) l⟩
/-! ### if -/
def ifS (c : Ev → Option Bool) (f g : Ev → Option Fl) (ρ : Ev) : Option Fl := match c ρ with
  | some true => f ρ
  | some false => g ρ
  | none => none
theorem sIf {c : Expr} {a b : List Stmt} {fc : Ev → Option Bool} {f g : Ev → Option Fl} (hc : PT X c (tT X.K fc)) (ha : PSs X a (tS X.K W J f)) (hb : PSs X b (tS X.K W J g)) : PS X (.If c a b pos) (tS X.K W J (ifS fc f g)) :=
  PS.imp (ps_if hc ha hb) fun E σ H ⟨M, ρ, fo, fv, r, σ0, R, l, e, k⟩ => by
    unfold ifS at e
    split at e
    · rename_i q
      exact ⟨M, ρ, fo, fv, true, R, l.1, q, fun M1 H1 s1 R1 => iteT ⟨M1, ρ, fo, fv, r, σ0, R1, l, e, k.later s1⟩⟩
    · rename_i q
      exact ⟨M, ρ, fo, fv, false, R, l.1, q, fun M1 H1 s1 R1 => iteF ⟨M1, ρ, fo, fv, r, σ0, R1, l, e, k.later s1⟩⟩
    · cases e
/-! ### a name is stored -/
def stV (i : Nat) (f : Ev → Option D) (ρ : Ev) : Option Fl := (f ρ).map fun d => .nx (ρ.set i (.dat d))
def stO (i : Nat) (f : Ev → Option O) (ρ : Ev) : Option Fl := (f ρ).map fun o => .nx (ρ.set i o)
theorem sSet {i : Nat} {x : Str} {e : Expr} {f : Ev → Option D} {pos' : Pos} (hN : X.N.Nodup) (he : PE X e (tP X.K f)) (hJ : i ∉ J := by decide) (hi : X.N[i]? = some x := by rfl) (hx : Loc X.env.scope x := by first | exact Or.inl rfl | exact Or.inr rfl) (hs : swapsWith e (some (.Name x pos')) pos.line X.env = pure false := by rfl)
    (hf : X.fn x = true ∨ X.env.scope.names.lookup x = some .local := by first | exact .inl rfl | exact .inr rfl) : PS X (.Assign [.Name x pos'] e pos) (tS X.K W J (stV i f)) := PS.imp (ps_set (i := i) hN hi hx he hs hf) fun E σ H ⟨M, ρ, fo, fv, r, σ0, R, l, e, k⟩ => by
  unfold stV at e
  cases q : f ρ with
  | none => rw [q] at e; cases e
  | some d =>
    rw [q] at e
    cases e
    exact ⟨M, ρ, fo, fv, d, R, l.1, q, fun M1 H1 v s1 R1 d1 => k M1 H1 _ s1 (R1.setD l.1 d1) (l.set hJ _ _)⟩
theorem sSetO {i : Nat} {x : Str} {e : Expr} {f : Ev → Option O} {pos' : Pos} (hN : X.N.Nodup) (he : PE X e (tO X.K f)) (hJ : i ∉ J := by decide) (hi : X.N[i]? = some x := by rfl) (hx : Loc X.env.scope x := by first | exact Or.inl rfl | exact Or.inr rfl) (hs : swapsWith e (some (.Name x pos')) pos.line X.env = pure false := by rfl)
    (hf : X.fn x = true ∨ X.env.scope.names.lookup x = some .local := by first | exact .inl rfl | exact .inr rfl) : PS X (.Assign [.Name x pos'] e pos) (tS X.K W J (stO i f)) := PS.imp (ps_set (i := i) hN hi hx he hs hf) fun E σ H ⟨M, ρ, fo, fv, r, σ0, R, l, e, k⟩ => by
  unfold stO at e
  cases q : f ρ with
  | none => rw [q] at e; cases e
  | some d =>
    rw [q] at e
    cases e
    exact ⟨M, ρ, fo, fv, d, R, l.1, q, fun M1 H1 v s1 R1 => k M1 H1 _ s1 (R1.into l.1) (l.set hJ _ _)⟩
/-! ### an owned slot is frozen (a step of the proof alone) -/
def fz (i : Nat) (g : Ev → Option Fl) (ρ : Ev) : Option Fl := match ρ[i]? with
  | some o => o.toD.bind fun d => g (ρ.set i (.dat d))
  | none => none
theorem Rep.frzAt {K : PySem.W.Frag} {M H : Hp} {ρ fo : List O} {σ fv : List (Option V)} (R : Rep K M H (ρ ++ fo) (σ ++ fv)) (l : σ.length = ρ.length) {i : Nat} {o : O} {d : D} (e : ρ[i]? = some o) (hd : o.toD = some d) :
    ∃ M', Same M M' ∧ Rep K M' H (ρ.set i (.dat d) ++ fo) (σ ++ fv) := by
  obtain ⟨hi, e⟩ := List.getElem?_eq_some_iff.mp e
  have hi' : i < σ.length := by omega
  have e1 : ρ = ρ.take i ++ o :: ρ.drop (i + 1) := by rw [← e, ← List.drop_eq_getElem_cons hi, List.take_append_drop]
  have e2 : σ = σ.take i ++ σ[i] :: σ.drop (i + 1) := by rw [← List.drop_eq_getElem_cons hi', List.take_append_drop]
  have e3 : ρ.set i (.dat d) = ρ.take i ++ .dat d :: ρ.drop (i + 1) := by rw [List.set_eq_take_append_cons_drop, if_pos hi]
  rw [e1, e2] at R
  simp only [List.append_assoc, List.cons_append] at R
  have ll : (σ.take i).length = (ρ.take i).length := by simp; omega
  obtain ⟨fa, f, fb, w1, w2, w3, nd, nm⟩ := R.mid ll
  obtain ⟨x, ex⟩ : ∃ x, σ[i] = some x := by
    generalize σ[i] = z at w2
    cases w2 with
    | unk => unfold O.toD at hd; cases hd
    | raw h _ => exact nomatch (show (none : Option D) = some d from hd)
    | dicT h _ _ => exact ⟨_, rfl⟩
    | dat h => exact ⟨_, rfl⟩
    | lst h _ => exact ⟨_, rfl⟩
    | tup h _ => exact ⟨_, rfl⟩
    | dic h _ _ => exact ⟨_, rfl⟩
    | obj h _ _ _ => exact ⟨_, rfl⟩
  obtain ⟨M', s', R', _⟩ := R.frz ll ex hd
  refine ⟨M', s', ?_⟩
  rw [e3, e2]
  simp only [List.append_assoc, List.cons_append]
  simpa using R'
theorem tFz_of {K : PySem.W.Frag} {i : Nat} {g : Ev → Option Fl} {E : Ends} {σ : L2.St} {H : Hp} (h : tS K W J (fz i g) E σ H) : tS K W J g E σ H := by
  obtain ⟨M, ρ, fo, fv, r, σ0, R, l, e, k⟩ := h
  unfold fz at e
  cases q : ρ[i]? with
  | none => rw [q] at e; cases e
  | some o =>
    rw [q] at e
    have e : (o.toD.bind fun d => g (ρ.set i (.dat d))) = some r := e
    cases q2 : o.toD with
    | none => rw [q2] at e; cases e
    | some d =>
      rw [q2, Option.bind_some] at e
      obtain ⟨M1, s1, R1⟩ := R.frzAt l.1 q q2
      exact ⟨M1, _, fo, fv, r, σ0, R1, l.setR _, e, k.later s1⟩
theorem sFz {st : Stmt} {i : Nat} {g : Ev → Option Fl} (h : PS X st (tS X.K W J g)) : PS X st (tS X.K W J (fz i g)) := PS.imp h fun _ _ _ h => tFz_of h
/-! ### x.append(e) of an own list -/
theorem Rep.ownL {K : PySem.W.Frag} {M H : Hp} {ρ fo : List O} {σ fv : List (Option V)} (R : Rep K M H (ρ ++ fo) (σ ++ fv)) (l : σ.length = ρ.length) {i : Nat} {os : List O} (e : ρ[i]? = some (.lst os)) :
    ∃ a xs, σ[i]? = some (some (.ref a)) ∧ H a = some (.lst xs) ∧ xs.length = os.length ∧
      ∀ (x : V) (d : D), Dv K M x d → Rep K M (upd H a (.lst (xs ++ [x]))) (ρ.set i (.lst (os ++ [.dat d])) ++ fo) (σ ++ fv) := by
  obtain ⟨hi, e⟩ := List.getElem?_eq_some_iff.mp e
  have hi' : i < σ.length := by omega
  have e1 : ρ = ρ.take i ++ O.lst os :: ρ.drop (i + 1) := by rw [← e, ← List.drop_eq_getElem_cons hi, List.take_append_drop]
  have e2 : σ = σ.take i ++ σ[i] :: σ.drop (i + 1) := by rw [← List.drop_eq_getElem_cons hi', List.take_append_drop]
  have e3 : ∀ z, ρ.set i z = ρ.take i ++ z :: ρ.drop (i + 1) := fun z => by rw [List.set_eq_take_append_cons_drop, if_pos hi]
  have R0 := R
  rw [e1, e2] at R
  simp only [List.append_assoc, List.cons_append] at R
  have ll : (σ.take i).length = (ρ.take i).length := by simp; omega
  obtain ⟨fa, f, fb, w1, w2, w3, nd, nm⟩ := R.mid ll
  generalize hz : σ[i] = z at *
  cases w2 with
  | lst h ws =>
    rename_i a xs fp
    refine ⟨a, xs, by rw [List.getElem?_eq_getElem hi', hz], h, by rw [← ws.length]; simp, fun x d dx => ?_⟩
    have aout : ∀ b, b ∈ fa ∨ b ∈ fp ∨ b ∈ fb → b ≠ a := by
      intro b hb z
      subst z
      rw [List.nodup_append] at nd
      obtain ⟨n1, n2, n3⟩ := nd
      rcases hb with hb | hb | hb
      · exact n3 b hb b (by simp) rfl
      · rw [List.cons_append, List.nodup_cons] at n2
        exact n2.1 (List.mem_append_left _ hb)
      · rw [List.cons_append, List.nodup_cons] at n2
        exact n2.1 (List.mem_append_right _ hb)
    have ma : M a = none := nm a (by simp)
    rw [e3, e2]
    simp only [List.append_assoc, List.cons_append]
    refine ⟨fun b y q => ?_, fa ++ ((a :: fp) ++ fb), ?_, nd, nm⟩
    · rw [upd_ne (fun z => by subst z; rw [ma] at q; cases q)]
      exact R.same b y q
    · refine (w1.frame (Same.refl _) fun b hb => upd_ne (aout b (.inl hb))).append (.cons ?_ (w3.frame (Same.refl _) fun b hb => upd_ne (aout b (.inr (.inr hb)))))
      refine .lst upd_same ?_
      rw [List.map_append]
      have w4 := (ws.frame (Same.refl _) (H' := upd H a (.lst (xs ++ [x]))) fun b hb => upd_ne (aout b (.inr (.inl hb)))).append (Ows.cons (Ow.dat (H := upd H a (.lst (xs ++ [x]))) dx) .nil)
      simpa using w4
def app (i : Nat) (f : Ev → Option D) (ρ : Ev) : Option Fl := (f ρ).bind fun d => match ρ[i]? with
  | some (.lst os) => if os.length < sizeLine then some (.nx (ρ.set i (.lst (os ++ [.dat d])))) else none
  | _ => none
theorem sApp {i : Nat} {x : Str} {e : Expr} {f : Ev → Option D} {p apos cpos : Pos} (hv : PE X (.Name x p) (tVar i)) (he : PE X e (tP X.K f)) (hbase : attributeBase (.Name x p) "append" X.env (eval (.Name x p) X.env) = eval (.Name x p) X.env := by rfl)
    (hfew : ((backTo cpos (starEach [e] X.env)).all (fun x => !x.1) && (backToKw cpos (keywordEach [] X.env)).all (fun x => x.1.isSome)
      && decide ([e].length + ([] : List Keyword).length + (if ([] : List Keyword).isEmpty then 0 else 1) < 30)) = true := by rfl)
    (hline : (apos.endLine == cpos.line) = true := by rfl) (hs : starEach [e] X.env = (false, eval e X.env) :: starEach [] X.env := by rfl) (hplain : (backTo cpos (starEach [] X.env)).any (·.1) = false := by rfl)
    (hsw : swapsWith (.Call (.Attribute (.Name x p) "append" apos) [e] [] cpos) none pos.line X.env = pure false := by rfl) :
    PS X (.Expr (.Call (.Attribute (.Name x p) "append" apos) [e] [] cpos) pos) (tS X.K W J (app i f)) :=
  PS.imp (ps_expr (pe_bm PySem.F.plainAttrs_list PySem.F.slot_list_append PySem.F.type_list_append mt_append hv (pa_cons he pa_nil hs) hbase hfew hline hs hplain) hsw) fun E σ H ⟨M, ρ, fo, fv, r, σ0, R, l, e, k⟩ => by
    unfold app at e
    cases q : f ρ with
    | none => rw [q] at e; cases e
    | some d =>
      rw [q, Option.bind_some] at e
      split at e
      · rename_i os eo
        split at e
        · rename_i hlen
          cases e
          obtain ⟨a, xs, es, ha, hl, _⟩ := R.ownL l.1 eo
          refine ⟨.ref a, es, .inl ⟨rfl, _, .inl (.inl ha)⟩, M, ρ, fo, fv, d, R, l.1, q, fun M1 H1 v s1 R1 d1 => ?_⟩
          obtain ⟨a', xs', es', ha', hl', up⟩ := R1.ownL l.1 eo
          have : a' = a := by rw [es'] at es; cases es; rfl
          subst this
          refine ⟨a', xs', v, rfl, rfl, ha', by omega, ?_⟩
          exact k M1 _ σ s1 (up v d d1) (l.setR _)
        · cases e
      · cases e
end
end PD

namespace PD
open PySem PySem.Spec L2

theorem Lk.to {J : List Nat} {σ0 σ σ1 : L2.St} {ρ ρ1 : Ev} (l : Lk J σ0 σ ρ) (l1 : σ1.length = σ.length) (r1 : ρ1.length = ρ.length) {is : List Nat} (a : ∀ j, j ∉ is → σ1[j]? = σ[j]?) (h : ∀ i ∈ is, i ∉ J) : Lk J σ0 σ1 ρ1 :=
  ⟨by rw [l1, r1]; exact l.1, fun j hj => (a j fun z => h j z hj).trans (l.2 j hj)⟩
/-! ### what is walked -/
/-- nd: roots that must stand as they were -/
def Yld (K : PySem.W.Frag) (M : Hp) (nd : List (O × Option V)) (J : It) (ds : List D) : Prop :=
  ∀ i M1 H os vs, Same M M1 → Rep K M1 H os vs → (∀ r ∈ nd, r ∈ os.zip vs) → (i < ds.length → J.go i H) ∧ (i = ds.length → J.stop i H) ∧ ∀ d, ds[i]? = some d → ∀ x H', J.yld i H x H' →
    ∃ M2, Same M1 M2 ∧ Rep K M2 H' os vs ∧ Dv K M2 x d
/-- kn: the slots whose own lists are walked -/
def tI (K : PySem.W.Frag) (kn : List Nat) (g : Ev → Option (List D)) : TI := fun σ H R => ∃ M ρ fo fv ds, Rep K M H (ρ ++ fo) (σ ++ fv) ∧ σ.length = ρ.length ∧ g ρ = some ds ∧
  ∀ M' H' J, Same M M' → Rep K M' H' (ρ ++ fo) (σ ++ fv) → Yld K M' (kn.map fun k => (ρ.getD k .unk, σ.getD k none)) J ds → R J H'
theorem yld_list {K : PySem.W.Frag} {M : Hp} {a : Addr} {xs : List V} {ds : List D} (h : SqX K M a xs) (d : Dvs K M xs ds) : Yld K M [] (Itl K a) ds := fun i M1 H os vs s1 R _ => by
  have q := seqX (s1.trans R.same) h
  have w := walk_list (K := K) (a := a) (xs := xs)
  have hl := d.length
  refine ⟨fun hi => w.goes i H (by omega) q, fun hi => by subst hi; rw [← hl]; exact w.stops H q, fun e he x H' y => ?_⟩
  have hi : i < xs.length := by rw [hl]; exact (List.getElem?_eq_some_iff.mp he).1
  obtain ⟨rfl, ex⟩ := w.yields i H x H' hi q y
  obtain ⟨e', he', dv⟩ := d.getV ex
  rw [he] at he'; cases he'
  exact ⟨M1, Same.refl _, R, dv.mono s1⟩
theorem yld_tup {K : PySem.W.Frag} {M : Hp} {a : Addr} {xs : List V} {ds : List D} (h : SqT K M a xs) (d : Dvs K M xs ds) : Yld K M [] (Itt K a) ds := fun i M1 H os vs s1 R _ => by
  have q := sqT_same (s1.trans R.same) h
  have w := walk_tup (K := K) (a := a) (xs := xs)
  have hl := d.length
  refine ⟨fun hi => w.goes i H (by omega) q, fun hi => by subst hi; rw [← hl]; exact w.stops H q, fun e he x H' y => ?_⟩
  have hi : i < xs.length := by rw [hl]; exact (List.getElem?_eq_some_iff.mp he).1
  obtain ⟨rfl, ex⟩ := w.yields i H x H' hi q y
  obtain ⟨e', he', dv⟩ := d.getV ex
  rw [he] at he'; cases he'
  exact ⟨M1, Same.refl _, R, dv.mono s1⟩
/-- the signs of a text -/
def signs (z : Str) : List D := z.cps.toList.map fun c => .str ⟨#[c]⟩
theorem yld_str {K : PySem.W.Frag} {M : Hp} {z : Str} : Yld K M [] (Its z) (signs z) := fun i M1 H os vs s1 R _ => by
  have w := walk_str (z := z)
  have hl : (signs z).length = z.cps.size := by simp [signs]
  refine ⟨fun hi => w.goes i H (by omega) trivial, fun hi => by subst hi; rw [hl]; exact w.stops H trivial, fun e he x H' y => ?_⟩
  have hi : i < z.cps.size := by rw [← hl]; exact (List.getElem?_eq_some_iff.mp he).1
  obtain ⟨rfl, c, ec, ex⟩ := w.yields i H x H' hi trivial y
  have : e = .str ⟨#[c]⟩ := by
    unfold signs at he
    rw [List.getElem?_map, Array.getElem?_toList, ec] at he
    exact (Option.some.inj he).symm
  subst this; subst ex
  exact ⟨M1, Same.refl _, R, .str _⟩
def rangeD (lo : Int) (n : Nat) : List D := (List.range n).map fun i : Nat => .int (lo + (i : Int))
theorem yld_range {K : PySem.W.Frag} {M : Hp} {lo : Int} {n : Nat} : Yld K M [] (Itr lo n) (rangeD lo n) := fun i M1 H os vs s1 R _ => by
  have w := walk_range (lo := lo) (n := n)
  have hl : (rangeD lo n).length = n := by simp [rangeD]
  refine ⟨fun hi => w.goes i H (by omega) trivial, fun hi => by subst hi; rw [hl]; exact w.stops H trivial, fun e he x H' y => ?_⟩
  have hi : i < n := by rw [← hl]; exact (List.getElem?_eq_some_iff.mp he).1
  obtain ⟨rfl, ex⟩ := w.yields i H x H' hi trivial y
  have : e = .int (lo + (i : Int)) := by
    unfold rangeD at he
    rw [List.getElem?_map, List.getElem?_range hi] at he
    exact (Option.some.inj he).symm
  subst this; subst ex
  exact ⟨M1, Same.refl _, R, .int _⟩
section
variable {X : Cx} {W : WX} {J : List Nat} {pos : Pos} {tg e : Expr} {f : Ev → Option D}
def seqD : D → Option (List D)
  | .lst ds => some ds
  | .tup ds => some ds
  | .str z => some (signs z)
  | _ => none
def iOf (f : Ev → Option D) (ρ : Ev) : Option (List D) := (f ρ).bind seqD
theorem iSeq (h : PE X e (tP X.K f)) : PI X tg e (tI X.K [] (iOf f)) := PI.imp (PI.or (PI.or (pi_list h) (pi_tup h)) (pi_str h)) fun σ H R ⟨M, ρ, fo, fv, ds, R0, l, e, k⟩ => by
  unfold iOf at e
  cases q : f ρ with
  | none => rw [q] at e; cases e
  | some d =>
    rw [q, Option.bind_some] at e
    cases d with
    | lst es =>
      cases e
      exact .inl (.inl ⟨M, ρ, fo, fv, _, R0, l, q, fun M1 H1 v s1 R1 d1 => by
        cases d1 with
        | lst hs hd => exact ⟨_, rfl, ⟨_, seqX R1.same hs⟩, k M1 H1 _ s1 R1 (yld_list hs hd)⟩⟩)
    | tup es =>
      cases e
      exact .inl (.inr ⟨M, ρ, fo, fv, _, R0, l, q, fun M1 H1 v s1 R1 d1 => by
        cases d1 with
        | tup hs hd => exact ⟨_, rfl, ⟨_, sqT_same R1.same hs⟩, k M1 H1 _ s1 R1 (yld_tup hs hd)⟩⟩)
    | str z =>
      cases e
      exact .inr ⟨M, ρ, fo, fv, _, R0, l, q, fun M1 H1 v s1 R1 d1 => by cases d1; exact ⟨z, rfl, k M1 H1 _ s1 R1 yld_str⟩⟩
    | _ => cases e
def rng1 (f : Ev → Option D) (ρ : Ev) : Option (List D) := match f ρ with
  | some (.int n) => if n < 2 ^ 62 ∧ -(2 ^ 62) ≤ n then some (rangeD 0 n.toNat) else none
  | _ => none
def rng2 (f g : Ev → Option D) (ρ : Ev) : Option (List D) := match f ρ, g ρ with
  | some (.int m), some (.int n) => if (n < 2 ^ 62 ∧ -(2 ^ 62) ≤ n) ∧ m < 2 ^ 62 ∧ -(2 ^ 62) ≤ m then some (rangeD m (n - m).toNat) else none
  | _, _ => none
theorem iRange1 {p : Pos} (h : PE X e (tP X.K f)) (hm : X.mg "range" = none) (hg : Gl X "range" := by rfl) (hs : starEach [e] X.env = [(false, eval e X.env)] := by rfl) (hs2 : starEach [e] X.env = (false, eval e X.env) :: starEach [] X.env := by rfl) : PI X tg (.Call (.Name "range" p) [e] [] pos) (tI X.K [] (rng1 f)) :=
  PI.imp (pi_range1 hg hm (pa_cons h pa_nil hs2) hs) fun σ H R ⟨M, ρ, fo, fv, ds, R0, l, e, k⟩ => by
    unfold rng1 at e
    split at e
    · rename_i n q
      split at e
      · rename_i hn
        cases e
        exact ⟨M, ρ, fo, fv, _, R0, l, q, fun M1 H1 v s1 R1 d1 => by cases d1; exact ⟨n, rfl, hn.2, hn.1, k M1 H1 _ s1 R1 yld_range⟩⟩
      · cases e
    · cases e
/-! ### targets -/
def tG (K : PySem.W.Frag) (is : List Nat) (g : D → Ev → Option Ev) : TG := fun v σ H Q => ∃ M ρ fo fv d ρ', Rep K M H (ρ ++ fo) (σ ++ fv) ∧ σ.length = ρ.length ∧ Dv K M v d ∧ g d ρ = some ρ' ∧
  ∀ σ', (∀ j, j ∉ is → σ'[j]? = σ[j]?) → σ'.length = σ.length → ρ'.length = ρ.length → Rep K M H (ρ' ++ fo) (σ' ++ fv) → Q σ' H
def tGs (K : PySem.W.Frag) (is : List Nat) (g : List D → Ev → Option Ev) : TGs := fun vs σ H Q => ∃ M ρ fo fv ds ρ', Rep K M H (ρ ++ fo) (σ ++ fv) ∧ σ.length = ρ.length ∧ Dvs K M vs ds ∧ g ds ρ = some ρ' ∧
  ∀ σ', (∀ j, j ∉ is → σ'[j]? = σ[j]?) → σ'.length = σ.length → ρ'.length = ρ.length → Rep K M H (ρ' ++ fo) (σ' ++ fv) → Q σ' H
def gN (i : Nat) (d : D) (ρ : Ev) : Option Ev := some (ρ.set i (.dat d))
def gsN (ds : List D) (ρ : Ev) : Option Ev := match ds with
  | [] => some ρ
  | _ => none
def gsC (g : D → Ev → Option Ev) (h : List D → Ev → Option Ev) (ds : List D) (ρ : Ev) : Option Ev := match ds with
  | d :: r => (g d ρ).bind (h r)
  | [] => none
def gT (n : Nat) (h : List D → Ev → Option Ev) (d : D) (ρ : Ev) : Option Ev := match d with
  | .tup ds => if ds.length = n then h ds ρ else none
  | _ => none
theorem PG.imp {t t' : TG} (h : PG X tg t) (i : ∀ v σ H Q, t' v σ H Q → t v σ H Q) : PG X tg t' := ⟨fun p s σ H v u Q I r w => h.run p s σ H v u Q I r (i v σ H Q w)⟩
theorem PGs.imp {ts : List Expr} {t t' : TGs} (h : PGs X ts t) (i : ∀ v σ H Q, t' v σ H Q → t v σ H Q) : PGs X ts t' := ⟨fun p s σ H v u Q I r w => h.run p s σ H v u Q I r (i v σ H Q w)⟩
theorem gName' {i : Nat} {x : Str} (hN : X.N.Nodup) (hi : X.N[i]? = some x := by rfl) (hx : Loc X.env.scope x := by first | exact Or.inl rfl | exact Or.inr rfl) (hf : X.fn x = true ∨ X.env.scope.names.lookup x = some .local := by first | exact .inl rfl | exact .inr rfl) : PG X (.Name x pos) (tG X.K [i] (gN i)) :=
  PG.imp (pg_name hN hi hx hf) fun v σ H Q ⟨M, ρ, fo, fv, d, ρ', R, l, dv, e, k⟩ => by
    cases e
    exact k _ (fun j hj => by rw [List.getElem?_set_ne (by simpa using Ne.symm (by simpa using hj))]) (by simp) (by simp) (R.setD l dv)
theorem gsNil' : PGs X [] (tGs X.K [] gsN) := PGs.imp pgs_nil fun vs σ H Q ⟨M, ρ, fo, fv, ds, ρ', R, l, dv, e, k⟩ => by
  unfold gsN at e
  split at e
  · cases e
    cases dv
    exact ⟨rfl, k σ (fun _ _ => rfl) rfl rfl R⟩
  · cases e
theorem gsCons' {es : List Expr} {is js : List Nat} {g : D → Ev → Option Ev} {h : List D → Ev → Option Ev} (h1 : PG X e (tG X.K is g)) (h2 : PGs X es (tGs X.K js h))
    (hs : (assignEach (e :: es) X.env).map (·.2) = assign e X.env :: (assignEach es X.env).map (·.2) := by rfl) : PGs X (e :: es) (tGs X.K (is ++ js) (gsC g h)) := by
  refine PGs.imp (pgs_cons h1 h2 hs) fun vs σ H Q ⟨M, ρ, fo, fv, ds, ρ', R, l, dv, e, k⟩ => ?_
  unfold gsC at e
  split at e
  · rename_i d r
    cases dv with
    | cons d1 d2 =>
      cases q : g d ρ with
      | none => rw [q] at e; cases e
      | some ρ1 =>
        rw [q, Option.bind_some] at e
        refine ⟨_, _, rfl, M, ρ, fo, fv, d, ρ1, R, l, d1, q, fun σ1 a1 l1 r1 R1 => ?_⟩
        exact ⟨M, ρ1, fo, fv, r, ρ', R1, by omega, d2, e, fun σ2 a2 l2 r2 R2 => k σ2 (fun j hj => by rw [a2 j (fun z => hj (List.mem_append_right _ z)), a1 j (fun z => hj (List.mem_append_left _ z))]) (by omega) (by omega) R2⟩
  · cases e
theorem gTup' {es : List Expr} {k n : Nat} {is : List Nat} {h : List D → Ev → Option Ev} (hc : X.calm = true) (h1 : PGs X es (tGs X.K is h)) (hn : (assignEach es X.env).length = n := by rfl) (hst : (assignEach es X.env).findIdx? (·.1) = none := by rfl) : PG X (.Tuple es k pos) (tG X.K is (gT n h)) :=
  PG.imp (pg_tup hc h1 hn hst) fun v σ H Q ⟨M, ρ, fo, fv, d, ρ', R, l, dv, e, k⟩ => by
    unfold gT at e
    split at e
    · rename_i ds
      split at e
      · rename_i hl
        cases dv with
        | tup hs hd => exact ⟨_, _, rfl, sqT_same R.same hs, by rw [hd.length]; exact hl, M, ρ, fo, fv, ds, ρ', R, l, hd, e, k⟩
      · cases e
    · cases e
/-- what a target changes -/
structure TgOk (is : List Nat) (g : D → Ev → Option Ev) : Prop where
  len : ∀ d ρ ρ', g d ρ = some ρ' → ρ'.length = ρ.length
  out : ∀ d ρ ρ', g d ρ = some ρ' → ∀ j, j ∉ is → ρ'[j]? = ρ[j]?
structure TgsOk (is : List Nat) (g : List D → Ev → Option Ev) : Prop where
  len : ∀ d ρ ρ', g d ρ = some ρ' → ρ'.length = ρ.length
  out : ∀ d ρ ρ', g d ρ = some ρ' → ∀ j, j ∉ is → ρ'[j]? = ρ[j]?
theorem gN_ok (i : Nat) : TgOk [i] (gN i) := ⟨fun d ρ ρ' e => by cases e; simp, fun d ρ ρ' e j hj => by cases e; rw [List.getElem?_set_ne (by simpa using Ne.symm (by simpa using hj))]⟩
theorem gsN_ok : TgsOk [] gsN := ⟨fun d ρ ρ' e => by unfold gsN at e; split at e <;> cases e; rfl, fun d ρ ρ' e j hj => by unfold gsN at e; split at e <;> cases e; rfl⟩
theorem gsC_ok {is js : List Nat} {g : D → Ev → Option Ev} {h : List D → Ev → Option Ev} (h1 : TgOk is g) (h2 : TgsOk js h) : TgsOk (is ++ js) (gsC g h) := by
  have key : ∀ d ρ ρ', gsC g h d ρ = some ρ' → ∃ d' r ρ1, g d' ρ = some ρ1 ∧ h r ρ1 = some ρ' := fun d ρ ρ' e => by
    unfold gsC at e
    split at e
    · rename_i d' r
      cases q : g d' ρ with
      | none => rw [q] at e; cases e
      | some ρ1 => rw [q, Option.bind_some] at e; exact ⟨d', r, ρ1, q, e⟩
    · cases e
  refine ⟨fun d ρ ρ' e => ?_, fun d ρ ρ' e j hj => ?_⟩
  · obtain ⟨d', r, ρ1, e1, e2⟩ := key d ρ ρ' e
    rw [h2.len _ _ _ e2, h1.len _ _ _ e1]
  · obtain ⟨d', r, ρ1, e1, e2⟩ := key d ρ ρ' e
    rw [h2.out _ _ _ e2 j (fun z => hj (List.mem_append_right _ z)), h1.out _ _ _ e1 j (fun z => hj (List.mem_append_left _ z))]
theorem gT_ok {is : List Nat} {n : Nat} {h : List D → Ev → Option Ev} (h1 : TgsOk is h) : TgOk is (gT n h) := by
  have key : ∀ d ρ ρ', gT n h d ρ = some ρ' → ∃ r, h r ρ = some ρ' := fun d ρ ρ' e => by
    unfold gT at e
    split at e
    · split at e
      · exact ⟨_, e⟩
      · cases e
    · cases e
  exact ⟨fun d ρ ρ' e => let ⟨r, e1⟩ := key d ρ ρ' e; h1.len _ _ _ e1, fun d ρ ρ' e j hj => let ⟨r, e1⟩ := key d ρ ρ' e; h1.out _ _ _ e1 j hj⟩
/-- a, b = e -/
def asg (f : Ev → Option D) (g : D → Ev → Option Ev) (ρ : Ev) : Option Fl := (f ρ).bind fun d => (g d ρ).map .nx
theorem sAsg {is : List Nat} {g : D → Ev → Option Ev} (he : PE X e (tP X.K f)) (hg : PG X tg (tG X.K is g)) (hJ : ∀ i ∈ is, i ∉ J := by decide) (hs : swapsWithSole [tg] e pos.line X.env = pure false := by rfl) (hw : swappedStores [tg] e X.env = pure none := by rfl) (h1 : (assignEach [tg] X.env).map (·.2) = [assign tg X.env] := by rfl) : PS X (.Assign [tg] e pos) (tS X.K W J (asg f g)) :=
  PS.imp (ps_asg he hg hs hw h1) fun E σ H ⟨M, ρ, fo, fv, r, σ0, R, l, e, k⟩ => by
    unfold asg at e
    cases q : f ρ with
    | none => rw [q] at e; cases e
    | some d =>
      rw [q, Option.bind_some] at e
      cases q2 : g d ρ with
      | none => rw [q2] at e; cases e
      | some ρ1 =>
        rw [q2] at e
        cases e
        exact ⟨M, ρ, fo, fv, d, R, l.1, q, fun M1 H1 v s1 R1 d1 => ⟨M1, ρ, fo, fv, d, ρ1, R1, l.1, d1, q2, fun σ1 a1 l1 r1 R2 => k M1 H1 σ1 s1 R2 (l.to l1 r1 a1 hJ)⟩⟩

/-! ### for -/
def loop (g : D → Ev → Option Ev) (body : Ev → Option Fl) : List D → Ev → Option Fl
  | [], ρ => some (.nx ρ)
  | d :: ds, ρ => (g d ρ).bind fun ρ1 => (body ρ1).bind fun r => match r with
    | .nx ρ' => loop g body ds ρ'
    | .ct ρ' => loop g body ds ρ'
    | .bk ρ' => some (.nx ρ')
    | r => some r
def forS (f : Ev → Option (List D)) (g : D → Ev → Option Ev) (body : Ev → Option Fl) (ρ : Ev) : Option Fl := (f ρ).bind fun ds => loop g body ds ρ
theorem sFor {iter : Expr} {body : List Stmt} {fi : Ev → Option (List D)} {is : List Nat} {g : D → Ev → Option Ev} {b : Ev → Option Fl} (hp : PassesOwn (model X.prog X.w) X.A X.env X.xe) (hc : X.calm = true) (hi : PI X tg iter (tI X.K [] fi)) (hg : PG X tg (tG X.K is g)) (hb : PSs X body (tS X.K W J b)) (hJ : ∀ i ∈ is, i ∉ J := by decide)
    (hs : ∀ x, foldedSetIterable iter X.env x = pure x := by intro _; rfl) : PS X (.For tg iter body [] pos) (tS X.K W J (forS fi g b)) := PS.imp (ps_for hp hc hi hg hb hs) fun E σ H ⟨M, ρ, fo, fv, r, σ0, R, l, e, k⟩ => by
  unfold forS at e
  cases q : fi ρ with
  | none => rw [q] at e; cases e
  | some ds =>
    rw [q, Option.bind_some] at e
    refine ⟨M, ρ, fo, fv, ds, R, l.1, q, fun M0 H0 JJ s0 R0 y => ?_⟩
    refine ⟨fun i m σ H => m = ds.length - i ∧ i ≤ ds.length ∧ ∃ M1 ρ1, Same M0 M1 ∧ Rep X.K M1 H (ρ1 ++ fo) (σ ++ fv) ∧ Lk J σ0 σ ρ1 ∧ loop g b (ds.drop i) ρ1 = some r, ⟨ds.length, by omega, Nat.zero_le _, M0, ρ, Same.refl _, R0, l, by simpa using e⟩, ?_⟩
    rintro i m σ H ⟨rfl, hi, M1, ρ1, s1, R1, l1, e1⟩
    obtain ⟨go, stop, yl⟩ := y i M1 H _ _ s1 R1 (fun r hr => nomatch hr)
    by_cases hlt : i < ds.length
    · have ed : ds.drop i = ds[i] :: ds.drop (i + 1) := List.drop_eq_getElem_cons hlt
      rw [ed] at e1
      unfold loop at e1
      cases q1 : g ds[i] ρ1 with
      | none => rw [q1] at e1; cases e1
      | some ρ2 =>
        rw [q1, Option.bind_some] at e1
        cases q2 : b ρ2 with
        | none => rw [q2] at e1; cases e1
        | some r2 =>
          rw [q2, Option.bind_some] at e1
          refine .inr ⟨go hlt, fun σ' H' => ∃ M1 ρ1, Same M0 M1 ∧ Rep X.K M1 H' (ρ1 ++ fo) (σ' ++ fv) ∧ Lk J σ0 σ' ρ1 ∧ loop g b (ds.drop (i + 1)) ρ1 = some r, fun σ' H' h => ⟨ds.length - (i + 1), by omega, rfl, hlt, h⟩, fun x H' hy => ?_⟩
          obtain ⟨M2, s2, R2, d2⟩ := yl ds[i] (List.getElem?_eq_getElem hlt) x H' hy
          refine ⟨M2, ρ1, fo, fv, ds[i], ρ2, R2, l1.1, d2, q1, fun σ3 a3 l3 r3 R3 => ?_⟩
          have s02 : Same M M2 := s0.trans (s1.trans s2)
          refine ⟨M2, ρ2, fo, fv, r2, σ0, R3, l1.to l3 r3 a3 hJ, q2, ?_⟩
          cases r2 with
          | nx ρ4 => exact fun M4 H4 σ4 s4 R4 l4 => ⟨M4, ρ4, s1.trans (s2.trans s4), R4, l4, e1⟩
          | ct ρ4 => exact fun M4 H4 σ4 s4 R4 l4 => ⟨M4, ρ4, s1.trans (s2.trans s4), R4, l4, e1⟩
          | bk ρ4 => cases e1; exact fun M4 H4 σ4 s4 R4 l4 => k M4 H4 σ4 (s02.trans s4) R4 l4
          | rt o ρ4 => cases e1; exact fun M4 H4 σ4 v s4 R4 l4 => k M4 H4 σ4 v (s02.trans s4) R4 l4
          | ex x ρ4 => cases e1; exact fun M4 H4 σ4 cls d s4 R4 l4 => k M4 H4 σ4 cls d (s02.trans s4) R4 l4
    · have ei : i = ds.length := by omega
      rw [ei, List.drop_length] at e1
      cases e1
      exact .inl ⟨stop ei, k M1 H σ (s0.trans s1) R1 l1⟩

/-! ### while -/
end
end PD

namespace PD
open PySem PySem.Spec L2

/-! ### a comprehension's block -/
def wipeO (ρ : Ev) : List Nat → Ev
  | [] => ρ
  | v :: vs => (wipeO ρ vs).set v .unk
theorem wipeO_length (ρ : Ev) : ∀ vs : List Nat, (wipeO ρ vs).length = ρ.length
  | [] => rfl
  | v :: vs => by unfold wipeO; rw [List.length_set, wipeO_length ρ vs]
theorem wipeO_out {ρ : Ev} {i : Nat} : ∀ {vs : List Nat}, i ∉ vs → (wipeO ρ vs)[i]? = ρ[i]?
  | [], _ => rfl
  | v :: vs, h => by
    unfold wipeO
    rw [List.getElem?_set_ne (show v ≠ i from fun z => h (by rw [z]; exact List.mem_cons_self)), wipeO_out fun z => h (List.mem_cons_of_mem _ z)]
theorem wipeO_in {ρ : Ev} {i : Nat} (hi : i < ρ.length) : ∀ {vs : List Nat}, i ∈ vs → (wipeO ρ vs)[i]? = some .unk
  | v :: vs, h => by
    unfold wipeO
    by_cases e : v = i
    · subst e; rw [List.getElem?_set_self (by rw [wipeO_length]; exact hi)]
    · rw [List.getElem?_set_ne e]
      rcases List.mem_cons.mp h with h | h
      · exact absurd h.symm e
      · exact wipeO_in hi h
theorem wipe_in {σ : L2.St} {i : Nat} (hi : i < σ.length) : ∀ {vs : List Nat}, i ∈ vs → (wipe σ vs)[i]? = some none
  | v :: vs, h => by
    unfold wipe
    by_cases e : v = i
    · subst e; rw [List.getElem?_set_self (by rw [wipe_length]; exact hi)]
    · rw [List.getElem?_set_ne e]
      rcases List.mem_cons.mp h with h | h
      · exact absurd h.symm e
      · exact wipe_in hi h
theorem wipeO_ext {ρ ρ' : Ev} {vs : List Nat} (l : ρ'.length = ρ.length) (h : ∀ j, j ∉ vs → ρ'[j]? = ρ[j]?) : wipeO ρ' vs = wipeO ρ vs := by
  apply List.ext_getElem?
  intro j
  by_cases hj : j ∈ vs
  · by_cases hl : j < ρ.length
    · rw [wipeO_in hl hj, wipeO_in (l ▸ hl) hj]
    · rw [List.getElem?_eq_none (by rw [wipeO_length]; omega), List.getElem?_eq_none (by rw [wipeO_length]; omega)]
  · rw [wipeO_out hj, wipeO_out hj, h j hj]
theorem wipe_ext {ρ ρ' : L2.St} {vs : List Nat} (l : ρ'.length = ρ.length) (h : ∀ j, j ∉ vs → ρ'[j]? = ρ[j]?) : wipe ρ' vs = wipe ρ vs := by
  apply List.ext_getElem?
  intro j
  by_cases hj : j ∈ vs
  · by_cases hl : j < ρ.length
    · rw [wipe_in hl hj, wipe_in (l ▸ hl) hj]
    · rw [List.getElem?_eq_none (by rw [wipe_length]; omega), List.getElem?_eq_none (by rw [wipe_length]; omega)]
  · rw [wipe_out hj, wipe_out hj, h j hj]
def okW (ρ : Ev) (vs : List Nat) : Bool := vs.all fun v => match ρ[v]? with
  | some (.dat _) => true
  | some .unk => true
  | none => true
  | _ => false
section
variable {K : PySem.W.Frag} {M M' H H' : Hp}
theorem Rep.wipe {ρ fo : List O} {σ fv : List (Option V)} (R : Rep K M H (ρ ++ fo) (σ ++ fv)) (l : σ.length = ρ.length) : ∀ vs : List Nat, Rep K M H (wipeO ρ vs ++ fo) (L2.wipe σ vs ++ fv)
  | [] => R
  | v :: vs => (Rep.wipe R l vs).setU (by rw [wipe_length, wipeO_length]; exact l) none
theorem Ows.restore : ∀ {ρ ρ' : List O} {σ σ' : List (Option V)} {f : List Addr}, Ows K M H ρ' σ' f → ρ'.length = ρ.length → σ.length = ρ.length →
    (∀ j : Nat, (ρ'[j]? = ρ[j]? ∧ σ'[j]? = σ[j]?) ∨ (∃ d x, ρ[j]? = some (.dat d) ∧ σ[j]? = some (some x) ∧ Dv K M x d) ∨ ρ[j]? = some .unk) → ∃ f', f'.Sublist f ∧ Ows K M H ρ σ f'
  | [], _, [], _, _, .nil, _, _, _ => ⟨[], List.Sublist.refl _, .nil⟩
  | o :: ρ, _, v :: σ, _, _, .cons (o := o') (v := v') (f1 := f1) (f2 := f2) h hs, e, e2, k => by
    obtain ⟨f', sb, w⟩ := Ows.restore hs (ρ := ρ) (σ := σ) (by simpa using e) (by simpa using e2) (fun j => by have := k (j + 1); simpa using this)
    rcases k 0 with ⟨a, b⟩ | ⟨d, x, a, b, dv⟩ | a
    · have a : o' = o := by simpa using a
      have b : v' = v := by simpa using b
      subst a; subst b
      exact ⟨f1 ++ f', List.Sublist.append (List.Sublist.refl _) sb, .cons h w⟩
    · have a : o = .dat d := by simpa using a
      have b : v = some x := by simpa using b
      subst a; subst b
      exact ⟨[] ++ f', sb.trans (List.sublist_append_right _ _), .cons (.dat dv) w⟩
    · have a : o = .unk := by simpa using a
      subst a
      exact ⟨[] ++ f', sb.trans (List.sublist_append_right _ _), .cons .unk w⟩
  | [], _ :: _, _, _, _, _, e, _, _ => by simp at e
  | _ :: _, [], _, _, _, _, e, _, _ => by simp at e
  | [], _, _ :: _, _, _, _, _, e, _ => by simp at e
  | _ :: _, _, [], _, _, _, _, e, _ => by simp at e
theorem Rep.unwipe {ρ fo : List O} {σ fv : List (Option V)} (R : Rep K M H (ρ ++ fo) (σ ++ fv)) (l : σ.length = ρ.length) {vs : List Nat} (ok : okW ρ vs = true) (s : Same M M') {fo' : List O} {fv' : List (Option V)}
    (R' : Rep K M' H' (wipeO ρ vs ++ fo') (L2.wipe σ vs ++ fv')) : Rep K M' H' (ρ ++ fo') (σ ++ fv') := by
  obtain ⟨sm, fp, w, nd, nm⟩ := R'
  obtain ⟨fa, fb, e1, w1, w2⟩ := w.split (by rw [wipe_length, wipeO_length]; exact l)
  obtain ⟨f', sb, w3⟩ := w1.restore (ρ := ρ) (σ := σ) (wipeO_length _ _) l fun j => by
    by_cases hj : j ∈ vs
    · unfold okW at ok
      rw [List.all_eq_true] at ok
      have := ok j hj
      cases q : ρ[j]? with
      | none =>
        left
        have hl := List.getElem?_eq_none_iff.mp q
        exact ⟨List.getElem?_eq_none (by rw [wipeO_length]; exact hl), by rw [List.getElem?_eq_none (by rw [wipe_length]; omega), List.getElem?_eq_none (by omega)]⟩
      | some o =>
        rw [q] at this
        cases o with
        | unk => exact .inr (.inr rfl)
        | dat d =>
          obtain ⟨x, ex, dx⟩ := R.slot l q
          exact .inr (.inl ⟨d, x, rfl, ex, dx.mono s⟩)
        | lst _ => cases this
        | tup _ => cases this
        | dic _ _ => cases this
        | obj _ _ _ => cases this
        | raw _ => cases this
        | dicT _ _ _ => cases this
    · exact .inl ⟨wipeO_out hj, wipe_out hj⟩
  subst e1
  refine ⟨sm, f' ++ fb, w3.append w2, nd.sublist (List.Sublist.append sb (List.Sublist.refl _)), fun a ha => nm a ?_⟩
  rcases List.mem_append.mp ha with ha | ha
  · exact List.mem_append_left _ (sb.subset ha)
  · exact List.mem_append_right _ ha
end

def comp (g : D → Ev → Option Ev) (t : Ev → Option Bool) (f : Ev → Option D) (ρ : Ev) : List D → Option (List D)
  | [] => some []
  | d :: ds => (g d ρ).bind fun ρ1 => (t ρ1).bind fun b => if b = true then (f ρ1).bind fun y => (comp g t f ρ ds).map (y :: ·) else comp g t f ρ ds
def yes (_ : Ev) : Option Bool := some true
def lcO (fi : Ev → Option (List D)) (g : D → Ev → Option Ev) (t : Ev → Option Bool) (f : Ev → Option D) (vs : List Nat) (ρ : Ev) : Option O := if okW ρ vs = true then
  (fi ρ).bind fun ds => (comp g t f (wipeO ρ vs) ds).bind fun ys => if ys.length ≤ sizeLine then some (.lst (ys.map .dat)) else none else none
def lcD (fi : Ev → Option (List D)) (g : D → Ev → Option Ev) (t : Ev → Option Bool) (f : Ev → Option D) (vs : List Nat) (ρ : Ev) : Option D := if okW ρ vs = true then
  (fi ρ).bind fun ds => (comp g t f (wipeO ρ vs) ds).bind fun ys => if ys.length ≤ sizeLine then some (.lst ys) else none else none
theorem toDs_dat : ∀ ys : List D, O.toDs (ys.map .dat) = some ys
  | [] => rfl
  | y :: ys => by
    show (match O.toD (.dat y), O.toDs (ys.map .dat) with | some d, some ds => some (d :: ds) | _, _ => none) = _
    rw [toDs_dat ys]
    rfl
section
variable {X : Cx} {W : WX} {J : List Nat} {pos : Pos} {tg iter elt : Expr} {ifs : List Expr} {scope : Scope} {own : List (Str × Nat)} {fi : Ev → Option (List D)} {is kn : List Nat} {g : D → Ev → Option Ev} {t : Ev → Option Bool} {f : Ev → Option D}
theorem tYes_of {K : PySem.W.Frag} {σ : L2.St} {H : Hp} {Q : Bool → Hp → Prop} (h : tT K yes σ H Q) : tYes σ H Q := by
  obtain ⟨M, ρ, fo, fv, b, R, l, e, k⟩ := h
  cases e
  exact k M H (Same.refl _) R
theorem ptsNil : PTs X [] (tT X.K yes) := ⟨fun p s σ H Q I h => pts_nil.run p s σ H Q I (tYes_of h)⟩
theorem ptsOne {c : Expr} (h : PT X c (tT X.K t)) : PTs X [c] (tT X.K t) := pts_one h
theorem lc_of {K : PySem.W.Frag} {vs kn : List Nat} (ok : TgOk is g) (hv : ∀ i ∈ is, i ∈ vs) (hkn : ∀ ρ ds, fi ρ = some ds → ∀ k ∈ kn, k < ρ.length) (hkv : ∀ k ∈ kn, k ∉ vs) {σ : L2.St} {H : Hp} {Q : VK} (h : tO K (lcO fi g t f vs) σ H Q) : tLc (tI K kn fi) (tG K is g) (tT K t) (tP K f) vs σ H Q := by
  obtain ⟨M, ρ, fo, fv, o, R, l, e, k⟩ := h
  unfold lcO at e
  by_cases hw : okW ρ vs = true
  · rw [if_pos hw] at e
    cases q : fi ρ with
    | none => rw [q] at e; cases e
    | some ds =>
      rw [q, Option.bind_some] at e
      cases q2 : comp g t f (wipeO ρ vs) ds with
      | none => rw [q2] at e; cases e
      | some ys =>
        rw [q2, Option.bind_some] at e
        by_cases hz : ys.length ≤ sizeLine
        · rw [if_pos hz] at e
          cases e
          refine ⟨M, ρ, fo, fv, ds, R, l, q, fun M0 H0 J s0 R0 y DD hD => ?_⟩
          have lw : (L2.wipe σ vs).length = (wipeO ρ vs).length := by rw [wipe_length, wipeO_length]; exact l
          refine ⟨fun i m H => m = ds.length - i ∧ i ≤ ds.length ∧ ∃ M1 acc rest, Same M0 M1 ∧ Rep K M1 H (wipeO ρ vs ++ .lst (acc.map .dat) :: fo) (L2.wipe σ vs ++ some (.ref DD) :: fv) ∧ comp g t f (wipeO ρ vs) (ds.drop i) = some rest ∧ ys = acc ++ rest,
            ⟨ds.length, by omega, Nat.zero_le _, M0, [], ys, Same.refl _, (R0.newL l hD .nil).wipe l vs, by simpa using q2, rfl⟩, ?_⟩
          rintro i m H ⟨rfl, hi, M1, acc, rest, s1, R1, e1, ey⟩
          obtain ⟨go, stop, yl⟩ := y i M1 H _ _ s1 R1 (fun r hr => by
            obtain ⟨k, hk, rfl⟩ := List.mem_map.mp hr
            have h1 := hkn ρ ds q k hk
            have h2 := hkv k hk
            refine List.mem_of_getElem? (i := k) ?_
            have a1 : (wipeO ρ vs)[k]? = some (ρ.getD k .unk) := by rw [wipeO_out h2, List.getElem?_eq_getElem h1, List.getD_eq_getElem?_getD, List.getElem?_eq_getElem h1]; rfl
            have a2 : (L2.wipe σ vs)[k]? = some (σ.getD k none) := by rw [wipe_out h2, List.getElem?_eq_getElem (by omega), List.getD_eq_getElem?_getD, List.getElem?_eq_getElem (by omega)]; rfl
            rw [List.getElem?_zip_eq_some]
            exact ⟨by rw [List.getElem?_append_left (by rw [wipeO_length]; exact h1)]; exact a1, by rw [List.getElem?_append_left (by rw [wipe_length]; omega)]; exact a2⟩)
          by_cases hlt : i < ds.length
          · have ed : ds.drop i = ds[i] :: ds.drop (i + 1) := List.drop_eq_getElem_cons hlt
            rw [ed] at e1
            unfold comp at e1
            cases q3 : g ds[i] (wipeO ρ vs) with
            | none => rw [q3] at e1; cases e1
            | some ρ2 =>
              rw [q3, Option.bind_some] at e1
              cases q4 : t ρ2 with
              | none => rw [q4] at e1; cases e1
              | some b =>
                rw [q4, Option.bind_some] at e1
                refine .inr ⟨go hlt, fun H' => ∃ M1 acc rest, Same M0 M1 ∧ Rep K M1 H' (wipeO ρ vs ++ .lst (acc.map .dat) :: fo) (L2.wipe σ vs ++ some (.ref DD) :: fv) ∧ comp g t f (wipeO ρ vs) (ds.drop (i + 1)) = some rest ∧ ys = acc ++ rest,
                  fun H' h => ⟨ds.length - (i + 1), by omega, rfl, hlt, h⟩, fun x H' hy => ?_⟩
                obtain ⟨M2, s2, R2, d2⟩ := yl ds[i] (List.getElem?_eq_getElem hlt) x H' hy
                refine ⟨M2, wipeO ρ vs, .lst (acc.map .dat) :: fo, some (.ref DD) :: fv, ds[i], ρ2, R2, lw, d2, q3, fun σ3 a3 l3 r3 R3 => ?_⟩
                have ew : L2.wipe σ3 vs = L2.wipe σ vs := by
                  refine wipe_ext (by rw [l3, wipe_length]) fun j hj => ?_
                  rw [a3 j fun z => hj (hv j z), wipe_out hj]
                have er : wipeO ρ2 vs = wipeO ρ vs := by
                  refine wipeO_ext (by rw [r3, wipeO_length]) fun j hj => ?_
                  rw [ok.out _ _ _ q3 j fun z => hj (hv j z), wipeO_out hj]
                have l23 : σ3.length = ρ2.length := by omega
                refine ⟨ew, M2, ρ2, .lst (acc.map .dat) :: fo, some (.ref DD) :: fv, b, R3, l23, q4, fun M4 H4 s4 R4 => ?_⟩
                cases b with
                | false =>
                  refine iteF ⟨M4, acc, rest, s1.trans (s2.trans s4), ?_, e1, ey⟩
                  have := R4.wipe l23 vs
                  rw [ew, er] at this
                  exact this
                | true =>
                  rw [if_pos rfl] at e1
                  cases q5 : f ρ2 with
                  | none => rw [q5] at e1; cases e1
                  | some z =>
                    rw [q5, Option.bind_some] at e1
                    cases q6 : comp g t f (wipeO ρ vs) (ds.drop (i + 1)) with
                    | none => rw [q6] at e1; cases e1
                    | some rest2 =>
                      rw [q6] at e1
                      cases e1
                      refine iteT ⟨M4, ρ2, .lst (acc.map .dat) :: fo, some (.ref DD) :: fv, z, R4, l23, q5, fun M5 H5 v5 s5 R5 d5 => ?_⟩
                      have R5' : Rep K M5 H5 ((ρ2 ++ [.lst (acc.map .dat)]) ++ fo) ((σ3 ++ [some (.ref DD)]) ++ fv) := by simpa using R5
                      obtain ⟨a, xs, ea, ha, hl, up⟩ := R5'.ownL (by simp [l23]) (i := ρ2.length) (os := acc.map .dat) (by simp)
                      have : a = DD := by rw [List.getElem?_append_right (by omega)] at ea; simp [l23] at ea; exact ea.symm
                      subst this
                      refine ⟨xs, ha, by rw [hl, List.length_map]; rw [ey] at hz; simp at hz; omega, M5, acc ++ [z], rest2, s1.trans (s2.trans (s4.trans s5)), ?_, rfl, by rw [ey]; simp⟩
                      have R6 := up v5 z d5
                      rw [List.set_append_right _ _ (by omega)] at R6
                      simp only [Nat.sub_self, List.set_cons_zero, List.append_assoc, List.cons_append, List.nil_append] at R6
                      have R7 := R6.wipe l23 vs
                      rw [ew, er] at R7
                      simpa using R7
          · have ei : i = ds.length := by omega
            rw [ei, List.drop_length] at e1
            cases e1
            rw [List.append_nil] at ey
            subst ey
            exact .inl ⟨stop ei, k M1 H _ (s0.trans s1) (R0.unwipe l hw s1 R1)⟩
        · rw [if_neg hz] at e; cases e
  · rw [if_neg hw] at e; cases e
theorem oLc (own : List (Str × Nat)) (hc : X.calm = true) (hN : X.N.Nodup) (hi : PI X tg iter (tI X.K kn fi)) (bo : BlkOk X.N X.env.scope scope own)
    (hg : ∀ (s : Shared) (H : Hp) (C : Addr) (cl : List (Str × Addr)) (fp : List Addr), PG (X.blk s H scope (compEnvC scope cl C X.env) fp) tg (tG X.K is g)) (ht : ∀ (s : Shared) (H : Hp) (C : Addr) (cl : List (Str × Addr)) (fp : List Addr), PTs (X.blk s H scope (compEnvC scope cl C X.env) fp) ifs (tT X.K t))
    (he : ∀ (s : Shared) (H : Hp) (C : Addr) (cl : List (Str × Addr)) (fp : List Addr), PE (X.blk s H scope (compEnvC scope cl C X.env) fp) elt (tP X.K f)) (ok : TgOk is g) (hv : ∀ i ∈ is, i ∈ own.map (·.2) := by decide) (hkn : ∀ ρ ds, fi ρ = some ds → ∀ k ∈ kn, k < ρ.length := by intro _ _ _ _ hk; cases hk) (hkv : ∀ k ∈ kn, k ∉ own.map (·.2) := by decide) (hs : ∀ x, foldedSetIterable iter X.env x = pure x := by intro _; rfl) :
    PE X (.ListComp elt [⟨tg, iter, ifs, 0⟩] scope pos) (tO X.K (lcO fi g t f (own.map (·.2)))) := PE.imp (pe_lc hc hN hi bo hg ht he hs) fun _ _ _ h => lc_of ok hv hkn hkv h
theorem lcD_eq (ρ : Ev) (vs : List Nat) : frz (lcO fi g t f vs) ρ = lcD fi g t f vs ρ := by
  unfold frz lcO lcD
  by_cases hw : okW ρ vs = true
  · rw [if_pos hw, if_pos hw]
    cases q : fi ρ with
    | none => rfl
    | some ds =>
      rw [Option.bind_some, Option.bind_some]
      cases q2 : comp g t f (wipeO ρ vs) ds with
      | none => rfl
      | some ys =>
        rw [Option.bind_some, Option.bind_some]
        by_cases hz : ys.length ≤ sizeLine
        · rw [if_pos hz, if_pos hz]
          show (O.toDs (ys.map .dat)).map D.lst = _
          rw [toDs_dat]
          rfl
        · rw [if_neg hz, if_neg hz]; rfl
  · rw [if_neg hw, if_neg hw]; rfl
theorem pLc (own : List (Str × Nat)) (hc : X.calm = true) (hN : X.N.Nodup) (hi : PI X tg iter (tI X.K kn fi)) (bo : BlkOk X.N X.env.scope scope own)
    (hg : ∀ (s : Shared) (H : Hp) (C : Addr) (cl : List (Str × Addr)) (fp : List Addr), PG (X.blk s H scope (compEnvC scope cl C X.env) fp) tg (tG X.K is g)) (ht : ∀ (s : Shared) (H : Hp) (C : Addr) (cl : List (Str × Addr)) (fp : List Addr), PTs (X.blk s H scope (compEnvC scope cl C X.env) fp) ifs (tT X.K t))
    (he : ∀ (s : Shared) (H : Hp) (C : Addr) (cl : List (Str × Addr)) (fp : List Addr), PE (X.blk s H scope (compEnvC scope cl C X.env) fp) elt (tP X.K f)) (ok : TgOk is g) (hv : ∀ i ∈ is, i ∈ own.map (·.2) := by decide) (hkn : ∀ ρ ds, fi ρ = some ds → ∀ k ∈ kn, k < ρ.length := by intro _ _ _ _ hk; cases hk) (hkv : ∀ k ∈ kn, k ∉ own.map (·.2) := by decide) (hs : ∀ x, foldedSetIterable iter X.env x = pure x := by intro _; rfl) :
    PE X (.ListComp elt [⟨tg, iter, ifs, 0⟩] scope pos) (tP X.K (lcD fi g t f (own.map (·.2)))) := by
  have h := pO (oLc (pos := pos) own hc hN hi bo hg ht he ok hv hkn hkv hs)
  rw [show frz (lcO fi g t f (own.map (·.2))) = lcD fi g t f (own.map (·.2)) from funext fun ρ => lcD_eq ρ _] at h
  exact h
end

/-! ### defs -/
inductive Rz where
  | ok (o : O) | ex (x : Exn)
/-- the promise of a def that changes nothing -/
def spX (K : PySem.W.Frag) (n : Nat) (m : List D → Option Rz) : Sp := fun vs H Q E => ∃ M fo fv ds r, vs.length = n ∧ Rep K M H fo fv ∧ Dvs K M vs ds ∧ m ds = some r ∧ match r with
  | .ok o => ∀ M' H' v, Same M M' → Rep K M' H' (o :: fo) (some v :: fv) → Q v H'
  | .ex x => ∀ M' H' cls d, Same M M' → Rep K M' H' fo fv → ExR K M' x cls d → E cls d H'
/-- .. that raises nothing and gives a frozen thing -/
def spP (K : PySem.W.Frag) (n : Nat) (m : List D → Option D) : Sp := fun vs H Q _ => vs.length = n ∧ rDs K m vs H Q
/-- .. that raises nothing and gives a new thing -/
def spO (K : PySem.W.Frag) (n : Nat) (m : List D → Option O) : Sp := fun vs H Q _ => vs.length = n ∧ rOs K m vs H Q
def env0 (n : Nat) (ds : List D) : Ev := ds.map .dat ++ List.replicate (n - ds.length) .unk
def outO (r : Fl) : Option O := match r with
  | .nx _ => some (.dat .non)
  | .rt o _ => some o
  | _ => none
def outX (r : Fl) : Option Rz := match r with
  | .nx _ => some (.ok (.dat .non))
  | .rt o _ => some (.ok o)
  | .ex x _ => some (.ex x)
  | _ => none
def runO (n : Nat) (b : Ev → Option Fl) (ds : List D) : Option O := (b (env0 n ds)).bind outO
def runP (n : Nat) (b : Ev → Option Fl) (ds : List D) : Option D := (runO n b ds).bind O.toD
def runX (n : Nat) (b : Ev → Option Fl) (ds : List D) : Option Rz := (b (env0 n ds)).bind outX
section
variable {K : PySem.W.Frag} {M H : Hp}
theorem Rep.dropL {l r : List O} {lv rv : List (Option V)} (R : Rep K M H (l ++ r) (lv ++ rv)) (e : lv.length = l.length) : Rep K M H r rv := by
  obtain ⟨s, fp, w, nd, nm⟩ := R
  obtain ⟨fa, fb, e1, w1, w2⟩ := w.split e
  subst e1
  exact ⟨s, fb, w2, nd.sublist (List.sublist_append_right _ _), fun a ha => nm a (List.mem_append_right _ ha)⟩
theorem ows_unk : ∀ n : Nat, Ows K M H (List.replicate n O.unk) (List.replicate n none) []
  | 0 => .nil
  | n + 1 => by
    have := Ows.cons (Ow.unk (K := K) (M := M) (H := H) (v := none)) (ows_unk n)
    exact this
theorem Rep.enter {fo : List O} {fv : List (Option V)} {vs : List V} {ds : List D} {N : List Str} (R : Rep K M H fo fv) (d : Dvs K M vs ds) : Rep K M H (env0 N.length ds ++ fo) (L2.start N vs ++ fv) ∧ (L2.start N vs).length = (env0 N.length ds).length := by
  have hl := d.length
  refine ⟨?_, by simp [L2.start, env0, hl]⟩
  obtain ⟨s, fp, w, nd, nm⟩ := R
  refine ⟨s, ([] ++ []) ++ fp, ?_, by simpa using nd, fun a ha => nm a (by simpa using ha)⟩
  unfold env0 L2.start
  rw [hl]
  exact ((ows_dat d).append (ows_unk _)).append w
end
section
variable {P : Program} {w : World} {K : PySem.W.Frag} {mg : Str → Option Value} {base : Heap}
abbrev W0 : WX := fun _ _ _ _ => False
theorem fnO {x qual : Str} {st : Stmt} {f : Addr} {fd : FuncData} {N ps : List Str} {k : Nat} {b : Ev → Option Fl} (F : Fun K x qual st f fd) (S : FnScope N ps (defScope st))
    (hb : ∀ (cdv : Value) (A : Around) (outer : List Env) (s : Shared) (H : Hp) (E : XK), Room k (A.deeper (PyProof.Rows.envOfC qual (defScope st) s.heap.objs.size f cdv)) →
      PSs (cxOf CX0 P w K mg base N qual (defScope st) f cdv A outer s H E).nox (defBody st) (tS K W0 [] b)) : FnOk P w K mg base CX0 (k + 1) f fd ps (spO K ps.length (runO N.length b)) := by
  refine F.ok S (fun vs H Q E h => h.1) fun cdv A outer s H vs Q E hr h => ⟨_, hb cdv A outer s H E hr, ?_⟩
  obtain ⟨hl, M, fo, fv, ds, o, R, dv, e, k⟩ := h
  obtain ⟨R1, l1⟩ := R.enter (N := N) dv
  unfold runO at e
  cases q : b (env0 N.length ds) with
  | none => rw [q] at e; cases e
  | some r =>
    rw [q, Option.bind_some] at e
    refine ⟨M, _, fo, fv, r, L2.start N vs, R1, ⟨l1, fun _ z => nomatch z⟩, q, ?_⟩
    cases r with
    | nx ρ =>
      cases e
      exact fun M1 H1 σ1 s1 R1 l1 => k M1 H1 _ s1 ((R1.push l1.1 .non).dropL l1.1)
    | rt o' ρ =>
      cases e
      exact fun M1 H1 σ1 v s1 R1 l1 => k M1 H1 v s1 (R1.dropL l1.1)
    | bk ρ => cases e
    | ct ρ => cases e
    | ex x ρ => cases e
theorem spO_P {n : Nat} {b : Ev → Option Fl} {ps : List Str} {vs : List V} {H : Hp} {Q : VK} {E : XK} (h : spP K ps.length (runP n b) vs H Q E) : spO K ps.length (runO n b) vs H Q E := by
  obtain ⟨hl, M, fo, fv, ds, d, R, dv, e, k⟩ := h
  unfold runP at e
  cases q : runO n b ds with
  | none => rw [q] at e; cases e
  | some o =>
    rw [q, Option.bind_some] at e
    refine ⟨hl, M, fo, fv, ds, o, R, dv, q, fun M1 H1 v s1 R1 => ?_⟩
    obtain ⟨M2, s2, R2, d2⟩ := Rep.frz (l := []) (lv := []) R1 rfl rfl e
    exact k M2 H1 v (s1.trans s2) (Rep.drop (l := []) (lv := []) R2 rfl) d2
theorem fnP {x qual : Str} {st : Stmt} {f : Addr} {fd : FuncData} {N ps : List Str} {k : Nat} {b : Ev → Option Fl} (F : Fun K x qual st f fd) (S : FnScope N ps (defScope st))
    (hb : ∀ (cdv : Value) (A : Around) (outer : List Env) (s : Shared) (H : Hp) (E : XK), Room k (A.deeper (PyProof.Rows.envOfC qual (defScope st) s.heap.objs.size f cdv)) →
      PSs (cxOf CX0 P w K mg base N qual (defScope st) f cdv A outer s H E).nox (defBody st) (tS K W0 [] b)) : FnOk P w K mg base CX0 (k + 1) f fd ps (spP K ps.length (runP N.length b)) :=
  (fnO F S hb).imp fun vs H Q E h => spO_P h
end
end PD

namespace PD
open PySem PySem.Spec L2

/-! ### calls of defs -/
section
variable {X : Cx} {W : WX} {J : List Nat} {pos p : Pos} {a b : Expr} {e : Expr} {es : List Expr} {ga : Ev → Option (List D)} {k : Nat} {f : Addr} {fd : FuncData} {ps : List Str} {x : Str} {n : Nat}
theorem tCall_P {K : PySem.W.Frag} {m : List D → Option D} {ga : Ev → Option (List D)} {σ : L2.St} {H : Hp} {Q : VK} (h : tP K (cB ga fun ds => if ds.length = n then m ds else none) σ H Q) : tCall (spP K n m) [] E0 (tAr K ga) σ H Q := by
  obtain ⟨M, ρ, fo, fv, d, R, l, e, kk⟩ := h
  obtain ⟨ds, eg, ef⟩ := cB_some e
  refine ⟨M, ρ, fo, fv, ds, R, l, eg, fun M1 H1 vs s1 R1 d1 => ?_⟩
  split at ef
  · rename_i hl
    exact ⟨by rw [List.append_nil, d1.length]; exact hl, M1, ρ ++ fo, σ ++ fv, ds, d, R1, by rw [List.append_nil]; exact d1, ef, fun M2 H2 v s2 R2 d2 => kk M2 H2 v (s1.trans s2) R2 d2⟩
  · cases ef
def len? (n : Nat) (m : List D → Option D) (ds : List D) : Option D := if ds.length = n then m ds else none
/-- f(e, ..) -/
theorem pCall {m : List D → Option D} (F : FnOk X.prog X.w X.K X.mg X.base CX0 k f fd ps (spP X.K n m)) (hr : Room k X.A) (hm : X.mg x = some (.ref f)) (hk : PySem.W.keepIn X.K (.ref f) = true) (hb : Binds X.K fd ps []) (ha : PA X (e :: es) (tAr X.K ga)) (hg : Gl X x := by rfl)
    (hdb : (x == ("__debug__" : Str)) = false := by decide) (he : starEach (e :: es) X.env = (false, eval e X.env) :: starEach es X.env := by rfl) (hpl : (backTo pos (starEach es X.env)).any (·.1) = false := by rfl) : PE X (.Call (.Name x p) (e :: es) [] pos) (tP X.K (cB ga (len? n m))) :=
  PE.imp (pe_call F hr hg hm hk hb .nil pass0 ha hdb he hpl) fun _ _ _ h => tCall_P h
end

section
variable {X : Cx}
theorem OpR.imp {f : Value → Value → Sem Value} {r r' : R2} (h : OpR X f r) (i : ∀ x y H Q, r' x y H Q → r x y H Q) : OpR X f r' := fun p s σ H x y v u Q I rx ry w => h p s σ H x y v u Q I rx ry (i x y H Q w)
theorem UnR.imp {f : Value → Sem Value} {r r' : V → Hp → VK → Prop} (h : UnR X f r) (i : ∀ x H Q, r' x H Q → r x H Q) : UnR X f r' := fun p s σ H x v Q I rx w => h p s σ H x v Q I rx (i x H Q w)
theorem CallR.imp {f : Value} {r r' : List V → Hp → VK → Prop} (h : CallR X f r) (i : ∀ x H Q, r' x H Q → r x H Q) : CallR X f r' := fun p s σ H x v Q I rx w => h p s σ H x v Q I rx (i x H Q w)
theorem CallR.or {f : Value} {r r' : List V → Hp → VK → Prop} (h : CallR X f r) (h' : CallR X f r') : CallR X f (fun x H Q => r x H Q ∨ r' x H Q) := fun p s σ H x v Q I rx w => w.elim (h p s σ H x v Q I rx) (h' p s σ H x v Q I rx)
theorem IxR.imp {r r' : R2} (h : IxR X r) (i : ∀ x y H Q, r' x y H Q → r x y H Q) : IxR X r' := fun v sl p s σ H x y a b Q I rx ry w hs => h v sl p s σ H x y a b Q I rx ry (i x y H Q w) hs
theorem MtR.imp {id : String} {r r' : V → List V → Hp → VK → Prop} (h : MtR X id r) (i : ∀ x xs H Q, r' x xs H Q → r x xs H Q) : MtR X id r' := fun p s σ H x xs v us Q I rx rs w => h p s σ H x xs v us Q I rx rs (i x xs H Q w)
theorem SlR.imp {r r' : V → Option Int → Option Int → Hp → VK → Prop} (h : SlR X r) (i : ∀ x lo hi H Q, r' x lo hi H Q → r x lo hi H Q) : SlR X r' := fun p s σ H x v vl vu lo hi sl Q I rx hs pl pu w => h p s σ H x v vl vu lo hi sl Q I rx hs pl pu (i x lo hi H Q w)

/-! ### operators -/
/-- two ints -/
def i2 (C : Int → Int → Bool) (g : Int → Int → D) (x y : D) : Option D := match x, y with
  | .int i, .int j => if C i j = true then some (g i j) else none
  | _, _ => none
theorem i2_some {C : Int → Int → Bool} {g : Int → Int → D} {x y d : D} (h : i2 C g x y = some d) : ∃ i j, x = .int i ∧ y = .int j ∧ C i j = true ∧ d = g i j := by
  unfold i2 at h
  split at h
  · rename_i i j
    split at h
    · cases h; exact ⟨i, j, rfl, rfl, by assumption, rfl⟩
    · cases h
  · cases h
theorem op_i2 {f : Value → Value → Sem Value} {C : Int → Int → Prop} {Cb : Int → Int → Bool} {g : Int → Int → V} {gd : Int → Int → D} (h : OpR X f (rI C g)) (hC : ∀ i j, Cb i j = true → C i j) (hd : ∀ i j M, Dv X.K M (g i j) (gd i j)) : OpR X f (rD X.K (i2 Cb gd)) :=
  OpR.imp h fun x y H Q ⟨M, fo, fv, dx, dy, d, R, d1, d2, e, k⟩ => by
    obtain ⟨i, j, rfl, rfl, hc, rfl⟩ := i2_some e
    cases d1; cases d2
    exact ⟨i, j, rfl, rfl, hC i j hc, k M H _ (Same.refl _) R (hd i j M)⟩
theorem op_i20 {f : Value → Value → Sem Value} {g : Int → Int → V} {gd : Int → Int → D} (h : OpR X f (rI0 g)) (hd : ∀ i j M, Dv X.K M (g i j) (gd i j)) : OpR X f (rD X.K (i2 (fun _ _ => true) gd)) :=
  OpR.imp h fun x y H Q ⟨M, fo, fv, dx, dy, d, R, d1, d2, e, k⟩ => by
    obtain ⟨i, j, rfl, rfl, hc, rfl⟩ := i2_some e
    cases d1; cases d2
    exact ⟨i, j, rfl, rfl, k M H _ (Same.refl _) R (hd i j M)⟩
def s2 (C : Str → Str → Bool) (g : Str → Str → D) (x y : D) : Option D := match x, y with
  | .str i, .str j => if C i j = true then some (g i j) else none
  | _, _ => none
theorem s2_some {C : Str → Str → Bool} {g : Str → Str → D} {x y d : D} (h : s2 C g x y = some d) : ∃ i j, x = .str i ∧ y = .str j ∧ C i j = true ∧ d = g i j := by
  unfold s2 at h
  split at h
  · rename_i i j
    split at h
    · cases h; exact ⟨i, j, rfl, rfl, by assumption, rfl⟩
    · cases h
  · cases h
def orD (f g : D → D → Option D) (x y : D) : Option D := match f x y with
  | some d => some d
  | none => g x y
theorem op_orD {f : Value → Value → Sem Value} {g g' : D → D → Option D} (h : OpR X f (rD X.K g)) (h' : OpR X f (rD X.K g')) : OpR X f (rD X.K (orD g g')) := OpR.imp (h.or h') fun x y H Q ⟨M, fo, fv, dx, dy, d, R, d1, d2, e, k⟩ => by
  unfold orD at e
  split at e
  · rename_i q; cases e; exact .inl ⟨M, fo, fv, dx, dy, d, R, d1, d2, q, k⟩
  · exact .inr ⟨M, fo, fv, dx, dy, d, R, d1, d2, e, k⟩
abbrev addI : D → D → Option D := i2 (fun _ _ => true) fun i j => .int (i + j)
abbrev addS : D → D → Option D := s2 (fun i j => decide (i.length + j.length ≤ sizeLine)) fun i j => .str (i ++ j)
abbrev subI : D → D → Option D := i2 (fun _ _ => true) fun i j => .int (i - j)
def okMul (i j : Int) : Bool := decide ((-(2 ^ 64) < i ∧ i < 2 ^ 64) ∨ (-(2 ^ 64) < j ∧ j < 2 ^ 64))
abbrev mulI : D → D → Option D := i2 okMul fun i j => .int (i * j)
abbrev modI : D → D → Option D := i2 (fun _ j => decide (0 < j)) fun i j => .int (i % j)
abbrev divI : D → D → Option D := i2 (fun _ j => decide (0 < j ∧ j < 1073741824)) fun i j => .int (i / j)
abbrev powI : D → D → Option D := i2 (fun i j => decide (0 ≤ j ∧ j ≤ 1000000 ∧ i.natAbs < 2 ^ 64)) fun i j => .int (i ^ j.toNat)
theorem oAddI : OpR X (binaryOp .Add) (rD X.K addI) := op_i20 op_add fun _ _ _ => .int _
theorem oSub : OpR X (binaryOp .Sub) (rD X.K subI) := op_i20 op_sub fun _ _ _ => .int _
theorem oMul : OpR X (binaryOp .Mult) (rD X.K mulI) := op_i2 op_mul (fun i j h => by simpa [okMul, CMul] using h) fun _ _ _ => .int _
theorem oMod : OpR X (binaryOp .Mod) (rD X.K modI) := op_i2 op_mod (fun i j h => of_decide_eq_true h) fun _ _ _ => .int _
theorem oDiv : OpR X (binaryOp .FloorDiv) (rD X.K divI) := op_i2 op_fdiv (fun i j h => by simpa [CDiv] using h) fun _ _ _ => .int _
theorem oPow : OpR X (binaryOp .Pow) (rD X.K powI) := op_i2 op_pow (fun i j h => by simpa [CPow] using h) fun _ _ _ => .int _
theorem oAddS : OpR X (binaryOp .Add) (rD X.K addS) := OpR.imp op_add_str fun x y H Q ⟨M, fo, fv, dx, dy, d, R, d1, d2, e, k⟩ => by
  obtain ⟨i, j, rfl, rfl, hc, rfl⟩ := s2_some e
  cases d1; cases d2
  exact ⟨i, j, rfl, rfl, of_decide_eq_true hc, k M H _ (Same.refl _) R (.str _)⟩
abbrev addD : D → D → Option D := orD addI addS
theorem oAdd : OpR X (binaryOp .Add) (rD X.K addD) := op_orD oAddI oAddS
abbrev ltI : D → D → Option D := i2 (fun _ _ => true) fun i j => .bl (decide (i < j))
abbrev leI : D → D → Option D := i2 (fun _ _ => true) fun i j => .bl (decide (i ≤ j))
abbrev gtI : D → D → Option D := i2 (fun _ _ => true) fun i j => .bl (decide (j < i))
abbrev geI : D → D → Option D := i2 (fun _ _ => true) fun i j => .bl (decide (j ≤ i))
theorem oLt : OpR X (compareOp .Lt) (rD X.K ltI) := op_i20 op_lt fun _ _ _ => .bl _
theorem oLe : OpR X (compareOp .LtE) (rD X.K leI) := op_i20 op_le fun _ _ _ => .bl _
theorem oGt : OpR X (compareOp .Gt) (rD X.K gtI) := op_i20 op_gt fun _ _ _ => .bl _
theorem oGe : OpR X (compareOp .GtE) (rD X.K geI) := op_i20 op_ge fun _ _ _ => .bl _
/-- a < b < c -/
def chn (fa fb fc : Ev → Option D) (g h : D → D → Option D) (ρ : Ev) : Option D := (fa ρ).bind fun x => (fb ρ).bind fun y => (g x y).bind fun r => match r with
  | .bl true => (fc ρ).bind fun z => h y z
  | .bl false => some (.bl false)
  | _ => none
theorem chain_of {K : PySem.W.Frag} {fa fb fc : Ev → Option D} {g h : D → D → Option D} {σ : L2.St} {H : Hp} {Q : VK} (hh : tP K (chn fa fb fc g h) σ H Q) : tChain (rD K g) (rD K h) (tP K fa) (tP K fb) (tP K fc) σ H Q := by
  obtain ⟨M, ρ, fo, fv, d, R, l, e, k⟩ := hh
  unfold chn at e
  cases q1 : fa ρ with
  | none => rw [q1] at e; cases e
  | some x =>
    cases q2 : fb ρ with
    | none => rw [q1, Option.bind_some, q2] at e; cases e
    | some y =>
      rw [q1, Option.bind_some, q2, Option.bind_some] at e
      cases q3 : g x y with
      | none => rw [q3] at e; cases e
      | some r =>
        rw [q3, Option.bind_some] at e
        refine ⟨M, ρ, fo, fv, x, R, l, q1, fun M1 H1 v1 s1 R1 d1 => ⟨M1, ρ, fo, fv, y, R1, l, q2, fun M2 H2 v2 s2 R2 d2 => ⟨M2, ρ ++ fo, σ ++ fv, x, y, r, R2, d1.mono s2, d2, q3, fun M3 H3 v3 s3 R3 d3 => ?_⟩⟩⟩
        split at e
        · cases d3
          refine ⟨true, rfl, iteT ?_⟩
          cases q4 : fc ρ with
          | none => rw [q4] at e; cases e
          | some z =>
            rw [q4, Option.bind_some] at e
            exact ⟨M3, ρ, fo, fv, z, R3, l, q4, fun M4 H4 v4 s4 R4 d4 => ⟨M4, ρ ++ fo, σ ++ fv, y, z, d, R4, d2.mono (s3.trans s4), d4, e, fun M5 H5 v5 s5 R5 d5 => k M5 H5 v5 (s1.trans (s2.trans (s3.trans (s4.trans s5)))) R5 d5⟩⟩
        · cases d3
          cases e
          exact ⟨false, rfl, iteF (k M3 H3 _ (s1.trans (s2.trans s3)) R3 (.bl _))⟩
        · cases e
theorem pChain {op op' : CmpOp} {a b c : Expr} {pos : Pos} {fa fb fc : Ev → Option D} {g h : D → D → Option D} (ho : OpR X (compareOp op) (rD X.K g)) (ho' : OpR X (compareOp op') (rD X.K h)) (ha : PE X a (tP X.K fa)) (hb : PE X b (tP X.K fb)) (hc : PE X c (tP X.K fc)) (hm : lastMarks [op, op'] [b, c] = false := by with_unfolding_all rfl) :
    PE X (.Compare a [op, op'] [b, c] pos) (tP X.K (chn fa fb fc g h)) := PE.imp (pe_chain ho ho' ha hb hc hm) fun _ _ _ h => chain_of h
end
end PD

namespace PD
open PySem PySem.Spec L2

abbrev kI (i : Int) : Ev → Option D := fun _ => some (.int i)
abbrev kS (x : Str) : Ev → Option D := fun _ => some (.str x)
abbrev kB (b : Bool) : Ev → Option D := fun _ => some (.bl b)
abbrev kN : Ev → Option D := fun _ => some .non
/-! ### data as PyData -/
mutual
def D.py : D → Option PyData
  | .non => some .none
  | .bl b => some (.bool b)
  | .int i => some (.int i)
  | .str x => some (.str x)
  | .lst xs => (D.pys xs).map .list
  | .tup xs => (D.pys xs).map .tuple
  | .dic _ _ => none
  | .obj _ _ _ => none
  | .exn _ _ _ _ _ => none
  | .tagM _ _ => none
  | .tagP _ _ => none
  | .dicT _ _ _ => none
def D.pys : List D → Option (List PyData)
  | [] => some []
  | d :: ds => match D.py d, D.pys ds with
    | some p, some ps => some (p :: ps)
    | _, _ => none
end
section
variable {K : PySem.W.Frag} {M : Hp}
mutual
theorem Dv.dp : ∀ {v : V} {d : D} {p : PyData}, Dv K M v d → d.py = some p → Dp K M v p
  | _, _, _, .non, e => by cases e; exact .non
  | _, _, _, .bl b, e => by cases e; exact .bl b
  | _, _, _, .int b, e => by cases e; exact .int b
  | _, _, _, .str b, e => by cases e; exact .str b
  | _, .lst ds, p, .lst h hs, e => by
    unfold D.py at e
    cases q : D.pys ds with
    | none => rw [q] at e; cases e
    | some ps => rw [q] at e; cases e; exact .lst h.toL (Dvs.dp hs q)
  | _, .tup ds, p, .tup h hs, e => by
    unfold D.py at e
    cases q : D.pys ds with
    | none => rw [q] at e; cases e
    | some ps => rw [q] at e; cases e; exact .tup h (Dvs.dp hs q)
  | _, .dic _ _, _, .dic _ _ _, e => by unfold D.py at e; cases e
  | _, .obj _ _ _, _, .obj _ _ _ _, e => by unfold D.py at e; cases e
  | _, _, _, .exn0, e => by unfold D.py at e; cases e
  | _, _, _, .exn1 _ _ _, e => by unfold D.py at e; cases e
  | _, _, _, .tagM _ _, e => by unfold D.py at e; cases e
  | _, _, _, .tagP _ _, e => by unfold D.py at e; cases e
  | _, _, _, .dicT _ _ _, e => by unfold D.py at e; cases e
theorem Dvs.dp : ∀ {vs : List V} {ds : List D} {ps : List PyData}, Dvs K M vs ds → D.pys ds = some ps → DpAll K M vs ps
  | _, _, _, .nil, e => by cases e; exact .nil
  | _, d :: ds, ps, .cons h hs, e => by
    unfold D.pys at e
    cases q : D.py d with
    | none => rw [q] at e; cases e
    | some p =>
      cases q2 : D.pys ds with
      | none => rw [q, q2] at e; cases e
      | some ps' => rw [q, q2] at e; cases e; exact .cons (Dv.dp h q) (Dvs.dp hs q2)
end
mutual
theorem dp_mono {M' : Hp} (s : Same M M') : ∀ {v : V} {p : PyData}, Dp K M v p → Dp K M' v p
  | _, _, .non => .non
  | _, _, .bl b => .bl b
  | _, _, .int i => .int i
  | _, _, .str x => .str x
  | _, _, .lst h hs => .lst (s.seq h) (dps_mono s hs)
  | _, _, .tup h hs => .tup (sqT_same s h) (dps_mono s hs)
theorem dps_mono {M' : Hp} (s : Same M M') : ∀ {vs : List V} {ps : List PyData}, DpAll K M vs ps → DpAll K M' vs ps
  | _, _, .nil => .nil
  | _, _, .cons h hs => .cons (dp_mono s h) (dps_mono s hs)
end
end
def eqvD (x y : D) : Option Bool := match x.py, y.py with
  | some p, some q => if SeqAt.shaped p = true ∧ SeqAt.shaped q = true then some (PyData.eqv p q) else none
  | _, _ => none
/-- == of two ints, two bools, two texts -/
def eqS : D → D → Option Bool
  | .int i, .int j => some (decide (i = j))
  | .bl i, .bl j => some (decide (i = j))
  | .str i, .str j => some (decide (i = j))
  | _, _ => none
def eqB (x y : D) : Option Bool := match eqS x y with
  | some b => some b
  | none => eqvD x y
def eqD (x y : D) : Option D := (eqB x y).map .bl
def neD (x y : D) : Option D := (eqB x y).map fun b => .bl (!b)
theorem eqS_some {K : PySem.W.Frag} {M : Hp} {v w : V} {x y : D} {b : Bool} (h : eqS x y = some b) (d1 : Dv K M v x) (d2 : Dv K M w y) : scal v w = true ∧ b = decide (v = w) := by
  unfold eqS at h
  split at h
  · cases h; cases d1; cases d2; exact ⟨rfl, by rw [dec_int, Bool.beq_eq_decide_eq]⟩
  · cases h; cases d1; cases d2; exact ⟨rfl, by rw [dec_bl, Bool.beq_eq_decide_eq]⟩
  · cases h; cases d1; cases d2; exact ⟨rfl, by rw [dec_str, Bool.beq_eq_decide_eq]⟩
  · cases h
theorem eqvD_some {x y : D} {b : Bool} (h : eqvD x y = some b) : ∃ p q, x.py = some p ∧ y.py = some q ∧ SeqAt.shaped p = true ∧ SeqAt.shaped q = true ∧ b = PyData.eqv p q := by
  unfold eqvD at h
  split at h
  · split at h
    · rename_i hs
      cases h
      exact ⟨_, _, by assumption, by assumption, hs.1, hs.2, rfl⟩
    · cases h
  · cases h
section
variable {X : Cx}
theorem oEq (hu : X.A.units + 64 < cLine) : OpR X (compareOp .Eq) (rD X.K eqD) := OpR.imp (op_eq.or (op_eqD hu)) fun x y H Q ⟨M, fo, fv, dx, dy, d, R, d1, d2, e, k⟩ => by
  unfold eqD eqB at e
  cases q0 : eqS dx dy with
  | some b =>
    rw [q0] at e
    cases e
    obtain ⟨s1, rfl⟩ := eqS_some q0 d1 d2
    exact .inl ⟨s1, k M H _ (Same.refl _) R (.bl _)⟩
  | none =>
    rw [q0] at e
    have e : (eqvD dx dy).map D.bl = some d := e
    cases q : eqvD dx dy with
    | none => rw [q] at e; cases e
    | some b =>
      rw [q] at e
      cases e
      obtain ⟨p, r, e1, e2, s1, s2, rfl⟩ := eqvD_some q
      exact .inr ⟨p, r, dp_mono R.same (d1.dp e1), dp_mono R.same (d2.dp e2), s1, s2, k M H _ (Same.refl _) R (.bl _)⟩
theorem oNe (hu : X.A.units + 64 < cLine) : OpR X (compareOp .NotEq) (rD X.K neD) := OpR.imp (op_ne.or (op_neD hu)) fun x y H Q ⟨M, fo, fv, dx, dy, d, R, d1, d2, e, k⟩ => by
  unfold neD eqB at e
  cases q0 : eqS dx dy with
  | some b =>
    rw [q0] at e
    cases e
    obtain ⟨s1, rfl⟩ := eqS_some q0 d1 d2
    exact .inl ⟨s1, k M H _ (Same.refl _) R (.bl _)⟩
  | none =>
    rw [q0] at e
    have e : (eqvD dx dy).map (fun b => D.bl (!b)) = some d := e
    cases q : eqvD dx dy with
    | none => rw [q] at e; cases e
    | some b =>
      rw [q] at e
      cases e
      obtain ⟨p, r, e1, e2, s1, s2, rfl⟩ := eqvD_some q
      exact .inr ⟨p, r, dp_mono R.same (d1.dp e1), dp_mono R.same (d2.dp e2), s1, s2, k M H _ (Same.refl _) R (.bl _)⟩
/-! ### in -/
def D.flat : D → Bool
  | .non => true
  | .bl _ => true
  | .int _ => true
  | .str _ => true
  | _ => false
/-- == of flat things -/
def D.same : D → D → Bool
  | .non, .non => true
  | .bl a, .bl b => a == b
  | .bl a, .int j => (if a then 1 else 0) == j
  | .int i, .bl b => i == (if b then 1 else 0)
  | .int i, .int j => i == j
  | .str x, .str y => x == y
  | _, _ => false
/-- the text i stands in j -/
def Txt.has (j i : Str) : Bool := !(Builtin.Str.occurrences j i 0 j.length 1).isEmpty
def inB (x y : D) : Option Bool := match y with
  | .str j => (match x with
    | .str i => some (Txt.has j i)
    | _ => none)
  | .lst ds => if x.flat && ds.all D.flat then some (ds.any fun z => z.same x) else none
  | .tup ds => if x.flat && ds.all D.flat then some (ds.any fun z => z.same x) else none
  | _ => none
def inD (x y : D) : Option D := (inB x y).map .bl
def ninD (x y : D) : Option D := (inB x y).map fun b => .bl (!b)
theorem flat_of {K : PySem.W.Frag} {M : Hp} {v : V} {d : D} (h : Dv K M v d) (f : d.flat = true) : flatV v = true := by
  cases h <;> first | rfl | cases f
theorem same_of {K : PySem.W.Frag} {M : Hp} {v w : V} {d e : D} (h : Dv K M v d) (h' : Dv K M w e) (f : d.flat = true) (f' : e.flat = true) : eqV v w = d.same e := by
  cases h <;> first | (cases f; done) | (cases h' <;> first | (cases f'; done) | rfl)
theorem flats_of {K : PySem.W.Frag} {M : Hp} : ∀ {vs : List V} {ds : List D}, Dvs K M vs ds → ds.all D.flat = true → vs.all flatV = true
  | _, _, .nil, _ => rfl
  | _, _, .cons h t, f => by
    rw [List.all_cons, Bool.and_eq_true] at f ⊢
    exact ⟨flat_of h f.1, flats_of t f.2⟩
theorem any_of {K : PySem.W.Frag} {M : Hp} {w : V} {e : D} (h' : Dv K M w e) (f' : e.flat = true) : ∀ {vs : List V} {ds : List D}, Dvs K M vs ds → ds.all D.flat = true → inV w vs = ds.any fun z => z.same e
  | _, _, .nil, _ => rfl
  | _, _, .cons h t, f => by
    rw [List.all_cons, Bool.and_eq_true] at f
    unfold inV
    rw [List.any_cons, List.any_cons, same_of h h' f.1 f']
    have := any_of h' f' t f.2
    unfold inV at this
    rw [this]
theorem in_of {neg : Bool} {x y : V} {H : Hp} {Q : VK} {M : Hp} {fo : List O} {fv : List (Option V)} {dx dy : D} {b : Bool} (R : Rep X.K M H fo fv) (d1 : Dv X.K M x dx) (d2 : Dv X.K M y dy) (e : inB dx dy = some b) (k : Q (.bl (if neg then !b else b)) H) :
    rIn X.K neg x y H Q ∨ (∃ i j, x = .str i ∧ y = .str j ∧ Q (.bl (if neg then !(!(Builtin.Str.occurrences j i 0 j.length 1).isEmpty) else (!(Builtin.Str.occurrences j i 0 j.length 1).isEmpty))) H) := by
  unfold inB at e
  cases d2 with
  | str j =>
    cases d1 with
    | str i => cases e; exact .inr ⟨i, j, rfl, rfl, k⟩
    | _ => cases e
  | lst h hs =>
    simp only at e
    split at e
    · rename_i hf
      rw [Bool.and_eq_true] at hf
      cases e
      refine .inl ⟨_, _, rfl, .inl (seqX R.same h), flat_of d1 hf.1, flats_of hs hf.2, ?_⟩
      rw [any_of d1 hf.1 hs hf.2]
      exact k
    · cases e
  | tup h hs =>
    simp only at e
    split at e
    · rename_i hf
      rw [Bool.and_eq_true] at hf
      cases e
      refine .inl ⟨_, _, rfl, .inr (sqT_same R.same h), flat_of d1 hf.1, flats_of hs hf.2, ?_⟩
      rw [any_of d1 hf.1 hs hf.2]
      exact k
    · cases e
  | _ => cases e
theorem oIn : OpR X (compareOp .In) (rD X.K inD) := OpR.imp (op_in_seq.or op_in_str) fun x y H Q ⟨M, fo, fv, dx, dy, d, R, d1, d2, e, k⟩ => by
  unfold inD at e
  cases q : inB dx dy with
  | none => rw [q] at e; cases e
  | some b =>
    rw [q] at e
    cases e
    exact in_of (neg := false) R d1 d2 q (k M H _ (Same.refl _) R (.bl _))
theorem oNotIn : OpR X (compareOp .NotIn) (rD X.K ninD) := OpR.imp (op_notIn_seq.or op_notin_str) fun x y H Q ⟨M, fo, fv, dx, dy, d, R, d1, d2, e, k⟩ => by
  unfold ninD at e
  cases q : inB dx dy with
  | none => rw [q] at e; cases e
  | some b =>
    rw [q] at e
    cases e
    exact in_of (neg := true) R d1 d2 q (k M H _ (Same.refl _) R (.bl _))
/-! ### is None -/
def D.isN : D → Bool
  | .non => true
  | .tagM _ d => d.isN
  | .tagP _ d => d.isN
  | _ => false
def isN (x y : D) : Option D := match y with
  | .non => some (.bl x.isN)
  | _ => none
def notN (x y : D) : Option D := match y with
  | .non => some (.bl (!x.isN))
  | _ => none
theorem isN_of {K : PySem.W.Frag} {M : Hp} : ∀ {v : V} {d : D}, Dv K M v d → decide (v = .non) = d.isN
  | _, _, .non => rfl
  | _, _, .bl b => decide_eq_false (fun z => nomatch z)
  | _, _, .int b => decide_eq_false (fun z => nomatch z)
  | _, _, .str b => decide_eq_false (fun z => nomatch z)
  | _, _, .lst _ _ => decide_eq_false (fun z => nomatch z)
  | _, _, .tup _ _ => decide_eq_false (fun z => nomatch z)
  | _, _, .dic _ _ _ => decide_eq_false (fun z => nomatch z)
  | _, _, .obj _ _ _ _ => decide_eq_false (fun z => nomatch z)
  | _, _, .exn0 => decide_eq_false (fun z => nomatch z)
  | _, _, .exn1 _ _ _ => decide_eq_false (fun z => nomatch z)
  | _, .tagM _ d, .tagM _ h => isN_of (d := d) h
  | _, .tagP _ d, .tagP _ h => isN_of (d := d) h
  | _, _, .dicT _ _ _ => decide_eq_false (fun z => nomatch z)
theorem oIs : OpR X (compareOp .Is) (rD X.K isN) := OpR.imp op_isN fun x y H Q ⟨M, fo, fv, dx, dy, d, R, d1, d2, e, k⟩ => by
  unfold isN at e
  split at e
  · cases e
    cases d2
    refine ⟨rfl, ?_⟩
    rw [isN_of d1]
    exact k M H _ (Same.refl _) R (.bl _)
  · cases e
theorem oIsNot : OpR X (compareOp .IsNot) (rD X.K notN) := OpR.imp op_notN fun x y H Q ⟨M, fo, fv, dx, dy, d, R, d1, d2, e, k⟩ => by
  unfold notN at e
  split at e
  · cases e
    cases d2
    refine ⟨rfl, ?_⟩
    rw [isN_of d1]
    exact k M H _ (Same.refl _) R (.bl _)
  · cases e
/-! ### -x -/
def negI : D → Option D
  | .int i => some (.int (-i))
  | _ => none
theorem oNeg : UnR X (unaryOp .USub) (rD1 X.K negI) := UnR.imp un_neg fun x H Q ⟨M, fo, fv, dx, d, R, d1, e, k⟩ => by
  unfold negI at e
  split at e
  · cases e; cases d1; exact ⟨_, rfl, k M H _ (Same.refl _) R (.int _)⟩
  · cases e
/-! ### built-ins -/
def lenD : List D → Option D
  | [.lst ds] => some (.int ds.length)
  | [.tup ds] => some (.int ds.length)
  | [.str z] => if z.length ≤ sizeLine then some (.int z.length) else none
  | [.dic ks _] => some (.int ks.length)
  | _ => none
theorem one_of {K : PySem.W.Frag} {M : Hp} {vs : List V} {d : D} (h : Dvs K M vs [d]) : ∃ v, vs = [v] ∧ Dv K M v d := by
  cases h with
  | cons h t => cases t; exact ⟨_, rfl, h⟩
theorem two_of {K : PySem.W.Frag} {M : Hp} {vs : List V} {d e : D} (h : Dvs K M vs [d, e]) : ∃ v w, vs = [v, w] ∧ Dv K M v d ∧ Dv K M w e := by
  cases h with
  | cons h t =>
    obtain ⟨w, rfl, h'⟩ := one_of t
    exact ⟨_, _, rfl, h, h'⟩
theorem call_lenR : CallR X (.builtin "len") (fun xs H Q => ∃ a kvs, xs = [V.ref a] ∧ Rd H a (.dK kvs) ∧ Q (.int kvs.length) H) := by
  intro pins s σ H xs us Q I r h
  obtain ⟨a, kvs, rfl, ha, q⟩ := h
  rw [Vals.ref1 r]
  exact d_len I ha fun t s' I' => ⟨.int kvs.length, H, I', ⟨t, rfl⟩, q⟩
theorem cLen : CallR X (.builtin "len") (rDs X.K lenD) := CallR.imp ((call_len_seq.or call_len_str).or call_lenR) fun xs H Q ⟨M, fo, fv, ds, d, R, dv, e, k⟩ => by
  unfold lenD at e
  split at e
  · obtain ⟨v, rfl, dw⟩ := one_of dv; clear dv
    cases e
    cases dw with
    | lst h hs => exact .inl (.inl ⟨_, _, rfl, .inl (seqX R.same h), by rw [hs.length]; exact k M H _ (Same.refl _) R (.int _)⟩)
  · obtain ⟨v, rfl, dw⟩ := one_of dv; clear dv
    cases e
    cases dw with
    | tup h hs => exact .inl (.inl ⟨_, _, rfl, .inr (sqT_same R.same h), by rw [hs.length]; exact k M H _ (Same.refl _) R (.int _)⟩)
  · obtain ⟨v, rfl, dw⟩ := one_of dv; clear dv
    split at e
    · cases e
      cases dw
      exact .inl (.inr ⟨_, rfl, by assumption, k M H _ (Same.refl _) R (.int _)⟩)
    · cases e
  · obtain ⟨v, rfl, dw⟩ := one_of dv; clear dv
    cases e
    cases dw with
    | dic h hk hs =>
      refine .inr ⟨_, _, rfl, Rd.up R.same h, ?_⟩
      have := k M H _ (Same.refl _) R (.int _)
      rw [← hk, List.length_map] at this
      exact this
  · cases e
def intD : List D → Option D
  | [.int i] => some (.int i)
  | [.bl b] => some (.int (if b then 1 else 0))
  | _ => none
theorem cInt : CallR X (.type "int") (rDs X.K intD) := CallR.imp call_int1 fun xs H Q ⟨M, fo, fv, ds, d, R, dv, e, k⟩ => by
  unfold intD at e
  split at e
  · obtain ⟨v, rfl, dw⟩ := one_of dv; clear dv
    cases e; cases dw
    exact .inl ⟨_, rfl, k M H _ (Same.refl _) R (.int _)⟩
  · obtain ⟨v, rfl, dw⟩ := one_of dv; clear dv
    cases e; cases dw
    exact .inr ⟨_, rfl, k M H _ (Same.refl _) R (.int _)⟩
  · cases e
def max2 : List D → Option D
  | [.int i, .int j] => some (.int (if j > i then j else i))
  | _ => none
def min2 : List D → Option D
  | [.int i, .int j] => some (.int (if j < i then j else i))
  | _ => none
theorem cMin2 (hc : X.calm = true) : CallR X (.builtin "min") (rDs X.K min2) := CallR.imp (call_min2 hc) fun xs H Q ⟨M, fo, fv, ds, d, R, dv, e, k⟩ => by
  unfold min2 at e
  split at e
  · obtain ⟨v, w, rfl, d1, d2⟩ := two_of dv
    cases e; cases d1; cases d2
    exact ⟨_, _, rfl, k M H _ (Same.refl _) R (.int _)⟩
  · cases e
/-- a list of bools -/
def bls : List D → Option (List Bool)
  | [] => some []
  | .bl b :: r => (bls r).map (b :: ·)
  | _ => none
theorem bls_some : ∀ {ds : List D} {bs : List Bool}, bls ds = some bs → ds = bs.map .bl
  | [], _, e => by cases e; rfl
  | .bl b :: r, bs, e => by
    unfold bls at e
    cases q : bls r with
    | none => rw [q] at e; cases e
    | some cs => rw [q] at e; cases e; rw [bls_some q]; rfl
  | .non :: _, _, e => by cases e
  | .int _ :: _, _, e => by cases e
  | .str _ :: _, _, e => by cases e
  | .lst _ :: _, _, e => by cases e
  | .tup _ :: _, _, e => by cases e
  | .dic _ _ :: _, _, e => by cases e
  | .obj _ _ _ :: _, _, e => by cases e
  | .exn _ _ _ _ _ :: _, _, e => by cases e
theorem bls_map : ∀ bs : List Bool, bls (bs.map .bl) = some bs
  | [] => rfl
  | b :: r => by
    show (bls (r.map .bl)).map (b :: ·) = _
    rw [bls_map r]; rfl
def allD : List D → Option D
  | [.lst ds] => (bls ds).map fun bs => .bl (bs.all id)
  | _ => none
theorem dvs_bls {K : PySem.W.Frag} {M : Hp} : ∀ {vs : List V} {bs : List Bool}, Dvs K M vs (bs.map .bl) → vs = bs.map .bl
  | _, [], .nil => rfl
  | _, b :: r, .cons h t => by cases h; rw [dvs_bls t]; rfl
theorem dvs_strs {K : PySem.W.Frag} {M : Hp} : ∀ {vs : List V} {ns : List Str}, Dvs K M vs (ns.map .str) → vs = ns.map .str
  | _, [], .nil => rfl
  | _, b :: r, .cons h t => by cases h; rw [dvs_strs t]; rfl
theorem strs_dvs {K : PySem.W.Frag} {M : Hp} : ∀ ns : List Str, Dvs K M (ns.map .str) (ns.map .str)
  | [] => .nil
  | _ :: r => .cons (.str _) (strs_dvs r)
theorem ints_dvs {K : PySem.W.Frag} {M : Hp} : ∀ ns : List Int, Dvs K M (ns.map .int) (ns.map .int)
  | [] => .nil
  | _ :: r => .cons (.int _) (ints_dvs r)
theorem cAll (hc : X.calm = true) : CallR X (.builtin "all") (rDs X.K allD) := CallR.imp (cr_all hc) fun xs H Q ⟨M, fo, fv, ds, d, R, dv, e, k⟩ => by
  unfold allD at e
  split at e
  · rename_i ds'
    obtain ⟨v, rfl, dw⟩ := one_of dv; clear dv
    cases q : bls ds' with
    | none => rw [q] at e; cases e
    | some bs =>
      rw [q] at e
      cases e
      have := bls_some q
      subst this
      cases dw with
      | lst h hs =>
        have := dvs_bls hs
        subst this
        exact ⟨_, bs, rfl, seqX R.same h, k M H _ (Same.refl _) R (.bl _)⟩
  · cases e
/-! ### items and slices -/
def ixD (x y : D) : Option D := match x, y with
  | .lst ds, .int i => atI ds i
  | .tup ds, .int i => atI ds i
  | .str z, .int i => if z.length ≤ sizeLine then (atI z.cps.toList i).map fun c => .str ⟨#[c]⟩ else none
  | _, _ => none
theorem atI_dvs {K : PySem.W.Frag} {M : Hp} {vs : List V} {ds : List D} {i : Int} {d : D} (h : Dvs K M vs ds) (e : atI ds i = some d) : ∃ v, atI vs i = some v ∧ Dv K M v d := by
  unfold atI at e ⊢
  rw [h.length]
  cases q : ixN ds.length i with
  | none => rw [q] at e; cases e
  | some j => rw [q, Option.bind_some] at e; obtain ⟨v, e1, e2⟩ := h.get e; exact ⟨v, by rw [Option.bind_some]; exact e1, e2⟩
theorem oIx : IxR X (rD X.K ixD) := IxR.imp ix_seq fun x y H Q ⟨M, fo, fv, dx, dy, d, R, d1, d2, e, k⟩ => by
  unfold ixD at e
  split at e
  · cases d2
    cases d1 with
    | lst h hs =>
      obtain ⟨v, e1, e2⟩ := atI_dvs hs e
      exact .inl ⟨_, _, _, v, rfl, rfl, seqX R.same h, e1, k M H _ (Same.refl _) R e2⟩
  · cases d2
    cases d1 with
    | tup h hs =>
      obtain ⟨v, e1, e2⟩ := atI_dvs hs e
      exact .inr (.inl ⟨_, _, _, v, rfl, rfl, sqT_same R.same h, e1, k M H _ (Same.refl _) R e2⟩)
  · rename_i z i
    cases d2
    cases d1
    split at e
    · cases q : atI z.cps.toList i with
      | none => rw [q] at e; cases e
      | some c =>
        rw [q] at e
        cases e
        exact .inr (.inr ⟨z, i, c, rfl, rfl, by assumption, q, k M H _ (Same.refl _) R (.str _)⟩)
    · cases e
  · cases e
/-- the items of xs[lo:hi] -/
def cutD {α : Type} (xs : List α) (lo hi : Option Int) : List α := (xs.drop (HT.sIx xs.length 0 lo)).take (HT.sIx xs.length xs.length hi - HT.sIx xs.length 0 lo)
def slD (x : D) (lo hi : Option Int) : Option D := match x with
  | .lst ds => some (.lst (cutD ds lo hi))
  | .str z => if z.length ≤ sizeLine then some (.str (cutS z lo hi)) else none
  | .tup ds => if HT.sIx ds.length 0 lo = 0 ∧ HT.sIx ds.length ds.length hi = ds.length then none else some (.tup (cutD ds lo hi))
  | _ => none
theorem cut_dvs {K : PySem.W.Frag} {M : Hp} {vs : List V} {ds : List D} {lo hi : Option Int} (h : Dvs K M vs ds) : Dvs K M (cutV vs lo hi) (cutD ds lo hi) := by
  unfold cutV cutD
  rw [h.length]
  exact (h.drop _).take _
def rDsl (K : PySem.W.Frag) (g : D → Option Int → Option Int → Option D) : V → Option Int → Option Int → Hp → VK → Prop := fun x lo hi H Q => ∃ M fo fv dx d, Rep K M H fo fv ∧ Dv K M x dx ∧ g dx lo hi = some d ∧
  ∀ M' H' v, Same M M' → Rep K M' H' fo fv → Dv K M' v d → Q v H'
theorem oSl : SlR X (rDsl X.K slD) := SlR.imp (sl_list.or (sl_str.or sl_tup)) fun x lo hi H Q ⟨M, fo, fv, dx, d, R, d1, e, k⟩ => by
  unfold slD at e
  split at e
  · cases e
    cases d1 with
    | lst h hs =>
      refine .inl ⟨_, _, rfl, seqX R.same h, fun p hp => ?_⟩
      have s := fun u => same_updM (u := u) (R.same.free hp)
      exact k _ _ _ (s _) (R.growM hp) (.lst (.inl (.inl upd_same)) ((cut_dvs hs).mono (s _)))
  · split at e
    · cases e
      cases d1
      exact .inr (.inl ⟨_, rfl, by assumption, k M H _ (Same.refl _) R (.str _)⟩)
    · cases e
  · split at e
    · cases e
    · rename_i hw
      cases e
      cases d1 with
      | tup h hs =>
        refine .inr (.inr ⟨_, _, rfl, sqT_same R.same h, by rw [hs.length]; exact hw, fun p hp => ?_⟩)
        have s := fun u => same_updM (u := u) (R.same.free hp)
        exact k _ _ _ (s _) (R.growM hp) (.tup (.inl (.inl upd_same)) ((cut_dvs hs).mono (s _)))
  · cases e
/-- a slice's part -/
def tPo (K : PySem.W.Frag) (f : Ev → Option (Option Int)) : TO := fun σ H Q => ∃ M ρ fo fv d, Rep K M H (ρ ++ fo) (σ ++ fv) ∧ σ.length = ρ.length ∧ f ρ = some d ∧ ∀ M' H', Same M M' → Rep K M' H' (ρ ++ fo) (σ ++ fv) → Q d H'
def noPart (_ : Ev) : Option (Option Int) := some none
def part (f : Ev → Option D) (ρ : Ev) : Option (Option Int) := match f ρ with
  | some (.int i) => some (some i)
  | _ => none
theorem poNone : PO X none (tPo X.K noPart) := ⟨fun p s σ H Q I ⟨M, ρ, fo, fv, d, R, l, e, k⟩ => by
  cases e
  exact po_none.run p s σ H Q I (k M H (Same.refl _) R)⟩
theorem poSome {e : Expr} {f : Ev → Option D} (h : PE X e (tP X.K f)) : PO X (some e) (tPo X.K (part f)) := ⟨fun p s σ H Q I ⟨M, ρ, fo, fv, d, R, l, e, k⟩ => by
  unfold part at e
  split at e
  · rename_i i q
    cases e
    exact (po_some h).run p s σ H Q I ⟨M, ρ, fo, fv, _, R, l, q, fun M1 H1 v s1 R1 d1 => by cases d1; exact ⟨i, rfl, k M1 H1 s1 R1⟩⟩
  · cases e⟩
def slc (f : Ev → Option D) (lo hi : Ev → Option (Option Int)) (ρ : Ev) : Option D := (f ρ).bind fun x => (lo ρ).bind fun a => (hi ρ).bind fun b => slD x a b
theorem pSl {e : Expr} {lo hi : Option Expr} {p2 pos : Pos} {f : Ev → Option D} {fl fh : Ev → Option (Option Int)} (he : PE X e (tP X.K f)) (hl : PO X lo (tPo X.K fl)) (hh : PO X hi (tPo X.K fh)) : PE X (.Subscript e (.Slice lo hi none p2) pos) (tP X.K (slc f fl fh)) :=
  PE.imp (pe_slice oSl he hl hh) fun σ H Q ⟨M, ρ, fo, fv, d, R, l, e, k⟩ => by
    unfold slc at e
    cases q1 : f ρ with
    | none => rw [q1] at e; cases e
    | some x =>
      cases q2 : fl ρ with
      | none => rw [q1, Option.bind_some, q2] at e; cases e
      | some a =>
        cases q3 : fh ρ with
        | none => rw [q1, Option.bind_some, q2, Option.bind_some, q3] at e; cases e
        | some b =>
          rw [q1, Option.bind_some, q2, Option.bind_some, q3, Option.bind_some] at e
          exact ⟨M, ρ, fo, fv, x, R, l, q1, fun M1 H1 v1 s1 R1 d1 => ⟨M1, ρ, fo, fv, a, R1, l, q2, fun M2 H2 s2 R2 => ⟨M2, ρ, fo, fv, b, R2, l, q3, fun M3 H3 s3 R3 =>
            ⟨M3, ρ ++ fo, σ ++ fv, x, d, R3, d1.mono (s2.trans s3), e, fun M4 H4 v s4 R4 d4 => k M4 H4 v (s1.trans (s2.trans (s3.trans s4))) R4 d4⟩⟩⟩⟩
/-! ### methods of texts -/
def rDm (K : PySem.W.Frag) (g : D → List D → Option D) : V → List V → Hp → VK → Prop := fun x xs H Q => ∃ M fo fv dx ds d, Rep K M H fo fv ∧ Dv K M x dx ∧ Dvs K M xs ds ∧ g dx ds = some d ∧
  ∀ M' H' v, Same M M' → Rep K M' H' fo fv → Dv K M' v d → Q v H'
def m1 (f g : Ev → Option D) (h : D → List D → Option D) (ρ : Ev) : Option D := match f ρ with
  | some (.str z) => (g ρ).bind fun y => h (.str z) [y]
  | _ => none
theorem tM1_of {K : PySem.W.Frag} {f g : Ev → Option D} {h : D → List D → Option D} {σ : L2.St} {H : Hp} {Q : VK} (hh : tP K (m1 f g h) σ H Q) : tM1 (rDm K h) (tP K f) (tP K g) σ H Q := by
  obtain ⟨M, ρ, fo, fv, d, R, l, e, k⟩ := hh
  unfold m1 at e
  split at e
  · rename_i z q
    cases q2 : g ρ with
    | none => rw [q2] at e; cases e
    | some y =>
      rw [q2, Option.bind_some] at e
      exact ⟨M, ρ, fo, fv, _, R, l, q, fun M1 H1 v1 s1 R1 d1 => by
        cases d1
        exact ⟨⟨z, rfl⟩, M1, ρ, fo, fv, y, R1, l, q2, fun M2 H2 v2 s2 R2 d2 => ⟨M2, ρ ++ fo, σ ++ fv, _, _, d, R2, .str z, .cons d2 .nil, e, fun M3 H3 v s3 R3 d3 => k M3 H3 v (s1.trans (s2.trans s3)) R3 d3⟩⟩⟩
  · cases e
def splitD (x : D) (ys : List D) : Option D := match x, ys with
  | .str a, [.str b] => if (b.length == 0) = false ∧ a.length + 2 ≤ sizeLine then some (.lst ((Txt.split a b).map .str)) else none
  | _, _ => none
theorem mSplit : MtR X "str.split" (rDm X.K splitD) := MtR.imp mt_split fun x xs H Q ⟨M, fo, fv, dx, ds, d, R, d1, d2, e, k⟩ => by
  unfold splitD at e
  split at e
  · rename_i a b
    split at e
    · rename_i hc
      cases e
      cases d1
      obtain ⟨w, rfl, dw⟩ := one_of d2; clear d2
      cases dw
      refine ⟨a, b, rfl, rfl, hc.1, hc.2, fun p hp => ?_⟩
      have s := same_updM (u := .lst ((Txt.split a b).map V.str)) (R.same.free hp)
      exact k _ _ _ s (R.growM hp) (.lst (.inl (.inl upd_same)) (strs_dvs _))
    · cases e
  · cases e
/-- a list of texts -/
def strsD : List D → Option (List Str)
  | [] => some []
  | .str b :: r => (strsD r).map (b :: ·)
  | _ => none
theorem strs_some : ∀ {ds : List D} {bs : List Str}, strsD ds = some bs → ds = bs.map .str
  | [], _, e => by cases e; rfl
  | .str b :: r, bs, e => by
    unfold strsD at e
    cases q : strsD r with
    | none => rw [q] at e; cases e
    | some cs => rw [q] at e; cases e; rw [strs_some q]; rfl
  | .non :: _, _, e => by cases e
  | .int _ :: _, _, e => by cases e
  | .bl _ :: _, _, e => by cases e
  | .lst _ :: _, _, e => by cases e
  | .tup _ :: _, _, e => by cases e
  | .dic _ _ :: _, _, e => by cases e
  | .obj _ _ _ :: _, _, e => by cases e
  | .exn _ _ _ _ _ :: _, _, e => by cases e
theorem strs_map : ∀ bs : List Str, strsD (bs.map .str) = some bs
  | [] => rfl
  | b :: r => by
    show (strsD (r.map .str)).map (b :: ·) = _
    rw [strs_map r]; rfl
def joinD (x : D) (ys : List D) : Option D := match x, ys with
  | .str a, [.lst ds] => (strsD ds).bind fun zs => if (zs.map (·.length)).sum + zs.length * a.length ≤ 16777216 then some (.str (Txt.join a zs)) else none
  | .str a, [.tup ds] => (strsD ds).bind fun zs => if (zs.map (·.length)).sum + zs.length * a.length ≤ 16777216 then some (.str (Txt.join a zs)) else none
  | _, _ => none
theorem mJoin : MtR X "str.join" (rDm X.K joinD) := MtR.imp mt_join fun x xs H Q ⟨M, fo, fv, dx, ds, d, R, d1, d2, e, k⟩ => by
  unfold joinD at e
  split at e
  · rename_i a ds'
    cases q : strsD ds' with
    | none => rw [q] at e; cases e
    | some zs =>
      rw [q, Option.bind_some] at e
      split at e
      · cases e
        have := strs_some q
        subst this
        cases d1
        obtain ⟨w, rfl, dw⟩ := one_of d2; clear d2
        cases dw with
        | lst h hs =>
          have := dvs_strs hs
          subst this
          exact ⟨a, _, zs, rfl, rfl, .inl (seqX R.same h), by assumption, k M H _ (Same.refl _) R (.str _)⟩
      · cases e
  · rename_i a ds'
    cases q : strsD ds' with
    | none => rw [q] at e; cases e
    | some zs =>
      rw [q, Option.bind_some] at e
      split at e
      · cases e
        have := strs_some q
        subst this
        cases d1
        obtain ⟨w, rfl, dw⟩ := one_of d2; clear d2
        cases dw with
        | tup h hs =>
          have := dvs_strs hs
          subst this
          exact ⟨a, _, zs, rfl, rfl, .inr (sqT_same R.same h), by assumption, k M H _ (Same.refl _) R (.str _)⟩
      · cases e
  · cases e
theorem pM1 {id : String} {name : Str} {o e : Expr} {apos pos : Pos} {f g : Ev → Option D} {h : D → List D → Option D} (slot : Slot "str" name id) (ty : typeOf (.builtin id) = pure (.type "method_descriptor")) (rule : MtR X id (rDm X.K h)) (ho : PE X o (tP X.K f)) (he : PE X e (tP X.K g))
    (hs : starEach [e] X.env = [(false, eval e X.env)] := by rfl) (hbase : attributeBase o name X.env (eval o X.env) = eval o X.env := by rfl) (hline : (apos.endLine == pos.line) = true := by rfl) : PE X (.Call (.Attribute o name apos) [e] [] pos) (tP X.K (m1 f g h)) :=
  PE.imp (pe_m1 slot ty rule ho he hs hbase hline) fun _ _ _ h => tM1_of h
theorem pSplit {o e : Expr} {apos pos : Pos} {f g : Ev → Option D} (ho : PE X o (tP X.K f)) (he : PE X e (tP X.K g)) (hs : starEach [e] X.env = [(false, eval e X.env)] := by rfl) (hbase : attributeBase o "split" X.env (eval o X.env) = eval o X.env := by rfl) (hline : (apos.endLine == pos.line) = true := by rfl) :
    PE X (.Call (.Attribute o "split" apos) [e] [] pos) (tP X.K (m1 f g splitD)) := pM1 F.slot_str_split F.type_str_split mSplit ho he hs hbase hline
theorem pJoin {o e : Expr} {apos pos : Pos} {f g : Ev → Option D} (ho : PE X o (tP X.K f)) (he : PE X e (tP X.K g)) (hs : starEach [e] X.env = [(false, eval e X.env)] := by rfl) (hbase : attributeBase o "join" X.env (eval o X.env) = eval o X.env := by rfl) (hline : (apos.endLine == pos.line) = true := by rfl) :
    PE X (.Call (.Attribute o "join" apos) [e] [] pos) (tP X.K (m1 f g joinD)) := pM1 F.slot_str_join F.type_str_join mJoin ho he hs hbase hline
/-! ### isinstance(x, T), T a built-in type -/
def tyD : D → Option String
  | .non => some "NoneType"
  | .bl _ => some "bool"
  | .int _ => some "int"
  | .str _ => some "str"
  | .lst _ => some "list"
  | .tup _ => some "tuple"
  | .dic _ _ => some "dict"
  | _ => none
def isiD (T : String) (x : D) : Option D := (tyD x).bind fun t => (kitB t T).map .bl
theorem tyX_of {K : PySem.W.Frag} {M : Hp} {v : V} {d : D} {t : String} (h : Dv K M v d) (e : tyD d = some t) : TyX K M v (.type t) := by
  cases h with
  | non => cases e; exact .base .non
  | bl b => cases e; exact .base (.bl b)
  | int b => cases e; exact .base (.int b)
  | str b => cases e; exact .base (.str b)
  | lst h hs =>
    cases e
    rcases h with (h | ⟨o, h⟩) | ⟨its, n, lk, _⟩
    · exact .base (.lst h)
    · exact .base (.frz h)
    · exact .kList lk rfl
  | tup h hs =>
    cases e
    rcases h with (h | ⟨o, h⟩) | ⟨o, its, n, lk, c, _⟩
    · exact .base (.tup h)
    · exact .fTuple h
    · exact .kTuple lk c
  | dic h _ _ =>
    cases e
    rcases h with h | ⟨o, h⟩
    · exact .base (.dK h)
    · exact .fDict h
  | obj _ _ _ _ => cases e
  | exn0 => cases e
  | exn1 _ _ _ => cases e
  | tagM _ _ => cases e
  | tagP _ _ => cases e
  | dicT _ _ _ => cases e
theorem tyX_mono {K : PySem.W.Frag} {M H : Hp} {v : V} {t : Value} (s : Same M H) (h : TyX K M v t) : TyX K H v t := by
  cases h with
  | base b =>
    cases b with
    | non => exact .base .non
    | bl b => exact .base (.bl b)
    | int b => exact .base (.int b)
    | str b => exact .base (.str b)
    | flt b => exact .base (.flt b)
    | lst e => exact .base (.lst (s _ _ e))
    | frz e => exact .base (.frz (s _ _ e))
    | tup e => exact .base (.tup (s _ _ e))
    | dK e => exact .base (.dK (s _ _ e))
    | dT e => exact .base (.dT (s _ _ e))
    | ins e cl ha hn htk hm => exact .base (.ins (s _ _ e) cl ha hn htk hm)
  | byt b => exact .byt b
  | set e => exact .set (s _ _ e)
  | kList e c => exact .kList e c
  | kTuple e c => exact .kTuple e c
  | kDict e c => exact .kDict e c
  | fTuple e => exact .fTuple (s _ _ e)
  | fDict e => exact .fDict (s _ _ e)
theorem pIsi {a : Expr} {p q pos : Pos} {fa : Ev → Option D} {T : String} {y : Str} (ha : PE X a (tP X.K fa)) (hm : X.mg "isinstance" = none) (hmT : X.mg y = none) (hv : bootBuiltins y = some (.type T) := by decide +kernel) (hg : Gl X "isinstance" := by rfl) (hgT : Gl X y := by rfl)
    (hn : y ≠ "__name__" := by decide) (hd : (y == ("__debug__" : Str)) = false := by decide)
    (hs : starEach [a, .Name y q] X.env = (false, eval a X.env) :: starEach [.Name y q] X.env := by rfl) (hs2 : starEach [.Name y q] X.env = (false, eval (.Name y q) X.env) :: starEach [] X.env := by rfl) (hpl : (backTo pos (starEach [.Name y q] X.env)).any (·.1) = false := by rfl) :
    PE X (.Call (.Name "isinstance" p) [a, .Name y q] [] pos) (tP X.K (b1 fa (isiD T))) :=
  PE.imp (pe_callB call_isi hg hm (by decide +kernel) (pa_cons ha (pa_cons (pe_bltn (v := .ty T) hgT hmT hv rfl hn hd) pa_nil hs2) hs) (by decide) (by decide) hs hpl) fun σ H Q ⟨M, ρ, fo, fv, d, R, l, e, k⟩ => by
    obtain ⟨x, ea, eg⟩ := b1_some e
    unfold isiD at eg
    cases q1 : tyD x with
    | none => rw [q1] at eg; cases eg
    | some t =>
      rw [q1, Option.bind_some] at eg
      cases q2 : kitB t T with
      | none => rw [q2] at eg; cases eg
      | some b =>
        rw [q2] at eg
        cases eg
        exact ⟨M, ρ, fo, fv, x, R, l, ea, fun M1 H1 v1 s1 R1 d1 => ⟨v1, .ty T, .type t, .type T, b, rfl, .ty T, tyX_mono R1.same (tyX_of d1 q1), kit_ty q2, k M1 H1 _ s1 R1 (.bl _)⟩⟩
/-- y = [..] on one line, y is not changed later -/
theorem setD_of {K : PySem.W.Frag} {W : WX} {J : List Nat} {i : Nat} {f : Ev → Option O} {E : Ends} {σ : L2.St} {H : Hp} (hJ : i ∉ J) (h : tS K W J (stV i (frz f)) E σ H) : tAsg (tO K f) (gName i) E σ H := by
  obtain ⟨M, ρ, fo, fv, r, σ0, R, l, e, k⟩ := h
  unfold stV frz at e
  cases q : f ρ with
  | none => rw [q] at e; cases e
  | some o =>
    rw [q, Option.bind_some] at e
    cases q2 : o.toD with
    | none => rw [q2] at e; cases e
    | some d =>
      rw [q2] at e
      cases e
      refine ⟨M, ρ, fo, fv, o, R, l.1, q, fun M1 H1 v s1 R1 => ?_⟩
      obtain ⟨M2, s2, R2, d2⟩ := R1.frz l.1 rfl q2
      exact k M2 H1 _ (s1.trans s2) ((R2.drop l.1).setD l.1 d2) (l.set hJ _ _)
theorem sLcD {W : WX} {J : List Nat} {i : Nat} {y : Str} {py spos pos : Pos} {tg iter elt : Expr} {ifs : List Expr} {scope : Scope} {fi : Ev → Option (List D)} {is kn : List Nat} {g : D → Ev → Option Ev} {t : Ev → Option Bool} {f : Ev → Option D} (own : List (Str × Nat)) (hc : X.calm = true) (hN : X.N.Nodup) (hi : PI X tg iter (tI X.K kn fi)) (bo : BlkOk X.N X.env.scope scope own)
    (hg : ∀ (s : Shared) (H : Hp) (C : Addr) (cl : List (Str × Addr)) (fp : List Addr), PG (X.blk s H scope (compEnvC scope cl C X.env) fp) tg (tG X.K is g)) (ht : ∀ (s : Shared) (H : Hp) (C : Addr) (cl : List (Str × Addr)) (fp : List Addr), PTs (X.blk s H scope (compEnvC scope cl C X.env) fp) ifs (tT X.K t))
    (he : ∀ (s : Shared) (H : Hp) (C : Addr) (cl : List (Str × Addr)) (fp : List Addr), PE (X.blk s H scope (compEnvC scope cl C X.env) fp) elt (tP X.K f)) (ok : TgOk is g) (hJ : i ∉ J := by decide) (hy : X.N[i]? = some y := by rfl) (hyl : X.env.scope.names.lookup y = some .local := by rfl)
    (hsw : swapsWith (.ListComp elt [⟨tg, iter, ifs, 0⟩] scope pos) (some (.Name y py)) spos.line X.env = pure true := by exact sw_true rfl rfl rfl (by decide +kernel)) (hv : ∀ i ∈ is, i ∈ own.map (·.2) := by decide) (hkn : ∀ ρ ds, fi ρ = some ds → ∀ k ∈ kn, k < ρ.length := by intro _ _ _ _ hk; cases hk) (hkv : ∀ k ∈ kn, k ∉ own.map (·.2) := by decide) (hs : ∀ x, foldedSetIterable iter X.env x = pure x := by intro _; rfl) :
    PS X (.Assign [.Name y py] (.ListComp elt [⟨tg, iter, ifs, 0⟩] scope pos) spos) (tS X.K W J (stV i (lcD fi g t f (own.map (·.2))))) := by
  have h := PS.imp (PS.imp (ps_setLc (i := i) (py := py) (pos := pos) (spos := spos) hc hN hy hyl hsw hi bo hg ht he hs) fun E σ H h => lc_of (f := f) (Q := fun x H1 => gName i x σ H1 E.nx) ok hv hkn hkv h) fun E σ H (h : tS X.K W J (stV i (frz (lcO fi g t f (own.map (·.2))))) E σ H) => setD_of hJ h
  rw [show frz (lcO fi g t f (own.map (·.2))) = lcD fi g t f (own.map (·.2)) from funext fun ρ => lcD_eq ρ _] at h
  exact h
end
end PD

namespace PD
open PySem PySem.Spec L2

/-! ### reckoning with mirrors -/
theorem has_sign (z : Str) (c : Nat) : Txt.has z ⟨#[c]⟩ = decide (c ∈ z.cps.toList) := StrLaws.found_one z c
theorem str_len (z : Str) : z.cps.toList.length = z.length := by simp [Str.length]
theorem eq_str (x y : Str) : eqD (.str x) (.str y) = some (.bl (decide (x = y))) := rfl
theorem eq_bl (x y : Bool) : eqD (.bl x) (.bl y) = some (.bl (decide (x = y))) := rfl
theorem ne_str (x y : Str) : neD (.str x) (.str y) = some (.bl (!decide (x = y))) := rfl
theorem ne_int (x y : Int) : neD (.int x) (.int y) = some (.bl (!decide (x = y))) := rfl
/-! ### a text split at a sign -/
def sp (c : Nat) : List Nat → List (List Nat)
  | [] => [[]]
  | x :: xs => if x = c then [] :: sp c xs else match sp c xs with
    | p :: ps => (x :: p) :: ps
    | [] => [[x]]
theorem sp_ne (c : Nat) : ∀ l : List Nat, ∃ p ps, sp c l = p :: ps
  | [] => ⟨[], [], rfl⟩
  | x :: xs => by
    unfold sp
    by_cases h : x = c
    · rw [if_pos h]; exact ⟨_, _, rfl⟩
    · rw [if_neg h]
      obtain ⟨p, ps, e⟩ := sp_ne c xs
      rw [e]
      exact ⟨_, _, rfl⟩
theorem sp_free {c : Nat} : ∀ {l : List Nat}, c ∉ l → sp c l = [l]
  | [], _ => rfl
  | x :: xs, h => by
    unfold sp
    rw [if_neg fun z => h (by rw [z]; exact List.mem_cons_self), sp_free fun z => h (List.mem_cons_of_mem _ z)]
theorem sp_cut {c : Nat} (r : List Nat) : ∀ {p : List Nat}, c ∉ p → sp c (p ++ c :: r) = p :: sp c r
  | [], _ => by
    show (if c = c then [] :: sp c r else _) = _
    rw [if_pos rfl]
  | x :: p, h => by
    show (if x = c then [] :: sp c (p ++ c :: r) else match sp c (p ++ c :: r) with | q :: qs => (x :: q) :: qs | [] => [[x]]) = _
    rw [if_neg fun z => h (by rw [z]; exact List.mem_cons_self), sp_cut r fun z => h (List.mem_cons_of_mem _ z)]
theorem sub_at (x : Str) (a b : Nat) : (Builtin.Str.strSub x a b).cps.toList = (x.cps.toList.drop a).take (b - a) := StrLaws.strSub_toList x a b
theorem parts_sp (x : Str) (c : Nat) : ∀ (cuts : List Nat) (a f : Nat), StrLaws.ChainG x ⟨#[c]⟩ x.length a cuts f → (∀ k, f ≤ k → ¬ StrLaws.At x ⟨#[c]⟩ x.length k) →
    (StrLaws.partsFrom x 1 a cuts).map (·.cps.toList) = sp c (x.cps.toList.drop a)
  | [], a, f, h, hn => by
    have e : f = a := h
    subst e
    have hf := StrLaws.part_free x c f x.length (Nat.le_refl _) fun k h1 _ => hn k h1
    show [(Builtin.Str.strSub x f x.length).cps.toList] = _
    rw [← sp_free hf, sub_at, List.take_of_length_le (by rw [List.length_drop, str_len]; omega)]
  | d :: r, a, f, h, hn => by
    obtain ⟨h1, h2, h3, h4⟩ := h
    have hd : x.cps.toList[d]? = some c := (StrLaws.subAt_one x c d).mp h2
    have hdl : d < x.cps.toList.length := (List.getElem?_eq_some_iff.mp hd).1
    have hf := StrLaws.part_free x c a d (by rw [str_len] at hdl; omega) h3
    have ih := parts_sp x c r (d + 1) f h4 hn
    show (Builtin.Str.strSub x a d).cps.toList :: (StrLaws.partsFrom x 1 (d + 1) r).map (·.cps.toList) = _
    rw [ih]
    have e : x.cps.toList.drop a = (Builtin.Str.strSub x a d).cps.toList ++ c :: x.cps.toList.drop (d + 1) := by
      rw [sub_at]
      have e1 : x.cps.toList.drop d = c :: x.cps.toList.drop (d + 1) := by
        rw [List.drop_eq_getElem_cons hdl, (List.getElem?_eq_some_iff.mp hd).2]
      have e2 : x.cps.toList.drop d = (x.cps.toList.drop a).drop (d - a) := by rw [List.drop_drop]; congr 1; omega
      rw [← e1, e2, List.take_append_drop]
    rw [e, sp_cut _ hf]
theorem split_sp (t : Str) (c : Nat) : (Txt.split t ⟨#[c]⟩).map (·.cps.toList) = sp c t.cps.toList := by
  have free : c ∉ t.cps.toList → [t.cps.toList] = sp c t.cps.toList := fun h => (sp_free h).symm
  unfold Txt.split
  split
  · rename_i h
    rw [Bool.or_eq_true, decide_eq_true_eq, decide_eq_true_eq] at h
    refine free ?_
    rcases h with h | h
    · have : t.length = 0 := by
        have : (⟨#[c]⟩ : Str).length = 1 := rfl
        omega
      rw [← str_len] at this
      rw [List.length_eq_zero_iff.mp this]
      exact List.not_mem_nil
    · exact StrLaws.kind_free t c h
  · split
    · rename_i h
      refine free ?_
      obtain ⟨f, ch, hn⟩ := StrLaws.occ_tight t ⟨#[c]⟩ (Nat.le_refl 1)
      rw [List.isEmpty_iff.mp h] at ch
      have e : f = 0 := ch
      intro hm
      obtain ⟨j, hj⟩ := List.getElem?_of_mem hm
      exact hn j (by omega) ((StrLaws.subAt_one t c j).mpr hj)
    · obtain ⟨f, ch, hn⟩ := StrLaws.occ_tight t ⟨#[c]⟩ (Nat.le_refl 1)
      rw [StrLaws.partsBetween_eq]
      have := parts_sp t c _ 0 f ch hn
      rw [List.drop_zero] at this
      exact this
def toS (l : List Nat) : Str := ⟨l.toArray⟩
theorem toS_codes (l : List Nat) : (toS l).cps.toList = l := by simp [toS]
theorem codes_toS (t : Str) : toS t.cps.toList = t := by simp [toS]
theorem split_eq (t : Str) (c : Nat) : Txt.split t ⟨#[c]⟩ = (sp c t.cps.toList).map toS := by
  rw [← split_sp, List.map_map]
  conv => lhs; rw [← List.map_id (Txt.split t ⟨#[c]⟩)]
  apply List.map_congr_left
  intro x _
  exact (codes_toS x).symm
/-! ### running a mirror, by what holds at its end -/
def Rn (g : Ev → Option Fl) (ρ : Ev) (Q : Fl → Prop) : Prop := ∃ r, g ρ = some r ∧ Q r
def Nx (P : Ev → Prop) : Fl → Prop
  | .nx ρ => P ρ
  | _ => False
section
variable {f g b : Ev → Option Fl} {ρ : Ev} {Q : Fl → Prop} {P : Ev → Prop}
theorem Rn.mono {Q' : Fl → Prop} (h : Rn g ρ Q) (i : ∀ r, Q r → Q' r) : Rn g ρ Q' := let ⟨r, e, q⟩ := h; ⟨r, e, i r q⟩
theorem Rn.sq (h : Rn f ρ fun r => match r with | .nx ρ' => Rn g ρ' Q | r => Q r) : Rn (sq f g) ρ Q := by
  obtain ⟨r, e, h⟩ := h
  unfold Rn PD.sq
  rw [e, Option.bind_some]
  cases r with
  | nx ρ' => exact h
  | rt o ρ' => exact ⟨_, rfl, h⟩
  | bk ρ' => exact ⟨_, rfl, h⟩
  | ct ρ' => exact ⟨_, rfl, h⟩
  | ex x ρ' => exact ⟨_, rfl, h⟩
theorem Rn.sqN (h : Rn f ρ (Nx P)) (k : ∀ ρ', P ρ' → Rn g ρ' Q) : Rn (PD.sq f g) ρ Q := Rn.sq (h.mono fun r q => by
  cases r with
  | nx ρ' => exact k ρ' q
  | _ => exact q.elim)
theorem Rn.st {i : Nat} {e : Ev → Option D} {d : D} (h : e ρ = some d) (k : Q (.nx (ρ.set i (.dat d)))) : Rn (stV i e) ρ Q := ⟨_, by unfold stV; rw [h]; rfl, k⟩
theorem Rn.stO {i : Nat} {e : Ev → Option O} {o : O} (h : e ρ = some o) (k : Q (.nx (ρ.set i o))) : Rn (PD.stO i e) ρ Q := ⟨_, by unfold PD.stO; rw [h]; rfl, k⟩
theorem Rn.skip (k : Q (.nx ρ)) : Rn PD.skip ρ Q := ⟨_, rfl, k⟩
theorem Rn.ret {e : Ev → Option D} {d : D} (h : e ρ = some d) (k : Q (.rt (.dat d) ρ)) : Rn (rtV e) ρ Q := ⟨_, by unfold rtV; rw [h]; rfl, k⟩
theorem Rn.ite {c : Ev → Option Bool} {t : Bool} (h : c ρ = some t) (h1 : t = true → Rn f ρ Q) (h2 : t = false → Rn g ρ Q) : Rn (ifS c f g) ρ Q := by
  unfold Rn ifS
  rw [h]
  cases t with
  | true => exact h1 rfl
  | false => exact h2 rfl
theorem Rn.app {i : Nat} {e : Ev → Option D} {d : D} {os : List O} (h : e ρ = some d) (ho : ρ[i]? = some (.lst os)) (hl : os.length < sizeLine) (k : Q (.nx (ρ.set i (.lst (os ++ [.dat d]))))) : Rn (PD.app i e) ρ Q := by
  refine ⟨_, ?_, k⟩
  unfold PD.app
  rw [h, Option.bind_some, ho]
  simp only []
  rw [if_pos hl]
theorem Rn.fz {i : Nat} {o : O} {d : D} (ho : ρ[i]? = some o) (hd : o.toD = some d) (k : Rn g (ρ.set i (.dat d)) Q) : Rn (PD.fz i g) ρ Q := by
  unfold Rn PD.fz
  rw [ho]
  simp only [hd, Option.bind_some]
  exact k
/-- a for by an invariant -/
theorem Rn.for {fi : Ev → Option (List D)} {gt : D → Ev → Option Ev} {ds : List D} (h : fi ρ = some ds) (I : Nat → Ev → Prop) (h0 : I 0 ρ)
    (hs : ∀ i d ρ, ds[i]? = some d → I i ρ → ∃ ρ1, gt d ρ = some ρ1 ∧ Rn b ρ1 fun r => match r with | .nx ρ2 => I (i + 1) ρ2 | .ct ρ2 => I (i + 1) ρ2 | .bk ρ2 => Q (.nx ρ2) | r => Q r) (k : ∀ ρ', I ds.length ρ' → Q (.nx ρ')) : Rn (forS fi gt b) ρ Q := by
  unfold Rn forS
  rw [h, Option.bind_some]
  clear h
  have key : ∀ (es : List D) (n : Nat) (ρ : Ev), n + es.length = ds.length → (∀ i d, es[i]? = some d → ds[n + i]? = some d) → I n ρ → ∃ r, loop gt b es ρ = some r ∧ Q r := by
    intro es
    induction es with
    | nil => intro n ρ hn _ hi; exact ⟨_, rfl, k ρ (by rw [← hn]; exact hi)⟩
    | cons d es ih =>
      intro n ρ hn hd hi
      obtain ⟨ρ1, e1, r, e2, q⟩ := hs n d ρ (by have := hd 0 d rfl; simpa using this) hi
      unfold loop
      rw [e1, Option.bind_some, e2, Option.bind_some]
      have nxt : ∀ ρ2, I (n + 1) ρ2 → ∃ r, loop gt b es ρ2 = some r ∧ Q r := fun ρ2 h2 => ih (n + 1) ρ2 (by rw [← hn, List.length_cons]; omega) (fun i d' h' => by
        have := hd (i + 1) d' (by simpa using h')
        rw [show n + 1 + i = n + (i + 1) by omega]; exact this) h2
      cases r with
      | nx ρ2 => exact nxt ρ2 q
      | ct ρ2 => exact nxt ρ2 q
      | bk ρ2 => exact ⟨_, rfl, q⟩
      | rt o ρ2 => exact ⟨_, rfl, q⟩
      | ex x ρ2 => exact ⟨_, rfl, q⟩
  exact key ds 0 ρ (by simp) (fun i d h => by simpa using h) h0
theorem runP_of {n : Nat} {ds : List D} {R : D → Prop} (h : Rn b (env0 n ds) fun r => ∃ o d, outO r = some o ∧ o.toD = some d ∧ R d) : ∃ d, runP n b ds = some d ∧ R d := by
  obtain ⟨r, e, o, d, e2, e3, hr⟩ := h
  exact ⟨d, by unfold runP runO; rw [e, Option.bind_some, e2, Option.bind_some, e3], hr⟩
theorem runP_eq {n : Nat} {ds : List D} {d : D} (h : Rn b (env0 n ds) fun r => ∃ o, outO r = some o ∧ o.toD = some d) : runP n b ds = some d := by
  obtain ⟨r, e, o, e2, e3⟩ := h
  unfold runP runO
  rw [e, Option.bind_some, e2, Option.bind_some, e3]
end
theorem lcD_of {fi : Ev → Option (List D)} {g : D → Ev → Option Ev} {t : Ev → Option Bool} {f : Ev → Option D} {vs : List Nat} {ρ ρw : Ev} {ds ys : List D} (hw : okW ρ vs = true) (hi : fi ρ = some ds) (hρ : wipeO ρ vs = ρw) (hc : comp g t f ρw ds = some ys) (hl : ys.length ≤ sizeLine) : lcD fi g t f vs ρ = some (.lst ys) := by
  unfold lcD
  rw [if_pos hw, hi, Option.bind_some, hρ, hc, Option.bind_some, if_pos hl]
theorem len_le {n : Nat} (h : n ≤ 1000000) : n ≤ sizeLine := Nat.le_trans h (by decide)
/-! ### values of mirrors, part by part -/
section
variable {ρ : Ev} {fa fb : Ev → Option D} {x y d : D}
theorem b2_of {g : D → D → Option D} (h1 : fa ρ = some x) (h2 : fb ρ = some y) : b2 fa fb g ρ = g x y := by unfold b2; rw [h1, h2]; rfl
theorem aC {g : Ev → Option (List D)} {ds : List D} (h1 : fa ρ = some x) (h2 : g ρ = some ds) : aCons fa g ρ = some (x :: ds) := by unfold aCons; rw [h1, h2]; rfl
theorem aC1 (h1 : fa ρ = some x) : aCons fa aNil ρ = some [x] := aC h1 rfl
theorem aC2 (h1 : fa ρ = some x) (h2 : fb ρ = some y) : aCons fa (aCons fb aNil) ρ = some [x, y] := aC h1 (aC1 h2)
theorem slc_of {lo hi : Ev → Option (Option Int)} {a b : Option Int} (h : fa ρ = some x) (h1 : lo ρ = some a) (h2 : hi ρ = some b) : slc fa lo hi ρ = slD x a b := by unfold slc; rw [h, h1, h2]; rfl
theorem slS_of {lo hi : Ev → Option (Option Int)} {a b : Option Int} {z : Str} (h : fa ρ = some (.str z)) (h1 : lo ρ = some a) (h2 : hi ρ = some b) (hl : z.length ≤ 1000000) : slc fa lo hi ρ = some (.str (cutS z a b)) := by
  rw [slc_of h h1 h2]
  show (if z.length ≤ sizeLine then _ else _) = _
  rw [if_pos (len_le hl)]
theorem asB_of {b : Bool} (h : fa ρ = some (.bl b)) : asB fa ρ = some b := by unfold asB; rw [h]
theorem andV_t (h1 : fa ρ = some (.bl true)) : andV fa fb ρ = fb ρ := by unfold andV; rw [h1]
theorem andV_f (h1 : fa ρ = some (.bl false)) : andV fa fb ρ = some (.bl false) := by unfold andV; rw [h1]
theorem orV_t (h1 : fa ρ = some (.bl true)) : orV fa fb ρ = some (.bl true) := by unfold orV; rw [h1]
theorem orV_f (h1 : fa ρ = some (.bl false)) : orV fa fb ρ = fb ρ := by unfold orV; rw [h1]
theorem andV_of {a b : Bool} (h1 : fa ρ = some (.bl a)) (h2 : a = true → fb ρ = some (.bl b)) : andV fa fb ρ = some (.bl (a && b)) := by
  cases a with
  | true => rw [andV_t h1, h2 rfl]; rfl
  | false => rw [andV_f h1]; rfl
theorem orV_of {a b : Bool} (h1 : fa ρ = some (.bl a)) (h2 : a = false → fb ρ = some (.bl b)) : orV fa fb ρ = some (.bl (a || b)) := by
  cases a with
  | true => rw [orV_t h1]; rfl
  | false => rw [orV_f h1, h2 rfl]; rfl
theorem andT_of {f g : Ev → Option Bool} {a b : Bool} (h1 : f ρ = some a) (h2 : a = true → g ρ = some b) : andT f g ρ = some (a && b) := by
  unfold andT; rw [h1]; cases a with
  | true => rw [Bool.true_and]; exact h2 rfl
  | false => rfl
theorem orT_of {f g : Ev → Option Bool} {a b : Bool} (h1 : f ρ = some a) (h2 : a = false → g ρ = some b) : orT f g ρ = some (a || b) := by
  unfold orT; rw [h1]; cases a with
  | true => rfl
  | false => rw [Bool.false_or]; exact h2 rfl
theorem notT_of {f : Ev → Option Bool} {a : Bool} (h1 : f ρ = some a) : notT f ρ = some (!a) := by unfold notT; rw [h1]; rfl
theorem rng1_of {n : Nat} (h : fa ρ = some (.int n)) (hn : n ≤ 1000000) : rng1 fa ρ = some (rangeD 0 n) := by
  unfold rng1
  rw [h]
  show (if _ then _ else _) = _
  rw [if_pos (by omega), Int.toNat_natCast]
end
theorem cut_from {α : Type} (xs : List α) (k : Nat) : cutD xs (some (k : Int)) none = xs.drop k := by
  unfold cutD
  rw [HT.sIx_nat, HT.sIx_none]
  rw [List.take_of_length_le (by rw [List.length_drop]; omega)]
  by_cases h : k ≤ xs.length
  · rw [Nat.min_eq_left h]
  · rw [Nat.min_eq_right (by omega), List.drop_length, List.drop_eq_nil_of_le (by omega)]
theorem cut_to {α : Type} (xs : List α) (k : Nat) : cutD xs none (some (k : Int)) = xs.take k := by
  unfold cutD
  rw [HT.sIx_nat, HT.sIx_none, List.drop_zero, Nat.sub_zero]
  by_cases h : k ≤ xs.length
  · rw [Nat.min_eq_left h]
  · rw [Nat.min_eq_right (by omega), List.take_length, List.take_of_length_le (by omega)]
theorem cutS_codes (z : Str) (lo hi : Option Int) : (cutS z lo hi).cps.toList = cutD z.cps.toList lo hi := by
  unfold cutS cutD
  rw [str_len]
/-- the item at a place -/
theorem at_get {α : Type} {xs : List α} {j : Nat} (h : j < xs.length) : atI xs (j : Int) = some xs[j] := atI_nat (List.getElem?_eq_getElem h)
end PD

namespace PD
open PySem PySem.Spec L2

/-! ### own things looked at as data -/
def O.vw (o : O) : O := match o.toD with
  | some d => .dat d
  | none => .unk
def flatD : D → Bool
  | .non => true
  | .bl _ => true
  | .int _ => true
  | .str _ => true
  | _ => false
theorem Dv.flat {K : PySem.W.Frag} {M M' : Hp} {v : V} {d : D} (h : Dv K M v d) (f : flatD d = true) : Dv K M' v d := by
  cases h with
  | non => exact .non
  | bl b => exact .bl b
  | int i => exact .int i
  | str x => exact .str x
  | lst _ _ => cases f
  | tup _ _ => cases f
  | dic _ _ _ => cases f
  | obj _ _ _ _ => cases f
  | exn0 => cases f
  | exn1 _ _ _ => cases f
  | tagM _ _ => cases f
  | tagP _ _ => cases f
  | dicT _ _ _ => cases f
section
variable {K : PySem.W.Frag} {M H : Hp}
theorem Ows.view {Ma : Hp} (s : Same M Ma) : ∀ {os : List O} {vs : List (Option V)} {fp : List Addr}, Ows K M H os vs fp → (∀ a ∈ fp, Ma a = H a) → Ows K Ma H (os.map O.vw) vs []
  | _, _, _, .nil, _ => .nil
  | o :: _, _, _, .cons (v := v) (f1 := f1) h hs, k => by
    have t := Ows.view s hs fun a ha => k a (List.mem_append_right _ ha)
    have e : ([] : List Addr) = [] ++ [] := rfl
    rw [e, List.map_cons]
    refine .cons ?_ t
    unfold O.vw
    cases q : o.toD with
    | none => exact .unk
    | some d =>
      cases v with
      | none => cases h; unfold O.toD at q; cases q
      | some v => exact .dat (Ow.frz s h (fun a ha => k a (List.mem_append_left _ ha)) q)
theorem Rep.view {ρ fo : List O} {σ fv : List (Option V)} (R : Rep K M H (ρ ++ fo) (σ ++ fv)) (l : σ.length = ρ.length) :
    ∃ Ma, Same M Ma ∧ Rep K Ma H (ρ.map O.vw ++ []) (σ ++ []) ∧ ∀ M2 H', Same Ma M2 → Same M2 H' → Rep K M H' (ρ ++ fo) (σ ++ fv) := by
  obtain ⟨sm, fp, w, nd, nm⟩ := R
  obtain ⟨fa, fb, e, w1, w2⟩ := w.split l
  have s1 : Same M (fun a => if a ∈ fp then H a else M a) := fun b y q => by
    have : b ∉ fp := fun z => by rw [nm b z] at q; cases q
    show (if b ∈ fp then H b else M b) = some y
    rw [if_neg this]; exact q
  have s2 : Same (fun a => if a ∈ fp then H a else M a) H := fun b y q => by
    have q : (if b ∈ fp then H b else M b) = some y := q
    split at q
    · exact q
    · exact sm b y q
  refine ⟨_, s1, ⟨s2, [], ?_, List.nodup_nil, fun a ha => nomatch ha⟩, fun M2 H' k1 k2 => ⟨?_, fp, w.frame (Same.refl _) fun a ha => ?_, nd, nm⟩⟩
  · rw [List.append_nil, List.append_nil]
    exact Ows.view s1 w1 fun a ha => if_pos (by rw [e]; exact List.mem_append_left _ ha)
  · exact s1.trans (k1.trans k2)
  · have hd := w.dom a ha
    cases q : H a with
    | none => exact absurd q hd
    | some u => exact k2 _ _ (k1 _ _ (show (if a ∈ fp then H a else M a) = some u by rw [if_pos ha]; exact q))
end
def vwT (f : Ev → Option Bool) (ρ : Ev) : Option Bool := f (ρ.map O.vw)
section
variable {X : Cx} {W : WX} {pos : Pos} {e : Expr}
theorem tVw {f : Ev → Option Bool} (h : PT X e (tT X.K f)) : PT X e (tT X.K (vwT f)) := PT.imp h fun σ H Q ⟨M, ρ, fo, fv, d, R, l, e, k⟩ => by
  obtain ⟨Ma, s1, R1, back⟩ := R.view l
  exact ⟨Ma, ρ.map O.vw, [], [], d, R1, by simpa using l, e, fun M2 H2 s2 R2 => k M H2 (Same.refl _) (back M2 H2 s2 R2.same)⟩
end


/-! ### an own thing in a slot is changed -/
section
variable {K : PySem.W.Frag} {M H : Hp}
theorem Ows.at_ {os : List O} {vs : List (Option V)} {fp : List Addr} {k : Nat} {o : O} (w : Ows K M H os vs fp) (e : os[k]? = some o) : ∃ v fa f fb, vs[k]? = some v ∧ fp = fa ++ (f ++ fb) ∧ Ow K M H o v f ∧
    ∀ {M' H' : Hp} {o' : O} {f' : List Addr}, Same M M' → (∀ a ∈ fa ++ fb, H' a = H a) → Ow K M' H' o' v f' → Ows K M' H' (os.set k o') vs (fa ++ (f' ++ fb)) := by
  induction os generalizing k vs fp with
  | nil => simp at e
  | cons o1 os ih =>
    cases w with
    | cons h hs =>
      rename_i v f1 vs f2
      cases k with
      | zero =>
        simp at e
        subst e
        refine ⟨v, [], f1, f2, rfl, rfl, h, fun {M' H' o' f'} s k h' => ?_⟩
        show Ows K M' H' (o' :: os) (v :: vs) (f' ++ f2)
        exact .cons h' (hs.frame s fun a ha => k a ha)
      | succ k =>
        obtain ⟨v', fa, f, fb, e1, e2, h', up⟩ := ih hs (by simpa using e)
        refine ⟨v', f1 ++ fa, f, fb, by simpa using e1, by rw [e2, List.append_assoc], h', fun s kk h'' => ?_⟩
        have := Ows.cons (h.frame s fun a ha => kk a (by simp [ha])) (up s (fun a ha => kk a (by simp at ha ⊢; rcases ha with ha | ha <;> simp [ha])) h'')
        rw [List.append_assoc]
        exact this
/-- the thing in slot i, and temporaries that may go into it -/
theorem Rep.own {ρ tmp fo : List O} {σ tv fv : List (Option V)} (R : Rep K M H (ρ ++ (tmp ++ fo)) (σ ++ (tv ++ fv))) (l : σ.length = ρ.length) (lt : tv.length = tmp.length) {i : Nat} {o : O} (e : ρ[i]? = some o) :
    ∃ v f ft, σ[i]? = some v ∧ Ow K M H o v f ∧ Ows K M H tmp tv ft ∧ (f ++ ft).Nodup ∧ (∀ b ∈ f ++ ft, M b = none) ∧
      ∀ (M' H' : Hp) (o' : O) (f' : List Addr), Same M M' → Same M' H' → (∀ b, b ∉ f → H b ≠ none → H' b = H b) → Ow K M' H' o' v f' → (∀ b, f'.count b ≤ f.count b + ft.count b) → (∀ b, M b = none → H b ≠ none → M' b = none) → Rep K M' H' (ρ.set i o' ++ fo) (σ ++ fv) := by
  obtain ⟨s, fp, w, nd, nm⟩ := R
  obtain ⟨f1, f2, e1, w1, w2⟩ := w.split l
  obtain ⟨ft, f3, e2, w3, w4⟩ := w2.split lt
  obtain ⟨v, fa, f, fb, ev, e3, h, up⟩ := w1.at_ e
  subst e1; subst e2; subst e3
  rw [List.nodup_iff_count] at nd
  have cnt : ∀ b, fa.count b + f.count b + fb.count b + ft.count b + f3.count b ≤ 1 := fun b => by
    have := nd b
    simp only [List.count_append] at this
    omega
  have out : ∀ b, b ∈ fa ∨ b ∈ fb ∨ b ∈ f3 → b ∉ f := fun b hb hf => by
    have c := cnt b
    have c1 := List.count_pos_iff.mpr hf
    rcases hb with hb | hb | hb
    · have := List.count_pos_iff.mpr hb; omega
    · have := List.count_pos_iff.mpr hb; omega
    · have := List.count_pos_iff.mpr hb; omega
  refine ⟨v, f, ft, ev, h, w3, ?_, fun b hb => nm b ?_, fun M' H' o' f' sM s' kk h' hc hM => ⟨s', (fa ++ (f' ++ fb)) ++ f3, ?_, ?_, fun b hb => ?_⟩⟩
  · rw [List.nodup_iff_count]
    intro b
    have := cnt b
    rw [List.count_append]; omega
  · rcases List.mem_append.mp hb with hb | hb <;> simp [hb]
  · have d1 : ∀ b ∈ fa ++ fb, H b ≠ none := fun b hb => w1.dom b (by rcases List.mem_append.mp hb with hb | hb <;> simp [hb])
    have d3 : ∀ b ∈ f3, H b ≠ none := fun b hb => w4.dom b hb
    exact (up sM (fun b hb => kk b (out b (by rcases List.mem_append.mp hb with hb | hb <;> simp [hb])) (d1 b hb)) h').append (w4.frame sM fun b hb => kk b (out b (.inr (.inr hb))) (d3 b hb))
  · rw [List.nodup_iff_count]
    intro b
    have c1 := cnt b
    have c2 := hc b
    simp only [List.count_append]; omega
  · have hpos := List.count_pos_iff.mpr hb
    have c2 := hc b
    simp only [List.count_append] at hpos
    have : b ∈ (fa ++ (f ++ fb)) ++ (ft ++ f3) := by
      rw [← List.count_pos_iff]
      simp only [List.count_append]; omega
    exact hM b (nm b this) (w.dom b this)
end

/-! ### objects: self.f = e on an own one -/
def putO (f : Str) (y : O) : List Str → List O → List Str × List O
  | k :: ks, o :: os => if k = f then (k :: ks, y :: os) else (k :: (putO f y ks os).1, o :: (putO f y ks os).2)
  | _, _ => ([f], [y])
section
variable {K : PySem.W.Frag} {M H : Hp}
theorem putO_keys {f : Str} {v : V} {y : O} : ∀ (fs : List (Str × V)) (os : List O), os.length = fs.length → (putF f v fs).map (·.1) = (putO f y (fs.map (·.1)) os).1
  | [], [], _ => rfl
  | (g, x) :: fs, o :: os, h => by
    unfold putF putO
    simp only [List.map_cons]
    by_cases e : g = f
    · rw [if_pos e, if_pos e]; rfl
    · rw [if_neg e, if_neg e]
      simp only [List.map_cons]
      rw [putO_keys fs os (by simpa using h)]
theorem putO_ows {f : Str} {v : V} {y : O} {fy : List Addr} (hy : Ow K M H y (some v) fy) : ∀ {fs : List (Str × V)} {os : List O} {fp : List Addr}, Ows K M H os (fs.map fun p => some p.2) fp →
    ∃ fp', Ows K M H (putO f y (fs.map (·.1)) os).2 ((putF f v fs).map fun p => some p.2) fp' ∧ ∀ b, fp'.count b ≤ fp.count b + fy.count b
  | [], _, _, .nil => ⟨fy ++ [], .cons hy .nil, fun b => by simp⟩
  | (g, x) :: fs, _, _, .cons (o := o) (f1 := f1) (f2 := f2) (os := os) h hs => by
    unfold putF putO
    simp only [List.map_cons]
    by_cases e : g = f
    · rw [if_pos e, if_pos e]
      exact ⟨fy ++ f2, .cons hy hs, fun b => by simp only [List.count_append]; omega⟩
    · rw [if_neg e, if_neg e]
      obtain ⟨fp', w, c⟩ := putO_ows (f := f) hy hs
      exact ⟨f1 ++ fp', .cons h w, fun b => by have := c b; simp only [List.count_append]; omega⟩
end
def put (C : Addr) (i : Nat) (f : Str) (g : Ev → Option O) (ρ : Ev) : Option Fl := (g ρ).bind fun y => match ρ[i]? with
  | some (.obj C' ks os) => if C' = C ∧ os.length < 1000 then some (.nx (ρ.set i (.obj C (putO f y ks os).1 (putO f y ks os).2))) else none
  | _ => none
section
variable {X : Cx} {W : WX} {J : List Nat} {pos p p' : Pos} {e : Expr}
theorem sPut {C : Addr} {i : Nat} {x f : Str} {g : Ev → Option O} (c : Cls X.K C) (n : NoAttr X.K C f) (hv : PE X (.Name x p) (tVar i)) (he : PE X e (tO X.K g)) (hs : swapsWith e (some (.Attribute (.Name x p) f p')) pos.line X.env = pure false := by rfl) :
    PS X (.Assign [.Attribute (.Name x p) f p'] e pos) (tS X.K W J (put C i f g)) := PS.imp (ps_fld hv he hs) fun E σ H ⟨M, ρ, fo, fv, r, σ0, R, l, e, k⟩ => by
  unfold put at e
  cases q : g ρ with
  | none => rw [q] at e; cases e
  | some y =>
    rw [q, Option.bind_some] at e
    split at e
    · rename_i C' ks os eo
      split at e
      · rename_i hc
        obtain ⟨rfl, hlen⟩ := hc
        cases e
        refine ⟨M, ρ, fo, fv, y, R, l.1, q, fun M1 H1 v s1 R1 => ?_⟩
        have R1' : Rep X.K M1 H1 (ρ ++ ([y] ++ fo)) (σ ++ ([some v] ++ fv)) := R1
        obtain ⟨w, f1, ft, ew, h1, h2, nd, nm, up⟩ := R1'.own l.1 rfl eo
        cases h1 with
        | obj ha hdx hk ws =>
          rename_i a dx fs fp
          cases h2 with
          | cons hy hnil =>
            cases hnil
            rename_i fy
            refine ⟨.ref a, ew, a, C', dx, fs, rfl, ha, c, n, by rw [← List.length_map (f := fun p : Str × V => some p.2), ws.length]; exact hlen, ?_⟩
            have hd : ∀ b, b ∈ fp ∨ b ∈ fy → b ≠ a := fun b hb z => by
              subst z
              rw [List.nodup_iff_count] at nd
              have := nd b
              simp only [List.count_append, List.count_cons, beq_self_eq_true, if_true] at this
              rcases hb with hb | hb
              · have := List.count_pos_iff.mpr hb; omega
              · have := List.count_pos_iff.mpr hb; omega
            have hda : dx ≠ a := fun z => by
              rw [z, ha] at hdx; cases hdx
            have ma : M1 a = none := nm a (by simp)
            have sm : Same M1 (upd H1 a (.ins C' dx (putF f v fs))) := fun b u q => by
              rw [upd_ne (fun z => by subst z; rw [ma] at q; cases q)]; exact R1.same b u q
            obtain ⟨fp', w', cw⟩ := putO_ows (f := f) (hy.frame (Same.refl _) (H' := upd H1 a (.ins C' dx (putF f v fs))) fun b hb => upd_ne (hd b (.inr hb))) (ws.frame (Same.refl _) (H' := upd H1 a (.ins C' dx (putF f v fs))) fun b hb => upd_ne (hd b (.inl hb)))
            refine k M1 _ σ s1 (up M1 _ _ (a :: dx :: fp') (Same.refl _) sm (fun b hb _ => upd_ne fun z => hb (by simp [z])) (.obj upd_same (by rw [upd_ne hda]; exact hdx) ?_ ?_) (fun b => ?_) fun b hb _ => hb) (l.setR _)
            · rw [putO_keys (y := y) fs os (by rw [← ws.length]; simp), hk]
            · rw [hk] at w'; exact w'
            · have := cw b
              simp only [List.append_nil, List.count_cons, List.count_append] at this ⊢
              omega
      · cases e
    · cases e
end
end PD

namespace PD
open PySem PySem.Spec L2

section
variable {K : PySem.W.Frag} {M H : Hp}
theorem Rep.dropM {l m r : List O} {lv mv rv : List (Option V)} (R : Rep K M H (l ++ (m ++ r)) (lv ++ (mv ++ rv))) (e : lv.length = l.length) (e2 : mv.length = m.length) : Rep K M H (l ++ r) (lv ++ rv) := by
  obtain ⟨s, fp, w, nd, nm⟩ := R
  obtain ⟨fa, fb, e1, w1, w2⟩ := w.split e
  obtain ⟨fm, fr, e3, w3, w4⟩ := w2.split e2
  subst e1; subst e3
  refine ⟨s, fa ++ fr, w1.append w4, nd.sublist (List.Sublist.append (List.Sublist.refl _) (List.sublist_append_right _ _)), fun a ha => nm a ?_⟩
  rcases List.mem_append.mp ha with ha | ha <;> simp [ha]
theorem Rep.swap {l r : List O} {lv rv : List (Option V)} {o : O} {v : Option V} (R : Rep K M H (o :: (l ++ r)) (v :: (lv ++ rv))) (e : lv.length = l.length) : Rep K M H (l ++ o :: r) (lv ++ v :: rv) := by
  obtain ⟨s, fp, w, nd, nm⟩ := R
  cases w with
  | cons h hs =>
    rename_i f1 f2
    obtain ⟨fa, fb, e1, w1, w2⟩ := hs.split e
    subst e1
    have pm : (fa ++ (f1 ++ fb)).Perm (f1 ++ (fa ++ fb)) := by
      rw [← List.append_assoc, ← List.append_assoc]
      exact List.Perm.append_right fb List.perm_append_comm
    exact ⟨s, fa ++ (f1 ++ fb), w1.append (.cons h w2), pm.nodup_iff.mpr nd, fun a ha => nm a (pm.mem_iff.mp ha)⟩
/-- a new object -/
theorem Rep.newI {fo : List O} {fv : List (Option V)} (R : Rep K M H fo fv) {x dx C : Addr} (hx : H x = none) (hd : H dx = none) (ne : dx ≠ x) : Rep K M (upd (upd H dx (.own x)) x (.ins C dx [])) (.obj C [] [] :: fo) (some (.ref x) :: fv) := by
  obtain ⟨s, fp, w, nd, nm⟩ := R
  have xn : x ∉ fp := fun z => w.dom x z hx
  have dn : dx ∉ fp := fun z => w.dom dx z hd
  have ex : (upd H dx (.own x)) x = none := by rw [upd_ne ne.symm]; exact hx
  have kp : ∀ b, b ≠ x → b ≠ dx → (upd (upd H dx (.own x)) x (.ins C dx [])) b = H b := fun b h1 h2 => by rw [upd_ne h1, upd_ne h2]
  refine ⟨fun b u q => ?_, (x :: dx :: []) ++ fp, .cons (.obj upd_same (by rw [upd_ne ne]; exact upd_same) rfl .nil) (w.frame (Same.refl _) fun a ha => kp a (fun z => xn (z ▸ ha)) (fun z => dn (z ▸ ha))), ?_, fun a ha => ?_⟩
  · have q' := s b u q
    rw [kp b (ne_of_none q' hx) (ne_of_none q' hd)]; exact q'
  · show (x :: dx :: fp).Nodup
    rw [List.nodup_cons, List.nodup_cons]
    exact ⟨by simp [ne.symm, xn], dn, nd⟩
  · have ha : a ∈ x :: dx :: fp := ha
    rcases List.mem_cons.mp ha with rfl | ha
    · exact s.free hx
    · rcases List.mem_cons.mp ha with rfl | ha
      · exact s.free hd
      · exact nm a ha
end

/-! ### __init__ -/
def envI (C : Addr) (n : Nat) (ds : List D) : Ev := .obj C [] [] :: (ds.map .dat ++ List.replicate (n - (ds.length + 1)) .unk)
section
variable {P : Program} {w : World} {K : PySem.W.Frag} {mg : Str → Option Value} {base : Heap}
end
section
variable {X : Cx} {W : WX} {pos p : Pos} {e : Expr} {es : List Expr} {ga : Ev → Option (List D)} {k n : Nat} {f C : Addr} {fd : FuncData} {ps : List Str} {x : Str}
/-- what C(..) gives: from the data of the arguments -/
def cO (g : Ev → Option (List D)) (m : List D → Option O) (ρ : Ev) : Option O := (g ρ).bind m
def lenO? (n : Nat) (m : List D → Option O) (ds : List D) : Option O := if ds.length = n then m ds else none
/-! ### a field of a frozen object -/
def fldD (C : Addr) (f : Str) : D → Option D
  | .obj C' ks ds => if C' = C then (ks.zip ds).lookup f else none
  | _ => none
theorem fld_get {K : PySem.W.Frag} {M : Hp} {f : Str} {d : D} : ∀ {fs : List (Str × V)} {ds : List D}, Dvs K M (fs.map (·.2)) ds → ((fs.map (·.1)).zip ds).lookup f = some d → ∃ v, fs.lookup f = some v ∧ Dv K M v d
  | [], _, .nil, e => by cases e
  | (g, x) :: fs, _, .cons h hs, e => by
    simp only [List.map_cons, List.zip_cons_cons, List.lookup] at e ⊢
    by_cases z : f = g
    · subst z
      simp only [beq_self_eq_true] at e ⊢
      cases e
      exact ⟨x, rfl, h⟩
    · have z' : (f == g) = false := by simpa using z
      rw [z'] at e ⊢
      exact fld_get hs e
theorem pFld {fe : Ev → Option D} {f : Str} (c : Cls X.K C) (na : NoAttr X.K C f) (he : PE X e (tP X.K fe)) (hb : attributeBase e f X.env (eval e X.env) = eval e X.env := by rfl) : PE X (.Attribute e f pos) (tP X.K (b1 fe (fldD C f))) :=
  PE.imp (pe_fld he hb) fun σ H Q ⟨M, ρ, fo, fv, d, R, l, e, k⟩ => by
    obtain ⟨x, ea, eg⟩ := b1_some e
    unfold fldD at eg
    split at eg
    · rename_i C' ks ds
      split at eg
      · rename_i hC
        subst hC
        refine ⟨M, ρ, fo, fv, _, R, l, ea, fun M1 H1 v1 s1 R1 d1 => ?_⟩
        cases d1 with
        | obj ha hdx hk hs =>
          subst hk
          obtain ⟨v, ev, dv⟩ := fld_get hs eg
          exact ⟨_, _, _, _, v, rfl, R1.same _ _ ha, c, na, ev, k M1 H1 v s1 R1 dv⟩
      · cases eg
    · cases eg

/-! ### methods, properties, operators of frozen objects -/
def selfC (C : Addr) : D → Bool
  | .obj C' _ _ => decide (C' = C)
  | _ => false
/-- o.m(..): from the data of o and of the arguments -/
def mC (C : Addr) (nm : Str) (fo : Ev → Option D) (ga : Ev → Option (List D)) (n : Nat) (m : List D → Option D) (ρ : Ev) : Option D := (fo ρ).bind fun x => match x with
  | .obj C' ks ds => if C' = C ∧ (ks.zip ds).lookup nm = none then (ga ρ).bind fun as => if as.length + 1 = n then m (.obj C' ks ds :: as) else none else none
  | _ => none
theorem obj_at {pins : List (Addr × Obj)} {σ : L2.St} {H : Hp} {s : Shared} (I : Inv X pins σ H s) {M : Hp} {fo : List O} {fv : List (Option V)} {v : V} {u : Value} {d : D} (R : Rep X.K M H fo fv) (dv : Dv X.K M v d) (hc : selfC C d = true) (r : RelV v u) :
    ∃ a ox od, u = .ref a ∧ v = .ref a ∧ PySem.W.InstAt s.heap a ox C (some od) := by
  cases dv with
  | obj ha hdx hk hs =>
    rename_i a C' dx fs ks ds
    have : C' = C := by simpa [selfC] using hc
    subst this
    obtain rfl : u = Value.ref a := r
    obtain ⟨mA, O, _, _, _, _⟩ := ins_get I.hok (R.same _ _ ha)
    obtain ⟨od, J, _⟩ := O.look
    exact ⟨a, _, od, rfl, rfl, J⟩
  | _ => cases hc
/-- what the number slots of the class are -/
structure OpOf (K : PySem.W.Frag) (C : Addr) (op : Operator) (f : Addr) : Prop where
  first : PySem.W.selfFirst K C = true
  at_ : PySem.W.findIn K (.ref C) (PySem.dunder op.info.2) = some (some (.ref f))
  fn : PySem.W.isFn K (.ref f) = true
theorem notImpl {v : V} {u : Value} (r : RelV v u) : u ≠ .notImplemented := fun z => by
  subst z
  cases v <;> first | (obtain ⟨_, h⟩ := r; cases h) | cases r
theorem ep_back {pins : List (Addr × Obj)} {σ : L2.St} {Q : VK} {u : Value} {s' : Shared} (h : EP X pins σ Q u s') : PySem.W.CmpBack (EP X pins σ Q) u s' := by
  obtain ⟨v, H', I', r, q⟩ := h
  have := notImpl r
  unfold PySem.W.CmpBack
  split
  · exact this rfl
  · exact ⟨v, H', I', r, q⟩
structure OpOfI (K : PySem.W.Frag) (C : Addr) (op : Operator) (f : Addr) : Prop extends OpOf K C op f where
  back : ∃ rc, PySem.W.findIn K (.ref C) (dunderR op.info.2) = some rc ∧ (rc = none ∨ ∃ g : Addr, rc = some (.ref g))
  int1 : ∃ fo, PySem.W.findIn K (.type "int") (PySem.dunder op.info.2) = some fo
  int2 : ∃ ro, PySem.W.findIn K (.type "int") (dunderR op.info.2) = some ro
  sub : PySem.W.subIn K (.type "int") (.ref C) = some false
/-- what isinstance and == ask of an own class -/
structure ClsX (K : PySem.W.Frag) (C : Addr) : Prop where
  c : Cls K C
  ha : PySem.W.findIn K (.ref C) "__class__" = some (some (.builtin "object.__class__"))
  hn : PySem.W.specialIn K (.builtin "object.__class__") "__get__" = some (some (.builtin "getset_descriptor.__get__"))
  htk : PySem.W.takesIn K (.builtin "object.__class__") = some true
  hm : PySem.W.mroIn K C (.type "object") = some true
  ty : PySem.W.typeIn K (.ref C) = some (.type "type")
theorem sub_blt {K : PySem.W.Frag} {C : Addr} {d : D} {t : String} (e : tyD d = some t) : PySem.W.subIn K (.type t) (.ref C) = some false := by
  cases d <;> cases e <;> rfl

theorem ClsX.tyx {K : PySem.W.Frag} {M : Hp} {v : V} {C : Addr} {ks : List Str} {ds : List D} (c : ClsX K C) (h : Dv K M v (.obj C ks ds)) : TyX K M v (.ref C) := by
  cases h with
  | obj ha hdx hk hs => exact .base (.ins ha c.c c.ha c.hn c.htk c.hm)
/-- isinstance(x, C), C an own class: cs says what the own classes are to it -/
def isiC (cs : List (Addr × Bool)) (x : D) : Option D := match x with
  | .obj C' _ _ => (cs.lookup C').map .bl
  | x => (tyD x).map fun _ => .bl false
theorem isiC_cases {cs : List (Addr × Bool)} {x d : D} (h : isiC cs x = some d) : (∃ C' ks ds b, x = .obj C' ks ds ∧ cs.lookup C' = some b ∧ d = .bl b) ∨ ∃ t, tyD x = some t ∧ d = .bl false := by
  cases x with
  | obj C' ks ds =>
    left
    have h : (cs.lookup C').map D.bl = some d := h
    cases q : cs.lookup C' with
    | none => rw [q] at h; cases h
    | some b => rw [q] at h; cases h; exact ⟨C', ks, ds, b, rfl, q, rfl⟩
  | exn _ _ _ _ _ => cases h
  | tagM _ _ => cases h
  | tagP _ _ => cases h
  | dicT _ _ _ => cases h
  | _ =>
    right
    cases h
    exact ⟨_, rfl, rfl⟩
structure IsC (K : PySem.W.Frag) (C : Addr) (cs : List (Addr × Bool)) : Prop where
  cl : (PySem.W.clsIn K C).isSome = true
  ty : PySem.W.typeIn K (.ref C) = some (.type "type")
  own : ∀ C' b, cs.lookup C' = some b → ClsX K C' ∧ PySem.W.kitOne K (.ref C') (.ref C) = some b
theorem pIsiC {a : Expr} {q : Pos} {fa : Ev → Option D} {y : Str} {cs : List (Addr × Bool)} (I : IsC X.K C cs) (hmC : X.mg y = some (.ref C)) (ha : PE X a (tP X.K fa)) (hm : X.mg "isinstance" = none) (hg : Gl X "isinstance" := by rfl) (hgT : Gl X y := by rfl)
    (hd : (y == ("__debug__" : Str)) = false := by decide)
    (hs : starEach [a, .Name y q] X.env = (false, eval a X.env) :: starEach [.Name y q] X.env := by rfl) (hs2 : starEach [.Name y q] X.env = (false, eval (.Name y q) X.env) :: starEach [] X.env := by rfl) (hpl : (backTo pos (starEach [.Name y q] X.env)).any (·.1) = false := by rfl) :
    PE X (.Call (.Name "isinstance" p) [a, .Name y q] [] pos) (tP X.K (b1 fa (isiC cs))) :=
  PE.imp (pe_callB call_isi hg hm (by decide +kernel) (pa_cons ha (pa_cons (pe_glob (v := .ref C) hgT hmC rfl hd) pa_nil hs2) hs) (by decide) (by decide) hs hpl) fun σ H Q ⟨M, ρ, fo, fv, d, R, l, e, k⟩ => by
    obtain ⟨x, ea, eg⟩ := b1_some e
    refine ⟨M, ρ, fo, fv, x, R, l, ea, fun M1 H1 v1 s1 R1 d1 => ?_⟩
    have blt : ∀ t, tyD x = some t → d = .bl false → ∃ (x c : V) (t u : Value) (b : Bool), [v1, V.ref C] = [x, c] ∧ ClsV c u ∧ TyX X.K H1 x t ∧ PySem.W.kitOne X.K t u = some b ∧ Q (.bl b) H1 := fun t ht hd => by
      subst hd
      refine ⟨v1, .ref C, .type t, .ref C, false, rfl, .own C, tyX_mono R1.same (tyX_of d1 ht), ?_, k M1 H1 _ s1 R1 (.bl _)⟩
      unfold PySem.W.kitOne
      rw [if_neg (by simp)]
      show (if ((PySem.W.clsIn X.K C).isSome && PySem.W.typeIn X.K (.ref C) == some (.type "type")) = true then PySem.W.subIn X.K (.type t) (.ref C) else none) = some false
      rw [I.ty, I.cl, if_pos (by simp)]
      exact sub_blt ht
    rcases isiC_cases eg with ⟨C', ks, ds, b, rfl, q, rfl⟩ | ⟨t, ht, hd⟩
    · obtain ⟨c', hk⟩ := I.own C' b q
      exact ⟨v1, .ref C, .ref C', .ref C, b, rfl, .own C, tyX_mono R1.same (c'.tyx d1), hk, k M1 H1 _ s1 R1 (.bl _)⟩
    · exact blt t ht hd
/-- x == y, x of the class C that has its own __eq__ -/
def eqC (C : Addr) (os : List Addr) (m : List D → Option D) (x y : D) : Option D := if selfC C x = true then match y with
  | .obj C' ks ds => if C' = C ∨ C' ∈ os then m [x, .obj C' ks ds] else none
  | y => (tyD y).bind fun _ => m [x, y] else none
theorem eqC_cases {C : Addr} {os : List Addr} {m : List D → Option D} {x y d : D} (h : eqC C os m x y = some d) : selfC C x = true ∧ m [x, y] = some d ∧ ((∃ C' ks ds, y = .obj C' ks ds ∧ (C' = C ∨ C' ∈ os)) ∨ ∃ t, tyD y = some t) := by
  unfold eqC at h
  split at h
  · rename_i hc
    refine ⟨hc, ?_⟩
    cases y with
    | obj C' ks ds =>
      change (if C' = C ∨ C' ∈ os then m [x, .obj C' ks ds] else none) = some d at h
      split at h
      · exact ⟨h, .inl ⟨C', ks, ds, rfl, by assumption⟩⟩
      · cases h
    | exn _ _ _ _ _ => cases h
    | tagM _ _ => cases h
    | tagP _ _ => cases h
    | dicT _ _ _ => cases h
    | _ => exact ⟨h, .inr ⟨_, rfl⟩⟩
  · cases h
structure EqOf (K : PySem.W.Frag) (C f : Addr) (os : List Addr) : Prop where
  at_ : PySem.W.findIn K (.ref C) "__eq__" = some (some (.ref f))
  fn : PySem.W.isFn K (.ref f) = true
  cx : ClsX K C
  own : ∀ C' ∈ os, ClsX K C' ∧ PySem.W.subIn K (.ref C') (.ref C) = some false
theorem oEqC {m : List D → Option D} {os : List Addr} (hop : EqOf X.K C f os) (F : FnOk X.prog X.w X.K X.mg X.base CX0 k f fd ps (spP X.K 2 m)) (hr : Room k X.A) (hb : Binds X.K fd ps []) : OpR X (compareOp .Eq) (rD X.K (eqC C os m)) := by
  intro pins s σ H x y v u Q I rx ry ⟨M, fo, fv, dx, dy, d, R, d1, d2, e, kk⟩
  obtain ⟨hc, em, hy⟩ := eqC_cases e
  obtain ⟨a, ox, od, ea, _, Ia⟩ := obj_at I R d1 hc rx
  subst ea
  obtain ⟨mm, fr⟩ := I.fr
  have fin : ∀ tb, PySem.W.Looks (model X.prog X.w) s.heap (typeOf u) tb → PySem.W.notFirst X.K C tb = true → wpAny (model X.prog X.w) X.A (compareOp .Eq (.ref a) u) (EP X pins σ Q) X.xe s := fun tb L hn => by
    refine PySem.W.cmp_ofEq (PySem.W.cmp_K hr.units0 fr I.ok.mod.kin Ia L hn hop.at_ hop.fn ?_)
    refine wpAny_mono (run_fn (us := [.ref a, u]) (vs := [x, y]) (ds := []) (dvs := []) (E := E0) F hr hb .nil pass0 I (.cons rx (.cons ry .nil)) ?_) (fun _ _ h => ep_back h) fun _ _ h => h
    exact ⟨rfl, M, fo, fv, [dx, dy], d, R, .cons d1 (.cons d2 .nil), em, kk⟩
  have look : ∀ t, TyX X.K M y t → PySem.W.Looks (model X.prog X.w) s.heap (typeOf u) t := fun t ty => by
    obtain ⟨P, Z, p, _⟩ := kit_of I ry (tyX_mono R.same ty)
    exact Z.ty _ _ I.kIn p
  rcases hy with ⟨C', ks, ds, rfl, hC⟩ | ⟨t, ht⟩
  · by_cases z : C' = C
    · subst z
      exact fin _ (look _ (hop.cx.tyx d2)) (by unfold PySem.W.notFirst; simp)
    · obtain ⟨c', hs⟩ := hop.own C' (hC.resolve_left z)
      exact fin _ (look _ (c'.tyx d2)) (by unfold PySem.W.notFirst; rw [hs]; simp)
  · exact fin _ (look _ (tyX_of d2 ht)) (by unfold PySem.W.notFirst; rw [sub_blt ht]; simp)
end
end PD

namespace PD
open PySem PySem.Spec L2

section
variable {X : Cx} {W : WX} {J : List Nat} {pos p : Pos} {e : Expr} {es : List Expr} {ga : Ev → Option (List D)}
/-! ### calls of built-ins that give a new thing -/
theorem tCB_O {K : PySem.W.Frag} {g : Ev → Option (List D)} {f : List D → Option O} {σ : L2.St} {H : Hp} {Q : VK} (h : tO K (cO g f) σ H Q) : tCB (rOs K f) (tAr K g) σ H Q := by
  obtain ⟨M, ρ, fo, fv, o, R, l, e, k⟩ := h
  unfold cO at e
  cases q : g ρ with
  | none => rw [q] at e; cases e
  | some ds =>
    rw [q, Option.bind_some] at e
    exact ⟨M, ρ, fo, fv, ds, R, l, q, fun M1 H1 vs s1 R1 d1 => ⟨M1, ρ ++ fo, σ ++ fv, ds, o, R1, d1, e, fun M2 H2 v s2 R2 => k M2 H2 v (s1.trans s2) (R2.swap l)⟩⟩
theorem oCallB {id : String} {x : Str} {f : List D → Option O} (hc : CallR X (.builtin id) (rOs X.K f)) (hm : X.mg x = none) (hv : bootBuiltins x = some (.builtin id)) (ha : PA X (e :: es) (tAr X.K ga)) (hg : Gl X x := by rfl) (hn : x ≠ "__name__" := by decide) (hdb : (x == ("__debug__" : Str)) = false := by decide)
    (hpl : (backTo pos (starEach es X.env)).any (·.1) = false := by rfl) (hs : starEach (e :: es) X.env = (false, eval e X.env) :: starEach es X.env := by rfl) : PE X (.Call (.Name x p) (e :: es) [] pos) (tO X.K (cO ga f)) :=
  PE.imp (pe_callB hc hg hm hv ha hn hdb hs hpl) fun _ _ _ h => tCB_O h
theorem oCallT {T : String} {x : Str} {f : List D → Option O} (hc : CallR X (.type T) (rOs X.K f)) (hm : X.mg x = none) (hv : bootBuiltins x = some (.type T)) (ha : PA X (e :: es) (tAr X.K ga)) (hg : Gl X x := by rfl) (hn : x ≠ "__name__" := by decide) (hdb : (x == ("__debug__" : Str)) = false := by decide)
    (hpl : (backTo pos (starEach es X.env)).any (·.1) = false := by rfl) (hs : starEach (e :: es) X.env = (false, eval e X.env) :: starEach es X.env := by rfl) : PE X (.Call (.Name x p) (e :: es) [] pos) (tO X.K (cO ga f)) :=
  PE.imp (pe_callTy hc hg hm hv ha hn hdb hs hpl) fun _ _ _ h => tCB_O h
/-! ### list(x), tuple(x) -/
def listO : List D → Option O
  | [.lst ds] => some (.lst (ds.map .dat))
  | [.tup ds] => some (.lst (ds.map .dat))
  | _ => none
theorem cList : CallR X (.type "list") (rOs X.K listO) := CallR.imp call_list_of fun xs H Q ⟨M, fo, fv, ds, o, R, dv, e, k⟩ => by
  unfold listO at e
  split at e
  · cases e
    cases dv with
    | cons d1 dn =>
      cases dn
      cases d1 with
      | lst hs hd => exact ⟨_, _, rfl, .inl (seqX R.same hs), fun l hl => k M _ _ (Same.refl _) (Rep.newL (l := []) (lv := []) R rfl hl hd)⟩
  · cases e
    cases dv with
    | cons d1 dn =>
      cases dn
      cases d1 with
      | tup hs hd => exact ⟨_, _, rfl, .inr (sqT_same R.same hs), fun l hl => k M _ _ (Same.refl _) (Rep.newL (l := []) (lv := []) R rfl hl hd)⟩
  · cases e
def tupD : List D → Option D
  | [.lst ds] => some (.tup ds)
  | [.tup ds] => some (.tup ds)
  | _ => none
theorem cTup : CallR X (.type "tuple") (rDs X.K tupD) := CallR.imp call_tuple_of fun xs H Q ⟨M, fo, fv, ds, o, R, dv, e, k⟩ => by
  unfold tupD at e
  split at e
  · cases e
    cases dv with
    | cons d1 dn =>
      cases dn
      cases d1 with
      | @lst a xs _ hs hd =>
        refine ⟨_, _, rfl, .inl ⟨seqX R.same hs, fun l hl => ?_⟩⟩
        have s2 := same_updM (u := .tup xs) (R.same.free hl)
        exact k _ _ _ s2 (R.growM hl) (.tup (.inl (.inl upd_same)) (hd.mono s2))
  · cases e
    cases dv with
    | cons d1 dn =>
      cases dn
      have d1' := d1
      cases d1 with
      | tup hs hd => exact ⟨_, _, rfl, .inr ⟨sqT_same R.same hs, k M H _ (Same.refl _) R d1'⟩⟩
  · cases e
/-! ### sorted(x) -/
def pyT (d : D) : PyData := d.py.getD .none
def leD : D → D → Bool := PySem.W.dataLe false pyT
def SortOk (ds : List D) : Prop := (∀ d ∈ ds, d.py = some (pyT d) ∧ (pyT d).depth ≤ 60) ∧ PySem.W.AllAlike (ds.map pyT) ∧ PySem.W.Sortable (ds.map pyT) ∧ ds.length ≤ sizeLine
open Classical in
noncomputable def srtO : List D → Option O
  | [.lst ds] => if SortOk ds then some (.lst ((ds.mergeSort leD).map .dat)) else none
  | _ => none
theorem each_of {K : PySem.W.Frag} {M : Hp} : ∀ {vs : List V} {ds : List D} {us : List Value}, Dvs K M vs ds → Vals vs us → PySem.W.EachIs (fun u (d : D) => ∃ v, RelV v u ∧ Dv K M v d) us ds
  | _, _, _, .nil, .nil => .nil
  | _, _, _, .cons d ds, .cons r rs => .cons ⟨_, r, d⟩ (each_of ds rs)
theorem of_each {K : PySem.W.Frag} {M : Hp} : ∀ {us : List Value} {ds : List D}, PySem.W.EachIs (fun u (d : D) => ∃ v, RelV v u ∧ Dv K M v d) us ds → ∃ vs, Vals vs us ∧ Dvs K M vs ds
  | _, _, .nil => ⟨[], .nil, .nil⟩
  | _, _, .cons ⟨v, r, d⟩ t => by
    obtain ⟨vs, rs, ds⟩ := of_each t
    exact ⟨v :: vs, .cons r rs, .cons d ds⟩
theorem cSorted (hu : X.A.units + 64 < cLine) : CallR X (.builtin "sorted") (rOs X.K srtO) := by
  intro pins s σ H xs us Q I r ⟨M, fo, fv, ds, o, R, dv, e, k⟩
  unfold srtO at e
  split at e
  · rename_i ds
    split at e
    · rename_i ok
      cases e
      cases dv with
      | cons d1 dn =>
        cases dn
        cases d1 with
        | lst hs hd =>
          obtain ⟨its, rv, hl, _⟩ := I.list (seqX R.same hs)
          rw [Vals.ref1 r]
          obtain ⟨o1, o2, o3, o4⟩ := ok
          refine PySem.W.sorted_data (bs := ds) (enc := pyT) hl.isList (each_of hd rv) ?_ o2 o3 o4 (fun b hb => by have := (o1 b hb).2; omega) fun out hlen eo => ?_
          · have key : ∀ {vs : List V} {es : List D} {us : List Value}, (∀ d ∈ es, d.py = some (pyT d)) → Dvs X.K M vs es → Vals vs us → PySem.W.EachIs (fun u (d : D) => ∃ as, Reads s.heap u (pyT d) as) us es := by
              intro vs es
              induction es generalizing vs with
              | nil => intro us _ h2 h3; cases h2; cases h3; exact .nil
              | cons d es ih =>
                intro us h1 h2 h3
                cases h2 with
                | cons a b =>
                  cases h3 with
                  | cons c c' => exact .cons (Dp.reads I _ _ _ (dp_mono R.same (a.dp (h1 d List.mem_cons_self))) c) (ih (fun x hx => h1 x (List.mem_cons_of_mem _ hx)) b c')
            exact key (fun d hd => (o1 d hd).1) hd rv
          · obtain ⟨ep, he'⟩ := PyProof.Rows.sortedAll_at s.heap its out.toArray
            obtain ⟨vs, rs, dvs⟩ := of_each eo
            have hlen' : vs.length ≤ sizeLine := by rw [rs.length, hlen]; exact o4
            have hf := I.hok.fresh (Nat.le_succ s.heap.objs.size)
            exact ⟨.ref _, upd H (s.heap.objs.size + 1) (.lst vs), I.laid (t' := s.toks) (fun _ _ => PyProof.Rows.sortedAll_old) (Nat.le_succ _) ⟨hlen', out, ep, rs, by simpa using he'⟩, rfl, k M _ _ (Same.refl _) (Rep.newL (l := []) (lv := []) R rfl hf dvs)⟩
    · cases e
  · cases e
end
end PD

namespace PD
open PySem PySem.Spec L2

section
variable {X : Cx} {W : WX} {J : List Nat} {pos p cpos apos : Pos} {e : Expr} {es : List Expr} {ga : Ev → Option (List D)} {te : TE}
/-! ### list(d.values()) -/
theorem dget_rd {H : Hp} {a : Addr} {kvs : List (Key × V)} {k : Key} (e : Rd H a (.dK kvs)) : DGet H a (kV k) (valV kvs k) := .inl ⟨kvs, k, e, rfl, rfl⟩
def keyD : D → Option Key
  | .int i => some (.inl i)
  | .str x => some (.inr x)
  | _ => none
theorem key_of {K : PySem.W.Frag} {M : Hp} {v : V} {d : D} {k : Key} (h : Dv K M v d) (e : keyD d = some k) : v = kV k := by
  cases h <;> cases e <;> rfl
/-- {} -/
def dic0 (_ : Ev) : Option O := some (.dic [] [])
theorem Rep.newD {K : PySem.W.Frag} {M H : Hp} {l r : List O} {lv rv : List (Option V)} (R : Rep K M H (l ++ r) (lv ++ rv)) (e : lv.length = l.length) {p : Addr} (hp : H p = none) : Rep K M (upd H p (.dK [])) (l ++ .dic [] [] :: r) (lv ++ some (.ref p) :: rv) := by
  obtain ⟨s, fp, w, nd, nm⟩ := R
  have pn : p ∉ fp := fun z => w.dom p z hp
  have w' : Ows K M (upd H p (.dK [])) (l ++ r) (lv ++ rv) fp := w.frame (Same.refl _) fun a ha => upd_ne fun z => pn (z ▸ ha)
  obtain ⟨fa, fb, e1, wa, wb⟩ := w'.split e
  subst e1
  refine ⟨fun b u q => ?_, fa ++ ([p] ++ fb), wa.append (.cons (.dic upd_same rfl .nil) wb), ?_, fun a ha => ?_⟩
  · have q' := s b u q
    rw [upd_ne (ne_of_none q' hp)]; exact q'
  · rw [List.nodup_append] at nd ⊢
    obtain ⟨n1, n2, n3⟩ := nd
    refine ⟨n1, List.nodup_cons.mpr ⟨fun z => pn (List.mem_append_right _ z), n2⟩, fun a ha b hb => ?_⟩
    rcases List.mem_cons.mp hb with rfl | hb
    · exact fun z => pn (z ▸ List.mem_append_left _ ha)
    · exact n3 a ha b hb
  · simp only [List.mem_append, List.mem_singleton] at ha
    rcases ha with ha | rfl | ha
    · exact nm a (List.mem_append_left _ ha)
    · exact s.free hp
    · exact nm a (List.mem_append_right _ ha)
theorem oDic0 : PE X (.Dict [] [] pos) (tO X.K dic0) := PE.imp pe_dnewK fun σ H Q ⟨M, ρ, fo, fv, o, R, l, e, k⟩ => by
  cases e
  exact fun p hp => k M _ _ (Same.refl _) (R.newD l hp)
/-- d[k] of a frozen dict -/
def dlook (k : Key) : List Key → List D → Option D
  | k' :: ks, d :: ds => if k' = k then some d else dlook k ks ds
  | _, _ => none
theorem dlook_val {K : PySem.W.Frag} {M : Hp} {k : Key} : ∀ {kvs : List (Key × V)} {ds : List D}, Dvs K M (kvs.map (·.2)) ds → match dlook k (kvs.map (·.1)) ds with
    | some d => ∃ v, valV kvs k = some v ∧ Dv K M v d
    | none => valV kvs k = none
  | [], _, .nil => rfl
  | (k', v) :: kvs, _, .cons (d := d) (ds := ds) h hs => by
    simp only [List.map_cons, dlook]
    by_cases e : k' = k
    · rw [if_pos e]; exact ⟨v, valV_pos e, h⟩
    · rw [if_neg e]
      have ih := dlook_val (k := k) hs
      have ev : valV ((k', v) :: kvs) k = valV kvs k := valV_neg e
      rw [ev]
      exact ih
def dgetD (x y : D) : Option D := match x with
  | .dic ks ds => (keyD y).bind fun k => dlook k ks ds
  | _ => none
theorem pDget {a b : Expr} {fa fb : Ev → Option D} (hu : X.A.units + 64 < cLine) (ha : PE X a (tP X.K fa)) (hb : PE X b (tP X.K fb)) (hs : NoSl b := by exact fun _ _ => rfl) : PE X (.Subscript a b pos) (tP X.K (b2 fa fb dgetD)) := PE.imp (pe_dget (by omega) ha hb hs) fun σ H Q h => by
  obtain ⟨M, ρ, fo, fv, d, R, l, e, k⟩ := h
  obtain ⟨x, y, ea, eb, eg⟩ := b2_some e
  refine ⟨M, ρ, fo, fv, x, R, l, ea, fun M1 H1 v1 s1 R1 d1 => ⟨M1, ρ, fo, fv, y, R1, l, eb, fun M2 H2 v2 s2 R2 d2 => ?_⟩⟩
  unfold dgetD at eg
  split at eg
  · rename_i ks ds
    cases q : keyD y with
    | none => rw [q] at eg; cases eg
    | some kk =>
      rw [q, Option.bind_some] at eg
      have d1 := d1.mono s2
      cases d1 with
      | dic h1 hk hd =>
        subst hk
        have := dlook_val (k := kk) hd
        rw [eg] at this
        obtain ⟨v, ev, dv⟩ := this
        refine ⟨_, v, rfl, ?_, k M2 H2 v (s1.trans s2) R2 dv⟩
        rw [key_of d2 q, ← ev]
        exact dget_rd (Rd.up R2.same h1)
  · cases eg
/-! ### an own dict in a slot -/
def olook (k : Key) : List Key → List O → Option O
  | k' :: ks, d :: ds => if k' = k then some d else olook k ks ds
  | _, _ => none
theorem olook_val {K : PySem.W.Frag} {M H : Hp} {k : Key} : ∀ {kvs : List (Key × V)} {os : List O} {fp : List Addr}, Ows K M H os (kvs.map fun p => some p.2) fp → match olook k (kvs.map (·.1)) os with
    | some o => ∃ v f, valV kvs k = some v ∧ Ow K M H o (some v) f
    | none => valV kvs k = none
  | [], _, _, .nil => rfl
  | (k', v) :: kvs, _, _, .cons (o := o) (os := os) h hs => by
    simp only [List.map_cons, olook]
    by_cases e : k' = k
    · rw [if_pos e]; exact ⟨v, _, valV_pos e, h⟩
    · rw [if_neg e]
      have ih := olook_val (k := k) hs
      have ev : valV ((k', v) :: kvs) k = valV kvs k := valV_neg e
      rw [ev]
      exact ih
def putKD (k : Key) (d : D) (ks : List Key) (os : List O) : List Key × List O := if (ks.any fun k' => decide (k' = k)) = true then (ks, List.zipWith (fun k' o => if k' = k then .dat d else o) ks os) else (ks ++ [k], os ++ [.dat d])
def dput (i : Nat) (fk fv : Ev → Option D) (ρ : Ev) : Option Fl := (fv ρ).bind fun d => (fk ρ).bind fun y => (keyD y).bind fun k => match ρ[i]? with
  | some (.dic ks os) => if os.length < sizeLine then some (.nx (ρ.set i (.dic (putKD k d ks os).1 (putKD k d ks os).2))) else none
  | _ => none
theorem putKD_keys {k : Key} {v : V} {d : D} {kvs : List (Key × V)} {os : List O} : (putK kvs k v).map (·.1) = (putKD k d (kvs.map (·.1)) os).1 := by
  unfold putK putKD
  rw [List.any_map]
  have : ((fun k' => decide (k' = k)) ∘ fun x : Key × V => x.1) = fun kv => decide (kv.1 = k) := rfl
  rw [this]
  split
  · rw [List.map_map]
    apply List.map_congr_left
    intro p _
    simp only [Function.comp]
    split <;> rfl
  · simp
theorem zip_ows {K : PySem.W.Frag} {M H : Hp} {k : Key} {v : V} {d : D} (dv : Dv K M v d) : ∀ {kvs : List (Key × V)} {os : List O} {fp : List Addr}, Ows K M H os (kvs.map fun p => some p.2) fp →
    ∃ fp', Ows K M H (List.zipWith (fun k' o => if k' = k then O.dat d else o) (kvs.map (·.1)) os) ((kvs.map fun kv => if kv.1 = k then (kv.1, v) else kv).map fun p => some p.2) fp' ∧ ∀ b, fp'.count b ≤ fp.count b
  | [], _, _, .nil => ⟨[], .nil, fun b => Nat.le_refl _⟩
  | (k', x) :: kvs, _, _, .cons (o := o) (os := os) (f1 := f1) (f2 := f2) h hs => by
    obtain ⟨fp', w, c⟩ := zip_ows dv hs
    simp only [List.map_cons, List.zipWith_cons_cons]
    by_cases e : k' = k
    · rw [if_pos e, if_pos e]
      exact ⟨[] ++ fp', .cons (.dat dv) w, fun b => by have := c b; simp only [List.nil_append, List.count_append]; omega⟩
    · rw [if_neg e, if_neg e]
      exact ⟨f1 ++ fp', .cons h w, fun b => by have := c b; simp only [List.count_append]; omega⟩
theorem putKD_ows {K : PySem.W.Frag} {M H : Hp} {k : Key} {v : V} {d : D} (dv : Dv K M v d) {kvs : List (Key × V)} {os : List O} {fp : List Addr} (w : Ows K M H os (kvs.map fun p => some p.2) fp) :
    ∃ fp', Ows K M H (putKD k d (kvs.map (·.1)) os).2 ((putK kvs k v).map fun p => some p.2) fp' ∧ ∀ b, fp'.count b ≤ fp.count b := by
  unfold putK putKD
  rw [List.any_map]
  have : ((fun k' => decide (k' = k)) ∘ fun x : Key × V => x.1) = fun kv => decide (kv.1 = k) := rfl
  rw [this]
  split
  · exact zip_ows dv w
  · refine ⟨fp ++ ([] ++ []), ?_, fun b => by simp⟩
    rw [List.map_append]
    exact w.append (.cons (.dat dv) .nil)
theorem sDput {i : Nat} {x : Str} {p' pp : Pos} {b value : Expr} {fk fvl : Ev → Option D} (hu : X.A.units + 64 < cLine) (hv : PE X (.Name x p') (tVar i)) (hb : PE X b (tP X.K fk)) (he : PE X value (tP X.K fvl)) (hs : swapsWith value (some (.Subscript (.Name x p') b pp)) pos.line X.env = pure false := by rfl) :
    PS X (.Assign [.Subscript (.Name x p') b pp] value pos) (tS X.K W J (dput i fk fvl)) := PS.imp (ps_dput (by omega) hv hb he hs) fun E σ H ⟨M, ρ, fo, fv, r, σ0, R, l, e, k⟩ => by
  unfold dput at e
  cases q : fvl ρ with
  | none => rw [q] at e; cases e
  | some d =>
    rw [q, Option.bind_some] at e
    cases q1 : fk ρ with
    | none => rw [q1] at e; cases e
    | some y =>
      rw [q1, Option.bind_some] at e
      cases q2 : keyD y with
      | none => rw [q2] at e; cases e
      | some kk =>
        rw [q2, Option.bind_some] at e
        split at e
        · rename_i ks os eo
          split at e
          · rename_i hlen
            cases e
            refine ⟨M, ρ, fo, fv, d, R, l.1, q, fun M1 H1 v s1 R1 d1 => ?_⟩
            have R1' : Rep X.K M1 H1 (ρ ++ ([] ++ fo)) (σ ++ ([] ++ fv)) := R1
            obtain ⟨w, f1, ft, ew, h1, _, _, _, _⟩ := R1'.own l.1 rfl eo
            cases h1 with
            | @dic a kvs _ _ fp ha hk ws =>
              refine ⟨.ref a, ew, M1, ρ, fo, fv, y, R1, l.1, q1, fun M2 H2 v2 s2 R2 d2 => ?_⟩
              have R2' : Rep X.K M2 H2 (ρ ++ ([] ++ fo)) (σ ++ ([] ++ fv)) := R2
              obtain ⟨w', f1', ft', ew', h1', h2', nd, nm, up⟩ := R2'.own l.1 rfl eo
              cases h2'
              rw [ew] at ew'
              cases ew'
              cases h1' with
              | @dic _ kvs' _ _ fp' ha' hk' ws' =>
                have hlk : kvs'.length = os.length := by rw [← ws'.length, List.length_map]
                refine ⟨a, upd H2 a (.dK (putK kvs' kk v)), rfl, ?_, ?_⟩
                · rw [key_of d2 q2]
                  exact DPut.k ha' (by rw [hlk]; exact hlen)
                · have hd : ∀ b ∈ fp', b ≠ a := fun b hb z => by
                    subst z
                    rw [List.nodup_iff_count] at nd
                    have := nd b
                    simp only [List.append_nil, List.count_cons, beq_self_eq_true, if_true] at this
                    have := List.count_pos_iff.mpr hb
                    omega
                  have ma : M2 a = none := nm a (by simp)
                  have sm : Same M2 (upd H2 a (.dK (putK kvs' kk v))) := fun b u z => by
                    rw [upd_ne (fun y => by subst y; rw [ma] at z; cases z)]; exact R2.same b u z
                  obtain ⟨fp2, w2, c2⟩ := putKD_ows (k := kk) (d1.mono s2) (ws'.frame (Same.refl _) (H' := upd H2 a (.dK (putK kvs' kk v))) fun b hb => upd_ne (hd b hb))
                  refine k M2 _ σ (s1.trans s2) (up M2 _ _ (a :: fp2) (Same.refl _) sm (fun b hb _ => upd_ne fun z => hb (by simp [z])) (.dic upd_same ?_ ?_) (fun b => ?_) fun b hb _ => hb) (l.setR _)
                  · rw [putKD_keys (d := d) (os := os), hk']
                  · rw [hk'] at w2; exact w2
                  · have := c2 b
                    simp only [List.count_cons, List.count_nil] at this ⊢
                    omega
          · cases e
        · cases e
end
end PD

namespace PD
open PySem PySem.Spec L2

theorem Dvs.rev {K : PySem.W.Frag} {M : Hp} : ∀ {vs : List V} {ds : List D}, Dvs K M vs ds → Dvs K M vs.reverse ds.reverse
  | _, _, .nil => .nil
  | _, _, .cons h t => by
    rw [List.reverse_cons, List.reverse_cons]
    exact (Dvs.rev t).append (.cons h .nil)
section
variable {X : Cx} {W : WX} {J : List Nat} {pos p cpos apos : Pos} {e a b : Expr} {es : List Expr} {fa fb : Ev → Option D}
theorem Inv.listX {pins : List (Addr × Obj)} {σ : L2.St} {H : Hp} {s : Shared} {l : Addr} {xs : List V} (I : Inv X pins σ H s) (h : SqX X.K H l xs) : ∃ (its : List Value) (n : Nat), Vals xs its ∧ s.heap.get? l = some ({ cls := .type "list", data := .seq its.toArray n } : Obj) := by
  rcases h with h | ⟨its, n, lk, hz, r⟩
  · obtain ⟨z, its, n, r, e⟩ := h.ok I.hok
    exact ⟨its, n, r, e⟩
  · refine ⟨its.toList, n, r, ?_⟩
    rw [Array.toArray_toList]; exact I.kIn _ _ lk
/-! ### list + list -/
def rCatX (K : PySem.W.Frag) : R2 := fun x y H Q => ∃ l b xs zs, x = .ref l ∧ y = .ref b ∧ SqX K H l xs ∧ SqX K H b zs ∧ xs.length + zs.length ≤ sizeLine ∧ ∀ p, H p = none → Q (.ref p) (upd H p (.lst (xs ++ zs)))
theorem op_catX : OpR X (binaryOp .Add) (rCatX X.K) := by
  intro pins s σ H x y v u Q I rx ry h
  obtain ⟨l, b, xs, zs, rfl, rfl, hH, hB, hz, q⟩ := h
  cases rx
  cases ry
  obtain ⟨its, n, r, e⟩ := Inv.listX I hH
  obtain ⟨its2, n2, r2, e2⟩ := Inv.listX I hB
  have l1 := r.length
  have l2 := r2.length
  refine PySem.P.add_list e e2 ?_ (by rw [List.size_toArray, List.size_toArray]; omega)
  have ea : its.toArray ++ its2.toArray = (its ++ its2).toArray := by simp
  rw [ea]
  exact ⟨.ref _, _, I.lnew (t' := s.toks) (r.append r2) (by rw [List.length_append]; omega), rfl, q _ I.fresh⟩
def catL (x y : D) : Option D := match x, y with
  | .lst xs, .lst ys => if xs.length + ys.length ≤ sizeLine then some (.lst (xs ++ ys)) else none
  | _, _ => none
theorem oCatL : OpR X (binaryOp .Add) (rD X.K catL) := OpR.imp op_catX fun x y H Q ⟨M, fo, fv, dx, dy, d, R, d1, d2, e, k⟩ => by
  unfold catL at e
  split at e
  · rename_i xs ys
    split at e
    · rename_i hz
      cases e
      cases d1 with
      | @lst l ws _ h1 g1 =>
        cases d2 with
        | @lst b zs _ h2 g2 =>
          refine ⟨l, b, ws, zs, rfl, rfl, sqX_same R.same h1, sqX_same R.same h2, by rw [g1.length, g2.length]; exact hz, fun p hp => ?_⟩
          have s2 := same_updM (u := .lst (ws ++ zs)) (R.same.free hp)
          exact k _ _ _ s2 (R.growM hp) (.lst (.inl (.inl upd_same)) ((g1.append g2).mono s2))
    · cases e
  · cases e
/-- tuple + tuple -/
def catT (x y : D) : Option D := match x, y with
  | .tup xs, .tup ys => if xs.length + ys.length ≤ sizeLine then some (.tup (xs ++ ys)) else none
  | _, _ => none
theorem oCatT : OpR X (binaryOp .Add) (rD X.K catT) := OpR.imp op_catA fun x y H Q ⟨M, fo, fv, dx, dy, d, R, d1, d2, e, k⟩ => by
  unfold catT at e
  split at e
  · rename_i xs ys
    split at e
    · rename_i hz
      cases e
      have e1 := d1
      have e2 := d2
      cases d1 with
      | @tup l ws _ h1 g1 =>
        cases d2 with
        | @tup b zs _ h2 g2 =>
          refine ⟨l, b, ws, zs, rfl, rfl, sqT_same R.same h1, sqT_same R.same h2, by rw [g1.length, g2.length]; exact hz, fun z => ?_, fun _ z => ?_, fun _ _ p hp => ?_⟩
          · subst z
            cases g1
            exact k M H _ (Same.refl _) R e2
          · subst z
            cases g2
            rw [List.append_nil] at k
            exact k M H _ (Same.refl _) R e1
          · have s2 := same_updM (u := .tup (ws ++ zs)) (R.same.free hp)
            exact k _ _ _ s2 (R.growM hp) (.tup (.inl (.inl upd_same)) ((g1.append g2).mono s2))
    · cases e
  · cases e
/-- + of ints, texts, lists, tuples -/
abbrev addA : D → D → Option D := orD addD (orD catL catT)
theorem oAddA : OpR X (binaryOp .Add) (rD X.K addA) := op_orD oAdd (op_orD oCatL oCatT)
/-! ### xs[::-1] -/
def revD : D → Option D
  | .lst xs => some (.lst xs.reverse)
  | _ => none
theorem pRev {k : Nat} {p1 p2 p3 : Pos} (he : PE X e (tP X.K fa)) : PE X (.Subscript e (.Slice none none (some (.UnaryOp .USub (.Constant (.int 1) k p1) p2)) p3) pos) (tP X.K (b1 fa revD)) := PE.imp (pe_revL he) fun σ H Q ⟨M, ρ, fo, fv, d, R, l, e, k⟩ => by
  obtain ⟨x, ea, eg⟩ := b1_some e
  unfold revD at eg
  split at eg
  · rename_i xs
    cases eg
    refine ⟨M, ρ, fo, fv, _, R, l, ea, fun M1 H1 v1 s1 R1 d1 => ?_⟩
    cases d1 with
    | @lst a ws _ h1 g1 =>
      refine ⟨a, ws, rfl, seqX R1.same h1, fun p hp => ?_⟩
      have s2 := same_updM (u := .lst ws.reverse) (R1.same.free hp)
      exact k _ _ _ (s1.trans s2) (R1.growM hp) (.lst (.inl (.inl upd_same)) ((Dvs.rev g1).mono s2))
  · cases eg
end

/-! ### the law's end -/
/-- the law's promise, whatever its mirror -/
def spT (K : PySem.W.Frag) : Sp := fun vs H Q _ => ∃ (a : Addr) (ns : List Int), vs = [.ref a] ∧ ns.length ≤ 63 ∧ SqX K H a (ns.map V.int) ∧ ∀ H', Q (.bl true) H'
theorem spT_of {K : PySem.W.Frag} {m : List D → Option D} (hm : ∀ ns : List Int, ns.length ≤ 63 → m [.lst (ns.map .int)] = some (.bl true)) {vs : List V} {H : Hp} {Q : VK} {E : XK} (h : spT K vs H Q E) : spP K 1 m vs H Q E := by
  obtain ⟨a, ns, rfl, hl, hS, q⟩ := h
  exact ⟨rfl, H, [], [], [.lst (ns.map .int)], .bl true, ⟨Same.refl _, [], .nil, List.nodup_nil, fun _ h => nomatch h⟩, .cons (.lst hS (ints_dvs ns)) .nil, hm ns hl, fun M' H' v _ _ d => by cases d; exact q H'⟩
theorem walk_ofD {l : PySem.W.OpenLaw} {n k : Nat} {q : Program} {loose : List Str} {XP : (Str → Option Value) → Heap → Prop} {YP : World → Heap → Prop} {d : DefRec} {K : Params → PySem.W.Frag} {CX : World → CXT} {x : Str}
    (hn : l.most = some n) (h63 : n ≤ 63) (hdf : d.params.defaults = []) (hr : Room k callerA)
    (hY : ∀ (w : World) (h : Heap), YP w h → (K w.params).In h)
    (F : ∀ (w : World) (mg : Str → Option Value) (fa : Addr) (h : Heap), (K w.params).In h → h.Ns mainGlobals mg → mg d.name = some (.ref fa) →
      ∃ fd : FuncData, (∀ (s : Shared) (u : Value), BindsTo s fd ⟨[u], []⟩ [(x, u)]) ∧
        ∀ base : Heap, (K w.params).In base → base.Ns mainGlobals mg → FnOk l.prog w (K w.params) mg base (CX w) k fa fd [x] (spT (K w.params)))
    (hCX : ∀ (w : World) (H : Hp) (s : Shared) (e : Value) (s' : Shared), CX w [] H s (fun _ _ _ => False) e s' → False) :
    PySem.W.WalkO q loose XP YP l.row.toRowW d [] (fun f vs => PySem.call f vs) := by
  refine Att.attach_callB hn hdf fun w s₀ s₁ mg mb fa o pm cd doc a vs ns G Y ho hd hcd hmg hobj hints hlen hbits hg => ?_
  have KX := hY w _ Y
  obtain ⟨fd, hb, hF⟩ := F w mg fa _ KX G.T.g hmg
  have n63 : ns.length ≤ sizeLine := by rw [sizeLine_eq]; omega
  refine law_call KX G.T.g G.T.b G.T.builtins G.T.nolimit hg hobj hints n63 hr hF hb (fun H hO hS => ?_) fun H e s' => hCX w H s₁ e s'
  refine ⟨a, ns, rfl, Nat.le_trans hlen h63, ?_, fun _ => rfl⟩
  rcases hS with hS | ⟨o', its, m, lk, hc, hdd, hdt, hz, r⟩
  · exact .inl hS
  · have e1 := KX _ _ lk
    rw [hobj] at e1
    cases e1
    cases hdt
    exact .inr ⟨_, _, lk, hz, r⟩
end PD

namespace PD
open PySem PySem.Spec L2

/-! ### roots in another order -/
section
variable {K : PySem.W.Frag} {M H : Hp}
theorem Ows.perm {l l' : List (O × Option V)} (p : l.Perm l') : ∀ {fp : List Addr}, Ows K M H (l.map (·.1)) (l.map (·.2)) fp → ∃ fp', fp.Perm fp' ∧ Ows K M H (l'.map (·.1)) (l'.map (·.2)) fp' := by
  induction p with
  | nil => exact fun w => ⟨_, .refl _, w⟩
  | cons x _ ih =>
    intro fp w
    cases w with
    | cons h hs =>
      obtain ⟨f', q, w'⟩ := ih hs
      exact ⟨_, q.append_left _, .cons h w'⟩
  | swap x y l =>
    intro fp w
    cases w with
    | cons h hs =>
      rename_i f1 f2
      cases hs with
      | cons h' hs' =>
        rename_i f3 f4
        refine ⟨f3 ++ (f1 ++ f4), ?_, .cons h' (.cons h hs')⟩
        rw [← List.append_assoc, ← List.append_assoc]
        exact List.Perm.append_right _ List.perm_append_comm
  | trans _ _ ih1 ih2 =>
    intro fp w
    obtain ⟨f1, q1, w1⟩ := ih1 w
    obtain ⟨f2, q2, w2⟩ := ih2 w1
    exact ⟨f2, q1.trans q2, w2⟩
theorem zip_fst {α β : Type} : ∀ {as : List α} {bs : List β}, bs.length = as.length → (as.zip bs).map (·.1) = as
  | [], [], _ => rfl
  | a :: as, b :: bs, h => by simp only [List.zip_cons_cons, List.map_cons]; rw [zip_fst (by simpa using h)]
theorem zip_snd {α β : Type} : ∀ {as : List α} {bs : List β}, bs.length = as.length → (as.zip bs).map (·.2) = bs
  | [], [], _ => rfl
  | a :: as, b :: bs, h => by simp only [List.zip_cons_cons, List.map_cons]; rw [zip_snd (by simpa using h)]
theorem Rep.perm {os os' : List O} {vs vs' : List (Option V)} (R : Rep K M H os vs) (l : vs.length = os.length) (l' : vs'.length = os'.length) (p : (os.zip vs).Perm (os'.zip vs')) : Rep K M H os' vs' := by
  obtain ⟨s, fp, w, nd, nm⟩ := R
  have w0 : Ows K M H ((os.zip vs).map (·.1)) ((os.zip vs).map (·.2)) fp := by rw [zip_fst l, zip_snd l]; exact w
  obtain ⟨fp', q, w'⟩ := Ows.perm p w0
  rw [zip_fst l', zip_snd l'] at w'
  exact ⟨s, fp', w', q.nodup_iff.mp nd, fun a ha => nm a (q.mem_iff.mpr ha)⟩
theorem split_at {α : Type} {xs : List α} {k : Nat} {x : α} (e : xs[k]? = some x) (y : α) : ∃ a b, xs = a ++ x :: b ∧ a.length = k ∧ xs.set k y = a ++ y :: b := by
  obtain ⟨hk, e⟩ := List.getElem?_eq_some_iff.mp e
  refine ⟨xs.take k, xs.drop (k + 1), ?_, by simp; omega, ?_⟩
  · rw [← e, ← List.drop_eq_getElem_cons hk, List.take_append_drop]
  · rw [List.set_eq_take_append_cons_drop, if_pos hk]
/-- .. and given back -/
theorem Rep.back {l ρ r : List O} {lv σ rv : List (Option V)} {k : Nat} {o z : O} {v : Option V} (R : Rep K M H (l ++ (o :: (ρ ++ r))) (lv ++ (v :: (σ ++ rv)))) (el : lv.length = l.length) (e : σ.length = ρ.length) (er : rv.length = r.length) (eo : ρ[k]? = some z) (ev : σ[k]? = some v) :
    Rep K M H (l ++ (ρ.set k o ++ r)) (lv ++ (σ ++ rv)) := by
  obtain ⟨a, b, e1, e2, e3⟩ := split_at eo o
  obtain ⟨c, d, f1, f2, _⟩ := split_at ev v
  have hac : c.length = a.length := by omega
  rw [e3]
  subst e1; subst f1
  have hbd : d.length = b.length := by simp at e; omega
  -- the old thing of the slot goes
  have R1 : Rep K M H (l ++ (o :: (a ++ b ++ r))) (lv ++ (v :: (c ++ d ++ rv))) := by
    have R0 : Rep K M H ((l ++ (o :: a)) ++ z :: (b ++ r)) ((lv ++ (v :: c)) ++ v :: (d ++ rv)) := by simpa using R
    have := R0.drop (by simp [el, hac])
    simpa using this
  refine R1.perm (by simp [el, hac, hbd, er]) (by simp [el, hac, hbd, er]) ?_
  have z1 : (l ++ (o :: (a ++ b ++ r))).zip (lv ++ (v :: (c ++ d ++ rv))) = l.zip lv ++ ((o, v) :: (a.zip c ++ (b.zip d ++ r.zip rv))) := by
    rw [List.zip_append el.symm]
    simp only [List.zip_cons_cons, List.append_assoc]
    rw [List.zip_append hac.symm, List.zip_append hbd.symm]
  have z2 : (l ++ ((a ++ o :: b) ++ r)).zip (lv ++ ((c ++ v :: d) ++ rv)) = l.zip lv ++ (a.zip c ++ ((o, v) :: (b.zip d ++ r.zip rv))) := by
    rw [List.zip_append el.symm]
    simp only [List.append_assoc, List.cons_append]
    rw [List.zip_append hac.symm]
    simp only [List.zip_cons_cons]
    rw [List.zip_append hbd.symm]
  rw [z1, z2]
  exact List.Perm.append_left _ List.perm_middle.symm
end

/-! ### arguments that are lent -/
inductive Arg where
  | val (f : Ev → Option D) | own (k : Nat)
def O.known : O → Bool
  | .unk => false
  | _ => true
theorem Ow.known {K : PySem.W.Frag} {M H : Hp} {o : O} {v : Option V} {f : List Addr} (h : Ow K M H o v f) (k : o.known = true) : ∃ x, v = some x := by
  cases h <;> first | exact ⟨_, rfl⟩ | cases k
inductive Bor (σ : L2.St) : List Arg → List V → Prop
  | nil : Bor σ [] []
  | val {f : Ev → Option D} {as : List Arg} {v : V} {vs : List V} : Bor σ as vs → Bor σ (.val f :: as) (v :: vs)
  | own {k : Nat} {as : List Arg} {v : V} {vs : List V} : σ[k]? = some (some v) → Bor σ as vs → Bor σ (.own k :: as) (v :: vs)
section
variable {K : PySem.W.Frag} {M H : Hp}
theorem Rep.lens {ρ fo : List O} {σ fv : List (Option V)} (R : Rep K M H (ρ ++ fo) (σ ++ fv)) (l : σ.length = ρ.length) : fv.length = fo.length := by
  have := R.length
  simp at this; omega
end
section
variable {X : Cx} {e : Expr} {es : List Expr} {as : List Arg} {f : Ev → Option D}
end
/-! ### a def by things: parameters may be lent -/
section
variable {P : Program} {w : World} {K : PySem.W.Frag} {mg : Str → Option Value} {base : Heap}
theorem Ows.take {M H : Hp} : ∀ (n : Nat) {os : List O} {vs : List (Option V)} {fp : List Addr}, Ows K M H os vs fp → ∃ f1 f2, fp = f1 ++ f2 ∧ Ows K M H (os.take n) (vs.take n) f1
  | 0, _, _, fp, _ => ⟨[], fp, rfl, .nil⟩
  | _ + 1, _, _, _, .nil => ⟨[], [], rfl, .nil⟩
  | n + 1, _, _, _, .cons (f1 := f1) h hs => by
    obtain ⟨a, b, e, w⟩ := Ows.take n hs
    exact ⟨f1 ++ a, b, by rw [e, List.append_assoc], .cons h w⟩
/-- the parameters at the end of the def -/
theorem Rep.params {M M1 H0 H1 : Hp} {J : List Nat} {os fo tm ρ : List O} {vs : List V} {fv tv σ σ0 : List (Option V)} (R0 : Rep K M H0 (os ++ fo) (vs.map some ++ fv)) (hl : vs.length = os.length) (s1 : Same M M1) (R : Rep K M1 H1 (ρ ++ (tm ++ fo)) (σ ++ (tv ++ fv))) (lt : tv.length = tm.length) (lk : Lk J σ0 σ ρ) (h0 : ∀ j < os.length, σ0[j]? = (vs.map some)[j]?) (hn : os.length ≤ ρ.length) :
    Rep K M1 H1 (tm ++ (((List.range os.length).map fun j => if j ∈ J then ρ.getD j .unk else match os.getD j .unk with | .dat d => .dat d | _ => .unk) ++ fo)) (tv ++ (vs.map some ++ fv)) := by
  obtain ⟨s, fp, w, nd, nm⟩ := R
  obtain ⟨fa, fb, e1, w1, w2⟩ := w.split lk.1
  obtain ⟨ft, fr, e2, w3, w4⟩ := w2.split lt
  obtain ⟨f1, f2, e3, w5⟩ := Ows.take os.length w1
  obtain ⟨f', sb, w6⟩ := w5.restore (ρ := (List.range os.length).map fun j => if j ∈ J then ρ.getD j .unk else match os.getD j .unk with | .dat d => .dat d | _ => .unk) (σ := vs.map some) (by simp; omega) (by simp [hl]) fun j => by
    by_cases hj : j < os.length
    · rw [List.getElem?_map, List.getElem?_range hj]
      simp only [Option.map_some]
      by_cases hJ : j ∈ J
      · left
        rw [if_pos hJ]
        constructor
        · rw [List.getElem?_take_of_lt hj, List.getElem?_eq_getElem (by omega), List.getD_eq_getElem?_getD, List.getElem?_eq_getElem (by omega)]
          rfl
        · rw [List.getElem?_take_of_lt hj, lk.2 j hJ, h0 j hj]
      · rw [if_neg hJ]
        right
        split
        · rename_i d hd
          left
          rw [List.getD_eq_getElem?_getD, List.getElem?_eq_getElem hj] at hd
          obtain ⟨x, ex, dx⟩ := R0.slot (by simp [hl]) (i := j) (d := d) (by rw [List.getElem?_eq_getElem hj]; simpa using hd)
          exact ⟨d, x, rfl, ex, dx.mono s1⟩
        · right; rfl
    · left
      have h1 : (List.map some vs)[j]? = none := List.getElem?_eq_none (by simp [hl]; omega)
      constructor
      · rw [List.getElem?_eq_none (by simp; omega), List.getElem?_eq_none (by simp; omega)]
      · rw [h1, List.getElem?_eq_none (by simp; omega)]
  subst e1; subst e2; subst e3
  refine ⟨s, ft ++ (f' ++ fr), w3.append (w6.append w4), ?_, fun a ha => nm a ?_⟩
  · rw [List.nodup_iff_count] at nd ⊢
    intro a
    have h1 := nd a
    have h2 := sb.count_le a
    simp only [List.count_append] at h1 ⊢
    omega
  · simp only [List.mem_append] at ha ⊢
    rcases ha with ha | ha | ha
    · exact .inr (.inl ha)
    · exact .inl (.inl (sb.subset ha))
    · exact .inr (.inr ha)
end

/-! ### calls with lent arguments -/
section
variable {X : Cx} {W : WX} {pos p : Pos} {e : Expr} {es : List Expr} {as : List Arg} {k n : Nat} {f C : Addr} {fd : FuncData} {ps : List Str} {x : Str}
end
end PD

namespace PD
open PySem PySem.Spec L2

section
variable {X : Cx} {W : WX} {J : List Nat} {pos p : Pos} {tg e : Expr}
/-! ### an own list in a slot is walked -/
def ownL (k : Nat) (ρ : Ev) : Option (List D) := match ρ[k]? with
  | some (.lst os) => O.toDs os
  | _ => none
/-! ### for over an own list that the body leaves as it is -/
end

/-! ### what is never reached; recursion's ground -/
theorem fnNone {P : Program} {w : World} {K : PySem.W.Frag} {mg : Str → Option Value} {base : Heap} {CX : CXT} {k n : Nat} {f : Addr} {fd : FuncData} {ps : List Str} (hn : n = ps.length := by rfl) : FnOk P w K mg base CX k f fd ps (spP K n fun _ => none) :=
  ⟨fun vs H Q E h => hn ▸ h.1, fun A outer s H args us vs Q E _ _ _ _ h => by
    obtain ⟨_, M, fo, fv, ds, d, _, _, e, _⟩ := h
    cases e⟩
theorem isC_one {K : PySem.W.Frag} {C : Addr} (cx : ClsX K C) (h : (PySem.W.clsIn K C).isSome = true) : IsC K C [(C, true)] := ⟨h, cx.ty, fun C' b e => by
  simp only [List.lookup] at e
  split at e
  · rename_i z
    cases e
    have : C' = C := by simpa using z
    subst this
    exact ⟨cx, by unfold PySem.W.kitOne; rw [if_pos (by simp)]⟩
  · cases e⟩
end PD

namespace PD
open PySem PySem.Spec L2

/-! ### the evaluator: a simp set (word_snoc) that runs mirrors upon a written environment -/
/-- no rfl-lemma: the kernel must not run what stands behind it -/
theorem nrfl {α : Type} {a b : α} (h : a = b) : a = b := h
def toB : D → Option Bool
  | .bl b => some b
  | _ => none
def toI : D → Option Int
  | .int b => some b
  | _ => none
def andO (x y : Option Bool) : Option Bool := x.bind fun b => if b = true then y else some false
def orO (x y : Option Bool) : Option Bool := x.bind fun b => if b = true then some true else y
def iteO {α : Type} (c : Option Bool) (x y : Option α) : Option α := c.bind fun b => if b = true then x else y
def andW (y : Option D) : D → Option D
  | .bl true => y
  | .bl false => some (.bl false)
  | _ => none
def orW (y : Option D) : D → Option D
  | .bl true => some (.bl true)
  | .bl false => y
  | _ => none
def notW : D → Option D
  | .bl b => some (.bl (!b))
  | _ => none
def O.dats (ds : List D) : O := .lst (ds.map .dat)
theorem toD_dats (ds : List D) : (O.dats ds).toD = some (.lst ds) := by
  unfold O.dats O.toD
  rw [toDs_dat]; rfl
theorem line_of {n : Nat} (h : n ≤ 1000000) : n ≤ sizeLine := Nat.le_trans h (by decide)
section
variable {ρ r : Ev} {fa fb : Ev → Option D} {c c2 : Ev → Option Bool} {g : D → D → Option D} {h : D → Option D} {x y : D} {i : Nat} {o : O}
theorem ev_bind {α β : Type} (a : α) (f : α → Option β) : (some a).bind f = f a := nrfl rfl
theorem ev_map {α β : Type} (a : α) (f : α → β) : (some a).map f = some (f a) := nrfl rfl
theorem ev_gv0 : gv 0 (.dat x :: r) = some x := nrfl rfl
theorem ev_gvS : gv (i + 1) (o :: r) = gv i r := nrfl rfl
theorem ev_b2 : b2 fa fb g ρ = (fa ρ).bind fun x => (fb ρ).bind fun y => g x y := nrfl rfl
theorem ev_b1 : b1 fa h ρ = (fa ρ).bind h := nrfl rfl
theorem ev_kI (k : Int) : kI k ρ = some (.int k) := nrfl rfl
theorem ev_kS (k : Str) : kS k ρ = some (.str k) := nrfl rfl
theorem ev_kB (k : Bool) : kB k ρ = some (.bl k) := nrfl rfl
theorem ev_kN : kN ρ = some .non := nrfl rfl
theorem ev_aCons {f : Ev → Option (List D)} : aCons fa f ρ = (fa ρ).bind fun d => (f ρ).bind fun ds => some (d :: ds) := nrfl rfl
theorem ev_aNil : aNil ρ = some [] := nrfl rfl
theorem ev_cB {f : Ev → Option (List D)} {m : List D → Option D} : cB f m ρ = (f ρ).bind m := nrfl rfl
theorem ev_cO {f : Ev → Option (List D)} {m : List D → Option O} : cO f m ρ = (f ρ).bind m := nrfl rfl
theorem ev_asB : asB fa ρ = (fa ρ).bind toB := by
  unfold asB
  cases fa ρ with
  | none => rfl
  | some d => cases d <;> rfl
theorem ev_toB (b : Bool) : toB (.bl b) = some b := nrfl rfl
theorem ev_andT : andT c c2 ρ = andO (c ρ) (c2 ρ) := by
  unfold andT andO
  cases c ρ with
  | none => rfl
  | some b => cases b <;> rfl
theorem ev_orT : orT c c2 ρ = orO (c ρ) (c2 ρ) := by
  unfold orT orO
  cases c ρ with
  | none => rfl
  | some b => cases b <;> rfl
theorem ev_notT : notT c ρ = (c ρ).map (!·) := nrfl rfl
theorem ev_andO_t (y : Option Bool) : andO (some true) y = y := nrfl rfl
theorem ev_andO_f (y : Option Bool) : andO (some false) y = some false := nrfl rfl
theorem ev_andO (a b : Bool) : andO (some a) (some b) = some (a && b) := by cases a <;> rfl
theorem ev_orO_t (y : Option Bool) : orO (some true) y = some true := nrfl rfl
theorem ev_orO_f (y : Option Bool) : orO (some false) y = y := nrfl rfl
theorem ev_orO (a b : Bool) : orO (some a) (some b) = some (a || b) := by cases a <;> rfl
theorem ev_andV : andV fa fb ρ = (fa ρ).bind (andW (fb ρ)) := by
  unfold andV
  cases fa ρ with
  | none => rfl
  | some d => cases d with
    | bl b => cases b <;> rfl
    | _ => rfl
theorem ev_orV : orV fa fb ρ = (fa ρ).bind (orW (fb ρ)) := by
  unfold orV
  cases fa ρ with
  | none => rfl
  | some d => cases d with
    | bl b => cases b <;> rfl
    | _ => rfl
theorem ev_notV : notV fa ρ = (fa ρ).bind notW := by
  unfold notV
  cases fa ρ with
  | none => rfl
  | some d => cases d <;> rfl
theorem ev_andW_t (y : Option D) : andW y (.bl true) = y := nrfl rfl
theorem ev_andW_f (y : Option D) : andW y (.bl false) = some (.bl false) := nrfl rfl
theorem ev_andW (a b : Bool) : andW (some (.bl b)) (.bl a) = some (.bl (a && b)) := by cases a <;> rfl
theorem ev_orW_t (y : Option D) : orW y (.bl true) = some (.bl true) := nrfl rfl
theorem ev_orW_f (y : Option D) : orW y (.bl false) = y := nrfl rfl
theorem ev_orW (a b : Bool) : orW (some (.bl b)) (.bl a) = some (.bl (a || b)) := by cases a <;> rfl
theorem ev_notW (b : Bool) : notW (.bl b) = some (.bl (!b)) := nrfl rfl
theorem ev_ifV : ifV c fa fb ρ = iteO (c ρ) (fa ρ) (fb ρ) := by
  unfold ifV iteO
  cases c ρ with
  | none => rfl
  | some b => cases b <;> rfl
theorem ev_iteO {α : Type} (b : Bool) (x y : Option α) : iteO (some b) x y = if b = true then x else y := nrfl rfl
theorem ev_ite_some {α : Type} {p : Prop} [Decidable p] (x y : α) : (if p then some x else some y) = some (if p then x else y) := by split <;> rfl
theorem ev_ite_int {p : Prop} [Decidable p] (x y : Int) : (if p then D.int x else D.int y) = .int (if p then x else y) := by split <;> rfl
theorem ev_ite_str {p : Prop} [Decidable p] (x y : Str) : (if p then D.str x else D.str y) = .str (if p then x else y) := by split <;> rfl
theorem ev_dec {p : Prop} [Decidable p] : (decide p = true) = p := by simp
theorem ev_true {α : Type} (x y : α) : (if True then x else y) = x := nrfl rfl
theorem ev_false {α : Type} (x y : α) : (if False then x else y) = y := nrfl rfl
theorem ev_ft : (false = true) = False := by simp
theorem ev_tt : (true = true) = True := by simp
theorem ev_not {p : Prop} [Decidable p] : (!decide p) = decide (¬ p) := by simp
theorem ev_and {p q : Prop} [Decidable p] [Decidable q] : (decide p && decide q) = decide (p ∧ q) := by simp
theorem ev_or {p q : Prop} [Decidable p] [Decidable q] : (decide p || decide q) = decide (p ∨ q) := by simp
theorem ev_nt : (!true) = false := nrfl rfl
theorem ev_nf : (!false) = true := nrfl rfl
/-! things made -/
theorem ev_ba1 (b : Bool) : (b && true) = b := by cases b <;> rfl
theorem ev_ba2 (b : Bool) : (b && false) = false := by cases b <;> rfl
theorem ev_ba3 (b : Bool) : (true && b) = b := nrfl rfl
theorem ev_ba4 (b : Bool) : (false && b) = false := nrfl rfl
theorem ev_bo1 (b : Bool) : (b || true) = true := by cases b <;> rfl
theorem ev_bo2 (b : Bool) : (b || false) = b := by cases b <;> rfl
theorem ev_bo3 (b : Bool) : (true || b) = true := nrfl rfl
theorem ev_bo4 (b : Bool) : (false || b) = b := nrfl rfl
theorem ev_len?1 (m : List D → Option D) (a : D) : len? 1 m [a] = m [a] := nrfl rfl
theorem ev_lenO?1 (m : List D → Option O) (a : D) : lenO? 1 m [a] = m [a] := nrfl rfl
theorem ev_len?2 (m : List D → Option D) (a b : D) : len? 2 m [a, b] = m [a, b] := nrfl rfl
theorem ev_lenO?2 (m : List D → Option O) (a b : D) : lenO? 2 m [a, b] = m [a, b] := nrfl rfl
theorem ev_gT2 (h : List D → Ev → Option Ev) (a b : D) (ρ : Ev) : gT 2 h (.tup [a, b]) ρ = h [a, b] ρ := nrfl rfl
theorem ev_len?3 (m : List D → Option D) (a b c : D) : len? 3 m [a, b, c] = m [a, b, c] := nrfl rfl
theorem ev_lenO?3 (m : List D → Option O) (a b c : D) : lenO? 3 m [a, b, c] = m [a, b, c] := nrfl rfl
theorem ev_gT3 (h : List D → Ev → Option Ev) (a b c : D) (ρ : Ev) : gT 3 h (.tup [a, b, c]) ρ = h [a, b, c] ρ := nrfl rfl
theorem ev_len?4 (m : List D → Option D) (a b c d : D) : len? 4 m [a, b, c, d] = m [a, b, c, d] := nrfl rfl
theorem ev_lenO?4 (m : List D → Option O) (a b c d : D) : lenO? 4 m [a, b, c, d] = m [a, b, c, d] := nrfl rfl
theorem ev_gT4 (h : List D → Ev → Option Ev) (a b c d : D) (ρ : Ev) : gT 4 h (.tup [a, b, c, d]) ρ = h [a, b, c, d] ρ := nrfl rfl
theorem ev_len?5 (m : List D → Option D) (a b c d e : D) : len? 5 m [a, b, c, d, e] = m [a, b, c, d, e] := nrfl rfl
theorem ev_lenO?5 (m : List D → Option O) (a b c d e : D) : lenO? 5 m [a, b, c, d, e] = m [a, b, c, d, e] := nrfl rfl
theorem ev_gT5 (h : List D → Ev → Option Ev) (a b c d e : D) (ρ : Ev) : gT 5 h (.tup [a, b, c, d, e]) ρ = h [a, b, c, d, e] ρ := nrfl rfl
theorem ev_len?6 (m : List D → Option D) (a b c d e f : D) : len? 6 m [a, b, c, d, e, f] = m [a, b, c, d, e, f] := nrfl rfl
theorem ev_lenO?6 (m : List D → Option O) (a b c d e f : D) : lenO? 6 m [a, b, c, d, e, f] = m [a, b, c, d, e, f] := nrfl rfl
theorem ev_gT6 (h : List D → Ev → Option Ev) (a b c d e f : D) (ρ : Ev) : gT 6 h (.tup [a, b, c, d, e, f]) ρ = h [a, b, c, d, e, f] ρ := nrfl rfl
theorem ev_len?7 (m : List D → Option D) (a b c d e f g : D) : len? 7 m [a, b, c, d, e, f, g] = m [a, b, c, d, e, f, g] := nrfl rfl
theorem ev_lenO?7 (m : List D → Option O) (a b c d e f g : D) : lenO? 7 m [a, b, c, d, e, f, g] = m [a, b, c, d, e, f, g] := nrfl rfl
theorem ev_gT7 (h : List D → Ev → Option Ev) (a b c d e f g : D) (ρ : Ev) : gT 7 h (.tup [a, b, c, d, e, f, g]) ρ = h [a, b, c, d, e, f, g] ρ := nrfl rfl
theorem ev_len?8 (m : List D → Option D) (a b c d e f g h : D) : len? 8 m [a, b, c, d, e, f, g, h] = m [a, b, c, d, e, f, g, h] := nrfl rfl
theorem ev_lenO?8 (m : List D → Option O) (a b c d e f g h : D) : lenO? 8 m [a, b, c, d, e, f, g, h] = m [a, b, c, d, e, f, g, h] := nrfl rfl
theorem ev_gT8 (hh : List D → Ev → Option Ev) (a b c d e f g h : D) (ρ : Ev) : gT 8 hh (.tup [a, b, c, d, e, f, g, h]) ρ = hh [a, b, c, d, e, f, g, h] ρ := nrfl rfl
theorem ev_len?0 (m : List D → Option D) : len? 0 m [] = m [] := nrfl rfl
theorem ev_mkTup {f : Ev → Option (List D)} : mkTup f ρ = (f ρ).bind fun ds => if ds.length ≤ sizeLine then some (.tup ds) else none := nrfl rfl
theorem ev_mkLst {f : Ev → Option (List D)} : mkLst f ρ = (f ρ).bind fun ds => if ds.length ≤ sizeLine then some (.lst ds) else none := nrfl rfl
theorem ev_mkLstO {f : Ev → Option (List D)} : mkLstO f ρ = (f ρ).bind fun ds => if ds.length ≤ sizeLine then some (O.dats ds) else none := nrfl rfl
theorem ev_line {n : Nat} {α : Type} {x y : α} (h : n ≤ 1000000) : (if n ≤ sizeLine then x else y) = x := if_pos (line_of h)
theorem ev_isi_bool_non : isiD "bool" .non = some (.bl false) := nrfl rfl
theorem ev_isi_bool_bl (b : Bool) : isiD "bool" (.bl b) = some (.bl true) := nrfl rfl
theorem ev_isi_bool_int (k : Int) : isiD "bool" (.int k) = some (.bl false) := nrfl rfl
theorem ev_isi_bool_str (z : Str) : isiD "bool" (.str z) = some (.bl false) := nrfl rfl
theorem ev_isi_bool_lst (l : List D) : isiD "bool" (.lst l) = some (.bl false) := nrfl rfl
theorem ev_isi_bool_tup (l : List D) : isiD "bool" (.tup l) = some (.bl false) := nrfl rfl
theorem ev_isi_bool_dic (ks : List Key) (l : List D) : isiD "bool" (.dic ks l) = some (.bl false) := nrfl rfl
theorem ev_isi_int_non : isiD "int" .non = some (.bl false) := nrfl rfl
theorem ev_isi_int_bl (b : Bool) : isiD "int" (.bl b) = some (.bl true) := nrfl rfl
theorem ev_isi_int_int (k : Int) : isiD "int" (.int k) = some (.bl true) := nrfl rfl
theorem ev_isi_int_str (z : Str) : isiD "int" (.str z) = some (.bl false) := nrfl rfl
theorem ev_isi_int_lst (l : List D) : isiD "int" (.lst l) = some (.bl false) := nrfl rfl
theorem ev_isi_int_tup (l : List D) : isiD "int" (.tup l) = some (.bl false) := nrfl rfl
theorem ev_isi_int_dic (ks : List Key) (l : List D) : isiD "int" (.dic ks l) = some (.bl false) := nrfl rfl
theorem ev_isi_str_non : isiD "str" .non = some (.bl false) := nrfl rfl
theorem ev_isi_str_bl (b : Bool) : isiD "str" (.bl b) = some (.bl false) := nrfl rfl
theorem ev_isi_str_int (k : Int) : isiD "str" (.int k) = some (.bl false) := nrfl rfl
theorem ev_isi_str_str (z : Str) : isiD "str" (.str z) = some (.bl true) := nrfl rfl
theorem ev_isi_str_lst (l : List D) : isiD "str" (.lst l) = some (.bl false) := nrfl rfl
theorem ev_isi_str_tup (l : List D) : isiD "str" (.tup l) = some (.bl false) := nrfl rfl
theorem ev_isi_str_dic (ks : List Key) (l : List D) : isiD "str" (.dic ks l) = some (.bl false) := nrfl rfl
theorem ev_isi_tuple_non : isiD "tuple" .non = some (.bl false) := nrfl rfl
theorem ev_isi_tuple_bl (b : Bool) : isiD "tuple" (.bl b) = some (.bl false) := nrfl rfl
theorem ev_isi_tuple_int (k : Int) : isiD "tuple" (.int k) = some (.bl false) := nrfl rfl
theorem ev_isi_tuple_str (z : Str) : isiD "tuple" (.str z) = some (.bl false) := nrfl rfl
theorem ev_isi_tuple_lst (l : List D) : isiD "tuple" (.lst l) = some (.bl false) := nrfl rfl
theorem ev_isi_tuple_tup (l : List D) : isiD "tuple" (.tup l) = some (.bl true) := nrfl rfl
theorem ev_isi_tuple_dic (ks : List Key) (l : List D) : isiD "tuple" (.dic ks l) = some (.bl false) := nrfl rfl
theorem ev_isi_list_non : isiD "list" .non = some (.bl false) := nrfl rfl
theorem ev_isi_list_bl (b : Bool) : isiD "list" (.bl b) = some (.bl false) := nrfl rfl
theorem ev_isi_list_int (k : Int) : isiD "list" (.int k) = some (.bl false) := nrfl rfl
theorem ev_isi_list_str (z : Str) : isiD "list" (.str z) = some (.bl false) := nrfl rfl
theorem ev_isi_list_lst (l : List D) : isiD "list" (.lst l) = some (.bl true) := nrfl rfl
theorem ev_isi_list_tup (l : List D) : isiD "list" (.tup l) = some (.bl false) := nrfl rfl
theorem ev_isi_list_dic (ks : List Key) (l : List D) : isiD "list" (.dic ks l) = some (.bl false) := nrfl rfl
theorem ev_isi_dict_non : isiD "dict" .non = some (.bl false) := nrfl rfl
theorem ev_isi_dict_bl (b : Bool) : isiD "dict" (.bl b) = some (.bl false) := nrfl rfl
theorem ev_isi_dict_int (k : Int) : isiD "dict" (.int k) = some (.bl false) := nrfl rfl
theorem ev_isi_dict_str (z : Str) : isiD "dict" (.str z) = some (.bl false) := nrfl rfl
theorem ev_isi_dict_lst (l : List D) : isiD "dict" (.lst l) = some (.bl false) := nrfl rfl
theorem ev_isi_dict_tup (l : List D) : isiD "dict" (.tup l) = some (.bl false) := nrfl rfl
theorem ev_isi_dict_dic (ks : List Key) (l : List D) : isiD "dict" (.dic ks l) = some (.bl true) := nrfl rfl
/-! numbers -/
theorem ev_addA (i j : Int) : addA (.int i) (.int j) = some (.int (i + j)) := nrfl rfl
theorem ev_addD (i j : Int) : addD (.int i) (.int j) = some (.int (i + j)) := nrfl rfl
theorem ev_subI (i j : Int) : subI (.int i) (.int j) = some (.int (i - j)) := nrfl rfl
theorem ev_mulL {i j : Int} (h : -18446744073709551616 < i ∧ i < 18446744073709551616) : mulI (.int i) (.int j) = some (.int (i * j)) := by
  show (if okMul i j = true then _ else _) = _
  rw [if_pos]
  unfold okMul
  rw [decide_eq_true]
  exact .inl (by simpa using h)
theorem ev_mulR {i j : Int} (h : -18446744073709551616 < j ∧ j < 18446744073709551616) : mulI (.int i) (.int j) = some (.int (i * j)) := by
  show (if okMul i j = true then _ else _) = _
  rw [if_pos]
  unfold okMul
  rw [decide_eq_true]
  exact .inr (by simpa using h)
theorem ev_modI {i j : Int} (h : 0 < j) : modI (.int i) (.int j) = some (.int (i % j)) := by
  show (if decide (0 < j) = true then _ else _) = _
  rw [if_pos (decide_eq_true h)]
theorem ev_divI {i j : Int} (h : 0 < j ∧ j < 1073741824) : divI (.int i) (.int j) = some (.int (i / j)) := by
  show (if decide (0 < j ∧ j < 1073741824) = true then _ else _) = _
  rw [if_pos (decide_eq_true h)]
theorem ev_neg (i : Int) : negI (.int i) = some (.int (-i)) := nrfl rfl
theorem ev_intD (i : Int) : intD [.int i] = some (.int i) := nrfl rfl
theorem ev_max2 (i j : Int) : max2 [.int i, .int j] = some (.int (max i j)) := by
  show some (D.int (if j > i then j else i)) = _
  congr 2
  split <;> omega
theorem ev_min2 (i j : Int) : min2 [.int i, .int j] = some (.int (min i j)) := by
  show some (D.int (if j < i then j else i)) = _
  congr 2
  split <;> omega
theorem ev_eqI (i j : Int) : eqD (.int i) (.int j) = some (.bl (decide (i = j))) := nrfl rfl
theorem ev_eqB (i j : Bool) : eqD (.bl i) (.bl j) = some (.bl (decide (i = j))) := nrfl rfl
theorem ev_eqS (i j : Str) : eqD (.str i) (.str j) = some (.bl (decide (i = j))) := nrfl rfl
theorem ev_neI (i j : Int) : neD (.int i) (.int j) = some (.bl (decide (i ≠ j))) := by
  show some (D.bl (!decide (i = j))) = _
  simp
theorem ev_neS (i j : Str) : neD (.str i) (.str j) = some (.bl (decide (i ≠ j))) := by
  show some (D.bl (!decide (i = j))) = _
  simp
theorem ev_lt (i j : Int) : ltI (.int i) (.int j) = some (.bl (decide (i < j))) := nrfl rfl
theorem ev_le (i j : Int) : leI (.int i) (.int j) = some (.bl (decide (i ≤ j))) := nrfl rfl
theorem ev_gt (i j : Int) : gtI (.int i) (.int j) = some (.bl (decide (j < i))) := nrfl rfl
theorem ev_ge (i j : Int) : geI (.int i) (.int j) = some (.bl (decide (j ≤ i))) := nrfl rfl
theorem ev_isN_non : isN .non .non = some (.bl true) := nrfl rfl
theorem ev_isN_bl (b : Bool) : isN (.bl b) .non = some (.bl false) := nrfl rfl
theorem ev_isN_int (k : Int) : isN (.int k) .non = some (.bl false) := nrfl rfl
theorem ev_isN_str (k : Str) : isN (.str k) .non = some (.bl false) := nrfl rfl
theorem ev_isN_lst (k : List D) : isN (.lst k) .non = some (.bl false) := nrfl rfl
theorem ev_isN_tup (k : List D) : isN (.tup k) .non = some (.bl false) := nrfl rfl
theorem ev_isN_obj (C : Addr) (ks : List Str) (k : List D) : isN (.obj C ks k) .non = some (.bl false) := nrfl rfl
theorem ev_notN_non : notN .non .non = some (.bl false) := nrfl rfl
theorem ev_notN_int (k : Int) : notN (.int k) .non = some (.bl true) := nrfl rfl
theorem ev_notN_str (k : Str) : notN (.str k) .non = some (.bl true) := nrfl rfl
theorem ev_notN_lst (k : List D) : notN (.lst k) .non = some (.bl true) := nrfl rfl
theorem ev_notN_tup (k : List D) : notN (.tup k) .non = some (.bl true) := nrfl rfl
theorem ev_notN_obj (C : Addr) (ks : List Str) (k : List D) : notN (.obj C ks k) .non = some (.bl true) := nrfl rfl
/-! lists -/
theorem ev_lenC {α : Type} (a : α) (l : List α) : (a :: l).length = l.length + 1 := nrfl rfl
theorem ev_lenN {α : Type} : ([] : List α).length = 0 := nrfl rfl
theorem ev_lenM {α β : Type} (f : α → β) (l : List α) : (l.map f).length = l.length := List.length_map f
theorem ev_lenL (l : List D) : lenD [.lst l] = some (.int l.length) := nrfl rfl
theorem ev_lenT (l : List D) : lenD [.tup l] = some (.int l.length) := nrfl rfl
theorem ev_lenS {z : Str} (h : z.length ≤ 1000000) : lenD [.str z] = some (.int z.length) := if_pos (line_of h)
theorem ev_tupL (l : List D) : tupD [.lst l] = some (.tup l) := nrfl rfl
theorem ev_tupT (l : List D) : tupD [.tup l] = some (.tup l) := nrfl rfl
theorem ev_listL (l : List D) : listO [.lst l] = some (.dats l) := nrfl rfl
theorem ev_listT (l : List D) : listO [.tup l] = some (.dats l) := nrfl rfl
theorem ev_frz {f : Ev → Option O} : frz f ρ = (f ρ).bind O.toD := nrfl rfl
theorem ev_thaw : thaw fa ρ = (fa ρ).map .dat := nrfl rfl
theorem ev_toD (ds : List D) : (O.dats ds).toD = some (.lst ds) := toD_dats ds
theorem ev_toDd (d : D) : (O.dat d).toD = some d := nrfl rfl
theorem ev_iOf : iOf fa ρ = (fa ρ).bind seqD := nrfl rfl
theorem ev_seqL (l : List D) : seqD (.lst l) = some l := nrfl rfl
theorem ev_seqT (l : List D) : seqD (.tup l) = some l := nrfl rfl
theorem ev_seqS (z : Str) : seqD (.str z) = some (signs z) := nrfl rfl
def rngI (n : D) : Option (List D) := match n with
  | .int n => if n < 2 ^ 62 ∧ -(2 ^ 62) ≤ n then some (rangeD 0 n.toNat) else none
  | _ => none
def rngJ (m n : D) : Option (List D) := match m, n with
  | .int m, .int n => if (n < 2 ^ 62 ∧ -(2 ^ 62) ≤ n) ∧ m < 2 ^ 62 ∧ -(2 ^ 62) ≤ m then some (rangeD m (n - m).toNat) else none
  | _, _ => none
theorem ev_rng1 : rng1 fa ρ = (fa ρ).bind rngI := by
  unfold rng1
  cases fa ρ with
  | none => rfl
  | some d => cases d <;> rfl
theorem ev_rng2 : rng2 fa fb ρ = (fa ρ).bind fun m => (fb ρ).bind fun n => rngJ m n := by
  unfold rng2
  cases fa ρ with
  | none => rfl
  | some d => cases fb ρ with
    | none => cases d <;> rfl
    | some e => cases d <;> cases e <;> rfl
theorem ev_rngI {n : Int} (h : n < 4611686018427387904 ∧ -4611686018427387904 ≤ n) : rngI (.int n) = some (rangeD 0 n.toNat) := if_pos (by simpa using h)
theorem ev_rngJ {m n : Int} (h : (n < 4611686018427387904 ∧ -4611686018427387904 ≤ n) ∧ m < 4611686018427387904 ∧ -4611686018427387904 ≤ m) : rngJ (.int m) (.int n) = some (rangeD m (n - m).toNat) := if_pos (by simpa using h)
theorem ev_slc {lo hi : Ev → Option (Option Int)} : slc fa lo hi ρ = (fa ρ).bind fun x => (lo ρ).bind fun a => (hi ρ).bind fun b => slD x a b := nrfl rfl
theorem ev_noPart : noPart ρ = some none := nrfl rfl
theorem ev_part : part fa ρ = ((fa ρ).bind toI).map some := by
  unfold part
  cases fa ρ with
  | none => rfl
  | some d => cases d <;> rfl
theorem ev_toI (b : Int) : toI (.int b) = some b := nrfl rfl
theorem ev_slL (l : List D) (a b : Option Int) : slD (.lst l) a b = some (.lst (cutD l a b)) := nrfl rfl
theorem ev_slS {z : Str} (h : z.length ≤ 1000000) (a b : Option Int) : slD (.str z) a b = some (.str (cutS z a b)) := if_pos (line_of h)
theorem ev_catL {l m : List D} (h : l.length + m.length ≤ 1000000) : addA (.lst l) (.lst m) = some (.lst (l ++ m)) := by
  have : catL (.lst l) (.lst m) = some (.lst (l ++ m)) := if_pos (line_of h)
  show orD addD (orD catL catT) (.lst l) (.lst m) = _
  simp only [orD, addD, addI, addS, i2, s2, this]
theorem ev_catT {l m : List D} (h : l.length + m.length ≤ 1000000) : addA (.tup l) (.tup m) = some (.tup (l ++ m)) := by
  have : catT (.tup l) (.tup m) = some (.tup (l ++ m)) := if_pos (line_of h)
  have h0 : catL (.tup l) (.tup m) = none := rfl
  show orD addD (orD catL catT) (.tup l) (.tup m) = _
  simp only [orD, addD, addI, addS, i2, s2, this, h0]
theorem ev_catS {a b : Str} (h : a.length + b.length ≤ 1000000) : addA (.str a) (.str b) = some (.str (a ++ b)) := by
  have hz : a.length + b.length ≤ sizeLine := line_of h
  show orD addD (orD catL catT) (.str a) (.str b) = _
  simp only [orD, addD, addI, addS, i2, s2, decide_eq_true hz, if_true]
theorem ev_catSD {a b : Str} (h : a.length + b.length ≤ 1000000) : addD (.str a) (.str b) = some (.str (a ++ b)) := by
  have hz : a.length + b.length ≤ sizeLine := line_of h
  simp only [orD, addD, addI, addS, i2, s2, decide_eq_true hz, if_true]
theorem ev_strlen (a b : Str) : (a ++ b).length = a.length + b.length := by
  show (a.cps ++ b.cps).size = _
  rw [Array.size_append]; rfl
theorem ev_rev (l : List D) : revD (.lst l) = some (.lst l.reverse) := nrfl rfl
/-! by place -/
instance : Inhabited D := ⟨.non⟩
def nth {α : Type} [Inhabited α] (xs : List α) (k : Int) : α := xs.getD k.toNat default
theorem nth_eq {α : Type} [Inhabited α] {xs : List α} {k : Int} (h0 : 0 ≤ k) (h1 : k < xs.length) : nth xs k = xs[k.toNat]'(by omega) := by
  unfold nth
  rw [List.getD_eq_getElem?_getD, List.getElem?_eq_getElem (by omega)]; rfl
theorem nth_nat {α : Type} [Inhabited α] {xs : List α} {k : Nat} (h1 : k < xs.length) : nth xs (k : Int) = xs[k] := nth_eq (by omega) (by omega)
theorem nth_mem {α : Type} [Inhabited α] {xs : List α} {k : Int} (h0 : 0 ≤ k) (h1 : k < xs.length) : nth xs k ∈ xs := by
  rw [nth_eq h0 h1]; exact List.getElem_mem _
theorem nth_map {α β : Type} [Inhabited α] [Inhabited β] {f : α → β} {xs : List α} {k : Int} (h0 : 0 ≤ k) (h1 : k < xs.length) : nth (xs.map f) k = f (nth xs k) := by
  rw [nth_eq h0 (by rw [List.length_map]; exact h1), nth_eq h0 h1, List.getElem_map]
/-- each item of a list of bounded ints, in or out of the list -/
theorem nth_rng {rs : List Int} (hr : ∀ r ∈ rs, 0 ≤ r ∧ r < 1000) (k : Int) : 0 ≤ nth rs k ∧ nth rs k < 1000 := by
  unfold nth
  rw [List.getD_eq_getElem?_getD]
  by_cases h : k.toNat < rs.length
  · rw [List.getElem?_eq_getElem h]; exact hr _ (List.getElem_mem h)
  · rw [List.getElem?_eq_none (by omega)]; exact ⟨by decide, by decide⟩
theorem at_nth {α : Type} [Inhabited α] {xs : List α} {k : Int} (h0 : 0 ≤ k) (h1 : k < xs.length) : atI xs k = some (nth xs k) := by
  obtain ⟨j, rfl⟩ := Int.eq_ofNat_of_zero_le h0
  rw [nth_nat (by omega)]
  exact atI_nat (List.getElem?_eq_getElem _)
theorem ev_ix0L (a : D) (l : List D) : ixD (.lst (a :: l)) (.int 0) = some a := by
  show atI (a :: l) 0 = _
  exact atI_nat (j := 0) rfl
theorem ev_ix1L (a b : D) (l : List D) : ixD (.lst (a :: b :: l)) (.int 1) = some b := by
  show atI (a :: b :: l) 1 = _
  exact atI_nat (j := 1) rfl
theorem ev_ix0T (a : D) (l : List D) : ixD (.tup (a :: l)) (.int 0) = some a := by
  show atI (a :: l) 0 = _
  exact atI_nat (j := 0) rfl
theorem ev_ix1T (a b : D) (l : List D) : ixD (.tup (a :: b :: l)) (.int 1) = some b := by
  show atI (a :: b :: l) 1 = _
  exact atI_nat (j := 1) rfl
theorem ev_ix2T (a b c : D) (l : List D) : ixD (.tup (a :: b :: c :: l)) (.int 2) = some c := by
  show atI (a :: b :: c :: l) 2 = _
  exact atI_nat (j := 2) rfl
theorem ev_ix3T (a b c d : D) (l : List D) : ixD (.tup (a :: b :: c :: d :: l)) (.int 3) = some d := by
  show atI (a :: b :: c :: d :: l) 3 = _
  exact atI_nat (j := 3) rfl
theorem ev_ix4T (a b c d e : D) (l : List D) : ixD (.tup (a :: b :: c :: d :: e :: l)) (.int 4) = some e := by
  show atI (a :: b :: c :: d :: e :: l) 4 = _
  exact atI_nat (j := 4) rfl
theorem ev_ixML {α : Type} [Inhabited α] {f : α → D} {xs : List α} {k : Int} (h0 : 0 ≤ k) (h1 : k < xs.length) : ixD (.lst (xs.map f)) (.int k) = some (f (nth xs k)) := by
  show atI (xs.map f) k = _
  rw [at_nth h0 (by rw [List.length_map]; exact h1), nth_map h0 h1]
theorem ev_ixMT {α : Type} [Inhabited α] {f : α → D} {xs : List α} {k : Int} (h0 : 0 ≤ k) (h1 : k < xs.length) : ixD (.tup (xs.map f)) (.int k) = some (f (nth xs k)) := by
  show atI (xs.map f) k = _
  rw [at_nth h0 (by rw [List.length_map]; exact h1), nth_map h0 h1]
theorem cut_map {α β : Type} (f : α → β) (xs : List α) (a b : Option Int) : cutD (xs.map f) a b = (cutD xs a b).map f := by
  unfold cutD
  rw [List.length_map, List.map_take, List.map_drop]
theorem cut_mid {α : Type} (xs : List α) (a b : Nat) (hb : b ≤ xs.length) (hab : a ≤ b) : cutD xs (some (a : Int)) (some (b : Int)) = (xs.drop a).take (b - a) := by
  unfold cutD
  rw [HT.sIx_nat, HT.sIx_nat, Nat.min_eq_left (show a ≤ xs.length by omega), Nat.min_eq_left hb]
theorem cut_sub {α : Type} {xs : List α} {a b : Option Int} {x : α} (h : x ∈ cutD xs a b) : x ∈ xs := List.mem_of_mem_drop (List.mem_of_mem_take h)
theorem cut_len {α : Type} {xs : List α} {a b : Int} (h0 : 0 ≤ a) (h1 : a ≤ b) (h2 : b ≤ xs.length) : ((cutD xs (some a) (some b)).length : Int) = b - a := by
  obtain ⟨m, rfl⟩ := Int.eq_ofNat_of_zero_le h0
  obtain ⟨n, rfl⟩ := Int.eq_ofNat_of_zero_le (show 0 ≤ b by omega)
  rw [cut_mid xs m n (by omega) (by omega), List.length_take, List.length_drop]
  omega
/-! targets -/
theorem ev_wipe0 : wipeO ρ [] = ρ := nrfl rfl
theorem ev_wipeS (v : Nat) (vs : List Nat) : wipeO ρ (v :: vs) = (wipeO ρ vs).set v .unk := nrfl rfl
theorem ev_gN (d : D) : gN i d ρ = some (ρ.set i (.dat d)) := nrfl rfl
theorem ev_gsN : gsN [] ρ = some ρ := nrfl rfl
theorem ev_gsC {g : D → Ev → Option Ev} {h : List D → Ev → Option Ev} (d : D) (r : List D) : gsC g h (d :: r) ρ = (g d ρ).bind (h r) := nrfl rfl
theorem ev_set0 (a b : O) (l : Ev) : (a :: l).set 0 b = b :: l := nrfl rfl
theorem ev_setS (a b : O) (l : Ev) (n : Nat) : (a :: l).set (n + 1) b = a :: l.set n b := nrfl rfl
end
/-! ### running a body, statement by statement -/
section
variable {f g b : Ev → Option Fl} {ρ : Ev} {Q : Fl → Prop} {P : Ev → Prop}
theorem Rn.sqst {i : Nat} {e : Ev → Option D} {d : D} (h : e ρ = some d) (k : Rn g (ρ.set i (.dat d)) Q) : Rn (PD.sq (stV i e) g) ρ Q := Rn.sq (Rn.st h k)
theorem Rn.sqstO {i : Nat} {e : Ev → Option O} {o : O} (h : e ρ = some o) (k : Rn g (ρ.set i o) Q) : Rn (PD.sq (PD.stO i e) g) ρ Q := Rn.sq (Rn.stO h k)
theorem Rn.sqskip (k : Rn g ρ Q) : Rn (PD.sq PD.skip g) ρ Q := Rn.sq (Rn.skip k)
theorem Rn.sqret {e : Ev → Option D} {d : D} (h : e ρ = some d) (k : Q (.rt (.dat d) ρ)) : Rn (PD.sq (rtV e) g) ρ Q := Rn.sq (Rn.ret h k)
theorem Rn.appD {i : Nat} {e : Ev → Option D} {d : D} {ds : List D} (h : e ρ = some d) (ho : ρ[i]? = some (O.dats ds)) (hl : ds.length < 1000000) (k : Q (.nx (ρ.set i (O.dats (ds ++ [d]))))) : Rn (PD.app i e) ρ Q := by
  refine Rn.app h ho (by rw [List.length_map]; exact Nat.lt_of_lt_of_le hl (by decide)) ?_
  have : O.dats (ds ++ [d]) = .lst (ds.map .dat ++ [.dat d]) := by unfold O.dats; rw [List.map_append]; rfl
  rw [← this]; exact k
theorem Rn.sqapp {i : Nat} {e : Ev → Option D} {d : D} {ds : List D} (h : e ρ = some d) (ho : ρ[i]? = some (O.dats ds)) (hl : ds.length < 1000000) (k : Rn g (ρ.set i (O.dats (ds ++ [d]))) Q) : Rn (PD.sq (PD.app i e) g) ρ Q := Rn.sq (Rn.appD h ho hl k)
theorem Rn.asg {e : Ev → Option D} {t : D → Ev → Option Ev} {d : D} {ρ' : Ev} (h : e ρ = some d) (ht : t d ρ = some ρ') (k : Q (.nx ρ')) : Rn (PD.asg e t) ρ Q := ⟨_, by unfold PD.asg; rw [h, Option.bind_some, ht]; rfl, k⟩
theorem Rn.sqasg {e : Ev → Option D} {t : D → Ev → Option Ev} {d : D} {ρ' : Ev} (h : e ρ = some d) (ht : t d ρ = some ρ') (k : Rn g ρ' Q) : Rn (PD.sq (PD.asg e t) g) ρ Q := Rn.sq (Rn.asg h ht k)
/-- an if whose test is a proposition -/
theorem Rn.iteP {c : Ev → Option Bool} {p : Prop} [Decidable p] (h : c ρ = some (decide p)) (h1 : p → Rn f ρ Q) (h2 : ¬ p → Rn b ρ Q) : Rn (ifS c f b) ρ Q := Rn.ite h (fun q => h1 (of_decide_eq_true q)) fun q => h2 (of_decide_eq_false q)
theorem sq_ifS {c : Ev → Option Bool} : PD.sq (ifS c f b) g = ifS c (PD.sq f g) (PD.sq b g) := by
  funext ρ
  unfold PD.sq ifS
  cases c ρ with
  | none => rfl
  | some t => cases t <;> rfl
theorem Rn.sqif {c : Ev → Option Bool} {p : Prop} [Decidable p] (h : c ρ = some (decide p)) (h1 : p → Rn (PD.sq f g) ρ Q) (h2 : ¬ p → Rn (PD.sq b g) ρ Q) : Rn (PD.sq (ifS c f b) g) ρ Q := by
  rw [sq_ifS]
  exact Rn.iteP h h1 h2
/-- an if whose way is known -/
theorem Rn.sqifT {c : Ev → Option Bool} (h : c ρ = some true) (h1 : Rn (PD.sq f g) ρ Q) : Rn (PD.sq (ifS c f b) g) ρ Q := by
  rw [sq_ifS]
  exact Rn.ite h (fun _ => h1) fun z => nomatch z
theorem Rn.sqifF {c : Ev → Option Bool} (h : c ρ = some false) (h1 : Rn (PD.sq b g) ρ Q) : Rn (PD.sq (ifS c f b) g) ρ Q := by
  rw [sq_ifS]
  exact Rn.ite h (fun z => nomatch z) fun _ => h1
/-- if not good: return False -/
theorem Rn.chk {c : Ev → Option Bool} (h : c ρ = some false) (h1 : Rn g ρ Q) : Rn (PD.sq (ifS c f PD.skip) g) ρ Q := Rn.sqifF h (Rn.sqskip h1)
/-- a for by an invariant; its items are those of a typed list -/
theorem Rn.forT {α : Type} {fi : Ev → Option (List D)} {gt : D → Ev → Option Ev} {xs : List α} {φ : α → D} (h : fi ρ = some (xs.map φ)) (I : Nat → Ev → Prop) (h0 : I 0 ρ)
    (hs : ∀ (i : Nat) (hi : i < xs.length) ρ, I i ρ → ∃ ρ1, gt (φ xs[i]) ρ = some ρ1 ∧ Rn b ρ1 fun r => match r with | .nx ρ2 => I (i + 1) ρ2 | .ct ρ2 => I (i + 1) ρ2 | .bk ρ2 => Q (.nx ρ2) | r => Q r) (k : ∀ ρ', I xs.length ρ' → Q (.nx ρ')) : Rn (forS fi gt b) ρ Q := by
  refine Rn.for h I h0 (fun i d ρ hd hI => ?_) (fun ρ' hI => k ρ' (by rw [List.length_map] at hI; exact hI))
  rw [List.getElem?_map] at hd
  obtain ⟨x, hx, rfl⟩ := Option.map_eq_some_iff.mp hd
  obtain ⟨hi, rfl⟩ := List.getElem?_eq_some_iff.mp hx
  exact hs i hi ρ hI
/-- the same, with what follows -/
theorem Rn.sqfor {α : Type} {fi : Ev → Option (List D)} {gt : D → Ev → Option Ev} {xs : List α} {φ : α → D} (h : fi ρ = some (xs.map φ)) (I : Nat → Ev → Prop) (h0 : I 0 ρ)
    (hs : ∀ (i : Nat) (hi : i < xs.length) ρ, I i ρ → ∃ ρ1, gt (φ xs[i]) ρ = some ρ1 ∧ Rn b ρ1 fun r => match r with | .nx ρ2 => I (i + 1) ρ2 | .ct ρ2 => I (i + 1) ρ2 | .bk ρ2 => Rn g ρ2 Q | r => Q r) (k : ∀ ρ', I xs.length ρ' → Rn g ρ' Q) : Rn (PD.sq (forS fi gt b) g) ρ Q := by
  refine Rn.sq (Rn.forT h I h0 (fun i hi ρ hI => ?_) k)
  obtain ⟨ρ1, e, r, er, q⟩ := hs i hi ρ hI
  refine ⟨ρ1, e, r, er, ?_⟩
  cases r <;> exact q
/-- over range(n) -/
theorem rangeD_map (lo : Int) (n : Nat) : rangeD lo n = (List.range n).map fun i : Nat => .int (lo + (i : Int)) := rfl
theorem Rn.sqforR {fi : Ev → Option (List D)} {gt : D → Ev → Option Ev} {lo : Int} {n : Nat} (h : fi ρ = some (rangeD lo n)) (I : Nat → Ev → Prop) (h0 : I 0 ρ)
    (hs : ∀ (i : Nat) (hi : i < n) ρ, I i ρ → ∃ ρ1, gt (.int (lo + (i : Int))) ρ = some ρ1 ∧ Rn b ρ1 fun r => match r with | .nx ρ2 => I (i + 1) ρ2 | .ct ρ2 => I (i + 1) ρ2 | .bk ρ2 => Rn g ρ2 Q | r => Q r) (k : ∀ ρ', I n ρ' → Rn g ρ' Q) : Rn (PD.sq (forS fi gt b) g) ρ Q := by
  refine Rn.sqfor (xs := List.range n) (φ := fun i : Nat => .int (lo + (i : Int))) h I h0 (fun i hi ρ hI => ?_) (fun ρ' hI => k ρ' (by rw [List.length_range] at hI; exact hI))
  rw [List.getElem_range]
  exact hs i (by simpa using hi) ρ hI
theorem Rn.fzD {i : Nat} {ds : List D} (ho : ρ[i]? = some (O.dats ds)) (k : Rn g (ρ.set i (.dat (.lst ds))) Q) : Rn (PD.fz i g) ρ Q := Rn.fz ho (toD_dats ds) k
/-- a join: what holds behind a part, whichever way was taken -/
theorem Rn.join (h : Rn f ρ (Nx P)) (k : ∀ ρ', P ρ' → Rn g ρ' Q) : Rn (PD.sq f g) ρ Q := Rn.sqN h k
end
/-! ### comprehensions over typed lists -/
section
variable {ρ : Ev} {fi : Ev → Option (List D)} {gt : D → Ev → Option Ev} {t : Ev → Option Bool} {f : Ev → Option D} {vs : List Nat}
theorem comp_mapT {α : Type} {φ ψ : α → D} {ρw : Ev} : ∀ {xs : List α}, (∀ x ∈ xs, ∃ ρ1, gt (φ x) ρw = some ρ1 ∧ f ρ1 = some (ψ x)) → comp gt yes f ρw (xs.map φ) = some (xs.map ψ)
  | [], _ => rfl
  | x :: xs, H => by
    obtain ⟨ρ1, e1, e2⟩ := H x List.mem_cons_self
    rw [List.map_cons, List.map_cons]
    unfold comp
    rw [e1, Option.bind_some, show yes ρ1 = some true from rfl, Option.bind_some, if_pos rfl, e2, Option.bind_some, comp_mapT fun x' hx => H x' (List.mem_cons_of_mem _ hx)]
    rfl
theorem comp_filT {α : Type} {φ ψ : α → D} {p : α → Bool} {ρw : Ev} : ∀ {xs : List α}, (∀ x ∈ xs, ∃ ρ1, gt (φ x) ρw = some ρ1 ∧ t ρ1 = some (p x) ∧ (p x = true → f ρ1 = some (ψ x))) → comp gt t f ρw (xs.map φ) = some ((xs.filter p).map ψ)
  | [], _ => rfl
  | x :: xs, H => by
    obtain ⟨ρ1, e1, e2, e3⟩ := H x List.mem_cons_self
    have ih := comp_filT (xs := xs) fun x' hx => H x' (List.mem_cons_of_mem _ hx)
    rw [List.map_cons]
    unfold comp
    rw [e1, Option.bind_some, e2, Option.bind_some]
    cases q : p x with
    | true => rw [if_pos rfl, e3 q, Option.bind_some, ih, List.filter_cons_of_pos q]; rfl
    | false => rw [if_neg Bool.false_ne_true, ih, List.filter_cons_of_neg (by rw [q]; exact Bool.false_ne_true)]
/-- [e for x in xs] -/
theorem lc_map {α : Type} {φ : α → D} (ψ : α → D) {xs : List α} (hw : okW ρ vs = true) (hi : fi ρ = some (xs.map φ)) (hl : xs.length ≤ 1000000) (H : ∀ x ∈ xs, ∃ ρ1, gt (φ x) (wipeO ρ vs) = some ρ1 ∧ f ρ1 = some (ψ x)) : lcD fi gt yes f vs ρ = some (.lst (xs.map ψ)) :=
  lcD_of hw hi rfl (comp_mapT H) (by rw [List.length_map]; exact line_of hl)
theorem lc_fil {α : Type} {φ : α → D} (ψ : α → D) (p : α → Bool) {xs : List α} (hw : okW ρ vs = true) (hi : fi ρ = some (xs.map φ)) (hl : xs.length ≤ 1000000) (H : ∀ x ∈ xs, ∃ ρ1, gt (φ x) (wipeO ρ vs) = some ρ1 ∧ t ρ1 = some (p x) ∧ (p x = true → f ρ1 = some (ψ x))) : lcD fi gt t f vs ρ = some (.lst ((xs.filter p).map ψ)) :=
  lcD_of hw hi rfl (comp_filT H) (by rw [List.length_map]; exact Nat.le_trans (List.length_filter_le _ _) (line_of hl))
end
theorem mp_lenA {α : Type} (a b : List α) : (a ++ b).length = a.length + b.length := List.length_append
theorem mp_mapC {α β : Type} (f : α → β) (a : α) (l : List α) : (a :: l).map f = f a :: l.map f := rfl
theorem mp_mapN {α β : Type} (f : α → β) : ([] : List α).map f = [] := rfl
theorem mp_mapA {α β : Type} (f : α → β) (a b : List α) : (a ++ b).map f = a.map f ++ b.map f := List.map_append
/-- all of them, for simp -/
def MV := And.intro (And.intro (And.intro (And.intro (And.intro (And.intro (And.intro (@ev_bind) (And.intro (@ev_map) (@ev_gv0))) (And.intro (@ev_gvS) (And.intro (@ev_b2) (@ev_b1)))) (And.intro (And.intro (@ev_kI) (And.intro (@ev_kS) (@ev_kB))) (And.intro (And.intro (@ev_kN) (@ev_aCons)) (And.intro (@ev_aNil) (@ev_cB))))) (And.intro (And.intro (And.intro (@ev_cO) (And.intro (@ev_asB) (@ev_toB))) (And.intro (@ev_andT) (And.intro (@ev_orT) (@ev_notT)))) (And.intro (And.intro (@ev_andO_t) (And.intro (@ev_andO_f) (@ev_andO))) (And.intro (And.intro (@ev_orO_t) (@ev_orO_f)) (And.intro (@ev_orO) (@ev_andV)))))) (And.intro (And.intro (And.intro (And.intro (@ev_orV) (And.intro (@ev_notV) (@ev_andW_t))) (And.intro (@ev_andW_f) (And.intro (@ev_andW) (@ev_orW_t)))) (And.intro (And.intro (@ev_orW_f) (And.intro (@ev_orW) (@ev_notW))) (And.intro (And.intro (@ev_ifV) (@ev_iteO)) (And.intro (@ev_ite_some) (@ev_ite_int))))) (And.intro (And.intro (And.intro (@ev_ite_str) (And.intro (@ev_dec) (@ev_true))) (And.intro (And.intro (@ev_false) (@ev_ft)) (And.intro (@ev_tt) (@ev_not)))) (And.intro (And.intro (@ev_and) (And.intro (@ev_or) (@ev_nt))) (And.intro (And.intro (@ev_nf) (@ev_ba1)) (And.intro (@ev_ba2) (@ev_ba3))))))) (And.intro (And.intro (And.intro (And.intro (And.intro (@ev_ba4) (And.intro (@ev_bo1) (@ev_bo2))) (And.intro (@ev_bo3) (And.intro (@ev_bo4) (@ev_len?1)))) (And.intro (And.intro (@ev_lenO?1) (And.intro (@ev_len?2) (@ev_lenO?2))) (And.intro (And.intro (@ev_gT2) (@ev_len?3)) (And.intro (@ev_lenO?3) (@ev_gT3))))) (And.intro (And.intro (And.intro (@ev_len?4) (And.intro (@ev_lenO?4) (@ev_gT4))) (And.intro (And.intro (@ev_len?5) (@ev_lenO?5)) (And.intro (@ev_gT5) (@ev_len?6)))) (And.intro (And.intro (@ev_lenO?6) (And.intro (@ev_gT6) (@ev_len?7))) (And.intro (And.intro (@ev_lenO?7) (@ev_gT7)) (And.intro (@ev_len?8) (@ev_lenO?8)))))) (And.intro (And.intro (And.intro (And.intro (@ev_gT8) (And.intro (@ev_len?0) (@ev_mkTup))) (And.intro (@ev_mkLst) (And.intro (@ev_mkLstO) (@ev_line)))) (And.intro (And.intro (@ev_isi_bool_non) (And.intro (@ev_isi_bool_bl) (@ev_isi_bool_int))) (And.intro (And.intro (@ev_isi_bool_str) (@ev_isi_bool_lst)) (And.intro (@ev_isi_bool_tup) (@ev_isi_bool_dic))))) (And.intro (And.intro (And.intro (@ev_isi_int_non) (And.intro (@ev_isi_int_bl) (@ev_isi_int_int))) (And.intro (And.intro (@ev_isi_int_str) (@ev_isi_int_lst)) (And.intro (@ev_isi_int_tup) (@ev_isi_int_dic)))) (And.intro (And.intro (@ev_isi_str_non) (And.intro (@ev_isi_str_bl) (@ev_isi_str_int))) (And.intro (And.intro (@ev_isi_str_str) (@ev_isi_str_lst)) (And.intro (@ev_isi_str_tup) (@ev_isi_str_dic)))))))) (And.intro (And.intro (And.intro (And.intro (And.intro (And.intro (@ev_isi_tuple_non) (And.intro (@ev_isi_tuple_bl) (@ev_isi_tuple_int))) (And.intro (@ev_isi_tuple_str) (And.intro (@ev_isi_tuple_lst) (@ev_isi_tuple_tup)))) (And.intro (And.intro (@ev_isi_tuple_dic) (And.intro (@ev_isi_list_non) (@ev_isi_list_bl))) (And.intro (And.intro (@ev_isi_list_int) (@ev_isi_list_str)) (And.intro (@ev_isi_list_lst) (@ev_isi_list_tup))))) (And.intro (And.intro (And.intro (@ev_isi_list_dic) (And.intro (@ev_isi_dict_non) (@ev_isi_dict_bl))) (And.intro (And.intro (@ev_isi_dict_int) (@ev_isi_dict_str)) (And.intro (@ev_isi_dict_lst) (@ev_isi_dict_tup)))) (And.intro (And.intro (@ev_isi_dict_dic) (And.intro (@ev_addA) (@ev_addD))) (And.intro (And.intro (@ev_subI) (@ev_mulL)) (And.intro (@ev_mulR) (@ev_modI)))))) (And.intro (And.intro (And.intro (And.intro (@ev_divI) (And.intro (@ev_neg) (@ev_intD))) (And.intro (@ev_max2) (And.intro (@ev_min2) (@ev_eqI)))) (And.intro (And.intro (@ev_eqB) (And.intro (@ev_eqS) (@ev_neI))) (And.intro (And.intro (@ev_neS) (@ev_lt)) (And.intro (@ev_le) (@ev_gt))))) (And.intro (And.intro (And.intro (@ev_ge) (And.intro (@ev_isN_non) (@ev_isN_bl))) (And.intro (And.intro (@ev_isN_int) (@ev_isN_str)) (And.intro (@ev_isN_lst) (@ev_isN_tup)))) (And.intro (And.intro (@ev_isN_obj) (And.intro (@ev_notN_non) (@ev_notN_int))) (And.intro (And.intro (@ev_notN_str) (@ev_notN_lst)) (And.intro (@ev_notN_tup) (@ev_notN_obj))))))) (And.intro (And.intro (And.intro (And.intro (And.intro (@ev_lenC) (And.intro (@ev_lenN) (@ev_lenM))) (And.intro (@ev_lenL) (And.intro (@ev_lenT) (@ev_lenS)))) (And.intro (And.intro (@ev_tupL) (And.intro (@ev_tupT) (@ev_listL))) (And.intro (And.intro (@ev_listT) (@ev_frz)) (And.intro (@ev_thaw) (@ev_toD))))) (And.intro (And.intro (And.intro (@ev_toDd) (And.intro (@ev_iOf) (@ev_seqL))) (And.intro (And.intro (@ev_seqT) (@ev_seqS)) (And.intro (@ev_rng1) (@ev_rng2)))) (And.intro (And.intro (@ev_rngI) (And.intro (@ev_rngJ) (@ev_slc))) (And.intro (And.intro (@ev_noPart) (@ev_part)) (And.intro (@ev_toI) (@ev_slL)))))) (And.intro (And.intro (And.intro (And.intro (@ev_slS) (And.intro (@ev_catL) (@ev_catT))) (And.intro (@ev_catS) (And.intro (@ev_catSD) (@ev_strlen)))) (And.intro (And.intro (@ev_rev) (And.intro (@ev_ix0L) (@ev_ix1L))) (And.intro (And.intro (@ev_ix0T) (@ev_ix1T)) (And.intro (@ev_ix2T) (@ev_ix3T))))) (And.intro (And.intro (And.intro (@ev_ix4T) (And.intro (@ev_ixML) (@ev_ixMT))) (And.intro (And.intro (@ev_wipe0) (@ev_wipeS)) (And.intro (@ev_gN) (@ev_gsN)))) (And.intro (And.intro (@ev_gsC) (And.intro (@ev_set0) (@ev_setS))) (And.intro (And.intro (@mp_lenA) (@mp_mapC)) (And.intro (@mp_mapN) (@mp_mapA))))))))
end PD

namespace PD
open PySem PySem.Spec L2

/-! ### own error classes: super().__init__('..'); self.f = f; .. -/
abbrev superSt (p0 p1 p2 p3 p4 p5 : Pos) (x : Str) (j : Nat) : Stmt := .Expr (.Call (.Attribute (.Call (.Name "super" p0) [] [] p1) "__init__" p2) [.Constant (.str x) j p3] [] p4) p5
abbrev fldSt (f : Str) (q1 q2 q3 q4 : Pos) : Stmt := .Assign [.Attribute (.Name "self" q1) f q2] (.Name f q3) q4
inductive Flds : List Stmt → List Str → Prop
  | nil : Flds [] []
  | cons {f : Str} {q1 q2 q3 q4 : Pos} {r : List Stmt} {fs : List Str} : Flds r fs → Flds (fldSt f q1 q2 q3 q4 :: r) (f :: fs)

abbrev xEnv (qual : Str) (scope : Scope) (L f cda cc : Addr) : Env := PySem.W.envX qual scope L f (.ref cda) [("__class__", cc)]
abbrev xObj (C t1 : Addr) (dv : Option Addr) : Obj := { cls := .ref C, dict := dv, data := .fields #[.ref t1, .none, .none, .none, .bool false, .none] }

/-- what stands in the dict of an exception in the making -/
def XDic (hp : Heap) (e L : Addr) (done : List (Str × Value)) (h : Heap) : Option Addr → Prop
  | none => done = []
  | some dx => hp.objs.size ≤ dx ∧ dx ≠ e ∧ dx ≠ L ∧ ∃ mA, h.Ns1 dx mA ∧ Within mA (done.map (·.1)) ∧ ∀ y, mA y = done.lookup y
section
variable {prog : Program} {w : World} {A : Around} {E : Value → Shared → Prop} {K : PySem.W.Frag} {hp : Heap} {C e L f cda cc t1 : Addr} {qual : Str} {scope : Scope} {m : Str → Option Value} {os : OsState} {g : Array GenState} {d : Drawn}
/-- one store -/
theorem store_run {cd : ClassData} {fl : Str} {v : Value} {dv : Option Addr} {done : List (Str × Value)} {h : Heap} {t : Nat} {Q : Unit → Shared → Prop} (X : K.In hp) (hcd : PySem.W.clsIn K C = some cd) (hm : PySem.HandSPX.refsVE cd.mro = true) (hh : cd.hasDict = true)
    (sa : PySem.W.findIn K (.ref C) "__setattr__" = some (some (.builtin "object.__setattr__"))) (ha : PySem.W.findIn K (.ref C) fl = some none) (hl : done.length ≤ 900) (he : hp.objs.size ≤ e)
    (kp : ∀ b o, hp.get? b = some o → h.get? b = some o) (hx : h.get? e = some (xObj C t1 dv)) (hL : L ≠ e) (hn : h.Ns L m)
    (hdv : XDic hp e L done h dv)
    (hq : ∀ h' tk dx, (∀ b o, hp.get? b = some o → h'.get? b = some o) → h'.get? e = some (xObj C t1 (some dx)) → h'.Ns L m → hp.objs.size ≤ dx → dx ≠ e → dx ≠ L → (∃ mA, h'.Ns1 dx mA ∧ Within mA (((fl, v) :: done).map (·.1)) ∧ ∀ y, mA y = ((fl, v) :: done).lookup y) → Q () ⟨h', g, d, tk, os⟩) :
    wpAny (model prog w) A (setAttr (.ref e) fl v) Q E ⟨h, g, d, t, os⟩ := by
  have XK : K.In h := X.keeps kp
  have hpe : ∀ b o, hp.get? b = some o → b ≠ e := fun b o q => Nat.ne_of_lt (Nat.lt_of_lt_of_le (Heap.lt_size q) he)
  have look : ∀ y, (if y = fl then some v else done.lookup y) = ((fl, v) :: done).lookup y := fun y => by
    by_cases hy : y = fl
    · subst hy; simp [List.lookup]
    · have e' : (y == fl) = false := by simpa using hy
      rw [if_neg hy]; simp [List.lookup, e']
  cases dv with
  | none =>
    have hdv : done = [] := hdv
    subst hdv
    refine PySem.W.set_plain XK (ox := xObj C t1 none) (od := none) ⟨hx, rfl, rfl, trivial⟩ sa ?_
    refine PySem.HandSPX.exc_osa XK hx hcd hm hh ha (fun h' tk' dx k dn dne hx' hn' => ?_)
    obtain ⟨oL, es, ep, hoL, rL⟩ := hn
    have hdL : dx ≠ L := fun z => by
      have y := Heap.lt_size hoL
      rw [← z] at y
      exact absurd y (Nat.not_lt.mpr dn)
    have hsz : hp.objs.size ≤ dx := Nat.le_trans he (Nat.le_trans (Nat.le_of_lt (Heap.lt_size hx)) dn)
    exact hq h' tk' dx (fun b o q => k b o (hpe b o q) (kp b o q)) hx' ⟨oL, es, ep, k _ _ hL hoL, rL⟩ hsz dne hdL ⟨_, hn', Within.cons fl v Within.nil, fun y => by rw [← look]; rfl⟩
  | some dx =>
    obtain ⟨hsz, dne, hdL, mA, hns, hw, hlk⟩ := hdv
    obtain ⟨oD, _, _, hoD, _, _⟩ := hns.count hw
    refine PySem.W.set_plain XK (ox := xObj C t1 (some dx)) (od := some oD) ⟨hx, rfl, rfl, hoD⟩ sa ?_
    refine PySem.OEX.osa_old XK hx hns hw (by rw [List.length_map]; omega) hcd hm hh ha (fun h' tk' k hn' => ?_)
    obtain ⟨oL, es, ep, hoL, rL⟩ := hn
    have hpd : ∀ b o, hp.get? b = some o → b ≠ dx := fun b o q => Nat.ne_of_lt (Nat.lt_of_lt_of_le (Heap.lt_size q) hsz)
    exact hq h' tk' dx (fun b o q => k b o (hpd b o q) (kp b o q)) (k _ _ dne.symm hx) ⟨oL, es, ep, k _ _ hdL.symm hoL, rL⟩ hsz dne hdL ⟨_, hn', Within.cons fl v hw, fun y => by rw [← look, hlk y]⟩

theorem ldLoc {h : Heap} {t : Nat} {x : Str} {pos : Pos} {v : Value} {Q : Value → Shared → Prop} (hk : scope.kind = .function) (hl : scope.names.lookup x = some .local) (hd : (x == ("__debug__" : Str)) = false) (hn : h.Ns L m) (hv : m x = some v) (q : Q v ⟨h, g, d, t, os⟩) :
    wpAny (model prog w) A (eval (.Name x pos) (xEnv qual scope L f cda cc)) Q E ⟨h, g, d, t, os⟩ := wpAny_Name (wpAny_loadName_local hk hl hn hv q) hd

/-- the stores -/
theorem flds_run {cd : ClassData} (X : K.In hp) (hcd : PySem.W.clsIn K C = some cd) (hm : PySem.HandSPX.refsVE cd.mro = true) (hh : cd.hasDict = true)
    (sa : PySem.W.findIn K (.ref C) "__setattr__" = some (some (.builtin "object.__setattr__"))) (he : hp.objs.size ≤ e) (hL : L ≠ e) (hk : scope.kind = .function) (hself : scope.names.lookup ("self" : Str) = some .local) (ms : m "self" = some (.ref e)) :
    ∀ {rest : List Stmt} {fs : List Str} (F : Flds rest fs) (val : Str → Value) {dv : Option Addr} {done : List (Str × Value)} {h : Heap} {t : Nat} {Q : Flow → Shared → Prop},
    (∀ x ∈ fs, PySem.W.findIn K (.ref C) x = some none ∧ scope.names.lookup x = some .local ∧ (x == ("__debug__" : Str)) = false ∧ m x = some (val x)) → done.length + fs.length ≤ 900 →
    (∀ b o, hp.get? b = some o → h.get? b = some o) → h.get? e = some (xObj C t1 dv) → h.Ns L m →
    XDic hp e L done h dv →
    (∀ h' tk dv', (∀ b o, hp.get? b = some o → h'.get? b = some o) → h'.get? e = some (xObj C t1 dv') →
      XDic hp e L ((fs.map fun x => (x, val x)).reverse ++ done) h' dv' → Q .next ⟨h', g, d, tk, os⟩) →
    wpAny (model prog w) A (execs rest (xEnv qual scope L f cda cc)) Q E ⟨h, g, d, t, os⟩
  | _, _, .nil, val, dv, done, h, t, Q, _, _, kp, hx, hn, hdv, hq => wpAny_execs_nil (hq h t dv kp hx hdv)
  | _, _, .cons (f := fl) (q1 := q1) (q2 := q2) (q3 := q3) (q4 := q4) (fs := fs) F, val, dv, done, h, t, Q, hf, hl, kp, hx, hn, hdv, hq => by
    obtain ⟨h1, h2, h3, h4⟩ := hf fl List.mem_cons_self
    simp only [List.length_cons] at hl
    refine wpAny_execs_cons ?_
    refine plainObj_wpAny_Assign_Attribute ?_ (by rfl)
    refine ldLoc hk h2 h3 hn h4 ?_
    refine ldLoc hk hself (by decide) hn ms ?_
    refine store_run X hcd hm hh sa h1 (by omega) he kp hx hL hn hdv fun h' tk dx k1 k2 k3 k4 k5 k6 k7 => ?_
    refine flds_run X hcd hm hh sa he hL hk hself ms F val (dv := some dx) (done := (fl, val fl) :: done) (fun x hx => hf x (List.mem_cons_of_mem _ hx)) (by simp only [List.length_cons]; omega) k1 k2 k3 ⟨k4, k5, k6, k7⟩ fun h'' tk' dv' j1 j2 j3 => hq h'' tk' dv' j1 j2 ?_
    rw [List.map_cons, List.reverse_cons, List.append_assoc]
    exact j3
/-- ValueError.__init__ bound to the object, called -/
theorem call_bwV {nm q : Str} {N : Addr} {bs bm : List Value} {hdct : Bool} {sn : List Str} {sub : List Value} {ab : Bool} {col : Option Bool} {dd : Option Addr} {k0 k1 k2 k3 k5 : Option Value} {h : Heap} {t : Nat} {u t0 : Addr} {rest : List Value} {Q : Value → Shared → Prop}
    (hC : h.get? C = some (excClassObj nm q C N bs bm hdct sn sub ab col dd k0 k1 k2 k3 k5 "ValueError.__new__")) (he : h.get? e = some (xObj C t0 none)) (hu : h.get? u = some (PySem.W.kxs_mw "ValueError.__init__" e)) (hrest : rest.length ≤ sizeLine)
    (hq : ∀ h' t1, (∀ b o, b ≠ e → h.get? b = some o → h'.get? b = some o) → h'.get? e = some (xObj C t1 none) → Q .none ⟨h', g, d, t, os⟩) :
    wpAny (model prog w) A (call (.ref u) rest) Q E ⟨h, g, d, t, os⟩ := by
  refine wpAny_call (codeAny_of_tree ?_)
  show wpAny _ A.in1 (callAny (.ref u) ⟨rest, []⟩) _ _ _
  simp only [callAny]
  refine wpAny_bind (wpAny_load hu ?_)
  simp only [PySem.W.kxs_mw, show (Value.type "method-wrapper" == Value.type "method" || Value.type "method-wrapper" == Value.type "builtin_function_or_method" || Value.type "method-wrapper" == Value.type "method-wrapper") = true by decide, if_true]
  refine PySem.W.KFB.if_so (by decide) ?_
  refine wpAny_bind (PySem.W.check_bound_init F.excBase_ValueError.toExcCallFacts hC he rfl ?_)
  refine wpAny_bind (wpAny_pure (wpAny_pure ?_))
  refine ⟨plainId_quiet F.excBase_ValueError.init.plain _, codeAny_builtin F.excBase_ValueError.initEntry ?_⟩
  exact PySem.W.exc_init_tree (cls := .ref C) (t0 := t0) (dv := none) (c2 := .none) (c3 := .none) (b4 := .bool false) he hrest fun h' k1 k2 k3 => hq h' _ k1 k2

/-- the call is the ordinary one (the places of the text tell it) -/
def SupEv (qual : Str) (scope : Scope) (p0 p1 p2 p3 p4 : Pos) (x : Str) (j : Nat) : Prop := ∀ L f cda cc : Addr, ∃ pl : Sem Bool,
  eval (.Call (.Attribute (.Call (.Name "super" p0) [] [] p1) "__init__" p2) [.Constant (.str x) j p3] [] p4) (xEnv qual scope L f cda cc) = (do
    let ov ← attributeBase (.Call (.Name "super" p0) [] [] p1) "__init__" (xEnv qual scope L f cda cc) (eval (.Call (.Name "super" p0) [] [] p1) (xEnv qual scope L f cda cc))
    standAt p2.atName
    let (fn, first) ← holding [ov] (getMethod ov "__init__" pl)
    callWith p4 fn first (backTo p4 (starEach [.Constant (.str x) j p3] (xEnv qual scope L f cda cc))) [])
/-- super().__init__('..') -/
theorem super_run {mg : Str → Option Value} {D : Addr} {cdD : ClassData} {ar : PySem.Arg} {fd : FuncData} {vs : Array Value} {file : Str} {tf : Tok} {oc ccl cl : Value} {od cdd cld : Option Addr} {osl ccs csl : Array (Option Value)} {body : List Stmt} {p0 p1 p2 p3 p4 p5 : Pos} {x : Str} {j : Nat}
    {nm q : Str} {N : Addr} {bs bm : List Value} {sn : List Str} {sub : List Value} {ab : Bool} {col : Option Bool} {dd : Option Addr} {k0 k1 k2 k3 k5 : Option Value} {h : Heap} {t : Nat} {t0 : Addr} {Q : Flow → Shared → Prop} {E : Value → Shared → Prop}
    (hev : SupEv qual scope p0 p1 p2 p3 p4 x j) (X : K.In hp) (hG : hp.Ns mainGlobals mg) (hB : ∃ mb, hp.Ns builtinsNs mb ∧ ∀ x : Str, x ≠ "__name__" → mb x = bootBuiltins x) (hsup : mg "super" = none)
    (lf : K.lookup f = some ⟨oc, od, .func fd, osl⟩) (hp1 : (fd.params.posonlyargs ++ fd.params.args).head? = some ar) (har : ar.arg = "self")
    (hcode : K.lookup cda = some ⟨ccl, cdd, .fields vs, ccs⟩) (hvs : vs[2]? = some (.str file tf)) (hfile : ((prog.main.file : Str) == file) = true)
    (hcell : K.lookup cc = some ⟨cl, cld, .cell (some (.ref D)), csl⟩) (hD : PySem.W.clsIn K D = some cdD) (hsub : PySem.W.mroIn K C (.ref D) = some true) (ho : PySem.W.nsIn K cStatics "thirdparty.any" = some none)
    (hms : PySem.W.ks_superIn K C D "__init__" = some (some (.builtin "ValueError.__init__"))) (hVE : PySem.W.subIn K (.ref C) (.type "ValueError") = some true)
    (hC : K.lookup C = some (excClassObj nm q C N bs bm true sn sub ab col dd k0 k1 k2 k3 k5 "ValueError.__new__"))
    (hks : scope.names.lookup ("super" : Str) = some .globalImplicit) (hkc : scope.names.lookup ("__class__" : Str) = some .free) (hk : scope.kind = .function) (hself : scope.names.lookup ("self" : Str) = some .local)
    (htop : (prog.main.scope.names.lookup ("super" : Str)).isSome = false)
    (he : hp.objs.size ≤ e) (hL : L ≠ e) (kp : ∀ b o, hp.get? b = some o → h.get? b = some o) (hx : h.get? e = some (xObj C t0 none)) (hn : h.Ns L m) (ms : m "self" = some (.ref e))
    (hq : ∀ h' tk t1, (∀ b o, hp.get? b = some o → h'.get? b = some o) → h'.get? e = some (xObj C t1 none) → h'.Ns L m → Q .next ⟨h', g, d, tk, os⟩) :
    _root_.PySem.wpAt (model prog w) A (.func body (xEnv qual scope L f cda cc)) (exec (superSt p0 p1 p2 p3 p4 p5 x j) (xEnv qual scope L f cda cc)) Q E ⟨h, g, d, t, os⟩ := by
  have XK : K.In h := X.keeps kp
  obtain ⟨mb, hmb, hbt⟩ := hB
  obtain ⟨oD, hD1, hD2⟩ : ∃ oD, h.get? D = some oD ∧ oD.data = .cls cdD := by
    unfold PySem.W.clsIn at hD
    split at hD
    · rename_i c d cd' sl ho
      cases hD
      exact ⟨_, XK _ _ ho, rfl⟩
    · cases hD
  obtain ⟨cd, hcd⟩ : ∃ cd, PySem.W.clsIn K C = some cd := by
    cases z : PySem.W.clsIn K C with
    | none => unfold PySem.W.ks_superIn at hms; rw [z] at hms; cases hms
    | some cd => exact ⟨cd, rfl⟩
  have hms' : PySem.W.alongIn K "__init__" ((cd.mro.dropWhile (· != .ref D)).drop 1) = some (some (.builtin "ValueError.__init__")) := by
    unfold PySem.W.ks_superIn at hms
    rw [hcd] at hms
    exact hms
  have hint : interactive (xEnv qual scope L f cda cc) = false := by
    show (scope.kind == .module && _) = false
    rw [hk]; rfl
  obtain ⟨pl, hev⟩ := hev L f cda cc
  refine ks_wpAt_Expr_any (ks_wpAt_MethodCall (pl := pl) ?_ hev) hint (by rfl)
  refine ks_wpAt_super_base (env := xEnv qual scope L f cda cc) hks hkc (by decide) rfl (XK _ _ lf) rfl hp1 rfl (XK _ _ hcode) rfl hvs hfile htop ?_
  refine PySem.W.ks_loadName_global hk hks (Calls.loadGlobal_builtin (env := xEnv qual scope L f cda cc) (hG.keeps kp) hsup (hmb.keeps kp) ((hbt _ (by decide)).trans PyProof.Rows.Boot.«super») ⟨rfl, ?_⟩)
  refine wpAny_loadName_free hk hkc rfl ⟨_, XK _ _ hcell, rfl⟩ ?_
  rw [har]
  refine wpAny_loadName_local hk hself hn ms ?_
  refine ks_wpAny_isType_cls hD1 hD2 ⟨rfl, ?_⟩
  refine ks_wpAny_call_super hD1 hD2 hx rfl (fun c e => by cases e) (PySem.W.looks_mroIn XK hsub) (fun h1 es k1 => ?_)
  have XK1 : K.In h1 := XK.keeps k1
  have I1 : PySem.W.InstAt h1 e (xObj C t0 none) C none := ⟨k1 _ _ hx, rfl, rfl, trivial⟩
  refine PySem.W.kxs_getMethod PySem.W.kxs_ValueError es (PySem.W.looks_opaque XK1 ho) (l₀ := cd.mro) ?_ rfl XK1 hms' (I1.type.andThen (PySem.W.looks_subIn XK1 hVE)) (PySem.W.ks_ne XK1 I1 hcd) (by decide) ?_
  · exact fun A Q E s k q => wpAny_bind ((PySem.W.looks_clsIn XK1 hcd) A _ E s k (wpAny_pure q))
  · have up : ∀ b o, h1.get? b = some o → (h1.push (PySem.W.kxs_mw "ValueError.__init__" e)).get? b = some o := fun b o z => Heap.get?_push_of_some _ z
    have hu : (h1.push (PySem.W.kxs_mw "ValueError.__init__" e)).get? h1.objs.size = some (PySem.W.kxs_mw "ValueError.__init__" e) := Heap.get?_push_at rfl rfl
    refine PySem.W.kxs_callWith (i := "ValueError.__init__") (x := e) (by rfl) ?_
    refine Calls.evalArgs_plain (Calls.spliced_cons (x := eval (.Constant (.str x) j p3) (xEnv qual scope L f cda cc)) (Calls.Constant_str (Calls.spliced_nil ⟨hu, ?_⟩)))
    refine call_bwV (up _ _ (XK1 _ _ hC)) (up _ _ (k1 _ _ hx)) hu (by rw [sizeLine_eq]; exact (by decide : 1 ≤ 16777216)) fun h' t1 k2 hx' => ?_
    have pe : ∀ b o, hp.get? b = some o → b ≠ e := fun b o q => Nat.ne_of_lt (Nat.lt_of_lt_of_le (Heap.lt_size q) he)
    obtain ⟨oL, es', ep, hoL, rL⟩ := hn
    exact hq h' _ t1 (fun b o z => k2 b o (pe b o z) (up b o (k1 b o (kp b o z)))) hx' ⟨oL, es', ep, k2 _ _ hL (up _ _ (k1 _ _ hoL)), rL⟩

end
/-- the name of the first parameter is self, and the rest fs; what the top has written of the class C, its __init__ and its cell -/
structure XCls (prog : Program) (K : PySem.W.Frag) (mg : Str → Option Value) (C : Addr) (fs : List Str) : Prop where
  oex : OexC K C
  ve : PySem.W.subIn K (.ref C) (.type "ValueError") = some true
  ex : ∃ (f cc cda D : Addr) (qual nm : Str) (params : Arguments) (body : List Stmt) (scope : Scope) (dV kV doc pm ct oc ccl cl : Value) (an od cdd cld : Option Addr) (osl ccs csl : Array (Option Value)) (vs : Array Value) (file : Str) (tf : Tok) (cdD : ClassData) (ar : PySem.Arg)
      (p0 p1 p2 p3 p4 p5 : Pos) (x : Str) (j : Nat) (rest : List Stmt),
    PySem.W.findIn K (.ref C) "__init__" = some (some (.ref f)) ∧ PySem.W.typeIn K (.ref f) = some (.type "function") ∧
    K.lookup f = some ⟨oc, od, .func (PySem.W.fnX nm qual params body scope [("__class__", cc)] dV kV doc pm an (.ref cda) ct), osl⟩ ∧ PySem.W.codeIn K (.ref cda) qual = true ∧
    (params.posonlyargs ++ params.args).head? = some ar ∧ ar.arg = "self" ∧ K.lookup cda = some ⟨ccl, cdd, .fields vs, ccs⟩ ∧ vs[2]? = some (.str file tf) ∧ ((prog.main.file : Str) == file) = true ∧
    K.lookup cc = some ⟨cl, cld, .cell (some (.ref D)), csl⟩ ∧ PySem.W.clsIn K D = some cdD ∧ PySem.W.mroIn K C (.ref D) = some true ∧ PySem.W.nsIn K cStatics "thirdparty.any" = some none ∧
    PySem.W.ks_superIn K C D "__init__" = some (some (.builtin "ValueError.__init__")) ∧
    scope.names.lookup ("super" : Str) = some .globalImplicit ∧ scope.names.lookup ("__class__" : Str) = some .free ∧ scope.kind = .function ∧ scope.names.lookup ("self" : Str) = some .local ∧ scope.isCoroutine = false ∧ scope.isGenerator = false ∧ (∀ y ∈ scope.names, y.2 ≠ .cell) ∧
    body = superSt p0 p1 p2 p3 p4 p5 x j :: rest ∧ SupEv qual scope p0 p1 p2 p3 p4 x j ∧ Flds rest fs ∧
    (∀ us : List Value, us.length = fs.length + 1 → bindArgs (PySem.W.fnX nm qual params body scope [("__class__", cc)] dV kV doc pm an (.ref cda) ct) ⟨us, []⟩ = pure ((("self" : Str) :: fs).zip us)) ∧
    (∀ y ∈ fs, PySem.W.findIn K (.ref C) y = some none ∧ scope.names.lookup y = some .local ∧ (y == ("__debug__" : Str)) = false) ∧ (("self" : Str) :: fs).Nodup ∧ fs.length ≤ 800
  sup : mg "super" = none
  top : (prog.main.scope.names.lookup ("super" : Str)).isSome = false

theorem lookup_rev {α : Type} (y : Str) : ∀ l : List (Str × α), (l.map (·.1)).Nodup → l.reverse.lookup y = l.lookup y
  | [], _ => rfl
  | (k, v) :: l, h => by
    rw [List.map_cons, List.nodup_cons] at h
    rw [List.reverse_cons, List.lookup_append, lookup_rev y l h.2]
    by_cases e : y = k
    · subst e
      have : l.lookup y = none := by
        rw [List.lookup_eq_none_iff]
        intro p hp
        simp only [bne_iff_ne, ne_eq, beq_eq_false_iff_ne]
        intro z
        rw [z] at h
        exact h.1 (List.mem_map_of_mem (f := (·.1)) hp)
      rw [this]
      simp [List.lookup]
    · have e' : (y == k) = false := by simpa using e
      simp [List.lookup, e']
theorem zip_keys {α : Type} : ∀ (ks : List Str) (us : List α), us.length = ks.length → (ks.zip us).map (·.1) = ks
  | [], [], _ => rfl
  | k :: ks, u :: us, h => by simp only [List.zip_cons_cons, List.map_cons]; rw [zip_keys ks us (by simpa using h)]
theorem zip_get {α : Type} : ∀ {ks : List Str} {us : List α} {y : Str}, us.length = ks.length → y ∈ ks → ∃ u, (ks.zip us).lookup y = some u
  | k :: ks, u :: us, y, h, hy => by
    by_cases e : y = k
    · subst e; exact ⟨u, by simp [List.lookup]⟩
    · have e' : (y == k) = false := by simpa using e
      rcases List.mem_cons.mp hy with z | z
      · exact absurd z e
      · obtain ⟨v, hv⟩ := zip_get (us := us) (by simpa using h) z
        exact ⟨v, by simp [List.lookup, e', hv]⟩
theorem zip_vals {α : Type} (val : Str → α) : ∀ (ks : List Str) (us : List α), us.length = ks.length → ks.Nodup → (∀ y ∈ ks, (ks.zip us).lookup y = some (val y)) → ks.map (fun y => (y, val y)) = ks.zip us
  | [], [], _, _, _ => rfl
  | k :: ks, u :: us, h, nd, hv => by
    rw [List.nodup_cons] at nd
    have h1 := hv k List.mem_cons_self
    simp only [List.zip_cons_cons] at h1
    have h2 : val k = u := by
      simp [List.lookup] at h1
      exact h1.symm
    simp only [List.map_cons, List.zip_cons_cons]
    rw [h2, zip_vals val ks us (by simpa using h) nd.2 fun y hy => ?_]
    have h3 := hv y (List.mem_cons_of_mem _ hy)
    have e' : (y == k) = false := by
      simp only [beq_eq_false_iff_ne]
      intro z; exact nd.1 (z ▸ hy)
    simp only [List.zip_cons_cons, List.lookup, e'] at h3
    exact h3

section
variable {prog : Program} {w : World} {A : Around} {E : Value → Shared → Prop} {K : PySem.W.Frag} {mg : Str → Option Value} {C : Addr} {fs : List Str}
/-- the dict of the new exception -/
def XFin (hp : Heap) (e : Addr) (fs : List Str) (us : List Value) (h : Heap) : Option Addr → Prop
  | none => fs = []
  | some dx => hp.objs.size ≤ dx ∧ dx ≠ e ∧ ∃ mA, h.Ns1 dx mA ∧ ∀ y, mA y = (fs.zip us).lookup y
/-- C(e, ..) at the heap -/
theorem call_x (T : XCls prog K mg C fs) {us : List Value} {s : Shared} {R : Result → Shared → Prop} (X : K.In s.heap) (hG : s.heap.Ns mainGlobals mg) (hB : ∃ mb, s.heap.Ns builtinsNs mb ∧ ∀ x : Str, x ≠ "__name__" → mb x = bootBuiltins x) (hnl : s.heap.NoLimit)
    (hroom : (A.under (.builtin "type.__call__" ⟨.ref C :: us, []⟩)).depth < recursionLimit) (hl : us.length = fs.length)
    (hq : ∀ h' tk e t1 dv, (∀ b o, s.heap.get? b = some o → h'.get? b = some o) → s.heap.objs.size ≤ e → h'.get? e = some (xObj C t1 dv) → XFin s.heap e fs us h' dv → R (.ok (.ret (.ref e))) { s with heap := h', toks := tk }) :
    codeAny (model prog w) A (.call (.ref C) ⟨us, []⟩) R s := by
  obtain ⟨nm, q, N, bs, bm, sn, sub, ab, col, dd, k0, k1, k2, k3, k5, hC, hbm⟩ := T.oex.cls
  obtain ⟨f, cc, cda, D, qual, nmF, params, body, scope, dV, kV, doc, pm, ct, oc, ccl, cl, an, od, cdd, cld, osl, ccs, csl, vs, file, tf, cdD, ar, p0, p1, p2, p3, p4, p5, x, j, rest, iC, tI, lf, hcd, hpar, har, hcode, hvs, hfile, hcell, hD, hsub, ho, hms, hks, hkc, hk, hself, hco, hgen, hnc, hbody, hev, FF, hbind, hfld, hnd, hlen⟩ := T.ex
  subst hbody
  obtain ⟨hp, g, dr, tk, os⟩ := s
  have kk : ∀ b o, hp.get? b = some o → ((hp.push (PySem.W.kdv_tup us)).push (PySem.HandSPX.excO C hp.objs.size)).get? b = some o := fun b o e => Heap.get?_push_of_some _ (Heap.get?_push_of_some _ e)
  have hget : ((hp.push (PySem.W.kdv_tup us)).push (PySem.HandSPX.excO C hp.objs.size)).get? (hp.objs.size + 1) = some (PySem.HandSPX.excO C hp.objs.size) := by heap_get
  have hsz : us.length ≤ sizeLine := by rw [sizeLine_eq]; omega
  refine PySem.HandSPX.call_own F.excBase_ValueError (fun Y => PySem.HandSPX.refsVE_contains Y bm hbm) (X _ _ hC) (PySem.W.looks_findIn X iC) (fun self => PySem.W.bind_fn X self tI) hsz ?_
  have X2 : K.In ((hp.push (PySem.W.kdv_tup us)).push (PySem.HandSPX.excO C hp.objs.size)) := X.keeps kk
  refine ks_codeAny_call_defAt (fd := PySem.W.fnX nmF qual params (superSt p0 p1 p2 p3 p4 p5 x j :: rest) scope [("__class__", cc)] dV kV doc pm an (.ref cda) ct) (body := superSt p0 p1 p2 p3 p4 p5 x j :: rest) (binds := (("self" : Str) :: fs).zip (.ref (hp.objs.size + 1) :: us))
    hroom (X2 _ _ lf) rfl (hnl.keeps kk) (PySem.W.codeRec_of X2 hcd) rfl (.of_eq (hbind _ (by simp [hl]))) hnc ?_ (fun h₁ hns hk₁ => ?_) hco hgen hk
  · intro y hy
    have := List.of_mem_zip (show (y.1, y.2) ∈ _ from hy)
    rcases List.mem_cons.mp this.1 with z | z
    · rw [z]; exact hself
    · exact (hfld _ z).2.1
  · have he : hp.objs.size ≤ hp.objs.size + 1 := Nat.le_succ _
    have hsz2 : ((hp.push (PySem.W.kdv_tup us)).push (PySem.HandSPX.excO C hp.objs.size)).objs.size = hp.objs.size + 2 := by rw [Heap.size_push, Heap.size_push]
    have hLe : ((hp.push (PySem.W.kdv_tup us)).push (PySem.HandSPX.excO C hp.objs.size)).objs.size ≠ hp.objs.size + 1 := by rw [hsz2]; exact Nat.succ_ne_self _
    have kp1 : ∀ b o, hp.get? b = some o → h₁.get? b = some o := fun b o z => hk₁ b o (kk b o z)
    have hl' : (Value.ref (hp.objs.size + 1) :: us).length = (("self" : Str) :: fs).length := by simp [hl]
    have keys := zip_keys (("self" : Str) :: fs) (Value.ref (hp.objs.size + 1) :: us) hl'
    have ndz : (((("self" : Str) :: fs).zip (Value.ref (hp.objs.size + 1) :: us)).map (·.1)).Nodup := by rw [keys]; exact hnd
    have mlook : ∀ y, ((("self" : Str) :: fs).zip (Value.ref (hp.objs.size + 1) :: us)).reverse.lookup y = ((("self" : Str) :: fs).zip (Value.ref (hp.objs.size + 1) :: us)).lookup y := fun y => lookup_rev y _ ndz
    rw [List.nodup_cons] at hnd
    have fl : ∀ y ∈ fs, ((("self" : Str) :: fs).zip (Value.ref (hp.objs.size + 1) :: us)).lookup y = (fs.zip us).lookup y := fun y hy => by
      have e' : (y == ("self" : Str)) = false := by
        simp only [beq_eq_false_iff_ne]
        intro z; exact hnd.1 (z ▸ hy)
      simp only [List.zip_cons_cons, List.lookup, e']
    have val : ∀ y ∈ fs, (fs.zip us).lookup y = some (((fs.zip us).lookup y).getD .none) := fun y hy => by
      obtain ⟨u, hu⟩ := zip_get (us := us) hl hy
      rw [hu]; rfl
    refine ks_wpAt_execs_cons (super_run (hp := hp) (m := fun y => ((("self" : Str) :: fs).zip (Value.ref (hp.objs.size + 1) :: us)).reverse.lookup y) hev X hG hB T.sup lf hpar har hcode hvs hfile hcell hD hsub ho hms T.ve hC hks hkc hk hself T.top he hLe kp1 (hk₁ _ _ hget) hns (by rw [mlook]; rfl) fun h2 tk2 t2 q1 q2 q3 => ?_)
    obtain ⟨cd0, hcl⟩ : ∃ cd, PySem.W.clsIn K C = some cd ∧ PySem.HandSPX.refsVE cd.mro = true ∧ cd.hasDict = true := by
      refine ⟨{ name := nm, bases := bs, mro := .ref C :: bm, ns := N, qualname := q, hasDict := true, slotNames := sn, subclasses := sub, abstract := ab, collection := col, hasDel := false }, ?_, hbm, rfl⟩
      unfold PySem.W.clsIn; rw [hC] <;> rfl
    refine wpAt_of_wpAny (flds_run (hp := hp) X hcl.1 hcl.2.1 hcl.2.2 T.oex.sa he hLe hk hself (by show List.lookup _ _ = _; rw [mlook]; rfl) FF (fun y => ((fs.zip us).lookup y).getD .none) (dv := none) (done := []) (fun y hy => ?_) (by simp; omega) q1 q2 q3 rfl fun h3 tk3 dv3 j1 j2 j3 => ?_)
    · obtain ⟨a, b, c⟩ := hfld y hy
      refine ⟨a, b, c, ?_⟩
      show List.lookup _ _ = _
      rw [mlook, fl y hy]; exact val y hy
    · refine ⟨rfl, hq h3 tk3 _ t2 dv3 j1 he j2 ?_⟩
      rw [List.append_nil, zip_vals (fun y => ((fs.zip us).lookup y).getD Value.none) fs us hl hnd.2 val] at j3
      cases dv3 with
      | none =>
        have z : (fs.zip us).reverse = [] := j3
        have y := zip_keys fs us hl
        rw [List.reverse_eq_nil_iff.mp z] at y
        exact y.symm
      | some dx =>
        obtain ⟨a, b, c, mA, r1, r2, r3⟩ := j3
        exact ⟨a, b, mA, r1, fun y => by rw [r3 y, lookup_rev y _ (by rw [zip_keys fs us hl]; exact hnd.2)]⟩
end

theorem relO_zip : ∀ (fs : List Str) {vs : List V} {us : List Value}, Vals vs us → ∀ f, RelO ((fs.zip vs).lookup f) ((fs.zip us).lookup f)
  | [], _, _, _, _ => True.intro
  | _ :: _, _, _, .nil, _ => True.intro
  | k :: fs, _, _, .cons r rs, f => by
    simp only [List.zip_cons_cons, List.lookup]
    by_cases e : f = k
    · subst e; simp only [beq_self_eq_true]; exact r
    · have e' : (f == k) = false := by simpa using e
      rw [e']
      exact relO_zip fs rs f
/-- C(e, ..), C an own error class -/
def tMkX (C : Addr) (fs : List Str) (ta : TA) : L2.St → Hp → XK → Prop := fun σ H Q => ta σ H fun vs H1 => vs.length = fs.length ∧ ∀ dx, H1 dx = none → Q (.ref C) (some dx) (upd H1 dx (.xd (fs.zip vs)))
theorem pmk_x {X : Cx} {x : Str} {C : Addr} {fs : List Str} {e : Expr} {es : List Expr} {p pos : Pos} {ta : TA} (T : XCls X.prog X.K X.mg C fs) (hne : fs ≠ []) (hr : Room 1 X.A) (hm : X.mg x = some (.ref C)) (ha : PA X (e :: es) ta) (hg : Gl X x := by rfl)
    (hdb : (x == ("__debug__" : Str)) = false := by decide) (he : starEach (e :: es) X.env = (false, eval e X.env) :: starEach es X.env := by rfl) (hpl : (backTo pos (starEach es X.env)).any (·.1) = false := by rfl) :
    L2N.PMk X (.Call (.Name x p) (e :: es) [] pos) (tMkX C fs ta) := by
  intro pins s σ H Q I h
  refine wpAny_Call_Name_kw (ld_glob I hg hm ?_ hdb)
  refine PySem.W.callWith_K (h₀ := X.base) I.ok.mod.kin T.oex.kC (thn (ha.run pos pins s σ H _ I h) fun us s1 ⟨vs, H1, I1, r1, hz, q1⟩ => ⟨I1.kIn, ?_⟩) he hpl
  show wpAny _ _ (call (.ref C) us) _ _ _
  have hl : us.length = fs.length := by rw [← r1.length, hz]
  obtain ⟨mb, hmb, hbt⟩ := I1.mod.blt
  refine wpAny_call (call_x T I1.kIn (I1.mod.glob.keeps I1.bk) ⟨mb, hmb.keeps I1.bk, hbt⟩ I1.nolimit (hr.make C us []).depth hl fun h' tk e1 t1 dv k1 he1 hx hd => ?_)
  cases dv with
  | none => exact absurd hd hne
  | some dx =>
    obtain ⟨hdz, hde, mA, hns, hmA⟩ := hd
    obtain ⟨G, g1', g2'⟩ := restrict h' fun b => decide (b ≠ e1)
    have gk : ∀ b, b ≠ e1 → G.get? b = h'.get? b := fun b hb => g1' b (decide_eq_true hb)
    have ge : G.get? e1 = none := g2' e1 (by simp)
    have kG : ∀ b o, s1.heap.get? b = some o → G.get? b = some o := fun b o z => (gk b (Nat.ne_of_lt (Nat.lt_of_lt_of_le (Heap.lt_size z) he1))).trans (k1 b o z)
    have J := I1.laid (t' := tk) (a := dx) (o := .xd (fs.zip vs)) (h' := G) kG hdz ⟨mA, hns.at fun o y => (gk dx hde).trans y, fun f => by rw [hmA f]; exact relO_zip fs r1 f⟩
    refine ⟨e1, _, _, _, _, .ref C, some dx, rfl, J, fun b o z => ?_, ge, hx, ⟨rfl, rfl, fun vs0 e0 => by cases e0; rfl⟩, rfl, rfl, ?_, rfl, I1.bare, raises_own T.oex.exC T.oex.tyC, q1 dx (I1.hok.fresh hdz)⟩
    · by_cases hb : b = e1
      · have z' : G.get? b = some o := z
        rw [hb, ge] at z'; cases z'
      · exact (gk b hb).symm.trans z
    · rw [upd_ne (Ne.symm hde)]; exact I1.hok.fresh he1
end PD

namespace PD
open PySem PySem.Spec L2

/-! ### things that nobody can change -/
mutual
def immD : D → Bool
  | .non => true
  | .bl _ => true
  | .int _ => true
  | .str _ => true
  | .tup ds => immDs ds
  | _ => false
def immDs : List D → Bool
  | [] => true
  | d :: ds => immD d && immDs ds
end
mutual
def immO : O → Bool
  | .unk => true
  | .dat d => immD d
  | .lst os => immOs os
  | .tup os => immOs os
  | .dic _ os => immOs os
  | .obj _ _ os => immOs os
  | .raw _ => false
  | .dicT _ _ _ => false
def immOs : List O → Bool
  | [] => true
  | o :: os => immO o && immOs os
end
section
variable {K : PySem.W.Frag} {M M' H : Hp}
mutual
theorem Dv.rebase (k : ∀ a xs, SqT K M a xs → SqT K M' a xs) : ∀ {v : V} {d : D}, Dv K M v d → immD d = true → Dv K M' v d
  | _, _, .non, _ => .non
  | _, _, .bl b, _ => .bl b
  | _, _, .int i, _ => .int i
  | _, _, .str x, _ => .str x
  | _, _, .lst _ _, h => nomatch h
  | _, _, .tup h hs, e => .tup (k _ _ h) (Dvs.rebase k hs e)
  | _, _, .dic _ _ _, h => nomatch h
  | _, _, .obj _ _ _ _, h => nomatch h
  | _, _, .exn0, h => nomatch h
  | _, _, .exn1 _ _ _, h => nomatch h
theorem Dvs.rebase (k : ∀ a xs, SqT K M a xs → SqT K M' a xs) : ∀ {vs : List V} {ds : List D}, Dvs K M vs ds → immDs ds = true → Dvs K M' vs ds
  | _, _, .nil, _ => .nil
  | _, _, .cons h hs, e => by
    unfold immDs at e
    rw [Bool.and_eq_true] at e
    exact .cons (Dv.rebase k h e.1) (Dvs.rebase k hs e.2)
end
mutual
theorem Ow.rebase (k : ∀ a xs, SqT K M a xs → SqT K M' a xs) (k2 : ∀ a xs, M a = some (.tup xs) → M' a = some (.tup xs)) : ∀ {o : O} {v : Option V} {fp : List Addr}, Ow K M H o v fp → immO o = true → Ow K M' H o v fp
  | _, _, _, .unk, _ => .unk
  | _, _, _, .dat h, e => .dat (h.rebase k e)
  | _, _, _, .lst h hs, e => .lst h (Ows.rebase k k2 hs e)
  | _, _, _, .tup h hs, e => .tup (k2 _ _ h) (Ows.rebase k k2 hs e)
  | _, _, _, .dic h q hs, e => .dic h q (Ows.rebase k k2 hs e)
  | _, _, _, .obj h h2 q hs, e => .obj h h2 q (Ows.rebase k k2 hs e)
  | _, _, _, .raw h m, _ => .raw h m
theorem Ows.rebase (k : ∀ a xs, SqT K M a xs → SqT K M' a xs) (k2 : ∀ a xs, M a = some (.tup xs) → M' a = some (.tup xs)) : ∀ {os : List O} {vs : List (Option V)} {fp : List Addr}, Ows K M H os vs fp → immOs os = true → Ows K M' H os vs fp
  | _, _, _, .nil, _ => .nil
  | _, _, _, .cons h hs, e => by
    unfold immOs at e
    rw [Bool.and_eq_true] at e
    exact .cons (Ow.rebase k k2 h e.1) (Ows.rebase k k2 hs e.2)
end
mutual
theorem Ow.muts : ∀ {o : O} {v : Option V} {fp : List Addr}, Ow K M H o v fp → ∀ a ∈ fp, ∃ u, H a = some u ∧ MutO u
  | _, _, _, .unk, _, h => nomatch h
  | _, _, _, .dat _, _, h => nomatch h
  | _, _, _, .lst h hs, a, ha => by
    rcases List.mem_cons.mp ha with rfl | ha
    · exact ⟨_, h, .inl ⟨_, rfl⟩⟩
    · exact Ows.muts hs a ha
  | _, _, _, .tup h hs, a, ha => Ows.muts hs a ha
  | _, _, _, .dic h _ hs, a, ha => by
    rcases List.mem_cons.mp ha with rfl | ha
    · exact ⟨_, h, .inr (.inl ⟨_, rfl⟩)⟩
    · exact Ows.muts hs a ha
  | _, _, _, .obj h h2 _ hs, a, ha => by
    rcases List.mem_cons.mp ha with rfl | ha
    · exact ⟨_, h, .inr (.inr (.inl ⟨_, _, _, rfl⟩))⟩
    · rcases List.mem_cons.mp ha with rfl | ha
      · exact ⟨_, h2, .inr (.inr (.inr (.inl ⟨_, rfl⟩)))⟩
      · exact Ows.muts hs a ha
  | _, _, _, .raw h m, a, ha => ⟨_, by rw [List.mem_singleton.mp ha]; exact h, m⟩
  | _, _, _, .dicT h _ _, a, ha => by
    rcases List.mem_singleton.mp ha with rfl
    exact ⟨_, h, .inr (.inr (.inr (.inr ⟨_, rfl⟩)))⟩
theorem Ows.muts : ∀ {os : List O} {vs : List (Option V)} {fp : List Addr}, Ows K M H os vs fp → ∀ a ∈ fp, ∃ u, H a = some u ∧ MutO u
  | _, _, _, .nil, _, h => nomatch h
  | _, _, _, .cons h hs, a, ha => (List.mem_append.mp ha).elim (Ow.muts h a) (Ows.muts hs a)
end
theorem mut_tup {u : HO} (h : MutO u) {xs : List V} : u ≠ .tup xs ∧ ∀ o, u ≠ .frz o (.tup xs) := by
  refine ⟨fun z => ?_, fun _ z => ?_⟩ <;> (subst z; rcases h with ⟨_, h⟩ | ⟨_, h⟩ | ⟨_, _, _, h⟩ | ⟨_, h⟩ | ⟨_, h⟩ <;> cases h)
mutual
theorem Ow.det {M1 M2 : Hp} (s1 : Same M1 H) (s2 : Same M2 H) : ∀ {o : O} {v : Option V} {f g : List Addr}, Ow K M1 H o v f → Ow K M2 H o v g → f = g
  | _, _, _, _, .unk, .unk => rfl
  | _, _, _, _, .dat _, .dat _ => rfl
  | _, _, _, _, .lst h hs, .lst h' hs' => by rw [h] at h'; cases h'; rw [Ows.det s1 s2 hs hs']
  | _, _, _, _, .tup h hs, .tup h' hs' => by
    have a := s1 _ _ h
    rw [s2 _ _ h'] at a; cases a
    rw [Ows.det s1 s2 hs hs']
  | _, _, _, _, .dic h _ hs, .dic h' _ hs' => by rw [h] at h'; cases h'; rw [Ows.det s1 s2 hs hs']
  | _, _, _, _, .obj h _ _ hs, .obj h' _ _ hs' => by rw [h] at h'; cases h'; rw [Ows.det s1 s2 hs hs']
  | _, _, _, _, .raw _ _, .raw _ _ => rfl
  | _, _, _, _, .dicT _ _ _, .dicT _ _ _ => rfl
theorem Ows.det {M1 M2 : Hp} (s1 : Same M1 H) (s2 : Same M2 H) : ∀ {os : List O} {vs : List (Option V)} {f g : List Addr}, Ows K M1 H os vs f → Ows K M2 H os vs g → f = g
  | _, _, _, _, .nil, .nil => rfl
  | _, _, _, _, .cons h hs, .cons h' hs' => by rw [Ow.det s1 s2 h h', Ows.det s1 s2 hs hs']
end
/-- own things looked at, for a while -/
theorem Rep.look {ρ fo : List O} {σ fv : List (Option V)} (R : Rep K M H (ρ ++ fo) (σ ++ fv)) (l : σ.length = ρ.length) :
    ∃ Ma, Same M Ma ∧ Rep K Ma H (ρ.map O.vw ++ []) (σ ++ []) ∧
      (∀ M2 H', Same Ma M2 → Same M2 H' → ∃ M3, Same M M3 ∧ Rep K M3 H' (ρ ++ fo) (σ ++ fv) ∧ ∀ v d, Dv K M2 v d → immD d = true → Dv K M3 v d) ∧
      (∀ M2 H' o v, Same Ma M2 → Rep K M2 H' (ρ.map O.vw ++ [o]) (σ ++ [v]) → immO o = true → ∃ M3, Same M M3 ∧ Rep K M3 H' (ρ ++ o :: fo) (σ ++ v :: fv)) ∧
      (∀ (i : Nat) (o : O) (v : Option V) (f : List Addr), ρ[i]? = some o → σ[i]? = some v → Ow K M H o v f → ∀ a ∈ f, Ma a = H a) := by
  obtain ⟨sm, fp, w, nd, nm⟩ := R
  obtain ⟨fa, fb, e, w1, w2⟩ := w.split l
  have s1 : Same M (fun a => if a ∈ fp then H a else M a) := fun b y q => by
    have : b ∉ fp := fun z => by rw [nm b z] at q; cases q
    show (if b ∈ fp then H b else M b) = some y
    rw [if_neg this]; exact q
  have s2 : Same (fun a => if a ∈ fp then H a else M a) H := fun b y q => by
    have q : (if b ∈ fp then H b else M b) = some y := q
    split at q
    · exact q
    · exact sm b y q
  have base : ∀ M2 H' : Hp, Same (fun a => if a ∈ fp then H a else M a) M2 → Same M2 H' → ∃ M3, Same M M3 ∧ Same M3 H' ∧ Ows K M3 H' (ρ ++ fo) (σ ++ fv) fp ∧ (∀ a ∈ fp, M3 a = none ∧ M2 a ≠ none) ∧ (∀ a, M2 a = none → M3 a = none) ∧
      (∀ a xs, SqT K M2 a xs → SqT K M3 a xs) ∧ ∀ a xs, M2 a = some (.tup xs) → M3 a = some (.tup xs) := fun M2 H' k1 k2 => by
    have at2 : ∀ a ∈ fp, ∃ u, M2 a = some u ∧ H a = some u ∧ MutO u := fun a ha => by
      obtain ⟨u, hu, mu⟩ := w.muts a ha
      exact ⟨u, k1 _ _ (show (if a ∈ fp then H a else M a) = some u by rw [if_pos ha]; exact hu), hu, mu⟩
    have nt : ∀ a xs, M2 a = some (.tup xs) → a ∉ fp := fun a xs q ha => by
      obtain ⟨u, hu, _, mu⟩ := at2 a ha
      rw [hu] at q; cases q
      exact (mut_tup mu (xs := xs)).1 rfl
    have nf : ∀ a xs o, M2 a = some (.frz o (.tup xs)) → a ∉ fp := fun a xs o q ha => by
      obtain ⟨u, hu, _, mu⟩ := at2 a ha
      rw [hu] at q; cases q
      exact (mut_tup mu (xs := xs)).2 o rfl
    have s3 : Same M (fun a => if a ∈ fp then none else M2 a) := fun b y q => by
      have : b ∉ fp := fun z => by rw [nm b z] at q; cases q
      show (if b ∈ fp then none else M2 b) = some y
      rw [if_neg this]
      exact k1 _ _ (s1 _ _ q)
    refine ⟨_, s3, fun b y q => ?_, w.frame s3 fun a ha => ?_, fun a ha => ⟨if_pos ha, ?_⟩, fun a ha => ?_, fun a xs hq => ?_, fun a xs hq => (if_neg (nt a xs hq)).trans hq⟩
    · have q : (if b ∈ fp then none else M2 b) = some y := q
      split at q
      · cases q
      · exact k2 _ _ q
    · obtain ⟨u, hu, hh, _⟩ := at2 a ha
      rw [hh]; exact k2 _ _ hu
    · obtain ⟨u, hu, _⟩ := at2 a ha
      rw [hu]; exact fun z => nomatch z
    · show (if a ∈ fp then none else M2 a) = none
      split
      · rfl
      · exact ha
    · rcases hq with (h | ⟨o, h⟩) | h
      · exact .inl (.inl ((if_neg (nt a xs h)).trans h))
      · exact .inl (.inr ⟨o, (if_neg (nf a xs o h)).trans h⟩)
      · exact .inr h
  refine ⟨_, s1, ⟨s2, [], ?_, List.nodup_nil, fun a ha => nomatch ha⟩, fun M2 H' k1 k2 => ?_, fun M2 H' o v k1 R2 io => ?_, fun i o v f eo ev h a ha => ?_⟩
  · rw [List.append_nil, List.append_nil]
    exact Ows.view s1 w1 fun a ha => if_pos (by rw [e]; exact List.mem_append_left _ ha)
  · obtain ⟨M3, a1, a2, a3, a4, a5, a6, a7⟩ := base M2 H' k1 k2
    exact ⟨M3, a1, ⟨a2, fp, a3, nd, fun a ha => (a4 a ha).1⟩, fun v d dv im => dv.rebase a6 im⟩
  · obtain ⟨t1, gp, u, gnd, gnm⟩ := R2
    obtain ⟨M3, a1, a2, a3, a4, a5, a6, a7⟩ := base M2 H' k1 t1
    obtain ⟨ga, gb, e2, u1, u2⟩ := u.split (by simpa using l)
    cases u2 with
    | cons u3 u4 =>
      cases u4
      rename_i g1
      have u5 := u3.rebase a6 a7 io
      subst e2
      obtain ⟨fa', fb', e3, w3, w4⟩ := a3.split l
      refine ⟨M3, a1, a2, fa' ++ (g1 ++ fb'), w3.append (.cons u5 w4), ?_, fun a ha => ?_⟩
      · rw [List.nodup_iff_count]
        intro b
        rw [List.nodup_iff_count] at nd gnd
        have c1 := nd b
        have c2 := gnd b
        rw [e3] at c1
        simp only [List.count_append, List.append_nil] at c1 c2 ⊢
        by_cases hb : b ∈ g1
        · have hn := gnm b (by simp [hb])
          have : b ∉ fp := fun z => (a4 b z).2 hn
          rw [e3, List.mem_append] at this
          have z1 := List.count_eq_zero.mpr fun z => this (.inl z)
          have z2 := List.count_eq_zero.mpr fun z => this (.inr z)
          omega
        · have z1 := List.count_eq_zero.mpr hb
          omega
      · simp only [List.mem_append] at ha
        rcases ha with ha | ha | ha
        · exact (a4 a (by rw [e3]; simp [ha])).1
        · exact a5 a (gnm a (by simp [ha]))
        · exact (a4 a (by rw [e3]; simp [ha])).1
  · obtain ⟨v', ga, g, gb, ev', e2, h', _⟩ := w1.at_ eo
    rw [ev] at ev'; cases ev'
    rw [Ow.det sm sm h h'] at ha
    exact if_pos (by rw [e, e2]; simp [ha])
end
def vwI (f : Ev → Option D) (ρ : Ev) : Option D := (f (ρ.map O.vw)).bind fun d => if immD d = true then some d else none
def vwO (f : Ev → Option O) (ρ : Ev) : Option O := (f (ρ.map O.vw)).bind fun d => if immO d = true then some d else none
section
variable {X : Cx} {W : WX} {pos : Pos} {e : Expr}
theorem pVwI {f : Ev → Option D} (h : PE X e (tP X.K f)) : PE X e (tP X.K (vwI f)) := PE.imp h fun σ H Q ⟨M, ρ, fo, fv, d, R, l, e, k⟩ => by
  unfold vwI at e
  cases q : f (ρ.map O.vw) with
  | none => rw [q] at e; cases e
  | some d' =>
    rw [q, Option.bind_some] at e
    split at e
    · rename_i hf
      cases e
      obtain ⟨Ma, s1, R1, back, _⟩ := R.look l
      refine ⟨Ma, ρ.map O.vw, [], [], _, R1, by simpa using l, q, fun M2 H2 v s2 R2 d2 => ?_⟩
      obtain ⟨M3, s3, R3, dd⟩ := back M2 H2 s2 R2.same
      exact k M3 H2 v s3 R3 (dd _ _ d2 hf)
    · cases e
theorem oVw {f : Ev → Option O} (h : PE X e (tO X.K f)) : PE X e (tO X.K (vwO f)) := PE.imp h fun σ H Q ⟨M, ρ, fo, fv, d, R, l, e, k⟩ => by
  unfold vwO at e
  cases q : f (ρ.map O.vw) with
  | none => rw [q] at e; cases e
  | some d' =>
    rw [q, Option.bind_some] at e
    split at e
    · rename_i hf
      cases e
      obtain ⟨Ma, s1, R1, _, back, _⟩ := R.look l
      refine ⟨Ma, ρ.map O.vw, [], [], _, R1, by simpa using l, q, fun M2 H2 v s2 R2 => ?_⟩
      obtain ⟨M3, s3, R3⟩ := back M2 H2 _ _ s2 R2 hf
      exact k M3 H2 v s3 R3
    · cases e
end

/-! ### expressions that take things out of slots -/
def mv (k : Nat) (ρ : Ev) : Option (O × Ev) := match ρ[k]? with
  | some o => if o.known = true then some (o, ρ.set k .unk) else none
  | none => none
section
variable {K : PySem.W.Frag} {M H : Hp}
/-- things become a new list -/
theorem Rep.packL {l os r : List O} {lv rv : List (Option V)} {vs : List V} (R : Rep K M H (l ++ (os ++ r)) (lv ++ (vs.map some ++ rv))) (e : lv.length = l.length) (e2 : vs.length = os.length) {p : Addr} (hp : H p = none) :
    Rep K M (upd H p (.lst vs)) (l ++ .lst os :: r) (lv ++ some (.ref p) :: rv) := by
  have R1 := R.grow (u := .lst vs) hp
  obtain ⟨s, fp, w, nd, nm⟩ := R
  obtain ⟨s1, _, _, _, _⟩ := R1
  have pn : p ∉ fp := fun z => w.dom p z hp
  have w' := w.frame (H' := upd H p (.lst vs)) (Same.refl _) fun a ha => upd_ne fun z => pn (z ▸ ha)
  obtain ⟨fa, fb, e1, wa, wb⟩ := w'.split e
  obtain ⟨fc, fd, e3, wc, wd⟩ := wb.split (by simp [e2])
  subst e1; subst e3
  refine ⟨s1, fa ++ ((p :: fc) ++ fd), wa.append (.cons (.lst upd_same wc) wd), ?_, fun a ha => ?_⟩
  · have pm : (fa ++ ((p :: fc) ++ fd)).Perm (p :: (fa ++ (fc ++ fd))) := by simp only [List.cons_append]; exact List.perm_middle
    rw [pm.nodup_iff]
    exact List.nodup_cons.mpr ⟨pn, nd⟩
  · simp only [List.mem_append, List.mem_cons] at ha
    rcases ha with ha | (rfl | ha) | ha
    · exact nm a (by simp [ha])
    · exact s.free hp
    · exact nm a (by simp [ha])
    · exact nm a (by simp [ha])
end
section
variable {X : Cx} {W : WX} {J : List Nat} {pos p : Pos} {e : Expr} {es : List Expr} {f : Ev → Option (O × Ev)} {g : Ev → Option (List O × Ev)}
theorem Lk.lens {σ0 : L2.St} {σ : L2.St} {ρ ρ1 : Ev} (l : Lk J σ0 σ ρ) (h : ρ1.length = ρ.length) : Lk J σ0 σ ρ1 := ⟨by rw [l.1, h], l.2⟩
end

/-! ### defs that give new things, called -/
def cO' (ga : Ev → Option (List D)) (n : Nat) (m : List D → Option O) (ρ : Ev) : Option O := (ga ρ).bind fun ds => if ds.length = n then m ds else none
section
variable {X : Cx} {k n : Nat} {f : Addr} {fd : FuncData} {ps : List Str} {x : Str} {p pos : Pos} {e : Expr} {es : List Expr} {ga : Ev → Option (List D)}
end
end PD

namespace PD
open PySem PySem.Spec L2

/-! ### places inside own things -/
def kidV (H : Hp) (v : V) (k : Nat) : Option V := match v with
  | .ref a => match H a with
    | some (.lst xs) => xs[k]?
    | some (.tup xs) => xs[k]?
    | some (.dK kvs) => (kvs.map (·.2))[k]?
    | some (.ins _ _ fs) => (fs.map (·.2))[k]?
    | _ => none
  | _ => none
def atV (H : Hp) : V → List Nat → Option V
  | v, [] => some v
  | v, k :: p => (kidV H v k).bind fun u => atV H u p
def O.kid (o : O) (k : Nat) : Option O := match o with
  | .lst os => os[k]?
  | .tup os => os[k]?
  | .dic _ os => os[k]?
  | .obj _ _ os => os[k]?
  | _ => none
def O.setKid (o : O) (k : Nat) (y : O) : O := match o with
  | .lst os => .lst (os.set k y)
  | .tup os => .tup (os.set k y)
  | .dic ks os => .dic ks (os.set k y)
  | .obj C ks os => .obj C ks (os.set k y)
  | o => o
def O.sub : O → List Nat → Option O
  | o, [] => some o
  | o, k :: p => (o.kid k).bind fun o1 => o1.sub p
def O.put : O → List Nat → O → O
  | _, [], y => y
  | o, k :: p, y => match o.kid k with
    | some o1 => o.setKid k (o1.put p y)
    | none => o
section
variable {K : PySem.W.Frag} {M H : Hp}
theorem sub_known : ∀ {p : List Nat} {o o' : O}, o.sub p = some o' → o'.known = true → o.known = true
  | [], o, o', e, h => by cases e; exact h
  | k :: p, o, o', e, h => by
    unfold O.sub at e
    cases o with
    | unk => cases e
    | _ => rfl
/-- one step down -/
theorem Ow.kid {o o1 : O} {v : V} {f : List Addr} {k : Nat} (w : Ow K M H o (some v) f) (s : Same M H) (nd : f.Nodup) (e : o.kid k = some o1) (h : o1.known = true) :
    ∃ v1 f1, kidV H v k = some v1 ∧ Ow K M H o1 (some v1) f1 ∧ (∀ b, f1.count b ≤ f.count b) ∧ ∀ (M' H' : Hp) (y : O) (f2 : List Addr), Same M M' → Same M' H' → (∀ b ∈ f, b ∉ f1 → H' b = H b) → Ow K M' H' y (some v1) f2 →
      ∃ g, Ow K M' H' (o.setKid k y) (some v) g ∧ ∀ b, g.count b + f1.count b = f.count b + f2.count b := by
  rw [List.nodup_iff_count] at nd
  cases w with
  | unk => cases e
  | raw _ _ => cases e
  | dicT _ _ _ => cases e
  | dat _ => cases e
  | lst ha ws =>
    rename_i a xs os fp
    obtain ⟨v', fa, f1, fb, ev, ef, h1, up⟩ := ws.at_ e
    obtain ⟨x, rfl⟩ := h1.known h
    have hx : xs[k]? = some x := by rw [List.getElem?_map] at ev; cases q : xs[k]? with | none => rw [q] at ev; cases ev | some z => rw [q] at ev; cases ev; rfl
    refine ⟨x, f1, ?_, h1, fun b => by rw [ef]; simp only [List.count_cons, List.count_append]; omega, fun M' H' y f2 s1 s2 kk hy => ?_⟩
    · unfold kidV; simp only [ha]; exact hx
    have na : a ∉ f1 := fun z => by
      have := nd a
      have c := List.count_pos_iff.mpr z
      rw [ef] at this
      simp only [List.count_cons, List.count_append, beq_self_eq_true, if_true] at this
      omega
    have out : ∀ b ∈ fa ++ fb, H' b = H b := fun b hb => kk b (by rw [ef]; rcases List.mem_append.mp hb with hb | hb <;> simp [hb]) fun z => by
      have := nd b
      have c := List.count_pos_iff.mpr z
      have c2 := List.count_pos_iff.mpr hb
      rw [ef] at this
      simp only [List.count_cons, List.count_append] at this c2
      omega
    exact ⟨_, .lst ((kk a List.mem_cons_self na).trans ha) (up s1 out hy), fun b => by rw [ef]; simp only [List.count_cons, List.count_append]; omega⟩
  | tup ha ws =>
    rename_i a xs os
    obtain ⟨v', fa, f1, fb, ev, ef, h1, up⟩ := ws.at_ e
    obtain ⟨x, rfl⟩ := h1.known h
    have hx : xs[k]? = some x := by rw [List.getElem?_map] at ev; cases q : xs[k]? with | none => rw [q] at ev; cases ev | some z => rw [q] at ev; cases ev; rfl
    refine ⟨x, f1, ?_, h1, fun b => by rw [ef]; simp only [List.count_append]; omega, fun M' H' y f2 s1 s2 kk hy => ?_⟩
    · unfold kidV; simp only [s _ _ ha]; exact hx
    have out : ∀ b ∈ fa ++ fb, H' b = H b := fun b hb => kk b (by rw [ef]; rcases List.mem_append.mp hb with hb | hb <;> simp [hb]) fun z => by
      have := nd b
      have c := List.count_pos_iff.mpr z
      have c2 := List.count_pos_iff.mpr hb
      rw [ef] at this
      simp only [List.count_append] at this c2
      omega
    exact ⟨_, .tup (s1 _ _ ha) (up s1 out hy), fun b => by rw [ef]; simp only [List.count_append]; omega⟩
  | dic ha hk ws =>
    rename_i a kvs ks os fp
    obtain ⟨v', fa, f1, fb, ev, ef, h1, up⟩ := ws.at_ e
    obtain ⟨x, rfl⟩ := h1.known h
    have hx : (kvs.map (·.2))[k]? = some x := by rw [List.getElem?_map] at ev ⊢; cases q : kvs[k]? with | none => rw [q] at ev; cases ev | some z => rw [q] at ev; cases ev; rfl
    refine ⟨x, f1, ?_, h1, fun b => by rw [ef]; simp only [List.count_cons, List.count_append]; omega, fun M' H' y f2 s1 s2 kk hy => ?_⟩
    · unfold kidV; simp only [ha]; exact hx
    have na : a ∉ f1 := fun z => by
      have := nd a
      have c := List.count_pos_iff.mpr z
      rw [ef] at this
      simp only [List.count_cons, List.count_append, beq_self_eq_true, if_true] at this
      omega
    have out : ∀ b ∈ fa ++ fb, H' b = H b := fun b hb => kk b (by rw [ef]; rcases List.mem_append.mp hb with hb | hb <;> simp [hb]) fun z => by
      have := nd b
      have c := List.count_pos_iff.mpr z
      have c2 := List.count_pos_iff.mpr hb
      rw [ef] at this
      simp only [List.count_cons, List.count_append] at this c2
      omega
    exact ⟨_, .dic ((kk a List.mem_cons_self na).trans ha) hk (up s1 out hy), fun b => by rw [ef]; simp only [List.count_cons, List.count_append]; omega⟩
  | obj ha hd hk ws =>
    rename_i a C dx kvs ks os fp
    obtain ⟨v', fa, f1, fb, ev, ef, h1, up⟩ := ws.at_ e
    obtain ⟨x, rfl⟩ := h1.known h
    have hx : (kvs.map (·.2))[k]? = some x := by rw [List.getElem?_map] at ev ⊢; cases q : kvs[k]? with | none => rw [q] at ev; cases ev | some z => rw [q] at ev; cases ev; rfl
    refine ⟨x, f1, ?_, h1, fun b => by rw [ef]; simp only [List.count_cons, List.count_append]; omega, fun M' H' y f2 s1 s2 kk hy => ?_⟩
    · unfold kidV; simp only [ha]; exact hx
    have na : a ∉ f1 ∧ dx ∉ f1 := by
      constructor
      · intro z
        have := nd a
        have c := List.count_pos_iff.mpr z
        rw [ef] at this
        simp only [List.count_cons, List.count_append, beq_self_eq_true, if_true] at this
        omega
      · intro z
        have := nd dx
        have c := List.count_pos_iff.mpr z
        rw [ef] at this
        simp only [List.count_cons, List.count_append, beq_self_eq_true, if_true] at this
        omega
    have out : ∀ b ∈ fa ++ fb, H' b = H b := fun b hb => kk b (by rw [ef]; rcases List.mem_append.mp hb with hb | hb <;> simp [hb]) fun z => by
      have := nd b
      have c := List.count_pos_iff.mpr z
      have c2 := List.count_pos_iff.mpr hb
      rw [ef] at this
      simp only [List.count_cons, List.count_append] at this c2
      omega
    exact ⟨_, .obj ((kk a (by simp) na.1).trans ha) ((kk dx (by simp) na.2).trans hd) hk (up s1 out hy), fun b => by rw [ef]; simp only [List.count_cons, List.count_append]; omega⟩
theorem nodup_le {f1 f : List Addr} (h : ∀ b, f1.count b ≤ f.count b) (nd : f.Nodup) : f1.Nodup := by
  rw [List.nodup_iff_count] at nd ⊢
  exact fun b => Nat.le_trans (h b) (nd b)
theorem Ow.sub : ∀ (p : List Nat) {o o' : O} {v : V} {f : List Addr}, Ow K M H o (some v) f → Same M H → f.Nodup → o.sub p = some o' → o'.known = true →
    ∃ v1 f1, atV H v p = some v1 ∧ Ow K M H o' (some v1) f1 ∧ (∀ b, f1.count b ≤ f.count b) ∧ ∀ (M' H' : Hp) (y : O) (f2 : List Addr), Same M M' → Same M' H' → (∀ b ∈ f, b ∉ f1 → H' b = H b) → Ow K M' H' y (some v1) f2 →
      ∃ g, Ow K M' H' (o.put p y) (some v) g ∧ ∀ b, g.count b + f1.count b = f.count b + f2.count b
  | [], o, o', v, f, w, s, nd, e, h => by
    cases e
    exact ⟨v, f, rfl, w, fun b => Nat.le_refl _, fun M' H' y f2 s1 s2 kk hy => ⟨f2, hy, fun b => Nat.add_comm _ _⟩⟩
  | k :: p, o, o', v, f, w, s, nd, e, h => by
    unfold O.sub at e
    cases q : o.kid k with
    | none => rw [q] at e; cases e
    | some o1 =>
      rw [q, Option.bind_some] at e
      obtain ⟨v1, f1, ev, h1, c1, up1⟩ := w.kid s nd q (sub_known e h)
      obtain ⟨v2, f2, ev2, h2, c2, up2⟩ := Ow.sub p h1 s (nodup_le c1 nd) e h
      refine ⟨v2, f2, ?_, h2, fun b => Nat.le_trans (c2 b) (c1 b), fun M' H' y f3 s1 s2 kk hy => ?_⟩
      · unfold atV; rw [ev]; exact ev2
      obtain ⟨g1, w1, d1⟩ := up2 M' H' y f3 s1 s2 (fun b hb hn => kk b (List.count_pos_iff.mp (Nat.lt_of_lt_of_le (List.count_pos_iff.mpr hb) (c1 b))) hn) hy
      obtain ⟨g2, w2, d2⟩ := up1 M' H' _ g1 s1 s2 (fun b hb hn => kk b hb fun z => hn (List.count_pos_iff.mp (Nat.lt_of_lt_of_le (List.count_pos_iff.mpr z) (c2 b)))) w1
      refine ⟨g2, ?_, fun b => by have a1 := d1 b; have a2 := d2 b; omega⟩
      unfold O.put
      rw [q]
      exact w2
theorem atV_frame {H' : Hp} : ∀ (p : List Nat) {o o' : O} {v : V} {f : List Addr}, Ow K M H o (some v) f → Same M H → Same M H' → f.Nodup → (∀ a ∈ f, H' a = H a) → o.sub p = some o' → o'.known = true → atV H' v p = atV H v p
  | [], _, _, _, _, _, _, _, _, _, _, _ => rfl
  | k :: p, o, o', v, f, w, s, s', nd, kk, e, h => by
    unfold O.sub at e
    cases q : o.kid k with
    | none => rw [q] at e; cases e
    | some o1 =>
      rw [q, Option.bind_some] at e
      obtain ⟨v1, f1, ev, h1, c1, _⟩ := w.kid s nd q (sub_known e h)
      have w' : Ow K M H' o (some v) f := w.frame (Same.refl _) kk
      have e1 : kidV H' v k = kidV H v k := by
        cases w with
        | unk => cases q
        | raw _ _ => cases q
        | dicT _ _ _ => cases q
        | dat _ => cases q
        | lst ha _ => unfold kidV; simp only [ha, kk _ List.mem_cons_self]
        | tup ha _ => unfold kidV; simp only [s _ _ ha, s' _ _ ha]
        | dic ha _ _ => unfold kidV; simp only [ha, kk _ List.mem_cons_self]
        | obj ha _ _ _ => unfold kidV; simp only [ha, kk _ List.mem_cons_self]
      unfold atV
      rw [e1, ev]
      exact atV_frame p h1 s s' (nodup_le c1 nd) (fun a ha => kk a (List.count_pos_iff.mp (Nat.lt_of_lt_of_le (List.count_pos_iff.mpr ha) (c1 a)))) e h
/-- the thing at a place, and temporaries that may go into it -/
theorem Rep.place {ρ tmp fo : List O} {σ tv fv : List (Option V)} (R : Rep K M H (ρ ++ (tmp ++ fo)) (σ ++ (tv ++ fv))) (l : σ.length = ρ.length) (lt : tv.length = tmp.length) {i : Nat} {o o' : O} {p : List Nat} (e : ρ[i]? = some o) (ep : o.sub p = some o') (hk : o'.known = true) :
    ∃ v0 v f ft, σ[i]? = some (some v0) ∧ atV H v0 p = some v ∧ Ow K M H o' (some v) f ∧ Ows K M H tmp tv ft ∧ (f ++ ft).Nodup ∧ (∀ b ∈ f ++ ft, M b = none) ∧
      ∀ (M' H' : Hp) (y : O) (f' : List Addr), Same M M' → Same M' H' → (∀ b, b ∉ f → H b ≠ none → H' b = H b) → Ow K M' H' y (some v) f' → (∀ b, f'.count b ≤ f.count b + ft.count b) → (∀ b, M b = none → H b ≠ none → M' b = none) → Rep K M' H' (ρ.set i (o.put p y) ++ fo) (σ ++ fv) := by
  obtain ⟨v0', f0, ft, ev, h0, h2, nd, nm, up⟩ := R.own l lt e
  obtain ⟨v0, rfl⟩ := h0.known (sub_known ep hk)
  obtain ⟨v, f, ea, h1, c1, up1⟩ := Ow.sub p h0 R.same (nd.sublist (List.sublist_append_left _ _)) ep hk
  have sub : ∀ b, b ∈ f → b ∈ f0 := fun b hb => List.count_pos_iff.mp (Nat.lt_of_lt_of_le (List.count_pos_iff.mpr hb) (c1 b))
  refine ⟨v0, v, f, ft, ev, ea, h1, h2, ?_, fun b hb => nm b ?_, fun M' H' y f' s1 s2 kk hy hc hM => ?_⟩
  · rw [List.nodup_iff_count] at nd ⊢
    intro b
    have a1 := nd b
    have a2 := c1 b
    simp only [List.count_append] at a1 ⊢
    omega
  · rcases List.mem_append.mp hb with hb | hb
    · simp [sub b hb]
    · simp [hb]
  obtain ⟨g, w, cg⟩ := up1 M' H' y f' s1 s2 (fun b hb hn => kk b hn (h0.dom b hb)) hy
  exact up M' H' _ g s1 s2 (fun b hb hn => kk b (fun z => hb (sub b z)) hn) w (fun b => by have a1 := cg b; have a2 := hc b; omega) hM
/-- looked at, with what stays -/
theorem Rep.look2 {ρ fo : List O} {σ fv : List (Option V)} (R : Rep K M H (ρ ++ fo) (σ ++ fv)) (l : σ.length = ρ.length) {i : Nat} {o o' : O} {p : List Nat} {v0 v : V} (e : ρ[i]? = some o) (ep : o.sub p = some o') (hk : o'.known = true) (e0 : σ[i]? = some (some v0)) (ev : atV H v0 p = some v) :
    ∃ Ma, Same M Ma ∧ Rep K Ma H (ρ.map O.vw ++ []) (σ ++ []) ∧
      (∀ M2 H', Same Ma M2 → Same M2 H' → ∃ M3, Same M M3 ∧ Rep K M3 H' (ρ ++ fo) (σ ++ fv) ∧ atV H' v0 p = some v ∧ ∀ v d, Dv K M2 v d → immD d = true → Dv K M3 v d) ∧
      (∀ M2 H' z u, Same Ma M2 → Rep K M2 H' (ρ.map O.vw ++ [z]) (σ ++ [u]) → immO z = true → ∃ M3, Same M M3 ∧ Rep K M3 H' (ρ ++ z :: fo) (σ ++ u :: fv) ∧ atV H' v0 p = some v) := by
  have R0 : Rep K M H (ρ ++ ([] ++ fo)) (σ ++ ([] ++ fv)) := R
  obtain ⟨v0', f0, ft, e1, h0, _, nd, nm, _⟩ := R0.own l rfl e
  rw [e1] at e0
  cases e0
  have nd0 : f0.Nodup := nd.sublist (List.sublist_append_left _ _)
  obtain ⟨Ma, s1, R1, b1, b2, b3⟩ := R.look l
  have hMa : ∀ a ∈ f0, Ma a = H a := b3 i o _ f0 e e1 h0
  have keep : ∀ M2 H' : Hp, Same Ma M2 → Same M2 H' → atV H' v0 p = some v := fun M2 H' k1 k2 => by
    rw [atV_frame (H := H) (H' := H') p h0 R.same (s1.trans (k1.trans k2)) nd0 (fun a ha => ?_) ep hk]
    · exact ev
    · have h := h0.dom a ha
      cases q : H a with
      | none => exact absurd q h
      | some u => exact k2 _ _ (k1 _ _ ((hMa a ha).trans q))
  refine ⟨Ma, s1, R1, fun M2 H' k1 k2 => ?_, fun M2 H' z u k1 R2 iz => ?_⟩
  · obtain ⟨M3, a1, a2, a3⟩ := b1 M2 H' k1 k2
    exact ⟨M3, a1, a2, keep M2 H' k1 k2, a3⟩
  · obtain ⟨M3, a1, a2⟩ := b2 M2 H' z u k1 R2 iz
    exact ⟨M3, a1, a2, keep M2 H' k1 R2.same⟩
end

theorem atV_snoc (H : Hp) : ∀ (p : List Nat) (v : V) (k : Nat), atV H v (p ++ [k]) = (atV H v p).bind fun z => kidV H z k
  | [], v, k => by
    show (kidV H v k).bind (fun o1 => some o1) = kidV H v k
    cases kidV H v k <;> rfl
  | j :: p, v, k => by
    show (kidV H v j).bind (fun o1 => atV H o1 (p ++ [k])) = ((kidV H v j).bind fun o1 => atV H o1 p).bind _
    cases kidV H v j with
    | none => rfl
    | some o1 => exact atV_snoc H p o1 k
/-- what stands at a place of slot i -/
def onSub (i : Nat) (p : List Nat) (ρ : Ev) : Option O := (ρ[i]?).bind fun o => o.sub p
def tPl (K : PySem.W.Frag) (i : Nat) (pf : Ev → Option (List Nat)) : TE := fun σ H Q => ∃ M ρ fo fv p, Rep K M H (ρ ++ fo) (σ ++ fv) ∧ σ.length = ρ.length ∧ pf ρ = some p ∧ (∃ o', onSub i p ρ = some o' ∧ o'.known = true) ∧
  ∀ M' H' v0 v, Same M M' → Rep K M' H' (ρ ++ fo) (σ ++ fv) → σ[i]? = some (some v0) → atV H' v0 p = some v → Q v H'
theorem onSub_some {i : Nat} {p : List Nat} {ρ : Ev} {o' : O} (h : onSub i p ρ = some o') : ∃ o, ρ[i]? = some o ∧ o.sub p = some o' := by
  unfold onSub at h
  cases q : ρ[i]? with
  | none => rw [q] at h; cases h
  | some o => rw [q] at h; exact ⟨o, rfl, h⟩
def plN (_ : Ev) : Option (List Nat) := some []
def plI (i : Nat) (pf : Ev → Option (List Nat)) (fb : Ev → Option D) (ρ : Ev) : Option (List Nat) := (pf ρ).bind fun p => match onSub i p ρ, fb (ρ.map O.vw) with
  | some (.lst os), some (.int n) => (ixN os.length n).bind fun k => if (os.getD k .unk).known = true then some (p ++ [k]) else none
  | some (.tup os), some (.int n) => (ixN os.length n).bind fun k => if (os.getD k .unk).known = true then some (p ++ [k]) else none
  | _, _ => none
theorem ows_getV {K : PySem.W.Frag} {M H : Hp} {os : List O} {xs : List V} {f : List Addr} (w : Ows K M H os (xs.map some) f) {k : Nat} (hk : k < os.length) : ∃ v, xs[k]? = some v := by
  have := w.length
  simp at this
  exact ⟨xs[k], List.getElem?_eq_getElem (by omega)⟩
section
variable {X : Cx} {W : WX} {J : List Nat} {pos p apos cpos : Pos} {a b e : Expr} {i : Nat} {pf : Ev → Option (List Nat)} {fb g : Ev → Option D} {f : Ev → Option O}
theorem plName {x : Str} (hv : PE X (.Name x p) (tVar i)) : PE X (.Name x p) (tPl X.K i plN) := PE.imp hv fun σ H Q ⟨M, ρ, fo, fv, pt, R, l, e, ⟨o', eo, ho⟩, k⟩ => by
  cases e
  obtain ⟨o, e1, e2⟩ := onSub_some eo
  have R' : Rep X.K M H (ρ ++ ([] ++ fo)) (σ ++ ([] ++ fv)) := R
  obtain ⟨v0, v, f, ft, ev, ea, _⟩ := R'.place l rfl e1 e2 ho
  cases ea
  exact ⟨v0, ev, k M H v0 v0 (Same.refl _) R ev rfl⟩
theorem plIx (ha : PE X a (tPl X.K i pf)) (hb : PE X b (tP X.K fb)) (hs : PlainIx b := by exact fun _ _ => rfl) : PE X (.Subscript a b pos) (tPl X.K i (plI i pf fb)) := PE.imp (pe_ix (IxR.or ix_list ix_tup) ha hb hs) fun σ H Q ⟨M, ρ, fo, fv, pt, R, l, e, ⟨o', eo, ho⟩, k⟩ => by
  unfold plI at e
  cases q : pf ρ with
  | none => rw [q] at e; cases e
  | some p0 =>
    rw [q, Option.bind_some] at e
    split at e
    · rename_i os n eo1 en
      cases q2 : ixN os.length n with
      | none => rw [q2] at e; cases e
      | some j =>
        rw [q2, Option.bind_some] at e
        split at e
        · rename_i hkn
          cases e
          refine ⟨M, ρ, fo, fv, p0, R, l, q, ⟨_, eo1, rfl⟩, fun M1 H1 v0 v s1 R1 e0 ev => ?_⟩
          obtain ⟨o, e1, e2⟩ := onSub_some eo1
          obtain ⟨Ma, t1, Ra, back, _⟩ := R1.look2 l e1 e2 rfl e0 ev
          refine ⟨Ma, ρ.map O.vw, [], [], _, Ra, by simpa using l, en, fun M2 H2 y s2 R2 d2 => ?_⟩
          cases d2
          obtain ⟨M3, s3, R3, ev3, _⟩ := back M2 H2 s2 R2.same
          have R3' : Rep X.K M3 H2 (ρ ++ ([] ++ fo)) (σ ++ ([] ++ fv)) := R3
          obtain ⟨w0, w, f, ft, ew, ea, h1, _⟩ := R3'.place l rfl e1 e2 rfl
          rw [e0] at ew; cases ew
          rw [ev3] at ea; cases ea
          cases h1 with
          | @lst ad xs _ fp hA ws =>
            have hj := (ixN_seq q2).2.1
            obtain ⟨v1, hv1⟩ := ows_getV ws hj
            have hl : xs.length = os.length := by simpa using ws.length
            refine .inl ⟨ad, xs, n, v1, rfl, rfl, SqL.of hA, by unfold atI; rw [hl, q2]; exact hv1, k M3 H2 v0 v1 (s1.trans s3) R3 e0 ?_⟩
            rw [atV_snoc, ev3]
            show kidV H2 (.ref ad) j = some v1
            unfold kidV
            simp only [hA]
            exact hv1
        · cases e
    · rename_i os n eo1 en
      cases q2 : ixN os.length n with
      | none => rw [q2] at e; cases e
      | some j =>
        rw [q2, Option.bind_some] at e
        split at e
        · rename_i hkn
          cases e
          refine ⟨M, ρ, fo, fv, p0, R, l, q, ⟨_, eo1, rfl⟩, fun M1 H1 v0 v s1 R1 e0 ev => ?_⟩
          obtain ⟨o, e1, e2⟩ := onSub_some eo1
          obtain ⟨Ma, t1, Ra, back, _⟩ := R1.look2 l e1 e2 rfl e0 ev
          refine ⟨Ma, ρ.map O.vw, [], [], _, Ra, by simpa using l, en, fun M2 H2 y s2 R2 d2 => ?_⟩
          cases d2
          obtain ⟨M3, s3, R3, ev3, _⟩ := back M2 H2 s2 R2.same
          have R3' : Rep X.K M3 H2 (ρ ++ ([] ++ fo)) (σ ++ ([] ++ fv)) := R3
          obtain ⟨w0, w, f, ft, ew, ea, h1, _⟩ := R3'.place l rfl e1 e2 rfl
          rw [e0] at ew; cases ew
          rw [ev3] at ea; cases ea
          cases h1 with
          | @tup ad xs _ _ hA ws =>
            have hj := (ixN_seq q2).2.1
            obtain ⟨v1, hv1⟩ := ows_getV ws hj
            have hl : xs.length = os.length := by simpa using ws.length
            have hH := R3.same _ _ hA
            refine .inr ⟨ad, xs, n, v1, rfl, rfl, SqT.of hH, by unfold atI; rw [hl, q2]; exact hv1, k M3 H2 v0 v1 (s1.trans s3) R3 e0 ?_⟩
            rw [atV_snoc, ev3]
            show kidV H2 (.ref ad) j = some v1
            unfold kidV
            simp only [hH]
            exact hv1
        · cases e
    · cases e
/-- a list in a place is changed -/
theorem Rep.putL {K : PySem.W.Frag} {M H : Hp} {ρ tmp fo : List O} {σ tv fv : List (Option V)} (R : Rep K M H (ρ ++ (tmp ++ fo)) (σ ++ (tv ++ fv))) (l : σ.length = ρ.length) (lt : tv.length = tmp.length) {i : Nat} {o : O} {p : List Nat} {os : List O} {v0 : V} {ad : V} (e : ρ[i]? = some o) (ep : o.sub p = some (.lst os)) (e0 : σ[i]? = some (some v0)) (ev : atV H v0 p = some ad) :
    ∃ a xs f ft, ad = .ref a ∧ H a = some (.lst xs) ∧ Ows K M H os (xs.map some) f ∧ Ows K M H tmp tv ft ∧ a ∉ f ∧ a ∉ ft ∧ M a = none ∧ ∀ ys os' f', Ows K M (upd H a (.lst ys)) os' (ys.map some) f' → (∀ b, f'.count b ≤ f.count b + ft.count b) →
      Rep K M (upd H a (.lst ys)) (ρ.set i (o.put p (.lst os')) ++ fo) (σ ++ fv) := by
  obtain ⟨w0, w, f, ft, ew, ea, h1, h2, nd, nm, up⟩ := R.place l lt e ep rfl
  rw [e0] at ew; cases ew
  rw [ev] at ea; cases ea
  cases h1 with
  | lst hA ws =>
    rename_i a xs fp
    have nd' := nd
    rw [List.nodup_iff_count] at nd'
    have na := nd' a
    simp only [List.count_append, List.count_cons, beq_self_eq_true, if_true] at na
    have n1 : a ∉ fp := fun z => by have := List.count_pos_iff.mpr z; omega
    have n2 : a ∉ ft := fun z => by have := List.count_pos_iff.mpr z; omega
    have mA : M a = none := nm a (by simp)
    have sm : ∀ ys, Same M (upd H a (.lst ys)) := fun ys b u q => by
      rw [upd_ne (fun z => by subst z; rw [mA] at q; cases q)]; exact R.same b u q
    refine ⟨a, xs, fp, ft, rfl, hA, ws, h2, n1, n2, mA, fun ys os' f' w' hc => up M _ _ (a :: f') (Same.refl _) (sm ys) (fun b hb _ => upd_ne fun z => hb (by simp [z])) (.lst upd_same w') (fun b => ?_) fun b hb _ => hb⟩
    have := hc b
    simp only [List.count_cons]; omega
def appP (i : Nat) (pf : Ev → Option (List Nat)) (f : Ev → Option O) (ρ : Ev) : Option Fl := (pf ρ).bind fun p => match onSub i p ρ with
  | some (.lst os) => (vwO f ρ).bind fun y => if os.length < sizeLine then some (.nx (ρ.set i ((ρ.getD i .unk).put p (.lst (os ++ [y]))))) else none
  | _ => none
theorem vwO_some {f : Ev → Option O} {ρ : Ev} {y : O} (h : vwO f ρ = some y) : f (ρ.map O.vw) = some y ∧ immO y = true := by
  unfold vwO at h
  cases q : f (ρ.map O.vw) with
  | none => rw [q] at h; cases h
  | some d =>
    rw [q, Option.bind_some] at h
    split at h
    · cases h; exact ⟨rfl, by assumption⟩
    · cases h
theorem getD_of {ρ : Ev} {o : O} (h : ρ[i]? = some o) : ρ.getD i .unk = o := by rw [List.getD_eq_getElem?_getD, h]; rfl
theorem sAppP (hp : PE X b (tPl X.K i pf)) (he : PE X e (tO X.K f)) (hbase : attributeBase b "append" X.env (eval b X.env) = eval b X.env := by rfl)
    (hfew : ((backTo cpos (starEach [e] X.env)).all (fun x => !x.1) && (backToKw cpos (keywordEach [] X.env)).all (fun x => x.1.isSome)
      && decide ([e].length + ([] : List Keyword).length + (if ([] : List Keyword).isEmpty then 0 else 1) < 30)) = true := by rfl)
    (hline : (apos.endLine == cpos.line) = true := by rfl) (hs : starEach [e] X.env = (false, eval e X.env) :: starEach [] X.env := by rfl) (hplain : (backTo cpos (starEach [] X.env)).any (·.1) = false := by rfl)
    (hsw : swapsWith (.Call (.Attribute b "append" apos) [e] [] cpos) none pos.line X.env = pure false := by rfl) :
    PS X (.Expr (.Call (.Attribute b "append" apos) [e] [] cpos) pos) (tS X.K W J (appP i pf f)) :=
  PS.imp (ps_expr (pe_bm PySem.F.plainAttrs_list PySem.F.slot_list_append PySem.F.type_list_append mt_append hp (pa_cons he pa_nil hs) hbase hfew hline hs hplain) hsw) fun E σ H ⟨M, ρ, fo, fv, r, σ0, R, l, e, k⟩ => by
    unfold appP at e
    cases q : pf ρ with
    | none => rw [q] at e; cases e
    | some p0 =>
      rw [q, Option.bind_some] at e
      split at e
      · rename_i os eo
        cases q2 : vwO f ρ with
        | none => rw [q2] at e; cases e
        | some y =>
          rw [q2, Option.bind_some] at e
          split at e
          · rename_i hlen
            cases e
            obtain ⟨q3, im⟩ := vwO_some q2
            refine ⟨M, ρ, fo, fv, p0, R, l.1, q, ⟨_, eo, rfl⟩, fun M1 H1 v0 v s1 R1 e0 ev => ?_⟩
            obtain ⟨o, e1, e2⟩ := onSub_some eo
            have R1' : Rep X.K M1 H1 (ρ ++ ([] ++ fo)) (σ ++ ([] ++ fv)) := R1
            obtain ⟨a1, xs1, _, _, rfl, hA1, _⟩ := R1'.putL l.1 rfl e1 e2 e0 ev
            obtain ⟨Ma, t1, Ra, _, back⟩ := R1.look2 l.1 e1 e2 rfl e0 ev
            refine ⟨.inl ⟨rfl, _, .inl (.inl hA1)⟩, Ma, ρ.map O.vw, [], [], y, Ra, by simpa using l.1, q3, fun M2 H2 u s2 R2 => ?_⟩
            obtain ⟨M3, s3, R3, ev3⟩ := back M2 H2 _ _ s2 R2 im
            have R3' : Rep X.K M3 H2 (ρ ++ ([y] ++ fo)) (σ ++ ([some u] ++ fv)) := R3
            obtain ⟨a2, xs, f1, ft, ea, hA, ws, wt, n1, n2, mA, up⟩ := R3'.putL l.1 rfl e1 e2 e0 ev3
            cases ea
            have hl : xs.length = os.length := by simpa using ws.length
            refine ⟨a1, xs, u, rfl, rfl, hA, by omega, ?_⟩
            rw [getD_of e1] at k
            refine k M3 _ σ (s1.trans s3) (up (xs ++ [u]) (os ++ [y]) (f1 ++ ft) ?_ fun b => by rw [List.count_append]; exact Nat.le_refl _) (l.setR _)
            have w1 := ws.frame (H' := upd H2 a1 (.lst (xs ++ [u]))) (Same.refl _) fun c hc => upd_ne fun z => n1 (z ▸ hc)
            have w2 := wt.frame (H' := upd H2 a1 (.lst (xs ++ [u]))) (Same.refl _) fun c hc => upd_ne fun z => n2 (z ▸ hc)
            simpa using w1.append w2
          · cases e
      · cases e
def setP (i : Nat) (pf : Ev → Option (List Nat)) (fb : Ev → Option D) (f : Ev → Option O) (ρ : Ev) : Option Fl := (f ρ).bind fun y => (pf ρ).bind fun p => match onSub i p ρ, fb (ρ.map O.vw) with
  | some (.lst os), some (.int n) => (ixN os.length n).map fun k => .nx (ρ.set i ((ρ.getD i .unk).put p (.lst (os.set k y))))
  | _, _ => none
theorem Ows.set_ {K : PySem.W.Frag} {M H : Hp} {os : List O} {vs : List (Option V)} {fp fy : List Addr} {k : Nat} {y : O} {v : Option V} (w : Ows K M H os vs fp) (hk : k < os.length) (h : Ow K M H y v fy) : ∃ f', Ows K M H (os.set k y) (vs.set k v) f' ∧ ∀ b, f'.count b ≤ fp.count b + fy.count b := by
  induction os generalizing k vs fp with
  | nil => simp at hk
  | cons o1 os ih =>
    cases w with
    | cons h1 hs =>
      rename_i v1 f1 vs f2
      cases k with
      | zero => exact ⟨fy ++ f2, .cons h hs, fun b => by simp only [List.count_append]; omega⟩
      | succ k =>
        obtain ⟨f', w', c'⟩ := ih hs (by simpa using hk)
        exact ⟨f1 ++ f', .cons h1 w', fun b => by have := c' b; simp only [List.count_append]; omega⟩
theorem sSetP (he : PE X e (tO X.K f)) (hp : PE X a (tPl X.K i pf)) (hb : PE X b (tP X.K fb)) (hs : swapsWithSole [.Subscript a b p] e pos.line X.env = pure false := by rfl) (hw : swappedStores [.Subscript a b p] e X.env = pure none := by rfl)
    (h1 : (assignEach [.Subscript a b p] X.env).map (·.2) = [assign (.Subscript a b p) X.env] := by rfl)
    (ha : ∀ v, assign (.Subscript a b p) X.env v = (do
      let ov ← holding [v] (eval a X.env)
      let iv ← holding [v, ov] (eval b X.env)
      standAt p
      holding [v, ov, iv] (setItem ov iv v); release [v, ov, iv] []) := by intro _; rfl) : PS X (.Assign [.Subscript a b p] e pos) (tS X.K W J (setP i pf fb f)) :=
  PS.imp (ps_asg he (pg_sub hp hb set_list ha) hs hw h1) fun E σ H ⟨M, ρ, fo, fv, r, σ0, R, l, e, k⟩ => by
    unfold setP at e
    cases q0 : f ρ with
    | none => rw [q0] at e; cases e
    | some y =>
      rw [q0, Option.bind_some] at e
      cases q : pf ρ with
      | none => rw [q] at e; cases e
      | some p0 =>
        rw [q, Option.bind_some] at e
        split at e
        · rename_i os n eo en
          cases q2 : ixN os.length n with
          | none => rw [q2] at e; cases e
          | some j =>
            rw [q2] at e
            cases e
            refine ⟨M, ρ, fo, fv, y, R, l.1, q0, fun M0 H0 u s0 R0 => ?_⟩
            refine ⟨M0, ρ, y :: fo, some u :: fv, p0, R0, l.1, q, ⟨_, eo, rfl⟩, fun M1 H1 v0 v s1 R1 e0 ev => ?_⟩
            obtain ⟨o, e1, e2⟩ := onSub_some eo
            obtain ⟨Ma, t1, Ra, back, _⟩ := R1.look2 l.1 e1 e2 rfl e0 ev
            refine ⟨Ma, ρ.map O.vw, [], [], _, Ra, by simpa using l.1, en, fun M2 H2 z s2 R2 d2 => ?_⟩
            cases d2
            obtain ⟨M3, s3, R3, ev3, _⟩ := back M2 H2 s2 R2.same
            have R3' : Rep X.K M3 H2 (ρ ++ ([y] ++ fo)) (σ ++ ([some u] ++ fv)) := R3
            obtain ⟨a2, xs, f1, ft, ea, hA, ws, wt, n1, n2, mA, up⟩ := R3'.putL l.1 rfl e1 e2 e0 ev3
            have hl : xs.length = os.length := by simpa using ws.length
            refine ⟨a2, xs, n, j, ea, rfl, hA, by rw [hl]; exact q2, ?_⟩
            have w1 := ws.frame (H' := upd H2 a2 (.lst (xs.set j u))) (Same.refl _) fun c hc => upd_ne fun z => n1 (z ▸ hc)
            have w2 := wt.frame (H' := upd H2 a2 (.lst (xs.set j u))) (Same.refl _) fun c hc => upd_ne fun z => n2 (z ▸ hc)
            cases w2 with
            | cons wy wn =>
              cases wn
              rename_i fy
              obtain ⟨f', w', c'⟩ := w1.set_ (ixN_seq q2).2.1 wy
              rw [getD_of e1] at k
              refine k M3 _ σ (s0.trans (s1.trans s3)) (up (xs.set j u) (os.set j y) f' ?_ fun b => by have := c' b; simpa using this) (l.setR _)
              rw [List.map_set]; exact w'
        · cases e
end
end PD

namespace PD
open PySem PySem.Spec L2

/-! ### numbers -/
section
variable {X : Cx} {W : WX} {J : List Nat} {pos p : Pos} {a b e : Expr}
def mulW : D → D → Option D := i2 (fun i j => decide (i.natAbs.log2 + j.natAbs.log2 < 1000000)) fun i j => .int (i * j)
def divW : D → D → Option D := i2 (fun _ j => decide (0 < j ∧ j.natAbs.log2 < 9000)) fun i j => .int (i / j)
def mulA : D → D → Option D := orD mulI mulW
def divA : D → D → Option D := orD divI divW
theorem oMulW : OpR X (binaryOp .Mult) (rD X.K mulW) := op_i2 op_mulW (fun i j h => by simpa [CMulW] using h) fun _ _ _ => .int _
theorem oMulA : OpR X (binaryOp .Mult) (rD X.K mulA) := op_orD oMul oMulW
/-! x op= e -/
/-! sums, least and greatest of a list of ints -/
def intsD : List D → Option (List Int)
  | [] => some []
  | .int i :: ds => (intsD ds).map (i :: ·)
  | _ => none
theorem intsD_vs {K : PySem.W.Frag} {M : Hp} : ∀ {ds : List D} {ns : List Int} {vs : List V}, intsD ds = some ns → Dvs K M vs ds → vs = ns.map V.int
  | [], ns, _, e, .nil => by cases e; rfl
  | d :: ds, ns, _, e, .cons h hs => by
    cases d with
    | int i =>
      unfold intsD at e
      cases q : intsD ds with
      | none => rw [q] at e; cases e
      | some ms =>
        rw [q] at e; cases e
        cases h
        rw [intsD_vs q hs]; rfl
    | _ => cases e
theorem intsD_map : ∀ ns : List Int, intsD (ns.map .int) = some ns
  | [] => rfl
  | n :: ns => by unfold intsD; simp only [List.map_cons, intsD_map ns]; rfl
def sumD : List D → Option D
  | [.lst ds] => (intsD ds).map fun ns => .int ns.sum
  | _ => none
def minLD : List D → Option D
  | [.lst ds] => (intsD ds).bind fun ns => ns.min?.map .int
  | _ => none
def maxLD : List D → Option D
  | [.lst ds] => (intsD ds).bind fun ns => ns.max?.map .int
  | _ => none
theorem cSum (hc : X.calm = true) : CallR X (.builtin "sum") (rDs X.K sumD) := CallR.imp (cr_sum hc) fun xs H Q ⟨M, fo, fv, ds, d, R, dv, e, k⟩ => by
  unfold sumD at e
  split at e
  · rename_i es
    cases q : intsD es with
    | none => rw [q] at e; cases e
    | some ns =>
      rw [q] at e; cases e
      cases dv with
      | cons d1 dn =>
        cases dn
        cases d1 with
        | lst hs hd =>
          have := intsD_vs q hd
          subst this
          exact ⟨_, ns, rfl, seqX R.same hs, k M H _ (Same.refl _) R (.int _)⟩
  · cases e
theorem cMinL (hc : X.calm = true) : CallR X (.builtin "min") (rDs X.K minLD) := CallR.imp (cr_min hc) fun xs H Q ⟨M, fo, fv, ds, d, R, dv, e, k⟩ => by
  unfold minLD at e
  split at e
  · rename_i es
    cases q : intsD es with
    | none => rw [q] at e; cases e
    | some ns =>
      rw [q, Option.bind_some] at e
      cases q2 : ns.min? with
      | none => rw [q2] at e; cases e
      | some m =>
        rw [q2] at e; cases e
        cases dv with
        | cons d1 dn =>
          cases dn
          cases d1 with
          | lst hs hd =>
            have := intsD_vs q hd
            subst this
            obtain ⟨h1, h2⟩ := List.min?_eq_some_iff.mp q2
            refine ⟨_, ns, rfl, seqX R.same hs, List.length_pos_of_mem h1, fun m' a1 a2 => ?_⟩
            have : m' = m := Int.le_antisymm (a2 m h1) (h2 m' a1)
            subst this
            exact k M H _ (Same.refl _) R (.int _)
  · cases e
theorem cMaxL (hc : X.calm = true) : CallR X (.builtin "max") (rDs X.K maxLD) := CallR.imp (cr_max hc) fun xs H Q ⟨M, fo, fv, ds, d, R, dv, e, k⟩ => by
  unfold maxLD at e
  split at e
  · rename_i es
    cases q : intsD es with
    | none => rw [q] at e; cases e
    | some ns =>
      rw [q, Option.bind_some] at e
      cases q2 : ns.max? with
      | none => rw [q2] at e; cases e
      | some m =>
        rw [q2] at e; cases e
        cases dv with
        | cons d1 dn =>
          cases dn
          cases d1 with
          | lst hs hd =>
            have := intsD_vs q hd
            subst this
            obtain ⟨h1, h2⟩ := List.max?_eq_some_iff.mp q2
            refine ⟨_, ns, rfl, seqX R.same hs, List.length_pos_of_mem h1, fun m' a1 a2 => ?_⟩
            have : m' = m := Int.le_antisymm (h2 m' a1) (a2 m h1)
            subst this
            exact k M H _ (Same.refl _) R (.int _)
  · cases e
/-- a, b = [x, y] -/
def gL (n : Nat) (h : List D → Ev → Option Ev) (d : D) (ρ : Ev) : Option Ev := match d with
  | .lst ds => if ds.length = n then h ds ρ else none
  | _ => none
theorem gLst' {es : List Expr} {k n : Nat} {is : List Nat} {h : List D → Ev → Option Ev} (hc : X.calm = true) (h1 : PGs X es (tGs X.K is h)) (hn : (assignEach es X.env).length = n := by rfl) (hst : (assignEach es X.env).findIdx? (·.1) = none := by rfl) : PG X (.Tuple es k pos) (tG X.K is (gL n h)) :=
  PG.imp (pg_lst hc h1 hn hst) fun v σ H Q ⟨M, ρ, fo, fv, d, ρ', R, l, dv, e, k⟩ => by
    unfold gL at e
    split at e
    · rename_i ds
      split at e
      · rename_i hl
        cases dv with
        | lst hs hd => exact ⟨_, _, rfl, seqX R.same hs, by rw [hd.length]; exact hl, M, ρ, fo, fv, ds, ρ', R, l, hd, e, k⟩
      · cases e
    · cases e
end
end PD

namespace PD
open PySem PySem.Spec L2

/-! ### comprehensions whose items are things of their own -/
section
variable {K : PySem.W.Frag} {M H : Hp}
end
section
variable {X : Cx} {W : WX} {J : List Nat} {pos : Pos} {tg iter elt : Expr} {ifs : List Expr} {scope : Scope} {fi : Ev → Option (List D)} {is kn : List Nat} {g : D → Ev → Option Ev} {t : Ev → Option Bool} {f : Ev → Option O}
variable {own : List (Str × Nat)}
end
end PD

namespace PD
open PySem PySem.Spec L2 PyProof.Rows

/-! ### enumerate(tuple) -/
section
variable {prog : Program} {w : World} {A : Around} {E : Value → Shared → Prop} {s : Shared}
end
section
variable {X : Cx} {pos p tpos : Pos} {e : Expr} {f : Ev → Option D} {elts : List Expr} {kk : Nat}
end
end PD

namespace PD
open PySem PySem.Spec L2
section
variable {X : Cx} {W : WX} {J : List Nat} {pos : Pos} {a b e : Expr} {fa fb : Ev → Option D}
/-! ### k not in d -/
/-! ### {k: v} -/
end
section
variable {X : Cx} {k n : Nat} {f : Addr} {fd : FuncData} {ps : List Str} {x : Str} {p pos : Pos} {ga : Ev → Option (List D)}
end
end PD

namespace PD
open PySem PySem.Spec L2

/-! ### raise C(..) -/
def raiS (C : Addr) (fs : List Str) (ga : Ev → Option (List D)) (ρ : Ev) : Option Fl := (ga ρ).bind fun ds => if ds.length = fs.length then some (.ex ⟨.ref C, some (fs, ds)⟩ ρ) else none
theorem zip_snd' {α β : Type} : ∀ {ks : List α} {vs : List β}, vs.length = ks.length → (ks.zip vs).map (·.2) = vs
  | [], [], _ => rfl
  | k :: ks, v :: vs, h => by
    simp only [List.zip_cons_cons, List.map_cons]
    rw [zip_snd' (by simpa using h)]
  | [], _ :: _, h => by simp at h
  | _ :: _, [], h => by simp at h
theorem zip_fst' {α β : Type} : ∀ {ks : List α} {vs : List β}, vs.length = ks.length → (ks.zip vs).map (·.1) = ks
  | [], [], _ => rfl
  | k :: ks, v :: vs, h => by
    simp only [List.zip_cons_cons, List.map_cons]
    rw [zip_fst' (by simpa using h)]
  | [], _ :: _, h => by simp at h
  | _ :: _, [], h => by simp at h
section
variable {X : Cx} {W : WX} {J : List Nat} {pos p q : Pos} {e : Expr} {es : List Expr} {ga : Ev → Option (List D)}
theorem sRaise {x : Str} {C : Addr} {fs : List Str} (hc : X.calm = true) (tk : L2N.Takes X W) (T : XCls X.prog X.K X.mg C fs) (hne : fs ≠ []) (hr : Room 1 X.A) (hm : X.mg x = some (.ref C)) (ha : PA X (e :: es) (tAr X.K ga)) (hg : Gl X x := by rfl)
    (hdb : (x == ("__debug__" : Str)) = false := by decide) (he : starEach (e :: es) X.env = (false, eval e X.env) :: starEach es X.env := by rfl) (hpl : (backTo q (starEach es X.env)).any (·.1) = false := by rfl) :
    PS X (.Raise (some (.Call (.Name x p) (e :: es) [] q)) none pos) (tS X.K W J (raiS C fs ga)) :=
  PS.imp (L2N.ps_raise hc tk (pmk_x T hne hr hm ha hg hdb he hpl)) fun E σ H ⟨M, ρ, fo, fv, r, σ0, R, l, e, k⟩ => by
    unfold raiS at e
    cases q : ga ρ with
    | none => rw [q] at e; cases e
    | some ds =>
      rw [q, Option.bind_some] at e
      split at e
      · rename_i hl
        cases e
        refine ⟨M, ρ, fo, fv, ds, R, l.1, q, fun M1 H1 vs s1 R1 d1 => ?_⟩
        have hv : vs.length = fs.length := by rw [d1.length]; exact hl
        refine ⟨hv, fun dx hdx => ?_⟩
        have s2 := same_updM (u := .xd (fs.zip vs)) (R1.same.free hdx)
        refine k _ _ σ _ _ (s1.trans s2) (R1.growM hdx) l ⟨rfl, .inr ⟨fs, ds, dx, fs.zip vs, rfl, rfl, upd_same, zip_fst' hv, ?_⟩⟩
        rw [zip_snd' hv]
        exact d1.mono s2
      · cases e
end

/-! ### defs that may raise -/
section
variable {P : Program} {w : World} {K : PySem.W.Frag} {mg : Str → Option Value} {base : Heap}
theorem fnX {x qual : Str} {st : Stmt} {f : Addr} {fd : FuncData} {N ps : List Str} {k : Nat} {b : Ev → Option Fl} (F : Fun K x qual st f fd) (S : FnScope N ps (defScope st))
    (hb : ∀ (cdv : Value) (A : Around) (outer : List Env) (s : Shared) (H : Hp) (E : XK), Room k (A.deeper (PyProof.Rows.envOfC qual (defScope st) s.heap.objs.size f cdv)) →
      PSs (cxOf (L2N.CX P w) P w K mg base N qual (defScope st) f cdv A outer s H E) (defBody st) (tS K (fun cls d _ H => E cls d H) [] b)) : FnOk P w K mg base (L2N.CX P w) (k + 1) f fd ps (spX K ps.length (runX N.length b)) := by
  obtain ⟨oc, od, kV, doc, pm, an, cdv, ct, osl, rfl, lk, hcd⟩ := F.ex
  refine fn_of lk hcd S (fun vs H Q E h => ?_) fun A outer s H vs Q E hr h => ⟨_, hb cdv A outer s H E hr, ?_⟩
  · obtain ⟨_, _, _, _, _, hl, _⟩ := h
    exact hl
  obtain ⟨M, fo, fv, ds, r, hl, R, dv, e, k⟩ := h
  obtain ⟨R1, l1⟩ := R.enter (N := N) dv
  unfold runX at e
  cases q : b (env0 N.length ds) with
  | none => rw [q] at e; cases e
  | some z =>
    rw [q, Option.bind_some] at e
    refine ⟨M, _, fo, fv, z, L2.start N vs, R1, ⟨l1, fun _ z => nomatch z⟩, q, ?_⟩
    cases z with
    | nx ρ =>
      cases e
      exact fun M1 H1 σ1 s1 R1 l1 => k M1 H1 _ s1 ((R1.push l1.1 .non).dropL l1.1)
    | rt o' ρ =>
      cases e
      exact fun M1 H1 σ1 v s1 R1 l1 => k M1 H1 v s1 (R1.dropL l1.1)
    | bk ρ => cases e
    | ct ρ => cases e
    | ex y ρ =>
      cases e
      exact fun M1 H1 σ1 cls d s1 R1 l1 ex => k M1 H1 cls d s1 (R1.dropL l1.1) ex
end

/-! ### such defs, called -/
def okO : Rz → Option O
  | .ok o => some o
  | .ex _ => none
/-- where nothing is raised -/
def cX (ga : Ev → Option (List D)) (n : Nat) (m : List D → Option Rz) (ρ : Ev) : Option O := (ga ρ).bind fun ds => if ds.length = n then (m ds).bind okO else none
/-- a reading that may raise -/
def tXc (K : PySem.W.Frag) (W : WX) (f : Ev → Option Rz) : TE := fun σ H Q => ∃ M ρ fo fv r, Rep K M H (ρ ++ fo) (σ ++ fv) ∧ σ.length = ρ.length ∧ f ρ = some r ∧ match r with
  | .ok o => ∀ M' H' v, Same M M' → Rep K M' H' (ρ ++ o :: fo) (σ ++ some v :: fv) → Q v H'
  | .ex x => ∀ M' H' cls d, Same M M' → Rep K M' H' (ρ ++ fo) (σ ++ fv) → ExR K M' x cls d → W cls d σ H'
def xC (ga : Ev → Option (List D)) (n : Nat) (m : List D → Option Rz) (ρ : Ev) : Option Rz := (ga ρ).bind fun ds => if ds.length = n then m ds else none
section
variable {X : Cx} {W : WX} {J : List Nat} {k n : Nat} {f : Addr} {fd : FuncData} {ps : List Str} {x : Str} {p pos : Pos} {e : Expr} {es : List Expr} {ga : Ev → Option (List D)} {m : List D → Option Rz} {g : Ev → Option Rz}
theorem passX : Passes (L2N.CX X.prog X.w) X E0 := fun _ _ _ _ _ _ _ h => by
  obtain ⟨_, _, _, _, _, _, _, _, _, _, _, _, z⟩ := h
  exact z.elim
theorem oCallX (F : FnOk X.prog X.w X.K X.mg X.base (L2N.CX X.prog X.w) k f fd ps (spX X.K n m)) (hr : Room k X.A) (hm : X.mg x = some (.ref f)) (hk : PySem.W.keepIn X.K (.ref f) = true) (hb : Binds X.K fd ps []) (ha : PA X (e :: es) (tAr X.K ga)) (hg : Gl X x := by rfl)
    (hdb : (x == ("__debug__" : Str)) = false := by decide) (he : starEach (e :: es) X.env = (false, eval e X.env) :: starEach es X.env := by rfl) (hpl : (backTo pos (starEach es X.env)).any (·.1) = false := by rfl) : PE X (.Call (.Name x p) (e :: es) [] pos) (tO X.K (cX ga n m)) :=
  PE.imp (pe_call (E := E0) F hr hg hm hk hb .nil passX ha hdb he hpl) fun σ H Q ⟨M, ρ, fo, fv, o, R, l, e, kk⟩ => by
    unfold cX at e
    cases q : ga ρ with
    | none => rw [q] at e; cases e
    | some ds =>
      rw [q, Option.bind_some] at e
      split at e
      · rename_i hl
        cases q2 : m ds with
        | none => rw [q2] at e; cases e
        | some r =>
          rw [q2, Option.bind_some] at e
          cases r with
          | ex _ => cases e
          | ok o' =>
            cases e
            refine ⟨M, ρ, fo, fv, ds, R, l, q, fun M1 H1 vs s1 R1 d1 => ?_⟩
            exact ⟨M1, ρ ++ fo, σ ++ fv, ds, .ok o, by simp [d1.length, hl], R1, by simpa using d1, q2, fun M2 H2 v s2 R2 => kk M2 H2 v (s1.trans s2) (R2.swap l)⟩
      · cases e
theorem xCall (tk : L2N.Takes X W) (F : FnOk X.prog X.w X.K X.mg X.base (L2N.CX X.prog X.w) k f fd ps (spX X.K n m)) (hr : Room k X.A) (hm : X.mg x = some (.ref f)) (hk : PySem.W.keepIn X.K (.ref f) = true) (hb : Binds X.K fd ps []) (ha : PA X (e :: es) (tAr X.K ga)) (hg : Gl X x := by rfl)
    (hdb : (x == ("__debug__" : Str)) = false := by decide) (he : starEach (e :: es) X.env = (false, eval e X.env) :: starEach es X.env := by rfl) (hpl : (backTo pos (starEach es X.env)).any (·.1) = false := by rfl) : PE X (.Call (.Name x p) (e :: es) [] pos) (tXc X.K W (xC ga n m)) :=
  PE.imp (pe_callS (E := WE W) F hr hg hm hk hb (fun σ => L2N.passAt tk σ) ha hdb he hpl) fun σ H Q ⟨M, ρ, fo, fv, r, R, l, e, kk⟩ => by
    unfold xC at e
    cases q : ga ρ with
    | none => rw [q] at e; cases e
    | some ds =>
      rw [q, Option.bind_some] at e
      split at e
      · rename_i hl
        refine ⟨M, ρ, fo, fv, ds, R, l, q, fun M1 H1 vs s1 R1 d1 => ?_⟩
        refine ⟨M1, ρ ++ fo, σ ++ fv, ds, r, by simp [d1.length, hl], R1, by simpa using d1, e, ?_⟩
        cases r with
        | ok o => exact fun M2 H2 v s2 R2 => kk M2 H2 v (s1.trans s2) (R2.swap l)
        | ex y => exact fun M2 H2 cls d s2 R2 ex => kk M2 H2 cls d (s1.trans s2) R2 ex
      · cases e
def stXD (i : Nat) (f : Ev → Option Rz) (ρ : Ev) : Option Fl := (f ρ).bind fun r => match r with
  | .ok o => o.toD.map fun d => .nx (ρ.set i (.dat d))
  | .ex x => some (.ex x ρ)
def rtX (f : Ev → Option Rz) (ρ : Ev) : Option Fl := (f ρ).map fun r => match r with
  | .ok o => .rt o ρ
  | .ex x => .ex x ρ
def drpX (f : Ev → Option Rz) (ρ : Ev) : Option Fl := (f ρ).map fun r => match r with
  | .ok _ => .nx ρ
  | .ex x => .ex x ρ
theorem sSetXD {i : Nat} {y : Str} {pos' : Pos} (hN : X.N.Nodup) (he : PE X e (tXc X.K W g)) (hJ : i ∉ J := by decide) (hi : X.N[i]? = some y := by rfl) (hx : Loc X.env.scope y := by first | exact Or.inl rfl | exact Or.inr rfl) (hs : swapsWith e (some (.Name y pos')) pos.line X.env = pure false := by rfl)
    (hf : X.fn y = true ∨ X.env.scope.names.lookup y = some .local := by first | exact .inl rfl | exact .inr rfl) : PS X (.Assign [.Name y pos'] e pos) (tS X.K W J (stXD i g)) := PS.imp (ps_set (i := i) hN hi hx he hs hf) fun E σ H ⟨M, ρ, fo, fv, r, σ0, R, l, e, k⟩ => by
  unfold stXD at e
  cases q : g ρ with
  | none => rw [q] at e; cases e
  | some z =>
    rw [q, Option.bind_some] at e
    refine ⟨M, ρ, fo, fv, z, R, l.1, q, ?_⟩
    cases z with
    | ok o =>
      cases q2 : o.toD with
      | none => simp only [q2] at e; cases e
      | some d =>
        simp only [q2] at e
        cases e
        intro M1 H1 v s1 R1
        obtain ⟨M2, s2, R2, d2⟩ := R1.frz l.1 rfl q2
        exact k M2 H1 _ (s1.trans s2) (R2.into l.1) (l.set hJ _ _)
    | ex y => cases e; exact fun M1 H1 cls d s1 R1 ex => k M1 H1 σ cls d s1 R1 l ex
theorem sRetX (he : PE X e (tXc X.K W g)) : PS X (.Return (some e) pos) (tS X.K W J (rtX g)) := PS.imp (ps_ret he) fun E σ H ⟨M, ρ, fo, fv, r, σ0, R, l, e, k⟩ => by
  unfold rtX at e
  cases q : g ρ with
  | none => rw [q] at e; cases e
  | some z =>
    rw [q] at e
    refine ⟨M, ρ, fo, fv, z, R, l.1, q, ?_⟩
    cases z with
    | ok o => cases e; exact fun M1 H1 v s1 R1 => k M1 H1 σ v s1 R1 l
    | ex y => cases e; exact fun M1 H1 cls d s1 R1 ex => k M1 H1 σ cls d s1 R1 l ex
theorem sExprX (he : PE X e (tXc X.K W g)) (hs : swapsWith e none pos.line X.env = pure false := by rfl) : PS X (.Expr e pos) (tS X.K W J (drpX g)) := PS.imp (ps_expr he hs) fun E σ H ⟨M, ρ, fo, fv, r, σ0, R, l, e, k⟩ => by
  unfold drpX at e
  cases q : g ρ with
  | none => rw [q] at e; cases e
  | some z =>
    rw [q] at e
    refine ⟨M, ρ, fo, fv, z, R, l.1, q, ?_⟩
    cases z with
    | ok o => cases e; exact fun M1 H1 v s1 R1 => k M1 H1 σ s1 (R1.drop l.1) l
    | ex y => cases e; exact fun M1 H1 cls d s1 R1 ex => k M1 H1 σ cls d s1 R1 l ex
end

/-! ### try: .. except C as n: .. -/
def exnD (a : Addr) (da : Addr) (x : Exn) : D := match x.fs with
  | none => .exn a none x.cls [] []
  | some (ks, ds) => .exn a (some da) x.cls ks ds
def exnA (da : Addr) (x : Exn) : Option Addr := x.fs.map fun _ => da
def unX (i : Nat) : Fl → Option Fl
  | .nx ρ => some (.nx (ρ.set i .unk))
  | .bk ρ => some (.bk (ρ.set i .unk))
  | .ct ρ => some (.ct (ρ.set i .unk))
  | .rt o ρ => some (.rt o (ρ.set i .unk))
  | .ex _ _ => none
open Classical in
/-- the suite, whatever object the exception is -/
noncomputable def suiteS (i : Nat) (sm : Addr → Option Addr → Value → Ev → Option Fl) (x : Exn) (ρ : Ev) : Option Fl :=
  if h : ∃ r, ∀ a da, (sm a (exnA da x) x.cls (ρ.set i (.dat (exnD a da x)))).bind (unX i) = some r then some h.choose else none
theorem suiteS_of {i : Nat} {sm : Addr → Option Addr → Value → Ev → Option Fl} {x : Exn} {ρ : Ev} {r : Fl} (h : ∀ a da, (sm a (exnA da x) x.cls (ρ.set i (.dat (exnD a da x)))).bind (unX i) = some r) : suiteS i sm x ρ = some r := by
  have hx : ∃ r, ∀ a da, (sm a (exnA da x) x.cls (ρ.set i (.dat (exnD a da x)))).bind (unX i) = some r := ⟨r, h⟩
  unfold suiteS
  rw [dif_pos hx]
  have := hx.choose_spec (0 : Nat) (0 : Nat)
  rw [h] at this
  rw [← Option.some.inj this]
theorem suiteS_some {i : Nat} {sm : Addr → Option Addr → Value → Ev → Option Fl} {x : Exn} {ρ : Ev} {r : Fl} (h : suiteS i sm x ρ = some r) (a da : Addr) : ∃ r1, sm a (exnA da x) x.cls (ρ.set i (.dat (exnD a da x))) = some r1 ∧ unX i r1 = some r := by
  unfold suiteS at h
  split at h
  · rename_i hx
    have := hx.choose_spec a da
    rw [h] at this
    cases q : sm a (exnA da x) x.cls (ρ.set i (.dat (exnD a da x))) with
    | none => rw [q] at this; cases this
    | some r1 => rw [q] at this; exact ⟨r1, rfl, this⟩
  · cases h
/-- which classes a clause takes -/
def mtc (tb : List (Addr × Bool)) : Value → Option Bool
  | .ref C => tb.lookup C
  | _ => none
noncomputable def tryS (tb : List (Addr × Bool)) (i : Nat) (b : Ev → Option Fl) (sm : Addr → Option Addr → Value → Ev → Option Fl) (ρ : Ev) : Option Fl := (b ρ).bind fun r => match r with
  | .ex x ρ1 => (mtc tb x.cls).bind fun t => if t = true then suiteS i sm x ρ1 else some (.ex x ρ1)
  | r => some r
section
variable {X : Cx} {W : WX} {J : List Nat} {x n : Str} {c : Value} {i : Nat} {body suite : List Stmt} {b₀ : Stmt} {np pos pos' : Pos} {b : Ev → Option Fl} {sm : Addr → Option Addr → Value → Ev → Option Fl} {tb : List (Addr × Bool)}
theorem exR_dv {K : PySem.W.Frag} {M : Hp} {y : Exn} {cls : Value} {d : Option Addr} (h : ExR K M y cls d) (a : Addr) : cls = y.cls ∧ ∃ da, d = exnA da y ∧ Dv K M (.ref a) (exnD a da y) := by
  obtain ⟨h1, h2⟩ := h
  refine ⟨h1, ?_⟩
  rcases h2 with ⟨e1, e2⟩ | ⟨ks, ds, da, fvs, e1, e2, hm, hk, hd⟩
  · exact ⟨(0 : Nat), by unfold exnA; rw [e1, e2]; rfl, by unfold exnD; rw [e1]; exact .exn0⟩
  · exact ⟨da, by unfold exnA; rw [e1, e2]; rfl, by unfold exnD; rw [e1]; exact .exn1 hm hk hd⟩
theorem sTryAs (hs : X.stack = X.env :: X.outer) (hf : X.env.frame = some X.env.locals) (hN : X.N.Nodup) (hc : Names X x c) (tk : L2N.Takes X W) (hm : ∀ C t, tb.lookup C = some t → PySem.W.exmOne X.K (.ref C) c = some t)
    (hb : ∀ (W : WX) (pn : List (Addr × Obj)) (xe : Value → Shared → Prop), L2N.Takes (X.tr pn xe) W → PassesOwn (model X.prog X.w) X.A X.env xe → PSs (X.tr pn xe) body (tS X.K W J b))
    (hsu : ∀ (a : Addr) (oe : Obj) (cls : Value) (d : Option Addr) (pn : List (Addr × Obj)), L2N.Zn cls d oe → (∃ vs, oe.data = .fields vs) → PSs (X.suite a ((a, oe) :: pn)) (b₀ :: suite) (tS X.K W0 J (sm a d cls)))
    (hJ : i ∉ J := by decide) (hi : X.N[i]? = some n := by rfl) (hln : X.env.kindOf n = some .local := by rfl) :
    PS X (.Try body [.ExceptHandler (some (.Name x np)) (some n) (b₀ :: suite) pos'] [] [] pos) (tS X.K W J (tryS tb i b sm)) :=
  PS.imp (L2N.ps_try_as (i := i) (tb := fun W => tS X.K W J b) (ts := fun a cls d => tS X.K W0 J (sm a d cls)) hs hf hN hi hln hc tk hb hsu) fun E σ H ⟨M, ρ, fo, fv, r, σ0, R, l, e, k⟩ => by
    unfold tryS at e
    cases q : b ρ with
    | none => rw [q] at e; cases e
    | some r1 =>
      rw [q, Option.bind_some] at e
      refine ⟨M, ρ, fo, fv, r1, σ0, R, l, q, ?_⟩
      cases r1 with
      | nx ρ1 => cases e; exact k
      | rt o ρ1 => cases e; exact k
      | bk ρ1 => cases e; exact k
      | ct ρ1 => cases e; exact k
      | ex y ρ1 =>
        intro M1 H1 σ1 cls d s1 R1 l1 ex
        have e : ((mtc tb y.cls).bind fun t => if t = true then suiteS i sm y ρ1 else some (.ex y ρ1)) = some r := e
        cases qm : mtc tb y.cls with
        | none => rw [qm] at e; cases e
        | some t =>
          rw [qm, Option.bind_some] at e
          have hcls := ex.1
          have ht : PySem.W.exmOne X.K cls c = some t := by
            rw [hcls]
            unfold mtc at qm
            split at qm
            · rename_i C hC
              rw [hC]; exact hm C t qm
            · cases qm
          refine ⟨t, ht, fun tt a ha => ?_, fun tf => ?_⟩
          · subst tt
            rw [if_pos rfl] at e
            obtain ⟨_, da, ed, dv⟩ := exR_dv ex a
            obtain ⟨r2, e4, e3⟩ := suiteS_some e a da
            rw [← ed, ← hcls] at e4
            refine ⟨M1, ρ1.set i (.dat (exnD a da y)), fo, fv, r2, σ0, R1.setD l1.1 dv, l1.set hJ _ _, e4, ?_⟩
            cases r2 with
            | nx ρ2 =>
              cases e3
              exact fun M2 H2 σ2 s2 R2 l2 => k M2 H2 _ (s1.trans s2) (R2.setU l2.1 none) (l2.set hJ _ _)
            | bk ρ2 =>
              cases e3
              exact fun M2 H2 σ2 s2 R2 l2 => k M2 H2 _ (s1.trans s2) (R2.setU l2.1 none) (l2.set hJ _ _)
            | ct ρ2 =>
              cases e3
              exact fun M2 H2 σ2 s2 R2 l2 => k M2 H2 _ (s1.trans s2) (R2.setU l2.1 none) (l2.set hJ _ _)
            | rt o ρ2 =>
              cases e3
              intro M2 H2 σ2 v s2 R2 l2
              have hσ : σ2.set i (σ2.getD i none) = σ2 := by
                by_cases hi : i < σ2.length
                · rw [List.getD_eq_getElem?_getD, List.getElem?_eq_getElem hi, Option.getD_some, List.set_getElem_self]
                · exact List.set_eq_of_length_le (by omega)
              have R3 := R2.setU l2.1 (i := i) (σ2.getD i none)
              have l3 := l2.set hJ (σ2.getD i none) .unk
              rw [hσ] at R3 l3
              exact k M2 H2 σ2 v (s1.trans s2) R3 l3
            | ex _ _ => cases e3
          · subst tf
            rw [if_neg Bool.false_ne_true] at e
            cases e
            exact k M1 H1 σ1 cls d s1 R1 l1 ex
end

/-! ### what a suite asks of the exception -/
def fldE (a : Addr) (d : Option Addr) (cls : Value) (cs : List Addr) (f : Str) (x : D) : Option D := match x, cls with
  | .exn a' d' _ ks vs, .ref C => if a' = a ∧ d' = d ∧ C ∈ cs then (ks.zip vs).lookup f else none
  | _, _ => none
def isiE (a : Addr) (cls : Value) (tb : List (Addr × Bool)) (x : D) : Option D := match x, cls with
  | .exn a' _ _ _ _, .ref C => if a' = a then (tb.lookup C).map .bl else none
  | _, _ => none
theorem look_dvs {K : PySem.W.Frag} {M : Hp} {f : Str} : ∀ {fs : List (Str × V)} {ds : List D} {d : D}, Dvs K M (fs.map (·.2)) ds → ((fs.map (·.1)).zip ds).lookup f = some d → ∃ v, fs.lookup f = some v ∧ Dv K M v d
  | [], [], _, .nil, e => by cases e
  | (k, v) :: fs, d0 :: ds, d, .cons h hs, e => by
    simp only [List.map_cons, List.zip_cons_cons, List.lookup_cons] at e ⊢
    cases q : f == k with
    | true =>
      simp only [q] at e ⊢
      cases e
      exact ⟨v, rfl, h⟩
    | false =>
      simp only [q] at e ⊢
      exact look_dvs hs e
section
variable {X : Cx} {a : Addr} {oe : Obj} {cls : Value} {d : Option Addr} {pn : List (Addr × Obj)} {pos p q : Pos} {e : Expr} {fa : Ev → Option D}
theorem pNever {K : PySem.W.Frag} {Y : Cx} {f : Ev → Option D} (h : ∀ ρ, f ρ = none) : PE Y e (tP K f) := ⟨fun p s σ H Q I ⟨M, ρ, fo, fv, d, R, l, e, k⟩ => by rw [h ρ] at e; cases e⟩
theorem pFldX {cs : List Addr} {f : Str} (hcs : ∀ C ∈ cs, XfC X.K C ∧ PySem.W.findIn X.K (.ref C) f = some none) (hz : Zc cls d oe) (hf : ∃ vs, oe.data = .fields vs) (he : PE (X.suite a ((a, oe) :: pn)) e (tP X.K fa)) (hb : attributeBase e f X.env (eval e X.env) = eval e X.env := by rfl) :
    PE (X.suite a ((a, oe) :: pn)) (.Attribute e f pos) (tP X.K (b1 fa (fldE a d cls cs f))) := by
  have hn : (∀ C ∈ cs, cls ≠ .ref C) → PE (X.suite a ((a, oe) :: pn)) (.Attribute e f pos) (tP X.K (b1 fa (fldE a d cls cs f))) := fun h => pNever fun ρ => by
    unfold b1
    cases fa ρ with
    | none => rfl
    | some z =>
      show fldE a d cls cs f z = none
      unfold fldE
      split
      · rename_i C
        rw [if_neg fun z => h C z.2.2 rfl]
      · rfl
  by_cases hC : ∃ C ∈ cs, cls = .ref C
  · obtain ⟨C, hm, hcl⟩ := hC
    obtain ⟨T, hno⟩ := hcs C hm
    refine PE.imp (pe_xf T hno hz hf he hb) fun σ H Q ⟨M, ρ, fo, fv, d0, R, l, e, k⟩ => ?_
    obtain ⟨y, ea, eg⟩ := b1_some e
    refine ⟨M, ρ, fo, fv, y, R, l, ea, fun M1 H1 v s1 R1 dv => ?_⟩
    unfold fldE at eg
    split at eg
    · split at eg
      · rename_i hc
        obtain ⟨rfl, rfl, _⟩ := hc
        cases dv with
        | exn0 => cases eg
        | exn1 hM hk hd =>
          subst hk
          obtain ⟨v1, e1, d1⟩ := look_dvs hd eg
          exact ⟨rfl, hcl, _, _, v1, rfl, R1.same _ _ hM, e1, k M1 H1 v1 s1 R1 d1⟩
      · cases eg
    · cases eg
  · exact hn fun C hm e => hC ⟨C, hm, e⟩
/-- isinstance(e, y) -/
def rIsX (K : PySem.W.Frag) (D a : Addr) (d : Option Addr) : List V → Hp → VK → Prop := fun xs H Q => ∃ (c : V) (cv : Value) (b : Bool), xs = [.ref a, c] ∧ (∀ u, RelV c u → u = cv) ∧ (∀ dd, d = some dd → ∃ fs, H dd = some (.xd fs)) ∧ PySem.W.kitOne K (.ref D) cv = some b ∧ Q (.bl b) H
theorem call_isEX {C0 : Addr} (C : ExcC X.K C0) (hz : Zc (.ref C0) d oe) (hf : ∃ vs, oe.data = .fields vs) : CallR (X.suite a ((a, oe) :: pn)) (.builtin "isinstance") (rIsX X.K C0 a d) := by
  intro pins s σ H xs us Q I r h
  obtain ⟨c, cv, b, rfl, hcv, hdd, e, q⟩ := h
  cases r with
  | cons rx rr => cases rr with
    | cons rt rr =>
      cases rr
      cases rx
      have ec := hcv _ rt
      subst ec
      obtain ⟨hget, _⟩ := I.pin (a, oe) (List.mem_append_left _ List.mem_cons_self)
      obtain ⟨vs, hv⟩ := hf
      obtain ⟨od, J⟩ : ∃ od, PySem.W.InstAt s.heap a oe C0 od := by
        cases hd : d with
        | none =>
          refine ⟨none, hget, hz.1, by unfold PySem.W.notCls; rw [hv] <;> rfl, ?_⟩
          rw [hz.2, hd]; trivial
        | some dd =>
          obtain ⟨fs, hfs⟩ := hdd dd hd
          have hx : ObjOk X.prog X.w H s.heap dd (.xd fs) := I.hok dd _ hfs
          obtain ⟨mA, hns, hr⟩ := hx
          obtain ⟨od, ho, hl⟩ := lookIn_ns hns
          refine ⟨some od, hget, hz.1, by unfold PySem.W.notCls; rw [hv] <;> rfl, ?_⟩
          rw [hz.2, hd]; exact ho
      have hcl : (PySem.W.clsIn X.K C0).isSome = true := by
        obtain ⟨cd, hc, _⟩ := PySem.W.any_some C.hd
        rw [hc]; rfl
      exact PySem.W.kia_one (PySem.W.kitx_exc hcl C.hg C.hk C.hs C.ha C.hn C.ht C.hm) I.kIn J e (fun z => nomatch z) fun tk => ⟨.bl b, H, I.kept (t' := tk) fun _ _ z => z, rfl, q⟩
theorem pIsXv {cs : List (Addr × Bool)} {y : Expr} {c : V} {cv : Value} (htb : ∀ C t, cs.lookup C = some t → ExcC X.K C ∧ PySem.W.kitOne X.K (.ref C) cv = some t) (hcv : ∀ u, RelV c u → u = cv) (hz : Zc cls d oe) (hf : ∃ vs, oe.data = .fields vs) (he : PE (X.suite a ((a, oe) :: pn)) e (tP X.K fa)) (hy : PE (X.suite a ((a, oe) :: pn)) y (tC c)) (hm : X.mg "isinstance" = none)
    (hg : Gl (X.suite a ((a, oe) :: pn)) "isinstance") (hs : starEach [e, y] X.env = (false, eval e X.env) :: starEach [y] X.env) (hs2 : starEach [y] X.env = (false, eval y X.env) :: starEach [] X.env) (hpl : (backTo pos (starEach [y] X.env)).any (·.1) = false) :
    PE (X.suite a ((a, oe) :: pn)) (.Call (.Name "isinstance" p) [e, y] [] pos) (tP X.K (b1 fa (fun x => match x with | .exn a' d' c' ks vs => if d' = d then isiE a cls cs (.exn a' d' c' ks vs) else none | _ => none))) := by
  have hn : (∀ C t, cs.lookup C = some t → cls ≠ .ref C) → PE (X.suite a ((a, oe) :: pn)) (.Call (.Name "isinstance" p) [e, y] [] pos) (tP X.K (b1 fa (fun x => match x with | .exn a' d' c' ks vs => if d' = d then isiE a cls cs (.exn a' d' c' ks vs) else none | _ => none))) := fun h => pNever fun ρ => by
    unfold b1
    cases fa ρ with
    | none => rfl
    | some z =>
      rw [Option.bind_some]
      split
      · split
        · unfold isiE
          split
          · rename_i C' _
            split
            · cases q : cs.lookup C' with
              | none => rfl
              | some t => exact absurd rfl (h C' t q)
            · rfl
          · rfl
        · rfl
      · rfl
  by_cases hC : ∃ C t, cs.lookup C = some t ∧ cls = .ref C
  · obtain ⟨C0, t, hl, rfl⟩ := hC
    obtain ⟨TC, hk⟩ := htb C0 t hl
    refine PE.imp (pe_callB (call_isEX TC hz hf) hg hm (by decide +kernel) (pa_cons he (pa_cons hy pa_nil hs2) hs) (by decide) (by decide) hs hpl) fun σ H Q ⟨M, ρ, fo, fv, d0, R, l, e, k⟩ => ?_
    obtain ⟨z, ea, eg⟩ := b1_some e
    refine ⟨M, ρ, fo, fv, z, R, l, ea, fun M1 H1 v s1 R1 dv => ?_⟩
    split at eg
    · split at eg
      · rename_i hdd
        subst hdd
        unfold isiE at eg
        simp only at eg
        split at eg
        · rename_i haa
          rw [hl] at eg
          cases eg
          have hv : v = .ref a := by rw [← haa]; cases dv <;> rfl
          refine ⟨c, cv, t, by rw [hv], hcv, fun dd hdd => ?_, hk, k M1 H1 _ s1 R1 (.bl _)⟩
          cases dv with
          | exn0 => cases hdd
          | exn1 hM _ _ => cases hdd; exact ⟨_, R1.same _ _ hM⟩
        · cases eg
      · cases eg
    · cases eg
  · exact hn fun C t hl e => hC ⟨C, t, hl, e⟩
def isX (a : Addr) (d : Option Addr) (cls : Value) (cs : List (Addr × Bool)) (x : D) : Option D := match x with
  | .exn a' d' c' ks vs => if d' = d then isiE a cls cs (.exn a' d' c' ks vs) else none
  | _ => none
theorem pIsXo {cs : List (Addr × Bool)} {y : Str} {C1 : Addr} (htb : ∀ C t, cs.lookup C = some t → ExcC X.K C ∧ PySem.W.kitOne X.K (.ref C) (.ref C1) = some t) (hmC : X.mg y = some (.ref C1)) (hz : Zc cls d oe) (hf : ∃ vs, oe.data = .fields vs) (he : PE (X.suite a ((a, oe) :: pn)) e (tP X.K fa)) (hm : X.mg "isinstance" = none)
    (hg : Gl (X.suite a ((a, oe) :: pn)) "isinstance" := by rfl) (hgT : Gl (X.suite a ((a, oe) :: pn)) y := by rfl) (hd : (y == ("__debug__" : Str)) = false := by decide) (hs : starEach [e, .Name y q] X.env = (false, eval e X.env) :: starEach [.Name y q] X.env := by rfl) (hs2 : starEach [.Name y q] X.env = (false, eval (.Name y q) X.env) :: starEach [] X.env := by rfl) (hpl : (backTo pos (starEach [.Name y q] X.env)).any (·.1) = false := by rfl) :
    PE (X.suite a ((a, oe) :: pn)) (.Call (.Name "isinstance" p) [e, .Name y q] [] pos) (tP X.K (b1 fa (isX a d cls cs))) :=
  pIsXv (c := .ref C1) (cv := .ref C1) htb (fun _ r => r) hz hf he (pe_glob (v := .ref C1) hgT hmC rfl hd) hm hg hs hs2 hpl
theorem pIsXt {cs : List (Addr × Bool)} {y : Str} {T : String} (htb : ∀ C t, cs.lookup C = some t → ExcC X.K C ∧ PySem.W.kitOne X.K (.ref C) (.type T) = some t) (hmT : X.mg y = none) (hz : Zc cls d oe) (hf : ∃ vs, oe.data = .fields vs) (he : PE (X.suite a ((a, oe) :: pn)) e (tP X.K fa)) (hm : X.mg "isinstance" = none)
    (hv : bootBuiltins y = some (.type T) := by decide +kernel) (hg : Gl (X.suite a ((a, oe) :: pn)) "isinstance" := by rfl) (hgT : Gl (X.suite a ((a, oe) :: pn)) y := by rfl) (hn : y ≠ "__name__" := by decide) (hd : (y == ("__debug__" : Str)) = false := by decide) (hs : starEach [e, .Name y q] X.env = (false, eval e X.env) :: starEach [.Name y q] X.env := by rfl) (hs2 : starEach [.Name y q] X.env = (false, eval (.Name y q) X.env) :: starEach [] X.env := by rfl) (hpl : (backTo pos (starEach [.Name y q] X.env)).any (·.1) = false := by rfl) :
    PE (X.suite a ((a, oe) :: pn)) (.Call (.Name "isinstance" p) [e, .Name y q] [] pos) (tP X.K (b1 fa (isX a d cls cs))) :=
  pIsXv (c := .ty T) (cv := .type T) htb (fun _ r => r) hz hf he (pe_bltn (v := .ty T) hgT hmT hv rfl hn hd) hm hg hs hs2 hpl
end
end PD

namespace PD
open PySem PySem.Spec L2
/-- the text of an own error's __init__ -/
structure XSt (qual : Str) (st : Stmt) (fs : List Str) : Prop where
  ar : ∃ ar, ((defArgs st).posonlyargs ++ (defArgs st).args).head? = some ar ∧ ar.arg = "self"
  n1 : (defScope st).names.lookup ("super" : Str) = some .globalImplicit
  n2 : (defScope st).names.lookup ("__class__" : Str) = some .free
  n3 : (defScope st).kind = .function
  n4 : (defScope st).names.lookup ("self" : Str) = some .local
  n5 : (defScope st).isCoroutine = false
  n6 : (defScope st).isGenerator = false
  n7 : ∀ y ∈ (defScope st).names, y.2 ≠ .cell
  body : ∃ p0 p1 p2 p3 p4 p5 x j rest, defBody st = superSt p0 p1 p2 p3 p4 p5 x j :: rest ∧ SupEv qual (defScope st) p0 p1 p2 p3 p4 x j ∧ Flds rest fs
  binds : ∀ (nm : Str) (cc : Addr) (kV doc pm cd ct : Value) (an : Option Addr) (us : List Value), us.length = fs.length + 1 → bindArgs (PySem.W.fnX nm qual (defArgs st) (defBody st) (defScope st) [("__class__", cc)] .none kV doc pm an cd ct) ⟨us, []⟩ = pure ((("self" : Str) :: fs).zip us)
  loc : ∀ y ∈ fs, (defScope st).names.lookup y = some .local ∧ (y == ("__debug__" : Str)) = false
  nd : (("self" : Str) :: fs).Nodup
  few : fs.length ≤ 800
section
variable {prog : Program} {K : PySem.W.Frag} {mg : Str → Option Value} {C f cc cda D N : Addr} {fs : List Str} {qual nm cn cq : Str} {st : Stmt} {bs bm sub : List Value} {sn : List Str} {ab : Bool} {col : Option Bool} {dd an od cdd cld : Option Addr} {k0 k1 k2 k3 k5 : Option Value} {kV doc pm ct oc ccl cl : Value} {osl ccs csl : Array (Option Value)} {vs : Array Value} {file : Str} {tf : Tok} {cdD : ClassData}
theorem xcls_mk (S : XSt qual st fs) (hL : K.lookup C = some (excClassObj cn cq C N bs bm true sn sub ab col dd k0 k1 k2 k3 k5 "ValueError.__new__")) (hbm : PySem.HandSPX.refsVE bm = true) (sa : PySem.W.findIn K (.ref C) "__setattr__" = some (some (.builtin "object.__setattr__"))) (exC : PySem.W.subIn K (.ref C) (.type "BaseException") = some true) (tyC : PySem.W.typeIn K (.ref C) = some (.type "type")) (kC : PySem.W.keepIn K (.ref C) = true)
    (ve : PySem.W.subIn K (.ref C) (.type "ValueError") = some true) (hin : PySem.W.findIn K (.ref C) "__init__" = some (some (.ref f))) (hty : PySem.W.typeIn K (.ref f) = some (.type "function"))
    (lk : K.lookup f = some ⟨oc, od, .func (PySem.W.fnX nm qual (defArgs st) (defBody st) (defScope st) [("__class__", cc)] .none kV doc pm an (.ref cda) ct), osl⟩) (hcode : PySem.W.codeIn K (.ref cda) qual = true)
    (hcda : K.lookup cda = some ⟨ccl, cdd, .fields vs, ccs⟩) (hvs : vs[2]? = some (.str file tf)) (hfile : ((prog.main.file : Str) == file) = true) (hcc : K.lookup cc = some ⟨cl, cld, .cell (some (.ref D)), csl⟩) (hD : PySem.W.clsIn K D = some cdD) (hmro : PySem.W.mroIn K C (.ref D) = some true)
    (hst : PySem.W.nsIn K cStatics "thirdparty.any" = some none) (hsup : PySem.W.ks_superIn K C D "__init__" = some (some (.builtin "ValueError.__init__"))) (hno : ∀ y ∈ fs, PySem.W.findIn K (.ref C) y = some none) (sup : mg "super" = none) (top : (prog.main.scope.names.lookup ("super" : Str)).isSome = false) : XCls prog K mg C fs := by
  obtain ⟨ar, a1, a2⟩ := S.ar
  obtain ⟨p0, p1, p2, p3, p4, p5, x, j, rest, b1, b2, b3⟩ := S.body
  exact ⟨⟨⟨cn, cq, N, bs, bm, sn, sub, ab, col, dd, k0, k1, k2, k3, k5, hL, hbm⟩, sa, exC, tyC, kC⟩, ve,
    ⟨f, cc, cda, D, qual, nm, defArgs st, defBody st, defScope st, .none, kV, doc, pm, ct, oc, ccl, cl, an, od, cdd, cld, osl, ccs, csl, vs, file, tf, cdD, ar, p0, p1, p2, p3, p4, p5, x, j, rest, hin, hty, lk, hcode, a1, a2, hcda, hvs, hfile, hcc, hD, hmro, hst, hsup,
      S.n1, S.n2, S.n3, S.n4, S.n5, S.n6, S.n7, b1, b2, b3, fun us hl => S.binds _ _ _ _ _ _ _ _ us hl, fun y hy => ⟨hno y hy, S.loc y hy⟩, S.nd, S.few⟩, sup, top⟩
end
end PD
namespace PD
open PySem PySem.Spec L2
theorem tb_all {P : Addr → Bool → Prop} : ∀ {tb : List (Addr × Bool)}, (∀ p ∈ tb, P p.1 p.2) → ∀ C t, tb.lookup C = some t → P C t
  | [], _, _, _, e => by cases e
  | (k, b) :: tb, h, C, t, e => by
    rw [List.lookup_cons] at e
    cases q : C == k with
    | true =>
      rw [q] at e
      have hk : C = k := by simpa using q
      cases e
      subst hk
      exact h _ List.mem_cons_self
    | false =>
      rw [q] at e
      exact tb_all (fun p hp => h p (List.mem_cons_of_mem _ hp)) C t e
theorem fa_nil {α : Type} {P : α → Prop} : ∀ p ∈ ([] : List α), P p := fun _ h => nomatch h
theorem fa_cons {α : Type} {P : α → Prop} {a : α} {l : List α} (h : P a) (hs : ∀ p ∈ l, P p) : ∀ p ∈ a :: l, P p := fun p hp => (List.mem_cons.mp hp).elim (fun e => e ▸ h) (hs p)
end PD
namespace PD
open PySem PySem.Spec L2
section
variable {X : Cx} {k n : Nat} {f : Addr} {fd : FuncData} {ps : List Str} {x : Str} {p pos : Pos} {ga g : Ev → Option (List D)} {m : List D → Option Rz} {e : Expr} {es : List Expr} {fe : Ev → Option D}
/-! ### n.bit_length() -/
/-! ### [.., *xs, ..] -/
end
end PD
namespace PD
open PySem PySem.Spec L2
section
variable {X : Cx} {a b : Expr} {pos : Pos} {fa fb : Ev → Option D}
/-! ### xs + ys, a new list -/
end
end PD
namespace PD
open PySem PySem.Spec L2
section
variable {X : Cx} {o e : Expr} {apos pos : Pos} {fa fb : Ev → Option D}
/-! ### xs.index(n), ints -/
end
end PD
namespace PD
open PySem PySem.Spec L2
section
variable {X : Cx} {W : WX} {J : List Nat} {a b : Expr} {pos px py pt pt2 : Pos} {ga : Ev → Option (List D)} {i j kt k2 : Nat} {x y : Str}
/-! ### a, b = e, f -/
end
end PD
namespace PD
open PySem PySem.Spec L2
section
variable {X : Cx} {W : WX} {J : List Nat} {pos : Pos} {tg iter elt : Expr} {ifs : List Expr} {scope : Scope} {own : List (Str × Nat)} {fi : Ev → Option (List D)} {is kn : List Nat} {g : D → Ev → Option Ev} {t : Ev → Option Bool} {f : Ev → Option D}
end
end PD

namespace PD
open PySem PySem.Spec L2
/-! ### dict(d): a copy of one's own -/
section
variable {X : Cx}
end
end PD

namespace PD
open PySem PySem.Spec L2
/-! ### for k in d: the data dict in slot i is locked while the loop runs -/
structure LkTo (d : Addr) (kvs : List (Key × V)) (M M' : Hp) : Prop where
  ne : ∀ b, b ≠ d → M' b = M b
  l : Rd M d (.dK kvs)
  r : Rd M' d (.dK kvs)
theorem Rd.det {M : Hp} {a : Addr} {u v : HO} (h : Rd M a u) (h' : Rd M a v) (hu : ∀ o w, u ≠ .frz o w) (hv : ∀ o w, v ≠ .frz o w) : u = v := by
  rcases h with h | ⟨o, h⟩ <;> rcases h' with h' | ⟨o', h'⟩ <;> rw [h] at h' <;> cases h'
  · rfl
  · exact absurd rfl (hu _ _)
  · exact absurd rfl (hv _ _)
  · rfl
section
variable {K : PySem.W.Frag} {M M' H : Hp} {d : Addr} {kvs : List (Key × V)}
theorem LkTo.rd (h : LkTo d kvs M M') {a : Addr} {u : HO} (e : Rd M a u) (hu : ∀ o w, u ≠ .frz o w) : Rd M' a u := by
  by_cases z : a = d
  · subst z
    rw [Rd.det e h.l hu (fun _ _ z => nomatch z)]; exact h.r
  · unfold Rd; rw [h.ne a z]; exact e
theorem LkTo.eq (h : LkTo d kvs M M') {a : Addr} {u : HO} (e : M a = some u) (h1 : ∀ kvs, u ≠ .dK kvs) (h2 : ∀ o w, u ≠ .frz o w) : M' a = some u := by
  by_cases z : a = d
  · subst z
    rcases h.l with q | ⟨o, q⟩ <;> rw [e] at q <;> cases q
    · exact absurd rfl (h1 _)
    · exact absurd rfl (h2 _ _)
  · rw [h.ne a z]; exact e
theorem LkTo.no (h : LkTo d kvs M M') {a : Addr} (e : M' a = none) : M a = none := by
  by_cases z : a = d
  · subst z
    rcases h.r with q | ⟨o, q⟩ <;> rw [e] at q <;> cases q
  · rw [← h.ne a z]; exact e
end
theorem PS.or {X : Cx} {e : Stmt} {t t' : TS} (h : PS X e t) (h' : PS X e t') : PS X e (fun E σ H => t E σ H ∨ t' E σ H) := ⟨fun p s σ H D I w => w.elim (h.run p s σ H D I) (h'.run p s σ H D I)⟩
section
variable {X : Cx} {W : WX} {J : List Nat} {pos p : Pos} {tg : Expr} {i : Nat} {x : Str}
end
end PD

namespace PD
open PySem PySem.Spec L2

/-! ### the evaluator for the newer parts -/
def immG (d : D) : Option D := if immD d = true then some d else none
def immH (o : O) : Option O := if immO o = true then some o else none
section
variable {ρ r : Ev} {fa fb : Ev → Option D} {c : Ev → Option Bool} {fo : Ev → Option O} {x y : D} {i : Nat} {o : O}
theorem ew_vwT : vwT c ρ = c (ρ.map O.vw) := nrfl rfl
theorem ew_vwI : vwI fa ρ = (fa (ρ.map O.vw)).bind immG := nrfl rfl
theorem ew_vwO : vwO fo ρ = (fo (ρ.map O.vw)).bind immH := nrfl rfl
theorem ew_immI (k : Int) : immG (.int k) = some (.int k) := nrfl rfl
theorem ew_immB (k : Bool) : immG (.bl k) = some (.bl k) := nrfl rfl
theorem ew_immS (k : Str) : immG (.str k) = some (.str k) := nrfl rfl
theorem ew_immN : immG .non = some .non := nrfl rfl
theorem ew_vwd : O.vw (.dat x) = .dat x := nrfl rfl
theorem ew_vwu : O.vw .unk = .unk := nrfl rfl
theorem ew_vwl (ds : List D) : O.vw (O.dats ds) = .dat (.lst ds) := by
  unfold O.vw
  rw [toD_dats]
theorem ew_frz : frz fo ρ = (fo ρ).bind O.toD := nrfl rfl
theorem ew_toDd : (O.dat x).toD = some x := nrfl rfl
theorem ew_toDl (ds : List D) : (O.dats ds).toD = some (.lst ds) := toD_dats ds
theorem ew_thaw : thaw fa ρ = (fa ρ).map .dat := nrfl rfl
theorem ew_cO {f : Ev → Option (List D)} {n : Nat} {m : List D → Option O} : cO' f n m ρ = (f ρ).bind (lenO? n m) := nrfl rfl
theorem ew_mulL {i j : Int} (h : -18446744073709551616 < i ∧ i < 18446744073709551616) : mulA (.int i) (.int j) = some (.int (i * j)) := by
  unfold mulA orD
  rw [ev_mulL h]
theorem ew_mulR {i j : Int} (h : -18446744073709551616 < j ∧ j < 18446744073709551616) : mulA (.int i) (.int j) = some (.int (i * j)) := by
  unfold mulA orD
  rw [ev_mulR h]
theorem ew_div {i j : Int} (h : 0 < j ∧ j < 1073741824) : divA (.int i) (.int j) = some (.int (i / j)) := by
  unfold divA orD
  rw [ev_divI h]
theorem ew_addI (i j : Int) : addI (.int i) (.int j) = some (.int (i + j)) := nrfl rfl
theorem ew_notN0 : notN .non .non = some (.bl false) := nrfl rfl
theorem ew_notNt (l : List D) : notN (.tup l) .non = some (.bl true) := nrfl rfl
theorem ew_notNi (k : Int) : notN (.int k) .non = some (.bl true) := nrfl rfl
end
def MW := And.intro (And.intro (And.intro (And.intro (@ew_vwT) (And.intro (@ew_vwI) (@ew_vwO))) (And.intro (@ew_immI) (And.intro (@ew_immB) (@ew_immS)))) (And.intro (And.intro (@ew_immN) (@ew_vwd)) (And.intro (@ew_vwu) (@ew_vwl)))) (And.intro (And.intro (And.intro (@ew_frz) (@ew_toDd)) (And.intro (@ew_toDl) (@ew_thaw))) (And.intro (And.intro (@ew_cO) (And.intro (@ew_mulL) (@ew_mulR))) (And.intro (And.intro (@ew_div) (@ew_addI)) (And.intro (@ew_notN0) (And.intro (@ew_notNt) (@ew_notNi))))))

/-! ### running the newer statements -/
section
variable {f g b : Ev → Option Fl} {ρ : Ev} {Q : Fl → Prop} {i : Nat}
theorem ixN_nat {n k : Nat} (h : k < n) : ixN n (k : Int) = some k := by
  unfold ixN
  rw [if_pos (by omega), if_pos (by omega)]; simp
/-- x[k].append(y) -/
theorem Rn.appP1 {fb : Ev → Option D} {fe : Ev → Option O} {oss os : List O} {k : Nat} {y : O} (h0 : ρ[i]? = some (.lst oss)) (hb : fb (ρ.map O.vw) = some (.int k)) (hk : oss[k]? = some (.lst os)) (hf : fe (ρ.map O.vw) = some y) (im : immO y = true) (hl : os.length < 1000000)
    (q : Q (.nx (ρ.set i (.lst (oss.set k (.lst (os ++ [y]))))))) : Rn (appP i (plI i plN fb) fe) ρ Q := by
  have hk' := (List.getElem?_eq_some_iff.mp hk).1
  have e1 : plI i plN fb ρ = some [k] := by
    unfold plI plN
    rw [Option.bind_some, hb]
    simp only [onSub, h0, Option.bind_some, O.sub, ixN_nat hk', List.getD_eq_getElem?_getD, hk, Option.getD_some]
    rfl
  have e2 : onSub i [k] ρ = some (.lst os) := by
    simp only [onSub, h0, Option.bind_some, O.sub, O.kid, hk]
  refine ⟨_, ?_, q⟩
  unfold appP
  rw [e1, Option.bind_some, e2]
  simp only [vwO, hf, Option.bind_some, if_pos im]
  rw [if_pos (Nat.lt_of_lt_of_le hl (by decide)), getD_of h0]
  simp only [O.put, O.kid, hk, O.setKid]
/-- x[k] = y -/
theorem Rn.setP0 {fb : Ev → Option D} {fe : Ev → Option O} {os : List O} {k : Nat} {y : O} (h0 : ρ[i]? = some (.lst os)) (hf : fe ρ = some y) (hb : fb (ρ.map O.vw) = some (.int k)) (hk : k < os.length)
    (q : Q (.nx (ρ.set i (.lst (os.set k y))))) : Rn (setP i plN fb fe) ρ Q := by
  refine ⟨_, ?_, q⟩
  unfold setP plN
  rw [hf, Option.bind_some, Option.bind_some, hb]
  simp only [onSub, h0, Option.bind_some, O.sub, ixN_nat hk, Option.map_some, O.put]
end
/-! ### comprehensions of own things, over typed lists -/
section
variable {ρ : Ev} {fi : Ev → Option (List D)} {gt : D → Ev → Option Ev} {t : Ev → Option Bool} {f : Ev → Option O} {vs : List Nat}
end
/-! ### own dicts of data -/
def O.dicD (ks : List Key) (ds : List D) : O := .dic ks (ds.map .dat)
theorem toD_dicD (ks : List Key) (ds : List D) : (O.dicD ks ds).toD = some (.dic ks ds) := by
  unfold O.dicD O.toD
  rw [toDs_dat]; rfl
theorem dlook_find {α : Type} (κ : α → Key) (φ : α → D) (k : Key) : ∀ xs : List α, dlook k (xs.map κ) (xs.map φ) = (xs.find? fun x => decide (κ x = k)).map φ
  | [] => rfl
  | x :: xs => by
    rw [List.map_cons, List.map_cons, List.find?_cons]
    unfold dlook
    by_cases h : κ x = k
    · rw [if_pos h, decide_eq_true h]; rfl
    · rw [if_neg h, decide_eq_false h]; exact dlook_find κ φ k xs
end PD

namespace PD
open PySem PySem.Spec L2
/-! ### what all laws draw with -/
noncomputable def gCell : Ev → Option Fl := (rtV (ifV (asB (b2 (gv 1) (cB (aCons (gv 0) aNil) lenD) ltI)) (cB (aCons (b2 (gv 0) (gv 1) ixD) aNil) intD) (kI 0)))
noncomputable def gRow : Ev → Option Fl := (sq (stO 2 (mkLstO aNil))
    (sq (stV 3 (b2 (cB (aCons (gv 0) aNil) intD) (kI 2147483629) modI))
    (sq (stV 4 (b2 (gv 0) (b2 (kI 10) (kI 18) powI) subI))
    (sq (forS (rng1 (gv 1)) (gN 5) (sq (stV 3 (b2 (cB (aCons (b2 (b2 (b2 (gv 3) (kI 48271) mulI) (b2 (kI 977) (gv 5) mulI) addA) (kI 12345) addA) aNil) intD) (kI 2147483647) modI))
    (sq (stV 6 (b2 (cB (aCons (b2 (b2 (b2 (gv 3) (kI 69621) mulI) (b2 (kI 31) (gv 5) mulI) addA) (kI 7) addA) aNil) intD) (kI 2147483629) modI))
    (sq (app 2 (ifV (asB (b2 (gv 0) (b2 (kI 10) (kI 18) powI) geI)) (b2 (cB (aCons (gv 4) aNil) intD) (kI 1000) modI) (b2 (cB (aCons (b2 (gv 6) (kI 4099) divI) aNil) intD) (kI 1000) modI)))
    (stV 4 (b2 (gv 4) (kI 1000) divI))))))
    (fz 2 (rtV (gv 2)))))))
theorem cell_eq (ns : List Int) (k : Nat) : runP 2 gCell [.lst (ns.map .int), .int k] = some (.int (ns.getD k 0)) := by
  refine runP_eq ?_
  unfold gCell
  by_cases h : k < ns.length
  · have e : atI (ns.map D.int) (k : Int) = some (.int (ns.getD k 0)) := atI_nat (by rw [List.getElem?_map, List.getElem?_eq_getElem h]; simp [h])
    refine Rn.ret (d := .int (ns.getD k 0)) ?_ ⟨_, rfl, rfl⟩
    show ifV _ _ _ [.dat (.lst (ns.map .int)), .dat (.int k)] = _
    have e2 : ixD (.lst (ns.map .int)) (.int k) = some (.int (ns.getD k 0)) := e
    (simp (disch := first | assumption | omega) only [e2, List.length_map, decide_eq_true (show (k : Int) < (ns.length : Int) by omega), MV, MW])
  · refine Rn.ret (d := .int (ns.getD k 0)) ?_ ⟨_, rfl, rfl⟩
    show ifV _ _ _ [.dat (.lst (ns.map .int)), .dat (.int k)] = _
    have e3 : ns.getD k 0 = 0 := by simp [List.getD_eq_getElem?_getD, List.getElem?_eq_none (show ns.length ≤ k by omega)]
    rw [e3]
    (simp (disch := first | assumption | omega) only [List.length_map, decide_eq_false (show ¬ (k : Int) < (ns.length : Int) by omega), MV, MW])
theorem row_ex (c : Int) (n : Nat) (hn : n ≤ 1000) : ∃ rs : List Int, runP 7 gRow [.int c, .int n] = some (.lst (rs.map .int)) ∧ rs.length = n ∧ ∀ r ∈ rs, 0 ≤ r ∧ r < 1000 := by
  obtain ⟨d, e, rs, rfl, hl, hr⟩ : ∃ d, runP 7 gRow [.int c, .int n] = some d ∧ ∃ rs : List Int, d = .lst (rs.map .int) ∧ rs.length = n ∧ ∀ r ∈ rs, 0 ≤ r ∧ r < 1000 := by
    refine runP_of ?_
    unfold gRow
    show Rn _ [.dat (.int c), .dat (.int n), .unk, .unk, .unk, .unk, .unk] _
    refine Rn.sqstO (o := .dats []) rfl ?_
    refine Rn.sqst (d := .int (c % 2147483629)) (by (simp (disch := first | assumption | omega) only [MV, MW])) ?_
    refine Rn.sqst (d := .int (c - 10 ^ 18)) (by (simp (disch := first | assumption | omega) only [MV, MW]); rfl) ?_
    refine Rn.sqforR (lo := 0) (n := n) (by show rng1 _ [.dat (.int c), .dat (.int n), _, _, _, _, _] = _; (simp (disch := first | assumption | omega) only [MV, MW]); rfl) (fun i ρ => ∃ (rs : List Int) (s t : Int) (x y : O), ρ = [.dat (.int c), .dat (.int n), .dats (rs.map .int), .dat (.int s), .dat (.int t), x, y] ∧ rs.length = i ∧ ∀ r ∈ rs, 0 ≤ r ∧ r < 1000)
      ⟨[], c % 2147483629, c - 10 ^ 18, .unk, .unk, rfl, rfl, fun r h => nomatch h⟩ (fun i hi ρ hI => ?_) (fun ρ hI => ?_)
    · obtain ⟨rs, s, t, x, y, rfl, hl, hr⟩ := hI
      refine ⟨_, rfl, ?_⟩
      refine Rn.sqst (d := .int ((s * 48271 + 977 * (0 + (i : Int)) + 12345) % 2147483647)) (by show b2 _ _ _ [.dat _, .dat _, _, .dat _, _, .dat _, _] = _; (simp (disch := first | assumption | omega) only [MV, MW])) ?_
      generalize (s * 48271 + 977 * (0 + (i : Int)) + 12345) % 2147483647 = s'
      refine Rn.sqst (d := .int ((s' * 69621 + 31 * (0 + (i : Int)) + 7) % 2147483629)) (by show b2 _ _ _ [.dat _, .dat _, _, .dat _, _, .dat _, _] = _; (simp (disch := first | assumption | omega) only [MV, MW])) ?_
      generalize (s' * 69621 + 31 * (0 + (i : Int)) + 7) % 2147483629 = m
      refine Rn.sqapp (d := .int (if decide ((10 : Int) ^ 18 ≤ c) = true then t % 1000 else m / 4099 % 1000)) (ds := rs.map .int) (by
        show ifV _ _ _ [.dat (.int c), .dat (.int n), _, .dat (.int s'), .dat (.int t), .dat _, .dat (.int m)] = _
        have ep : powI (.int 10) (.int 18) = some (.int ((10 : Int) ^ 18)) := rfl
        (simp (disch := first | assumption | omega) only [ep, MV, MW])) rfl (by rw [List.length_map, hl]; omega) ?_
      refine Rn.st (d := .int (t / 1000)) (by show b2 _ _ _ [.dat _, .dat _, _, .dat _, .dat _, .dat _, .dat _] = _; (simp (disch := first | assumption | omega) only [MV, MW])) ?_
      refine ⟨rs ++ [if decide ((10 : Int) ^ 18 ≤ c) = true then t % 1000 else m / 4099 % 1000], s', t / 1000, .dat (.int (0 + (i : Int))), .dat (.int m), ?_, by simp [hl], fun r hm => ?_⟩
      · rw [List.map_append]; rfl
      · rcases List.mem_append.mp hm with hm | hm
        · exact hr r hm
        · have : r = _ := List.mem_singleton.mp hm
          subst this
          split <;> omega
    · obtain ⟨rs, s, t, x, y, rfl, hl, hr⟩ := hI
      refine Rn.fzD rfl ?_
      refine Rn.ret (d := .lst (rs.map .int)) rfl ?_
      exact ⟨_, _, rfl, rfl, rs, rfl, hl, hr⟩
  exact ⟨rs, e, hl, hr⟩
end PD

namespace PD
open PySem PySem.Spec L2
/-! ### == of plain data: ints, texts, None, lists and tuples of them, not deeper than k -/
mutual
def D.plain (k : Nat) : D → Bool
  | .non => true
  | .int _ => true
  | .str x => PyData.canLay0 (.str x)
  | .lst ds => decide (D.deeps ds < k) && D.plains k ds
  | .tup ds => decide (D.deeps ds < k) && D.plains k ds
  | _ => false
def D.plains (k : Nat) : List D → Bool
  | [] => true
  | d :: ds => D.plain k d && D.plains k ds
def D.deep : D → Nat
  | .lst ds => D.deeps ds + 1
  | .tup ds => D.deeps ds + 1
  | _ => 0
def D.deeps : List D → Nat
  | [] => 0
  | d :: ds => max d.deep (D.deeps ds)
end
mutual
theorem plain_py (k : Nat) : ∀ d : D, d.plain k = true → ∃ p, d.py = some p ∧ p.canLay0 = true ∧ p.depth ≤ d.deep
  | .non, _ => ⟨_, rfl, rfl, Nat.le_refl _⟩
  | .int i, _ => ⟨_, rfl, rfl, Nat.le_refl _⟩
  | .str x, h => ⟨_, rfl, h, Nat.le_refl _⟩
  | .lst ds, h => by
    obtain ⟨ps, e, a, b⟩ := plain_pys k ds (Bool.and_eq_true_iff.mp h).2
    exact ⟨.list ps, by unfold D.py; rw [e]; rfl, by simp only [PyData.canLay0, a], by rw [PyData.depth]; unfold D.deep; omega⟩
  | .tup ds, h => by
    obtain ⟨ps, e, a, b⟩ := plain_pys k ds (Bool.and_eq_true_iff.mp h).2
    exact ⟨.tuple ps, by unfold D.py; rw [e]; rfl, by simp only [PyData.canLay0, a], by rw [PyData.depth]; unfold D.deep; omega⟩
  | .bl _, h => nomatch h
  | .dic _ _, h => nomatch h
  | .obj _ _ _, h => nomatch h
  | .exn _ _ _ _ _, h => nomatch h
theorem plain_pys (k : Nat) : ∀ ds : List D, D.plains k ds = true → ∃ ps, D.pys ds = some ps ∧ PyData.canLayAll0 ps = true ∧ PyData.depthAll ps ≤ D.deeps ds
  | [], _ => ⟨[], rfl, rfl, Nat.le_refl _⟩
  | d :: ds, h => by
    unfold D.plains at h
    rw [Bool.and_eq_true] at h
    obtain ⟨p, e1, a1, b1⟩ := plain_py k d h.1
    obtain ⟨ps, e2, a2, b2⟩ := plain_pys k ds h.2
    refine ⟨p :: ps, by unfold D.pys; rw [e1, e2], by rw [PyData.canLayAll0, a1, a2]; rfl, ?_⟩
    rw [PyData.depthAll]; unfold D.deeps; omega
end
theorem deep_plain {k : Nat} : ∀ {d : D}, d.plain k = true → d.deep ≤ k
  | .non, _ => Nat.zero_le _
  | .int i, _ => Nat.zero_le _
  | .str x, h => Nat.zero_le _
  | .lst ds, h => of_decide_eq_true (Bool.and_eq_true_iff.mp h).1
  | .tup ds, h => of_decide_eq_true (Bool.and_eq_true_iff.mp h).1
  | .bl _, h => nomatch h
  | .dic _ _, h => nomatch h
  | .obj _ _ _, h => nomatch h
  | .exn _ _ _ _ _, h => nomatch h
mutual
theorem eqv_plain {k : Nat} : ∀ {d e : D} {p q : PyData}, d.plain k = true → e.plain k = true → d.py = some p → e.py = some q → (PyData.eqv p q = true ↔ d = e)
  | .lst ds, e, p, q, h1, h2, e1, e2 => by
    obtain ⟨ps, ep, _⟩ := plain_pys k ds (Bool.and_eq_true_iff.mp h1).2
    unfold D.py at e1
    rw [ep] at e1
    cases e1
    cases e with
    | lst es =>
      obtain ⟨qs, eq, _⟩ := plain_pys k es (Bool.and_eq_true_iff.mp h2).2
      unfold D.py at e2
      rw [eq] at e2
      cases e2
      simp only [PyData.eqv, D.lst.injEq]
      exact eqvs_plain (Bool.and_eq_true_iff.mp h1).2 (Bool.and_eq_true_iff.mp h2).2 ep eq
    | tup es =>
      obtain ⟨qs, eq, _⟩ := plain_pys k es (Bool.and_eq_true_iff.mp h2).2
      unfold D.py at e2
      rw [eq] at e2
      cases e2
      simp [PyData.eqv]
    | _ => cases e2 <;> simp [PyData.eqv]
  | .tup ds, e, p, q, h1, h2, e1, e2 => by
    obtain ⟨ps, ep, _⟩ := plain_pys k ds (Bool.and_eq_true_iff.mp h1).2
    unfold D.py at e1
    rw [ep] at e1
    cases e1
    cases e with
    | tup es =>
      obtain ⟨qs, eq, _⟩ := plain_pys k es (Bool.and_eq_true_iff.mp h2).2
      unfold D.py at e2
      rw [eq] at e2
      cases e2
      simp only [PyData.eqv, D.tup.injEq]
      exact eqvs_plain (Bool.and_eq_true_iff.mp h1).2 (Bool.and_eq_true_iff.mp h2).2 ep eq
    | lst es =>
      obtain ⟨qs, eq, _⟩ := plain_pys k es (Bool.and_eq_true_iff.mp h2).2
      unfold D.py at e2
      rw [eq] at e2
      cases e2
      simp [PyData.eqv]
    | _ => cases e2 <;> simp [PyData.eqv]
  | .non, e, p, q, _, h2, e1, e2 => by
    cases e1
    obtain ⟨q', eq, _⟩ := plain_py k e h2
    cases e with
    | lst es => unfold D.py at e2; obtain ⟨qs, _, rfl⟩ := Option.map_eq_some_iff.mp e2; simp [PyData.eqv]
    | tup es => unfold D.py at e2; obtain ⟨qs, _, rfl⟩ := Option.map_eq_some_iff.mp e2; simp [PyData.eqv]
    | bl _ => cases h2
    | dic _ _ => cases h2
    | obj _ _ _ => cases h2
    | exn _ _ _ _ _ => cases h2
    | tagM _ _ => cases h2
    | tagP _ _ => cases h2
    | dicT _ _ _ => cases h2
    | _ => cases e2; simp [PyData.eqv]
  | .int i, e, p, q, _, h2, e1, e2 => by
    cases e1
    cases e with
    | lst es => unfold D.py at e2; obtain ⟨qs, _, rfl⟩ := Option.map_eq_some_iff.mp e2; simp [PyData.eqv]
    | tup es => unfold D.py at e2; obtain ⟨qs, _, rfl⟩ := Option.map_eq_some_iff.mp e2; simp [PyData.eqv]
    | bl _ => cases h2
    | dic _ _ => cases h2
    | obj _ _ _ => cases h2
    | exn _ _ _ _ _ => cases h2
    | tagM _ _ => cases h2
    | tagP _ _ => cases h2
    | dicT _ _ _ => cases h2
    | _ => cases e2; simp [PyData.eqv]
  | .str x, e, p, q, _, h2, e1, e2 => by
    cases e1
    cases e with
    | lst es => unfold D.py at e2; obtain ⟨qs, _, rfl⟩ := Option.map_eq_some_iff.mp e2; simp [PyData.eqv]
    | tup es => unfold D.py at e2; obtain ⟨qs, _, rfl⟩ := Option.map_eq_some_iff.mp e2; simp [PyData.eqv]
    | bl _ => cases h2
    | dic _ _ => cases h2
    | obj _ _ _ => cases h2
    | exn _ _ _ _ _ => cases h2
    | tagM _ _ => cases h2
    | tagP _ _ => cases h2
    | dicT _ _ _ => cases h2
    | _ => cases e2; simp [PyData.eqv]
  | .bl _, _, _, _, h, _, _, _ => nomatch h
  | .dic _ _, _, _, _, h, _, _, _ => nomatch h
  | .obj _ _ _, _, _, _, h, _, _, _ => nomatch h
  | .exn _ _ _ _ _, _, _, _, h, _, _, _ => nomatch h
theorem eqvs_plain {k : Nat} : ∀ {ds es : List D} {ps qs : List PyData}, D.plains k ds = true → D.plains k es = true → D.pys ds = some ps → D.pys es = some qs → (PyData.eqvAll ps qs = true ↔ ds = es)
  | [], [], ps, qs, _, _, e1, e2 => by cases e1; cases e2; simp [PyData.eqvAll]
  | [], e :: es, ps, qs, _, h2, e1, e2 => by
    cases e1
    unfold D.pys at e2
    split at e2
    · cases e2; simp [PyData.eqvAll]
    · cases e2
  | d :: ds, [], ps, qs, _, h2, e1, e2 => by
    cases e2
    unfold D.pys at e1
    split at e1
    · cases e1; simp [PyData.eqvAll]
    · cases e1
  | d :: ds, e :: es, ps, qs, h1, h2, e1, e2 => by
    unfold D.plains at h1 h2
    rw [Bool.and_eq_true] at h1 h2
    unfold D.pys at e1 e2
    split at e1
    · rename_i p1 ps1 q1 q2
      split at e2
      · rename_i p2 ps2 q3 q4
        cases e1; cases e2
        rw [PyData.eqvAll, Bool.and_eq_true, eqv_plain h1.1 h2.1 q1 q3, eqvs_plain h1.2 h2.2 q2 q4, List.cons.injEq]
      · cases e2
    · cases e1
end
theorem eqv_of {x y : D} (hx : x.plain 60 = true) (hy : y.plain 60 = true) : ∃ b, eqvD x y = some b ∧ (b = true ↔ x = y) := by
  obtain ⟨p, e1, a1, b1⟩ := plain_py 60 x hx
  obtain ⟨q, e2, a2, b2⟩ := plain_py 60 y hy
  refine ⟨PyData.eqv p q, ?_, eqv_plain hx hy e1 e2⟩
  unfold eqvD
  rw [e1, e2]
  have s1 : SeqAt.shaped p = true := by unfold SeqAt.shaped; rw [a1, decide_eq_true (by have := deep_plain hx; omega)]; rfl
  have s2 : SeqAt.shaped q = true := by unfold SeqAt.shaped; rw [a2, decide_eq_true (by have := deep_plain hy; omega)]; rfl
  exact if_pos ⟨s1, s2⟩
theorem plains_of {k : Nat} : ∀ {ds : List D}, (∀ d ∈ ds, d.plain k = true) → D.plains k ds = true
  | [], _ => rfl
  | d :: ds, h => by
    unfold D.plains
    rw [h d List.mem_cons_self, plains_of fun e he => h e (List.mem_cons_of_mem _ he)]; rfl
theorem deeps_of {k : Nat} : ∀ {ds : List D}, (∀ d ∈ ds, d.deep ≤ k) → D.deeps ds ≤ k
  | [], _ => Nat.zero_le _
  | d :: ds, h => by
    unfold D.deeps
    have a := h d List.mem_cons_self
    have b := deeps_of fun e he => h e (List.mem_cons_of_mem _ he)
    omega
/-- a list (tuple) of things of depth at most j -/
theorem plain_lst {ds : List D} (j : Nat) (hj : j < 60) (h : ∀ d ∈ ds, d.plain 60 = true ∧ d.deep ≤ j) : (D.lst ds).plain 60 = true ∧ (D.lst ds).deep ≤ j + 1 := by
  have a := deeps_of (k := j) fun d hd => (h d hd).2
  refine ⟨?_, by show D.deeps ds + 1 ≤ _; omega⟩
  unfold D.plain
  rw [decide_eq_true (by omega), plains_of fun d hd => (h d hd).1]; rfl
theorem plain_tup {ds : List D} (j : Nat) (hj : j < 60) (h : ∀ d ∈ ds, d.plain 60 = true ∧ d.deep ≤ j) : (D.tup ds).plain 60 = true ∧ (D.tup ds).deep ≤ j + 1 := by
  have a := deeps_of (k := j) fun d hd => (h d hd).2
  refine ⟨?_, by show D.deeps ds + 1 ≤ _; omega⟩
  unfold D.plain
  rw [decide_eq_true (by omega), plains_of fun d hd => (h d hd).1]; rfl
/-- x in a list of ints -/
theorem in_ints (v : Int) (ns : List Int) : inB (.int v) (.lst (ns.map .int)) = some (decide (v ∈ ns)) := by
  have h : (ns.map D.int).all D.flat = true := by rw [List.all_eq_true]; intro d hd; obtain ⟨_, _, rfl⟩ := List.mem_map.mp hd; rfl
  show (if (D.int v).flat && (ns.map D.int).all D.flat then some ((ns.map D.int).any fun z => z.same (.int v)) else none) = _
  rw [h]
  show some ((ns.map D.int).any fun z => z.same (.int v)) = _
  congr 1
  rw [Bool.eq_iff_iff, List.any_eq_true, decide_eq_true_iff]
  constructor
  · rintro ⟨d, hd, e⟩
    obtain ⟨i, hi, rfl⟩ := List.mem_map.mp hd
    have : i = v := by simpa [D.same] using e
    exact this ▸ hi
  · exact fun h => ⟨.int v, List.mem_map_of_mem h, by simp [D.same]⟩
end PD

namespace PD
open PySem PySem.Spec L2
/-! ### running what may raise -/
section
variable {f g b : Ev → Option Fl} {ρ : Ev} {Q : Fl → Prop} {i : Nat} {h : Ev → Option Rz}
theorem Rn.stXD {o : O} {d : D} (e : h ρ = some (.ok o)) (ho : o.toD = some d) (k : Q (.nx (ρ.set i (.dat d)))) : Rn (PD.stXD i h) ρ Q := ⟨_, by unfold PD.stXD; rw [e, Option.bind_some]; simp only [ho]; rfl, k⟩
theorem Rn.drpX {o : O} (e : h ρ = some (.ok o)) (k : Q (.nx ρ)) : Rn (PD.drpX h) ρ Q := ⟨_, by unfold PD.drpX; rw [e]; rfl, k⟩
/-- the body raises, the suite takes it -/
theorem Rn.tryX {tb : List (Addr × Bool)} {sm : Addr → Option Addr → Value → Ev → Option Fl} {x : Exn} {ρ1 : Ev} {r2 : Fl} (e : b ρ = some (.ex x ρ1)) (hm : mtc tb x.cls = some true) (hs : ∀ a da, Rn (sm a (exnA da x) x.cls) (ρ1.set i (.dat (exnD a da x))) fun r => unX i r = some r2) (k : Q r2) : Rn (tryS tb i b sm) ρ Q := by
  refine ⟨r2, ?_, k⟩
  unfold tryS
  rw [e, Option.bind_some]
  show ((mtc tb x.cls).bind fun t => if t = true then suiteS i sm x ρ1 else some (.ex x ρ1)) = _
  rw [hm, Option.bind_some, if_pos rfl, suiteS_of fun a da => (by obtain ⟨r, e1, e2⟩ := hs a da; rw [e1]; exact e2)]
theorem Rn.tryN {tb : List (Addr × Bool)} {sm : Addr → Option Addr → Value → Ev → Option Fl} {ρ1 : Ev} (e : b ρ = some (.nx ρ1)) (k : Q (.nx ρ1)) : Rn (tryS tb i b sm) ρ Q := ⟨_, by unfold tryS; rw [e]; rfl, k⟩
theorem mtc1 (C : Addr) (t : Bool) : mtc [(C, t)] (.ref C) = some t := by
  show List.lookup C [(C, t)] = _
  rw [List.lookup_cons]; simp
theorem runX_ok {n : Nat} {ds : List D} {z : Rz} (h : Rn b (env0 n ds) fun r => outX r = some z) : runX n b ds = some z := by
  obtain ⟨r, e, h1⟩ := h
  unfold runX
  rw [e]; exact h1
end
theorem ew_cX {f : Ev → Option (List D)} {n : Nat} {m : List D → Option Rz} {ρ : Ev} {ds : List D} {z : Rz} (h : f ρ = some ds) (hn : ds.length = n) (hm : m ds = some z) : cX f n m ρ = okO z := by
  unfold cX
  rw [h, Option.bind_some, if_pos hn, hm]; rfl
theorem ew_xC {f : Ev → Option (List D)} {n : Nat} {m : List D → Option Rz} {ρ : Ev} {ds : List D} (h : f ρ = some ds) (hn : ds.length = n) : xC f n m ρ = m ds := by
  unfold xC
  rw [h, Option.bind_some, if_pos hn]
end PD

namespace PD
open PySem PySem.Spec PyProof.Rows L2
/-! ### zip of two lists -/
section
variable {X : Cx} {pos p tpos : Pos} {e e2 : Expr} {elts : List Expr} {kk : Nat} {ga : Ev → Option (List D)}
/-! ### // by any divisor but 0, below 2 ^ 9000 -/
end
end PD

namespace PD
open PySem PySem.Spec PyProof.Rows L2
/-! ### x = a place inside an own thing; x.append(e): both statements at once -/
section
variable {X : Cx} {W : WX} {J : List Nat} {pos pos' pos1 apos cpos px : Pos} {b e : Expr} {i j : Nat} {pf : Ev → Option (List Nat)} {f : Ev → Option O}
end
end PD

namespace PD
open PySem PySem.Spec PyProof.Rows L2
/-! ### (a, b, ..) = a call that may raise -/
section
variable {X : Cx} {W : WX} {J : List Nat} {pos : Pos} {tg e : Expr} {h : Ev → Option Rz}
end
section
variable {ρ : Ev} {Q : Fl → Prop} {h : Ev → Option Rz} {t : D → Ev → Option Ev} {f : Ev → Option Fl}
end
end PD

namespace PD
open PySem PySem.Spec PyProof.Rows L2
/-! ### for x in t: if isinstance(x, list): x.append(e) -- t an own tuple -/
def grow (y : O) : O → O
  | .lst os => .lst (os ++ [y])
  | o => o
section
variable {X : Cx} {W : WX} {J : List Nat} {pos epos ipos fpos apos cpos p0 pt px px' pi pl : Pos} {e : Expr} {i j : Nat} {f : Ev → Option O} {y : O}
end
end PD

namespace PD
open PySem PySem.Spec PyProof.Rows L2
/-! ### f(k=v, ..), f may raise -/
section
variable {X : Cx} {W : WX} {x : Str} {f : Addr} {fd : FuncData} {ps : List Str} {k n : Nat} {p pos : Pos} {m : List D → Option Rz} {ga : Ev → Option (List D)}
end
end PD

namespace PD
open PySem PySem.Spec PyProof.Rows L2 HotX L2H

/-! ### an iterator ends while an exception is handled -/
section
variable {prog : Program} {w : World} {A : Around} {E : Value → Shared → Prop} {s : Shared}
theorem HotAt.keep {x1 : Addr} {h h' : Heap} (hot : HotAt A x1 h) (k : ∀ o, h.get? x1 = some o → h'.get? x1 = some o) : HotAt A x1 h' := by
  obtain ⟨hh, o, vs, e, d, c⟩ := hot
  exact ⟨hh, o, vs, k _ e, d, c⟩
/-! ### the items of an unpacking -/
end

/-! ### the rules: turns, iterators, targets -/
section
variable {X : Cx} {pins : List (Addr × Obj)} {σ : L2.St} {H : Hp} {s : Shared}
theorem PIH.imp {tg e : Expr} {t t' : TI} (h : PIH X tg e t) (i : ∀ σ H R, t' σ H R → t σ H R) : PIH X tg e t' := ⟨fun p s σ H R I w => h.run p s σ H R I (i σ H R w)⟩
theorem PIH.or {tg e : Expr} {t t' : TI} (h : PIH X tg e t) (h' : PIH X tg e t') : PIH X tg e (fun σ H R => t σ H R ∨ t' σ H R) := ⟨fun p s σ H R I w => w.elim (h.run p s σ H R I) (h'.run p s σ H R I)⟩
/-! ### sum, any, all -/
end
end PD

namespace PD
open PySem PySem.Spec PyProof.Rows L2 HotX L2H

/-! ### a comprehension's block while an exception is handled: the handled one stays pinned -/
section
variable {X : Cx} {pins : List (Addr × Obj)} {σ : L2.St} {H : Hp} {s : Shared}
variable {elt tg iter : Expr} {ifs : List Expr} {scope : Scope} {own : List (Str × Nat)} {wi : TI} {g : TG} {tt : TT} {te : TE} {p : Addr × Obj} {fp : List Addr} {it D : Addr} {J : It} {tn : Nat → Heap → Prop} {W : Nat → Nat → Hp → Prop} {Q : VK} {vs : List Nat} {s0 : Shared} {H0 : Hp} {ce : Env}
end
section
variable {X : Cx} {elt tg iter : Expr} {ifs : List Expr} {scope : Scope} {own : List (Str × Nat)} {wi : TI} {g : TG} {tt : TT} {te : TE} {pos spos py : Pos}
end
end PD

namespace PD
open PySem PySem.Spec PyProof.Rows L2 HotX L2H
/-! ### texts and ranges walked while an exception is handled -/
section
variable {prog : Program} {w : World} {A : Around} {E : Value → Shared → Prop} {s : Shared}
end
section
variable {X : Cx} {pins : List (Addr × Obj)} {σ : L2.St} {H : Hp} {s : Shared}
end

/-! ### the rules by data -/
section
variable {X : Cx} {W : WX} {J : List Nat} {pos : Pos} {tg e : Expr} {f : Ev → Option D}
end
section
variable {X : Cx} {W : WX} {J : List Nat} {pos : Pos} {tg iter elt : Expr} {ifs : List Expr} {scope : Scope} {fi : Ev → Option (List D)} {is kn : List Nat} {g : D → Ev → Option Ev} {t : Ev → Option Bool} {f : Ev → Option D}
end
section
variable {X : Cx}
end
theorem _root_.L2H.RoomH.units {k : Nat} {A : Around} (r : RoomH k A) : A.units + 64 < cLine := by have := r.un; omega
section
variable {P : Program} {w : World} {K : PySem.W.Frag} {mg : Str → Option Value} {base : Heap} {x qual : Str} {st : Stmt} {f : Addr} {fd : FuncData} {N ps : List Str} {k : Nat} {b : Ev → Option Fl}
theorem FnH.imp {sp sp' : Sp} {CX : CXT} (F : FnH P w K mg base CX k f fd ps sp) (h : ∀ vs H Q E, sp' vs H Q E → sp vs H Q E) : FnH P w K mg base CX k f fd ps sp' :=
  ⟨fun vs H Q E z => F.len vs H Q E (h _ _ _ _ z), fun A outer s H args us vs Q E p hr hot hp e0 hb r hsp => F.run A outer s H args us vs Q E p hr hot hp e0 hb r (h _ _ _ _ hsp)⟩
end
section
variable {X : Cx} {pos p : Pos} {e : Expr} {es : List Expr} {ga : Ev → Option (List D)} {k : Nat} {f : Addr} {fd : FuncData} {ps : List Str} {x : Str} {n : Nat}
theorem takesN0 {X : Cx} : L2N.Takes X W0 := fun _ _ ⟨_, _, _, _, _, _, _, _, _, _, _, _, _, _, _, _, z⟩ => z.elim
end
end PD

namespace PD
open PySem PySem.Spec PyProof.Rows L2
/-! ### marks taken off -/
section
variable {K : PySem.W.Frag} {M : Hp}
end
/-! ### lists of ints that are new since M0 -/
def newL (M0 : Hp) (L : List Int) : Hp → V → Prop := fun M v => ∃ a, v = .ref a ∧ M0 a = none ∧ M a = some (.lst (L.map .int))
abbrev newD (M0 : Hp) (L : List Int) : D := .tagP (newL M0 L) (.lst (L.map .int))
section
variable {K : PySem.W.Frag} {M H : Hp}
end
end PD

namespace PD
open PySem PySem.Spec L2
/-! ### a comprehension with two clauses -/
section
variable {fi fi1 : Ev → Option (List D)} {is is1 vs vs1 : List Nat} {g g1 : D → Ev → Option Ev} {t t1 : Ev → Option Bool} {f : Ev → Option D}
end
section
variable {X : Cx} {W : WX} {J : List Nat} {pos spos py : Pos} {tg iter tg1 iter1 elt : Expr} {ifs ifs1 : List Expr} {scope : Scope} {fi fi1 : Ev → Option (List D)} {is is1 : List Nat} {g g1 : D → Ev → Option Ev} {t t1 : Ev → Option Bool} {f : Ev → Option D}
/-! ### the truth of data -/
end
end PD

namespace PD
open PySem PySem.Spec PyProof.Rows L2
/-! ### calls of a def whose first argument knows since when things are new -/
section
variable {X : Cx} {W : WX} {J : List Nat} {pos p : Pos} {e : Expr} {es : List Expr} {ga : Ev → Option (List D)} {k : Nat} {f : Addr} {fd : FuncData} {ps : List Str} {x : Str} {n : Nat}
end
end PD

namespace PD
open PySem PySem.Spec PyProof.Rows L2
/-! ### for x in t: x.append(e) -- t an own list of own lists -/
section
variable {X : Cx} {W : WX} {J : List Nat} {epos fpos apos cpos p0 pt px : Pos} {e : Expr} {i j : Nat} {f : Ev → Option O} {y : O}
end
end PD

namespace PySem
namespace F
end F
end PySem
namespace PD
open PySem PySem.Spec PyProof.Rows L2
/-! ### list(zip(a, b)) -/
/-- a zip over two lists: untouched, or with its last tuple out -/
def ZSt (z TI TO i1 i2 a b : Addr) (its1 its2 : Array Value) (i : Nat) (h : Heap) : Prop :=
  ((IsZip h z TI TO .none ∧ ∃ p q, IsPair h TO p q) ∨ ∃ T f oT, IsZipHeld h z TI TO T f ∧ h.get? T = some oT ∧ T ≠ z ∧ T ≠ i1 ∧ T ≠ i2) ∧ IsPair h TI (.ref i1) (.ref i2) ∧ h.IsListIter i1 a i ∧ h.IsListIter i2 b i ∧ h.IsList a its1 ∧ h.IsList b its2
theorem ZSt.keep {z TI TO i1 i2 a b : Addr} {its1 its2 : Array Value} {i : Nat} {h h' : Heap} {S : Addr} (st : ZSt z TI TO i1 i2 a b its1 its2 i h) (hS : S ∉ [z, TI, TO, i1, i2, a, b]) (k : ∀ c o, c ≠ S → h.get? c = some o → h'.get? c = some o) (k2 : ∀ o, h.get? S = some o → ∃ o', h'.get? S = some o') : ZSt z TI TO i1 i2 a b its1 its2 i h' := by
  have n : ∀ c, c ∈ [z, TI, TO, i1, i2, a, b] → c ≠ S := fun c hc e => hS (e ▸ hc)
  obtain ⟨h0, hTI, h1, h2, l1, l2⟩ := st
  refine ⟨?_, k _ _ (n _ (by simp)) hTI, h1.at fun o e => k _ _ (n _ (by simp)) e, h2.at fun o e => k _ _ (n _ (by simp)) e, l1.at fun o e => k _ _ (n _ (by simp)) e, l2.at fun o e => k _ _ (n _ (by simp)) e⟩
  rcases h0 with ⟨hz, p, q, hTO⟩ | ⟨T, f, oT, hz, hT, t⟩
  · exact .inl ⟨k _ _ (n _ (by simp)) hz, p, q, k _ _ (n _ (by simp)) hTO⟩
  · by_cases e : T = S
    · subst e
      obtain ⟨o', e'⟩ := k2 _ hT
      exact .inr ⟨T, f, o', k _ _ (n _ (by simp)) hz, e', t⟩
    · exact .inr ⟨T, f, oT, k _ _ (n _ (by simp)) hz, k _ _ e hT, t⟩
/-- what the loop has made after i turns: the tuples -/
inductive Zs (xs ys : List V) (G0 : Hp) (S : Addr) : Nat → Hp → List V → Prop
  | nil : Zs xs ys G0 S 0 G0 []
  | snoc {i : Nat} {G : Hp} {vs : List V} {x y : V} {T : Addr} : Zs xs ys G0 S i G vs → xs[i]? = some x → ys[i]? = some y → G T = none → T ≠ S → Zs xs ys G0 S (i + 1) (upd G T (.tup [x, y])) (vs ++ [.ref T])
theorem Zs.len {xs ys : List V} {G0 G : Hp} {S : Addr} {i : Nat} {vs : List V} (h : Zs xs ys G0 S i G vs) : vs.length = i := by
  induction h with
  | nil => rfl
  | snoc _ _ _ _ _ ih => rw [List.length_append, ih]; rfl
section
variable {X : Cx} {A : Around} {pins : List (Addr × Obj)} {σ : L2.St} {z TI TO i1 i2 a b S : Addr} {xs ys : List V} {its1 its2 : List Value} {n : Nat} {G0 : Hp} {R : Result → Shared → Prop} {res : Value}
end
section
variable {X : Cx} {pins : List (Addr × Obj)} {σ : L2.St} {z TI TO i1 i2 a b : Addr} {xs ys : List V} {its1 its2 : List Value} {n : Nat} {H : Hp} {Q : VK}
end
section
variable {X : Cx} {e e2 : Expr} {ta : TA} {p p2 pos pos2 : Pos}
end
end PD

namespace PD
open PySem PySem.Spec PyProof.Rows L2
/-! ### d.get(k), d.get(k, z) -/
section
variable {X : Cx} {a b c : Expr} {fa fb fc : Ev → Option D} {apos cpos : Pos}
def get2O (i : Nat) (fk fc : Ev → Option D) (ρ : Ev) : Option D := (fk ρ).bind fun y => (fc ρ).bind fun z => (keyD y).bind fun k => match ρ[i]? with
  | some (.dic ks os) => match olook k ks os with
    | some (.dat d) => some d
    | none => some z
    | _ => none
  | _ => none
theorem pGet2O {i : Nat} {x : Str} {p' : Pos} {fk : Ev → Option D} (hu : X.A.units + 64 < cLine) (hv : PE X (.Name x p') (tVar i)) (hb : PE X b (tP X.K fk)) (hcc : PE X c (tP X.K fc)) (m : M2 X (.Name x p') "get" apos b c cpos := by exact ⟨rfl, rfl, rfl, rfl⟩) : PE X (.Call (.Attribute (.Name x p') "get" apos) [b, c] [] cpos) (tP X.K (get2O i fk fc)) := PE.imp (pe_dget2 (by omega) hv hb hcc m) fun σ H Q h => by
  obtain ⟨M, ρ, fo, fv, d, R, l, e, k⟩ := h
  unfold get2O at e
  cases q : fk ρ with
  | none => rw [q] at e; cases e
  | some y =>
    rw [q, Option.bind_some] at e
    cases q0 : fc ρ with
    | none => rw [q0] at e; cases e
    | some z =>
    rw [q0, Option.bind_some] at e
    cases q2 : keyD y with
    | none => rw [q2] at e; cases e
    | some kk =>
      rw [q2, Option.bind_some] at e
      split at e
      · rename_i ks os eo
        have R' : Rep X.K M H (ρ ++ ([] ++ fo)) (σ ++ ([] ++ fv)) := R
        obtain ⟨w, f1, ft, ew, h1, _, _, _, _⟩ := R'.own l rfl eo
        cases h1 with
        | @dic a kvs _ _ fp ha hk ws =>
          refine ⟨.ref a, ew, a, rfl, .inl ⟨_, .inl ha⟩, M, ρ, fo, fv, y, R, l, q, fun M1 H1 v1 s1 R1 d1 => ⟨M1, ρ, fo, fv, z, R1, l, q0, fun M2 H2 v2 s2 R2 d2 => ?_⟩⟩
          have R1' : Rep X.K M2 H2 (ρ ++ ([] ++ fo)) (σ ++ ([] ++ fv)) := R2
          obtain ⟨w', f1', ft', ew', h1', _, _, _, _⟩ := R1'.own l rfl eo
          rw [ew] at ew'
          cases ew'
          cases h1' with
          | dic ha' hk' ws' =>
            have hv' := olook_val (k := kk) ws'
            rw [hk'] at hv'
            refine ⟨_, by rw [key_of d1 q2]; exact DGet.k ha', ?_⟩
            cases el : olook kk ks os with
            | none =>
              rw [el] at e hv'
              cases e
              rw [show valV _ kk = none from hv']
              exact k M2 H2 v2 (s1.trans s2) R2 d2
            | some o =>
              rw [el] at e hv'
              obtain ⟨v, f, ev, ov⟩ := hv'
              rw [ev]
              cases ov with
              | dat dv => cases e; exact k M2 H2 v (s1.trans s2) R2 dv
              | _ => cases e
      · cases e
end
end PD

namespace PD
open PySem PySem.Spec PyProof.Rows L2
/-! ### C(e, .., k=v, ..) -/
section
variable {X : Cx} {pos p : Pos} {e : Expr} {es : List Expr} {kws : List Keyword} {ga gk : Ev → Option (List D)} {k n : Nat} {f C : Addr} {fd : FuncData} {ps ks : List Str} {x : Str} {g : List Value → List Value → List Value}
end
/-! ### an __init__ with defaults -/
section
variable {P : Program} {w : World} {K : PySem.W.Frag} {mg : Str → Option Value} {base : Heap}
end
end PD

namespace PD
open PySem PySem.Spec PyProof.Rows L2
/-! ### max(l, default=z), min(l, default=z) -/
def foldDf (op : Int → Int → Int) (z : V) : List Int → V
  | [] => z
  | y :: ys => .int (ys.foldl op y)
def foldDD (op : Int → Int → Int) (z : D) : List Int → D
  | [] => z
  | y :: ys => .int (ys.foldl op y)
def rMDf (K : PySem.W.Frag) (op : Int → Int → Int) : List V → List V → Hp → VK → Prop := fun xs zs H Q => ∃ a d ns, xs = [.ref a] ∧ zs = [d] ∧ SqL K H a (ns.map V.int) ∧ Q (foldDf op d ns) H
theorem call_maxDf {X : Cx} (hc : X.calm = true) (hu : X.A.units + 64 < cLine) : CallRK X (.builtin "max") ["default"] (rMDf X.K max) := by
  intro pins s σ H xs zs us ws Q I rx rz h
  obtain ⟨a, d, ns, rfl, rfl, hs, q⟩ := h
  obtain ⟨its, rv, hl, _⟩ := I.list hs
  rw [Vals.ref1 rx]
  obtain ⟨v, rfl, rd⟩ := vals1 rz
  have H0 : PySem.W.HoldAll s.heap its.toArray.toList ns := PySem.W.HoldAll.of_ints rv.ints
  refine PySem.W.max_list_datum_default (d := v) (I.ok.hd hc) hl.isList H0 (by show X.A.units + 1 + _ < _; exact Nat.lt_of_le_of_lt (Nat.add_le_add_left (by decide : (PySem.W.Datum.depth Int) ≤ 63) _) hu) (fun e h' tk k => ?_) fun y ys i w h' tk e hi hh k => ?_
  · subst e
    exact ⟨d, H, I.kept (t' := tk) k, rd, q⟩
  · subst e
    refine ⟨_, H, I.kept (t' := tk) k, ?_, q⟩
    obtain ⟨as, r⟩ := hh
    rw [← PySem.W.maxD_map] at r
    have e2 : PySem.W.maxD (PySem.W.Datum.toD y) (ys.map PySem.W.Datum.toD) = PyData.int (ys.foldl max y) := PySem.W.maxD_ints y ys
    rw [e2] at r
    obtain ⟨t, rfl, _⟩ := reads_int_inv r
    exact ⟨t, rfl⟩
theorem call_minDf {X : Cx} (hc : X.calm = true) (hu : X.A.units + 64 < cLine) : CallRK X (.builtin "min") ["default"] (rMDf X.K min) := by
  intro pins s σ H xs zs us ws Q I rx rz h
  obtain ⟨a, d, ns, rfl, rfl, hs, q⟩ := h
  obtain ⟨its, rv, hl, _⟩ := I.list hs
  rw [Vals.ref1 rx]
  obtain ⟨v, rfl, rd⟩ := vals1 rz
  have H0 : PySem.W.HoldAll s.heap its.toArray.toList ns := PySem.W.HoldAll.of_ints rv.ints
  refine PySem.W.min_list_datum_default (d := v) (I.ok.hd hc) hl.isList H0 (by show X.A.units + 1 + _ < _; exact Nat.lt_of_le_of_lt (Nat.add_le_add_left (by decide : (PySem.W.Datum.depth Int) ≤ 63) _) hu) (fun e h' tk k => ?_) fun y ys i w h' tk e hi hh k => ?_
  · subst e
    exact ⟨d, H, I.kept (t' := tk) k, rd, q⟩
  · subst e
    refine ⟨_, H, I.kept (t' := tk) k, ?_, q⟩
    obtain ⟨as, r⟩ := hh
    rw [← PySem.W.minD_map] at r
    have e2 : PySem.W.minD (PySem.W.Datum.toD y) (ys.map PySem.W.Datum.toD) = PyData.int (ys.foldl min y) := PySem.W.minD_ints y ys
    rw [e2] at r
    obtain ⟨t, rfl, _⟩ := reads_int_inv r
    exact ⟨t, rfl⟩
def mDfD (op : Int → Int → Int) : List D → List D → Option D
  | [.lst ds], [z] => (intsD ds).map (foldDD op z)
  | _, _ => none
def cBK (ga gk : Ev → Option (List D)) (f : List D → List D → Option D) (ρ : Ev) : Option D := (ga ρ).bind fun a => (gk ρ).bind fun b => f a b
section
variable {X : Cx} {pos p : Pos} {e : Expr} {es : List Expr} {kws : List Keyword} {ga gk : Ev → Option (List D)} {x : Str} {id : String} {op : Int → Int → Int}
theorem pMDf (hcr : CallRK X (.builtin id) ["default"] (rMDf X.K op)) (hm : X.mg x = none) (hv : bootBuiltins x = some (.builtin id)) (ha : PA X (e :: es) (tAr X.K ga)) (hkw : PK X kws (tAr X.K gk)) (hg : Gl X x := by rfl) (hn : x ≠ "__name__" := by decide) (hdb : (x == ("__debug__" : Str)) = false := by decide)
    (he : backTo pos (starEach (e :: es) X.env) = (false, eval e X.env) :: backTo pos (starEach es X.env) := by rfl) (hpl : (backTo pos (starEach (e :: es) X.env)).any (·.1) = false := by rfl)
    (hall : (backToKw pos (keywordEach kws X.env)).all (·.1.isSome) = true := by rfl) (hnone : (backToKw pos (keywordEach kws X.env)).any (·.1.isNone) = false := by rfl) (hks : (backToKw pos (keywordEach kws X.env)).filterMap (·.1) = (["default"] : List Str) := by rfl) :
    PE X (.Call (.Name x p) (e :: es) kws pos) (tP X.K (cBK ga gk (mDfD op))) := PE.imp (pe_callBK hcr hg hm hv ha hkw hn hdb he hpl hall hnone hks) fun σ H Q ⟨M, ρ, fo, fv, d, R, l, e, k⟩ => by
  unfold cBK at e
  cases q : ga ρ with
  | none => rw [q] at e; cases e
  | some as =>
    rw [q, Option.bind_some] at e
    cases q2 : gk ρ with
    | none => rw [q2] at e; cases e
    | some bs =>
      rw [q2, Option.bind_some] at e
      unfold mDfD at e
      split at e
      · rename_i ds z
        cases q3 : intsD ds with
        | none => rw [q3] at e; cases e
        | some ns =>
          rw [q3] at e
          cases e
          refine ⟨M, ρ, fo, fv, _, R, l, q, fun M1 H1 vs s1 R1 d1 => ⟨M1, ρ, fo, fv, _, R1, l, q2, fun M2 H2 zs s2 R2 d2 => ?_⟩⟩
          have d1' := d1.mono s2
          cases d1' with
          | cons a1 an =>
            cases an
            cases d2 with
            | cons dz dn =>
              cases dn
              cases a1 with
              | lst hs hd =>
                have := intsD_vs q3 hd
                subst this
                refine ⟨_, _, ns, rfl, rfl, seqX R2.same hs, ?_⟩
                cases ns with
                | nil => exact k M2 H2 _ (s1.trans s2) R2 dz
                | cons y ys => exact k M2 H2 _ (s1.trans s2) R2 (.int _)
      · cases e
end
end PD

namespace PD
open PySem PySem.Spec PyProof.Rows L2
/-! ### a zip over any two drawers, its last tuple still out -/
section
variable {prog : Program} {w : World} {A : Around} {E : Value → Shared → Prop} {s : Shared} {z TI TO T i1 i2 : Addr} {fp1 fp2 : List Addr} {n1 n2 i : Nat} {P1 P2 : Nat → Value → Prop} {St1 St2 : Nat → Heap → Prop} {f : Bool} {oT : Obj}
end
end PD

namespace PD
open PySem PySem.Spec PyProof.Rows L2
/-! ### dict(zip(t, u)) of two tuples -/
section
variable {X : Cx} {e e2 : Expr} {ta : TA} {p p2 pos pos2 : Pos}
end
section
variable {X : Cx} {e e2 : Expr} {p p2 pos pos2 : Pos}
end
end PD

namespace PD
open PySem PySem.Spec PyProof.Rows L2
/-! ### {k: v for .. in ..} -/
theorem Rep.putAt {K : PySem.W.Frag} {M H : Hp} {ρ fo : List O} {σ fv : List (Option V)} (R : Rep K M H (ρ ++ fo) (σ ++ fv)) (l : σ.length = ρ.length) {i : Nat} {ks : List Key} {os : List O} (eo : ρ[i]? = some (.dic ks os)) :
    ∃ a kvs, σ[i]? = some (some (.ref a)) ∧ H a = some (.dK kvs) ∧ kvs.length = os.length ∧ ∀ k v d, Dv K M v d → Rep K M (upd H a (.dK (putK kvs k v))) (ρ.set i (.dic (putKD k d ks os).1 (putKD k d ks os).2) ++ fo) (σ ++ fv) := by
  have R2' : Rep K M H (ρ ++ ([] ++ fo)) (σ ++ ([] ++ fv)) := R
  obtain ⟨w', f1', ft', ew', h1', h2', nd, nm, up⟩ := R2'.own l rfl eo
  cases h2'
  cases h1' with
  | @dic a kvs' _ _ fp' ha' hk' ws' =>
    have hlk : kvs'.length = os.length := by rw [← ws'.length, List.length_map]
    refine ⟨a, kvs', ew', ha', hlk, fun kk v d dv => ?_⟩
    have hd : ∀ b ∈ fp', b ≠ a := fun b hb z => by
      subst z
      rw [List.nodup_iff_count] at nd
      have := nd b
      simp only [List.append_nil, List.count_cons, beq_self_eq_true, if_true] at this
      have := List.count_pos_iff.mpr hb
      omega
    have ma : M a = none := nm a (by simp)
    have sm : Same M (upd H a (.dK (putK kvs' kk v))) := fun b u z => by
      rw [upd_ne (fun y => by subst y; rw [ma] at z; cases z)]; exact R.same b u z
    obtain ⟨fp2, w2, c2⟩ := putKD_ows (k := kk) dv (ws'.frame (Same.refl _) (H' := upd H a (.dK (putK kvs' kk v))) fun b hb => upd_ne (hd b hb))
    refine up M _ _ (a :: fp2) (Same.refl _) sm (fun b hb _ => upd_ne fun z => hb (by simp [z])) (.dic upd_same ?_ ?_) (fun b => ?_) fun b hb _ => hb
    · rw [putKD_keys (d := d) (os := os), hk']
    · rw [hk'] at w2; exact w2
    · have := c2 b
      simp only [List.count_cons, List.count_nil] at this ⊢
      omega
section
variable {X : Cx} {pos : Pos} {tg iter kx vx : Expr} {ifs : List Expr} {scope : Scope} {own : List (Str × Nat)} {fi : Ev → Option (List D)} {is kn : List Nat} {g : D → Ev → Option Ev} {t : Ev → Option Bool} {fk fv : Ev → Option D}
end
end PD

namespace PD
open PySem PySem.Spec PyProof.Rows L2
/-! ### a call as a statement -/
section
variable {X : Cx} {W : WX} {J : List Nat} {pos : Pos} {e : Expr} {f : Ev → Option D}
end
end PD

namespace PD
open PySem PySem.Spec PyProof.Rows L2
/-! ### x = {k: v for .. in ..} on one line -/
section
variable {X : Cx} {elt tg iter kx vx : Expr} {ifs : List Expr} {scope : Scope} {own : List (Str × Nat)} {pos spos py : Pos}
variable {W : WX} {J : List Nat} {fi : Ev → Option (List D)} {is kn : List Nat} {g : D → Ev → Option Ev} {t : Ev → Option Bool} {fk fv : Ev → Option D}
end
/-! ### a, b, c = e, f, g -/
section
variable {X : Cx} {W : WX} {J : List Nat} {a b c : Expr} {pos px py pz pt pt2 : Pos} {ga : Ev → Option (List D)} {i j m kt k2 : Nat} {x y z : Str}
end
end PD

namespace PD
open PySem PySem.Spec PyProof.Rows L2
/-! ### xs[::-1], a new list -/
section
variable {X : Cx} {pos : Pos} {e : Expr} {fa : Ev → Option D}
end
end PD

namespace PD
open PySem PySem.Spec PyProof.Rows L2
/-! ### list(d): the keys of a dict -/
def keyData : Key → D
  | .inl i => .int i
  | .inr x => .str x
def keysO : List D → Option O
  | [.dic ks _] => some (.lst ((ks.map keyData).map .dat))
  | _ => none
theorem keyData_dvs {K : PySem.W.Frag} {M : Hp} : ∀ ks : List Key, Dvs K M (ks.map kV) (ks.map keyData)
  | [] => .nil
  | .inl i :: ks => .cons (.int i) (keyData_dvs ks)
  | .inr x :: ks => .cons (.str x) (keyData_dvs ks)
/-- list(d) of a dict that may be frozen -/
theorem list_keys {X : Cx} (hc : X.calm = true) : CallR X (.type "list") (fun xs H Q => ∃ p kvs, xs = [.ref p] ∧ Rd H p (.dK kvs) ∧ ∀ q, H q = none → Q (.ref q) (upd H q (.lst ((kvs.map (·.1)).map kV)))) := by
  intro pins s σ H xs us Q I r ⟨p, kvs, e, hk, q⟩
  subst e
  rw [Vals.ref1 r]
  obtain ⟨z, lo, vs, rk, hd⟩ := dk_rd I.hok hk
  obtain ⟨ep, hat⟩ := hd.dictAt
  have hl : kvs.length = vs.length := Paired.length rk
  refine PySem.W.kdl_call (PySem.W.kdl_dict (knd := mixKind X.prog X.w) (kvs := vs) (ep := ep) lo) (I.ok.hd hc) hat (by rw [← hl]; exact z) fun h' tk acc' c' hkeep hS hacc => ?_
  have hval : Vals ((kvs.map (·.1)).map kV) acc'.toList := by
    refine vals_of_at (by rw [List.length_map, List.length_map, Array.length_toList]; exact hl.trans hacc.1.symm) fun j x w h1 h2 => ?_
    obtain ⟨k, y, hky, hi⟩ := hacc.2 j w (by rw [← Array.getElem?_toList]; exact h2)
    rw [KV.keys rk, List.getElem?_map, List.getElem?_map, hky] at h1
    cases h1
    exact keyIs_rel hi
  exact ⟨.ref s.heap.objs.size, _, I.laid hkeep (Nat.le_refl _) (show ObjOk X.prog X.w _ _ _ (.lst ((kvs.map (·.1)).map kV)) from ⟨by rw [List.length_map, List.length_map]; exact z, acc'.toList, c', hval, by rw [Array.toArray_toList]; exact hS⟩), rfl, q _ (I.hok.fresh (Nat.le_refl _))⟩
theorem cListD {X : Cx} (hc : X.calm = true) : CallR X (.type "list") (rOs X.K keysO) := CallR.imp (list_keys hc) fun xs H Q ⟨M, fo, fv, ds, o, R, dv, e, k⟩ => by
  unfold keysO at e
  split at e
  · cases e
    cases dv with
    | cons d1 dn =>
      cases dn
      cases d1 with
      | dic ha hk hd =>
        subst hk
        exact ⟨_, _, rfl, Rd.up R.same ha, fun p hp => k M _ _ (Same.refl _) (Rep.newL (l := []) (lv := []) R rfl hp (keyData_dvs _))⟩
  · cases e
end PD

/-! a def to which things of one's own are given away (they may be its result) -/
namespace PD
open PySem PySem.Spec L2 L2H
section
variable {P : Program} {w : World} {K : PySem.W.Frag} {mg : Str → Option Value} {base : Heap}
end
section
variable {X : Cx} {k n : Nat} {f : Addr} {fd : FuncData} {ps : List Str} {x : Str} {p pos : Pos} {e : Expr} {es : List Expr} {g : Ev → Option (List O × Ev)}
end
/-! ### is, is not: two truth values -/
/-! ### what stands at a place of a thing of one's own, if it is data -/
end PD

/-! expressions that may raise, anywhere within an expression -/
namespace PD
open PySem PySem.Spec L2 L2H
inductive Rd where
  | ok (d : D) | ex (x : Exn)
inductive Rs where
  | ok (ds : List D) | ex (x : Exn)
def e1 (f : Ev → Option Rd) (h : D → Option D) (ρ : Ev) : Option Rd := (f ρ).bind fun r => match r with
  | .ok d => (h d).map .ok
  | .ex x => some (.ex x)
def e2 (f g : Ev → Option Rd) (h : D → D → Option D) (ρ : Ev) : Option Rd := (f ρ).bind fun r => match r with
  | .ok d => (g ρ).bind fun r2 => match r2 with
    | .ok e => (h d e).map .ok
    | .ex x => some (.ex x)
  | .ex x => some (.ex x)
section
variable {X : Cx} {W : WX} {J : List Nat} {a b e : Expr} {es : List Expr} {pos p : Pos} {f g : Ev → Option Rd} {gs : Ev → Option Rs}
end
section
variable {X : Cx} {W : WX} {J : List Nat} {k n : Nat} {f : Addr} {fd : FuncData} {ps : List Str} {x : Str} {p pos : Pos} {e : Expr} {es : List Expr} {ga : Ev → Option Rs}
end
end PD

/-! methods that may raise; methods of what may raise -/
namespace PD
open PySem PySem.Spec L2 L2H
section
variable {X : Cx} {W : WX} {k n : Nat} {f C : Addr} {fd : FuncData} {ps : List Str} {nm : Str} {o e : Expr} {es : List Expr} {apos pos : Pos} {fo : Ev → Option Rd} {ga : Ev → Option Rs} {pl : Sem Bool}
end
end PD

/-! methods that change their object, a thing of one's own -/
namespace PD
open PySem PySem.Spec L2 L2H
section
variable {K : PySem.W.Frag} {M H : Hp}
end
section
variable {X : Cx} {W : WX} {J : List Nat} {k n i : Nat} {f C : Addr} {fd : FuncData} {ps : List Str} {nm : Str} {x : Str} {e : Expr} {es : List Expr} {p apos pos : Pos} {ga : Ev → Option (List D)} {pl : Sem Bool} {m : List O → Option (O × List O)}
end
end PD

/-! defs with defaults that may raise; their calls -/
namespace PD
open PySem PySem.Spec L2 L2H
section
variable {P : Program} {w : World} {K : PySem.W.Frag} {mg : Str → Option Value} {base : Heap}
end
/-! ### the calls -/
section
variable {X : Cx} {W : WX} {k n j : Nat} {f : Addr} {fd : FuncData} {ps ks : List Str} {x : Str} {p pos : Pos} {e : Expr} {es : List Expr} {kws : List Keyword} {ga : Ev → Option Rs} {m : List D → Option Rz} {dvs : List V} {dds : List D}
end
end PD

/-! defs with a keyword-only default that raise nothing; their calls with the default left out -/
namespace PD
open PySem PySem.Spec L2 L2H
section
variable {P : Program} {w : World} {K : PySem.W.Frag} {mg : Str → Option Value} {base : Heap}
end
section
variable {X : Cx} {k n j : Nat} {f : Addr} {fd : FuncData} {ps ks : List Str} {x : Str} {p pos : Pos} {e : Expr} {es : List Expr} {kws : List Keyword} {ga gk : Ev → Option (List D)} {m : List D → Option D} {dvs : List V} {dds : List D}
end
end PD

/-! dicts whose keys are tuples of any depth: d[k], k in d, d[k] = v -/
namespace PD
open PySem PySem.Spec PyProof.Rows L2
mutual
/-- the key that a thing is -/
def nkey : D → Option NestedKey
  | .non => some .none
  | .bl b => some (.num (if b then 1 else 0))
  | .int i => some (.num i)
  | .str x => some (.text x)
  | .tup ds => (nkeys ds).map .tup
  | _ => none
def nkeys : List D → Option (List NestedKey)
  | [] => some []
  | d :: ds => (nkey d).bind fun k => (nkeys ds).map (k :: ·)
end
/-- a tuple that may be a key -/
def tkey : D → Option NestedKey
  | .tup ds => (nkeys ds).bind fun ks => if (NestedKey.tup ks).depth ≤ 8 then some (.tup ks) else none
  | _ => none
section
variable {K : PySem.W.Frag} {M : Hp}
mutual
theorem nk_of : ∀ {v : V} {d : D} {k : NestedKey}, Dv K M v d → nkey d = some k → NK K M v k
  | _, .non, _, .non, e => by cases e; exact .non
  | _, .bl b, _, .bl _, e => by cases e; exact .bl b
  | _, .int i, _, .int _, e => by cases e; exact .int i
  | _, .str x, _, .str _, e => by cases e; exact .str x
  | _, .tup ds, _, .tup h hs, e => by
    unfold nkey at e
    obtain ⟨ks, e1, rfl⟩ := Option.map_eq_some_iff.mp e
    exact .tup h (nks_of hs e1)
theorem nks_of : ∀ {vs : List V} {ds : List D} {ks : List NestedKey}, Dvs K M vs ds → nkeys ds = some ks → NKs K M vs ks
  | _, [], _, .nil, e => by cases e; exact .nil
  | _, d :: ds, _, .cons h hs, e => by
    unfold nkeys at e
    cases q : nkey d with
    | none => rw [q] at e; cases e
    | some k =>
      rw [q, Option.bind_some] at e
      obtain ⟨ks, e1, rfl⟩ := Option.map_eq_some_iff.mp e
      exact .cons (nk_of h q) (nks_of hs e1)
end
theorem tk_of {v : V} {d : D} {k : NestedKey} (h : Dv K M v d) (e : tkey d = some k) : ∃ b, v = .ref b ∧ NK K M (.ref b) k ∧ k.depth ≤ 8 := by
  cases h with
  | tup h hs =>
    rename_i a xs ds
    have e : ((nkeys ds).bind fun ks => if (NestedKey.tup ks).depth ≤ 8 then some (NestedKey.tup ks) else none) = some k := e
    cases q : nkeys ds with
    | none => rw [q] at e; cases e
    | some ks =>
      rw [q, Option.bind_some] at e
      split at e
      · rename_i hd
        cases e
        exact ⟨a, rfl, .tup h (nks_of hs q), hd⟩
      · cases e
  | _ => cases e
end
section
variable {X : Cx} {pins : List (Addr × Obj)} {σ : L2.St} {H : Hp} {s : Shared}
mutual
theorem NK.isk (I : Inv X pins σ H s) : ∀ {v : V} {k : NestedKey} {u : Value}, NK X.K H v k → RelV v u → NestedIs s.heap k u
  | _, _, u, .non, r => by rw [show u = Value.none from r]; exact .none
  | _, _, u, .bl b, r => by rw [show u = Value.bool b from r]; exact .bool rfl
  | _, _, u, .int i, r => by obtain ⟨t, rfl⟩ := (show ∃ t, u = Value.int i t from r); exact .int i t
  | _, _, u, .str x, r => by obtain ⟨t, rfl⟩ := (show ∃ t, u = Value.str x t from r); exact .text x t
  | _, _, u, .tup (a := a) h hs, r => by
    rw [show u = Value.ref a from r]
    obtain ⟨its, rv, ⟨o, ho, hc, n, hd⟩, _⟩ := I.tuple h
    exact .tup ho hc hd (NKs.isk I hs (by simpa using rv))
theorem NKs.isk (I : Inv X pins σ H s) : ∀ {vs : List V} {ks : List NestedKey} {us : List Value}, NKs X.K H vs ks → Vals vs us → NestedAll s.heap ks us
  | _, _, _, .nil, .nil => .nil
  | _, _, _, .cons h hs, .cons r rs => .cons (NK.isk I h r) (NKs.isk I hs rs)
end
end
/-! ### what stands at a key -/
def tlook (k : NestedKey) : List NestedKey → List D → Option D
  | k' :: ks, d :: ds => if k' = k then some d else tlook k ks ds
  | _, _ => none
theorem atKey_cons (x : TE3) (xs : List TE3) (k : NestedKey) : atKey (x :: xs) k = if x.1 = k then some x.2 else atKey xs k := by
  unfold atKey
  rw [List.find?_cons]
  by_cases h : x.1 = k
  · simp [h]
  · simp [h]
theorem tlook_val {K : PySem.W.Frag} {M : Hp} {k : NestedKey} : ∀ {xs : List TE3} {vs : List V} {ds : List D}, Vals vs (xs.map (·.2.2)) → Dvs K M vs ds → match tlook k (xs.map (·.1)) ds with
    | some d => ∃ p v, atKey xs k = some p ∧ RelV v p.2 ∧ Dv K M v d
    | none => atKey xs k = none
  | [], _, _, .nil, .nil => rfl
  | x :: xs, _, _, .cons (a := v) r rs, .cons (d := d) h hs => by
    have ih := tlook_val (k := k) rs hs
    show match (if x.1 = k then some d else tlook k (xs.map (·.1)) _) with | some d => _ | none => _
    rw [atKey_cons]
    by_cases e : x.1 = k
    · rw [if_pos e, if_pos e]; exact ⟨x.2, v, rfl, r, h⟩
    · rw [if_neg e, if_neg e]; exact ih
/-! ### the rules' readings -/
/-- the tuple dict at a, and the tuple that is asked for -/
structure TAt (X : Cx) (H : Hp) (a b : Addr) (k : NestedKey) (xs : List TE3) : Prop where
  at_ : H a = some (TDo X.w a xs)
  ok : ∃ ks vs, TDk X.K H a xs ks vs
  key : NK X.K H (.ref b) k
  deep : k.depth ≤ 8
section
variable {X : Cx} {pins : List (Addr × Obj)} {σ : L2.St} {H : Hp} {s : Shared} {a b : Addr} {k : NestedKey} {xs : List TE3} {A : Around} {E : Value → Shared → Prop}
theorem TAt.is (I : Inv X pins σ H s) (t : TAt X H a b k xs) : (nestedKind X.prog X.w).is s.heap k b := ⟨NK.isk I t.key rfl, t.deep⟩
end
end PD

/-! dicts whose keys are tuples: the rules of the layer -/
namespace PD
open PySem PySem.Spec PyProof.Rows L2
/-! ### k in d, k not in d -/
section
variable {X : Cx} {W : World}
/-! ### d[k] -/
end
end PD

/-! dicts whose keys are tuples: made, written into -/
namespace PD
open PySem PySem.Spec PyProof.Rows L2
section
variable {K : PySem.W.Frag} {M H : Hp}
theorem TDk.zero {a : Addr} (h : (a == sysModules) = false) : TDk K M a [] [] [] := ⟨Nat.zero_le _, h, List.nodup_nil, rfl, (fun x hx => nomatch hx), .nil⟩
def putT (k : NestedKey) (d : D) (ks : List NestedKey) (ds : List D) : List NestedKey × List D := if (tlook k ks ds).isSome then (ks, List.zipWith (fun k' o => if k' = k then d else o) ks ds) else (ks ++ [k], ds ++ [d])
theorem zip_put {k : NestedKey} {r : Value} {v : V} {d : D} (rv : RelV v r) (dv : Dv K M v d) : ∀ {xs : List TE3} {vs : List V} {ds : List D}, Vals vs (xs.map (·.2.2)) → Dvs K M vs ds →
    ∃ vs', Vals vs' ((xs.map (putAt k r)).map (·.2.2)) ∧ Dvs K M vs' (List.zipWith (fun k' o => if k' = k then d else o) (xs.map (·.1)) ds)
  | [], _, _, .nil, .nil => ⟨[], .nil, .nil⟩
  | x :: xs, _, _, .cons (a := v0) r0 rs, .cons h hs => by
    obtain ⟨vs', a, b⟩ := zip_put rv dv rs hs
    by_cases e : x.1 = k
    · refine ⟨v :: vs', .cons ?_ a, ?_⟩
      · unfold putAt; rw [if_pos e]; exact rv
      · simp only [List.map_cons, List.zipWith_cons_cons]
        rw [if_pos e]; exact .cons dv b
    · refine ⟨v0 :: vs', .cons ?_ a, ?_⟩
      · unfold putAt; rw [if_neg e]; exact r0
      · simp only [List.map_cons, List.zipWith_cons_cons]
        rw [if_neg e]; exact .cons h b
theorem putAt_key (k : NestedKey) (r : Value) (x : TE3) : (putAt k r x).1 = x.1 ∧ (putAt k r x).2.1 = x.2.1 := by
  unfold putAt
  split <;> exact ⟨rfl, rfl⟩
theorem TDk.put {a b : Addr} {xs : List TE3} {ks : List NestedKey} {vs : List V} {ds : List D} {k : NestedKey} {r : Value} {v : V} {d : D} (t : TDk K M a xs ks vs) (hv : Dvs K M vs ds) (nk : NK K M (.ref b) k) (dp : k.depth ≤ 8) (rv : RelV v r) (dv : Dv K M v d) (hl : ds.length < sizeLine) :
    ∃ vs', TDk K M a (storedH xs k b r) (putT k d ks ds).1 vs' ∧ Dvs K M vs' (putT k d ks ds).2 := by
  have hl' : xs.length < sizeLine := by
    have h1 := t.vals.length
    have h2 := hv.length
    rw [List.length_map] at h1
    omega
  have hlook := tlook_val (k := k) t.vals hv
  rw [t.eq] at hlook
  unfold putT
  cases q : tlook k ks ds with
  | some d0 =>
    rw [q] at hlook
    obtain ⟨p, _, hp, _⟩ := hlook
    rw [storedH_old hp]
    obtain ⟨vs', a1, a2⟩ := zip_put (k := k) rv dv t.vals hv
    rw [t.eq] at a2
    have ek : (xs.map (putAt k r)).map (·.1) = xs.map (·.1) := by
      rw [List.map_map]
      exact List.map_congr_left fun x _ => (putAt_key k r x).1
    refine ⟨vs', ⟨by rw [List.length_map]; exact t.few, t.nsys, by rw [ek]; exact t.nd, by rw [ek]; exact t.eq, fun x hx => ?_, a1⟩, a2⟩
    obtain ⟨y, hy, rfl⟩ := List.mem_map.mp hx
    have := putAt_key k r y
    rw [this.1, this.2]
    exact t.keys y hy
  | none =>
    rw [q] at hlook
    rw [storedH_new (show atKey xs k = none from hlook)]
    have hk : k ∉ xs.map (·.1) := fun z => by
      obtain ⟨y, hy, e⟩ := List.mem_map.mp z
      have : (atKey xs k).isSome = true := by
        unfold atKey
        rw [Option.isSome_map, List.find?_isSome]
        exact ⟨y, hy, by simpa using e⟩
      rw [show atKey xs k = none from hlook] at this
      cases this
    refine ⟨vs ++ [v], ⟨by simp; omega, t.nsys, ?_, by rw [List.map_append, t.eq]; rfl, fun x hx => ?_, by rw [List.map_append]; exact t.vals.append (.cons rv .nil)⟩, hv.append (.cons dv .nil)⟩
    · rw [List.map_append]
      rw [List.nodup_append]
      exact ⟨t.nd, by simp, fun x hx y hy e => hk (by simp at hy; rw [← hy, ← e]; exact hx)⟩
    · rcases List.mem_append.mp hx with z | z
      · exact t.keys x z
      · rcases List.mem_singleton.mp z with rfl
        exact ⟨nk, dp⟩
/-- an own dict's entry is put, in the middle of the roots -/
theorem Rep.putT {l r : List O} {lv rv : List (Option V)} {w : World} {a b : Addr} {ks : List NestedKey} {ds : List D} {k : NestedKey} {rr : Value} {v : V} {d : D} {xs : List TE3} (R : Rep K M H (l ++ .dicT w ks ds :: r) (lv ++ some (.ref a) :: rv)) (e : lv.length = l.length)
    (hx : H a = some (TDo w a xs)) (hk : ∃ vs, TDk K M a xs ks vs ∧ Dvs K M vs ds) (nk : NK K M (.ref b) k) (dp : k.depth ≤ 8) (rv' : RelV v rr) (dv : Dv K M v d) (hl : ds.length < sizeLine) :
    Rep K M (upd H a (TDo w a (storedH xs k b rr))) (l ++ .dicT w (PD.putT k d ks ds).1 (PD.putT k d ks ds).2 :: r) (lv ++ some (.ref a) :: rv) := by
  obtain ⟨fa, f, fb, w1, w2, w3, nd, nm⟩ := R.mid e
  obtain ⟨vs, t, hv⟩ := hk
  have hf : f = [a] := by
    generalize hz : O.dicT w ks ds = z at w2
    cases w2 <;> cases hz
    rfl
  subst hf
  have ma : M a = none := nm a (by simp)
  have na : a ∉ fa ++ fb := fun z => by
    rw [List.nodup_append] at nd
    obtain ⟨n1, n2, n3⟩ := nd
    rw [List.nodup_append] at n2
    rcases List.mem_append.mp z with z | z
    · exact n3 a z a (by simp) rfl
    · exact n2.2.2 a (by simp) a z rfl
  obtain ⟨vs', t', hv'⟩ := t.put hv nk dp rv' dv hl
  have n1 : ∀ c ∈ fa, (upd H a (TDo w a (storedH xs k b rr))) c = H c := fun c hc => upd_ne fun z => na (by subst z; exact List.mem_append_left _ hc)
  have n3 : ∀ c ∈ fb, (upd H a (TDo w a (storedH xs k b rr))) c = H c := fun c hc => upd_ne fun z => na (by subst z; exact List.mem_append_right _ hc)
  refine ⟨fun c u q => ?_, fa ++ ([a] ++ fb), (w1.frame (Same.refl _) n1).append (.cons (.dicT upd_same t' hv') (w3.frame (Same.refl _) n3)), nd, nm⟩
  rw [upd_ne (fun z => by subst z; rw [ma] at q; cases q)]
  exact R.same c u q
end
/-! ### {} -/
section
variable {X : Cx} {W : World} {J : List Nat} {WW : WX}
/-! ### {k: v} -/
/-! ### d[k] = v, d in a slot -/
end
end PD

/-! {k: v for .. in ..} whose keys are tuples -/
namespace PD
open PySem PySem.Spec PyProof.Rows L2
section
variable {X : Cx} {pos : Pos} {tg iter kx vx : Expr} {ifs : List Expr} {scope : Scope} {own : List (Str × Nat)} {wi : TI} {g : TG} {tt : TT} {tk tv : TE}
/-! ### the mirror -/
def tput1 (a : List NestedKey × List D) (p : NestedKey × D) : List NestedKey × List D := putT p.1 p.2 a.1 a.2
def tfold (ps : List (NestedKey × D)) : List NestedKey × List D := ps.foldl tput1 ([], [])
theorem tfold_snoc (ps : List (NestedKey × D)) (p : NestedKey × D) : tfold (ps ++ [p]) = putT p.1 p.2 (tfold ps).1 (tfold ps).2 := by unfold tfold; rw [List.foldl_append]; rfl
theorem putT_len (k : NestedKey) (d : D) (ks : List NestedKey) (ds : List D) : (putT k d ks ds).2.length ≤ ds.length + 1 := by
  unfold putT
  split
  · simp only [List.length_zipWith]; omega
  · simp
theorem tfold_len : ∀ ps : List (NestedKey × D), (tfold ps).2.length ≤ ps.length := fun ps => by
  have : ∀ (ps : List (NestedKey × D)) (a : List NestedKey × List D), (ps.foldl tput1 a).2.length ≤ a.2.length + ps.length := fun ps => by
    induction ps with
    | nil => exact fun a => Nat.le_refl _
    | cons p ps ih =>
      intro a
      have h1 := ih (tput1 a p)
      have h2 := putT_len p.1 p.2 a.1 a.2
      show (ps.foldl tput1 (tput1 a p)).2.length ≤ a.2.length + (ps.length + 1)
      have h3 : (tput1 a p).2.length ≤ a.2.length + 1 := h2
      omega
  have := this ps ([], [])
  unfold tfold; simpa using this
end
section
variable {X : Cx} {pos : Pos} {tg iter kx vx : Expr} {ifs : List Expr} {scope : Scope} {own : List (Str × Nat)} {fi : Ev → Option (List D)} {is kn : List Nat} {g : D → Ev → Option Ev} {t : Ev → Option Bool} {fk fv : Ev → Option D}
end
end PD

namespace PD
open PySem PySem.Spec PyProof.Rows L2
/-! ### x = {k: v for .. in ..} whose keys are tuples, on one line -/
section
variable {X : Cx} {elt tg iter kx vx : Expr} {ifs : List Expr} {scope : Scope} {own : List (Str × Nat)} {pos spos py : Pos}
variable {WW : WX} {W : World} {J : List Nat} {fi : Ev → Option (List D)} {is kn : List Nat} {g : D → Ev → Option Ev} {t : Ev → Option Bool} {fk fv : Ev → Option D}
end
/-! ### x in l, items of any depth -/
section
variable {X : Cx}
end
end PD

namespace PD
open PySem PySem.Spec PyProof.Rows L2 RZ
/-! ### for x, y in zip(a, b): two lists or two tuples -/
section
variable {X : Cx} {pos p tpos : Pos} {e e2 : Expr} {elts : List Expr} {kk : Nat} {ga : Ev → Option (List D)}
end
end PD

/-! t[lo:hi] of a tuple: the whole of it is t itself -/
namespace PD
open PySem PySem.Spec L2
section
variable {X : Cx}
end
end PD

/-! pairs of things of one's own: taken apart, one of them taken; own things out of a def with a keyword-only default -/
namespace PD
open PySem PySem.Spec L2 L2H
section
variable {K : PySem.W.Frag} {M H : Hp}
end
section
variable {X : Cx} {W : WX} {J : List Nat} {pos p1 p2 p3 : Pos} {e : Expr} {f : Ev → Option O}
end
section
variable {X : Cx} {k j nk : Nat} {f : Addr} {fd : FuncData} {ps ks : List Str} {x : Str} {p pos : Pos} {kws : List Keyword} {gk : Ev → Option (List D)} {m : List D → Option O} {dvs : List V} {dds : List D}
end
end PD

/-! lists and tuples in which a part may raise; calls by keyword with a told number of keywords -/
namespace PD
open PySem PySem.Spec L2 L2H
section
variable {X : Cx} {W : WX} {k n j nk : Nat} {f : Addr} {fd : FuncData} {ps ks : List Str} {x : Str} {p pos : Pos} {e : Expr} {es : List Expr} {kws : List Keyword} {gs : Ev → Option Rs} {m : List D → Option Rz} {dvs : List V} {dds : List D}
end
end PD

/-! places: a field of an object of one's own; d[k] = v at a place, keys that are tuples -/
namespace PD
open PySem PySem.Spec PyProof.Rows L2
section
variable {X : Cx} {W : World} {WW : WX} {J : List Nat} {i : Nat} {pf : Ev → Option (List Nat)} {C : Addr} {a o b value : Expr} {pos pp : Pos} {fk fvl : Ev → Option D}
end
end PD

/-! C(e, ..), whose __init__ has a keyword-only default left out -/
namespace PD
open PySem PySem.Spec L2 L2H
section
variable {X : Cx} {k n j : Nat} {f C : Addr} {fd : FuncData} {ps : List Str} {x : Str} {p pos : Pos} {e : Expr} {es : List Expr} {ga : Ev → Option (List D)} {dvs : List V} {dds : List D}
end
end PD

/-! f(..) if c else g(..): things of one's own -/
namespace PD
open PySem PySem.Spec L2
section
variable {X : Cx} {c a b : Expr} {pos : Pos} {fc : Ev → Option Bool} {f g : Ev → Option O}
end
end PD

/-! len(d) of a dict whose keys are tuples; l.index(x) at any depth; max(t) of a tuple of ints -/
namespace PD
open PySem PySem.Spec PyProof.Rows L2
section
variable {X : Cx} {W : World}
end
section
variable {X : Cx} {o e : Expr} {apos pos : Pos} {fa fb : Ev → Option D}
/-! ### xs.index(x), items of any depth -/
end
/-! ### max(t), t a tuple of ints -/
section
open Sem (wp)
variable {prog : Program} {w : World} {A : Around} {E : Value → Shared → Prop} {s : Shared} {l : Addr}
end
section
variable {X : Cx}
end
end PD

/-! for x, y in zip(a, b): each of the two a list or a tuple -/
namespace PD
open PySem PySem.Spec PyProof.Rows L2 RZ
def SqB (t : Bool) (K : PySem.W.Frag) (H : Hp) (a : Addr) (xs : List V) : Prop := match t with
  | true => SqT K H a xs
  | false => SqL K H a xs
def ItB (t : Bool) (h : Heap) (i l : Addr) (n : Nat) : Prop := match t with
  | true => h.IsTupleIter i l n
  | false => h.IsListIter i l n
def HoB (t : Bool) (h : Heap) (l : Addr) (its : Array Value) : Prop := match t with
  | true => h.IsTuple l its
  | false => h.IsList l its
def obB (t : Bool) (l : Addr) : Obj := match t with
  | true => { cls := .type "tuple_iterator", data := .fields #[.ref l, .int 0 0] }
  | false => { cls := .type "list_iterator", data := .fields #[.ref l, .int 0 0] }
theorem ItB.at {t : Bool} {h h' : Heap} {i l : Addr} {n : Nat} (x : ItB t h i l n) (e : ∀ o, h.get? i = some o → h'.get? i = some o) : ItB t h' i l n := by
  cases t with
  | true => exact Heap.IsTupleIter.at x e
  | false => exact Heap.IsListIter.at x e
theorem ItB.obj {t : Bool} {h : Heap} {i l : Addr} {n : Nat} (x : ItB t h i l n) : ∃ o, h.get? i = some o ∧ ∀ v, o.data ≠ .cell v := by
  cases t with
  | true =>
    obtain ⟨o, e, _, d⟩ := (show h.IsTupleIter i l n from x)
    exact ⟨o, e, fun v q => by rw [d] at q; cases q⟩
  | false =>
    obtain ⟨o, e, _, d⟩ := (show h.IsListIter i l n from x)
    exact ⟨o, e, fun v q => by rw [d] at q; cases q⟩
theorem ItB.zero {t : Bool} {h : Heap} {i l : Addr} (e : h.get? i = some (obB t l)) : ItB t h i l 0 := by
  cases t with
  | true => exact ⟨_, e, rfl, rfl⟩
  | false => exact ⟨_, e, rfl, rfl⟩
theorem HoB.lt {t : Bool} {h : Heap} {l : Addr} {its : Array Value} (x : HoB t h l its) : l < h.objs.size := by
  cases t with
  | true => obtain ⟨_, e, _⟩ := (show h.IsTuple l its from x); exact Heap.lt_size e
  | false => obtain ⟨_, e, _⟩ := (show h.IsList l its from x); exact Heap.lt_size e
section
variable {X : Cx} {pins : List (Addr × Obj)} {σ : L2.St} {H : Hp} {s : Shared} {a : Addr} {xs ys : List V}
end
theorem SqB.mono {t : Bool} {K : PySem.W.Frag} {H H' : Hp} {a : Addr} {xs : List V} (s : Same H H') (h : SqB t K H a xs) : SqB t K H' a xs := by
  cases t with
  | true => exact sqT_same s h
  | false =>
    rcases (show SqL K H a xs from h) with h | h
    · exact .inl (Rd.up s h)
    · exact .inr h
/-! the printed rule: two of a kind go the old way, so that old laws of zipA stand; else the mixed way -/
section
variable {X : Cx} {pos p tpos : Pos} {e e2 : Expr} {elts : List Expr} {kk : Nat} {ga : Ev → Option (List D)}
end
end PD

/-! sorted(t) of a tuple -/
namespace PD
open PySem PySem.Spec L2 PySem.W PyProof.Rows
section
variable {X : Cx} {W : WX} {J : List Nat} {pos p : Pos}
end
end PD

/-! sorted(set(l)) of a list of ints; list(range(n)) -/
namespace PD
open PySem PySem.Spec L2 PySem.W PyProof.Rows
section
variable {P : Program} {w : World} {A : Around} {E : Value → Shared → Prop} {s : Shared}
end
end PD

/-! sorted(set(l)) of a list of ints; list(range(n)): in expressions -/
namespace PD
open PySem PySem.Spec L2 PySem.W PyProof.Rows
section
variable {X : Cx} {W : WX} {J : List Nat} {p1 p2 p3 pos : Pos} {e : Expr} {f : Ev → Option D}
abbrev setU (w : World) (p : Addr) (ns : List Int) (c : Nat) : HO := .ext fun h => SetR w h p (fun j => decide (j ∈ ns)) c
/-! list(range(n)) -/
end
end PD

/-! as many arguments as parameters -/
namespace PD
open PySem
section
variable {M : List Value → Prop}
theorem args1 (h : ∀ a, M [a]) : ∀ us : List Value, us.length = 1 → M us
  | [a], _ => h a
theorem args2 (h : ∀ a b, M [a, b]) : ∀ us : List Value, us.length = 2 → M us
  | [a, b], _ => h a b
theorem args3 (h : ∀ a b c, M [a, b, c]) : ∀ us : List Value, us.length = 3 → M us
  | [a, b, c], _ => h a b c
end
end PD

/-! static methods; methods called by keyword; t * n of a tuple; min of a list of texts -/
namespace PD
open PySem PySem.Spec L2 L2H
/-- C.m is a staticmethod: its record at p, its def at g -/
structure SMet (K : PySem.W.Frag) (C : Addr) (m : Str) (p g : Addr) : Prop where
  rd : PySem.W.readsIn K C (.type "type") = true
  ga : PySem.W.specialIn K (.ref C) "__getattribute__" = some (some (.builtin "type.__getattribute__"))
  at_ : PySem.W.findCls K (.ref C) (.type "type") m = some (.get (.builtin "staticmethod.__get__") (.ref p) .none (.ref C))
  rc : ∃ rest, PySem.W.recIn K p "staticmethod" = some (.ref g :: rest)
  kp : PySem.W.keepIn K (.ref g) = true
/-- .. reached through an instance of C -/
structure SInst (K : PySem.W.Frag) (C : Addr) (m : Str) (p g : Addr) : Prop where
  pg : PySem.W.plainGet K C Str.empty = true
  ic : PySem.W.isClsIn K C = true
  at_ : PySem.W.findIn K (.ref C) m = some (some (.ref p))
  ty : PySem.W.typeIn K (.ref p) = some (.type "staticmethod")
  get : PySem.W.specialIn K (.ref p) "__get__" = some (some (.builtin "staticmethod.__get__"))
  tk : PySem.W.takesIn K (.ref p) = some false
  cp : PySem.W.copiedNames.contains m = false
  rc : ∃ rest, PySem.W.recIn K p "staticmethod" = some (.ref g :: rest)
  kp : PySem.W.keepIn K (.ref g) = true
section
variable {X : Cx} {pins : List (Addr × Obj)} {σ : L2.St} {H : Hp} {s : Shared} {a C p g : Addr} {m : Str} {A : Around} {E : Value → Shared → Prop} {pl : Sem Bool}
end
section
variable {X : Cx} {k n : Nat} {C p g f : Addr} {fd : FuncData} {ps : List Str} {nm y : Str} {o e : Expr} {es : List Expr} {apos pos q : Pos} {ga : Ev → Option (List D)} {m : List D → Option D} {pl : Sem Bool}
end
/-! ### methods, called by keyword; methods that may raise, as values -/
section
variable {X : Cx} {CX : CXT} {k n : Nat} {C f : Addr} {fd : FuncData} {ps ks : List Str} {nm : Str} {o e : Expr} {es : List Expr} {kws : List Keyword} {apos pos : Pos} {fo : Ev → Option D} {ga : Ev → Option (List D)} {pl : Sem Bool} {sp : Sp} {E : XK} {gg : List Value → List Value → List Value}
end
end PD

/-! t * n of a tuple; min of a list of texts -/
namespace PD
open PySem PySem.Spec L2 L2H
section
variable {X : Cx}
/-! ### min of a list of texts -/
end
end PD

/-! d.get(k): None where k is not a key -/
namespace PD
open PySem PySem.Spec PyProof.Rows L2
section
variable {X : Cx} {a b : Expr} {fa fb : Ev → Option D} {apos cpos : Pos}
end
end PD

/-! sorted(d) of a dict: its keys in order -/
namespace PD
open PySem PySem.Spec L2 PySem.W PyProof.Rows
section
variable {X : Cx} {W : WX} {J : List Nat} {pos p : Pos}
end
end PD

namespace PD
open PySem PySem.Spec PyProof.Rows L2
/-! ### {k: v for .. in ..} where a key may come again -/
section
variable {X : Cx} {pos : Pos} {tg iter kx vx : Expr} {ifs : List Expr} {scope : Scope} {own : List (Str × Nat)} {fi : Ev → Option (List D)} {is kn : List Nat} {g : D → Ev → Option Ev} {t : Ev → Option Bool} {fk fv : Ev → Option D}
end
section
variable {W : WX} {J : List Nat} {fi : Ev → Option (List D)} {is kn : List Nat} {g : D → Ev → Option Ev} {t : Ev → Option Bool} {fk fv : Ev → Option D}
end
end PD

namespace PD
open PySem PySem.Spec PyProof.Rows L2

/-! ### a raise out of a comprehension's block -/
section
variable {M : Model} {A : Around} {E : Value → Shared → Prop} {s : Shared} {Z : Obj → Prop} {base : Heap} {env : Env} {outer l : List Env} {L C e : Addr}
end
section
variable {X : Cx} {pins : List (Addr × Obj)} {σ : L2.St} {H : Hp} {s : Shared} {scope : Scope} {ce : Env} {fp : List Addr} {W : WX}
end
end PD

namespace PD
open PySem PySem.Spec PyProof.Rows L2
section
variable {X : Cx} {W : WX}
variable {elt tg iter : Expr} {ifs : List Expr} {scope : Scope} {own : List (Str × Nat)} {wi : TI} {g : TG} {tt : WX → TT} {te : WX → TE} {pos spos py : Pos}
end
end PD

namespace PD
open PySem PySem.Spec L2

/-! ### what is walked, where its making may raise -/
section
variable {X : Cx} {W : WX} {J : List Nat} {pos : Pos} {tg iter elt e : Expr} {ifs : List Expr} {scope : Scope} {fi : Ev → Option Rs} {is kn : List Nat} {g : D → Ev → Option Ev} {t : Ev → Option (Bool ⊕ Exn)} {f : Ev → Option Rz}
end
end PD

/-! isinstance(e, (A, B, ..)) of a caught error, own classes -/
namespace PD
open PySem PySem.Spec L2
def tCl : List V → TA
  | [] => tNil
  | v :: vs => tCons (tC v) (tCl vs)
theorem tCl_mk : ∀ (vs : List V) (σ : L2.St) (H : Hp) (Q : List V → Hp → Prop), Q vs H → tCl vs σ H Q
  | [], _, _, _, h => h
  | v :: vs, σ, H, Q, h => tCl_mk vs σ H (fun xs H2 => Q (v :: xs) H2) h
theorem kit_miss {K : PySem.W.Frag} {t c : Value} {r : List Value} {b : Bool} (h : PySem.W.kitOne K t c = some false) (hr : PySem.W.kitAny K t r = some b) : PySem.W.kitAny K t (c :: r) = some b := by
  unfold PySem.W.kitAny
  rw [h]; exact hr
theorem kit_end {K : PySem.W.Frag} {t : Value} : PySem.W.kitAny K t [] = some false := rfl
def rIsXT (K : PySem.W.Frag) (D a : Addr) (d : Option Addr) : List V → Hp → VK → Prop := fun xs H Q => ∃ (tp : Addr) (cs : List V) (us : List Value) (b : Bool), xs = [.ref a, .ref tp] ∧ H tp = some (.tup cs) ∧ Paired ClsV cs us ∧ (∀ dd, d = some dd → ∃ fs, H dd = some (.xd fs)) ∧ PySem.W.kitAny K (.ref D) us = some b ∧ Q (.bl b) H
section
variable {X : Cx} {a : Addr} {oe : Obj} {cls : Value} {d : Option Addr} {pn : List (Addr × Obj)} {pos p q tpos : Pos} {e : Expr} {fa : Ev → Option D}
theorem call_isEXT {C0 : Addr} (C : ExcC X.K C0) (hz : Zc (.ref C0) d oe) (hf : ∃ vs, oe.data = .fields vs) : CallR (X.suite a ((a, oe) :: pn)) (.builtin "isinstance") (rIsXT X.K C0 a d) := by
  intro pins s σ H xs us Q I r h
  obtain ⟨tp, cs, ws, b, rfl, hT, k, hdd, e, q⟩ := h
  cases r with
  | cons rx rr => cases rr with
    | cons rt rr =>
      cases rr
      cases rx
      cases rt
      obtain ⟨hget, _⟩ := I.pin (a, oe) (List.mem_append_left _ List.mem_cons_self)
      obtain ⟨vs, hv⟩ := hf
      obtain ⟨od, J⟩ : ∃ od, PySem.W.InstAt s.heap a oe C0 od := by
        cases hd : d with
        | none =>
          refine ⟨none, hget, hz.1, by unfold PySem.W.notCls; rw [hv] <;> rfl, ?_⟩
          rw [hz.2, hd]; trivial
        | some dd =>
          obtain ⟨fs, hfs⟩ := hdd dd hd
          have hx : ObjOk X.prog X.w H s.heap dd (.xd fs) := I.hok dd _ hfs
          obtain ⟨mA, hns, hr⟩ := hx
          obtain ⟨od, ho, hl⟩ := lookIn_ns hns
          refine ⟨some od, hget, hz.1, by unfold PySem.W.notCls; rw [hv] <;> rfl, ?_⟩
          rw [hz.2, hd]; exact ho
      have hcl : (PySem.W.clsIn X.K C0).isSome = true := by
        obtain ⟨cd, hc, _⟩ := PySem.W.any_some C.hd
        rw [hc]; rfl
      obtain ⟨_, its, rv, o, h1, h2, n, h3⟩ := (show ObjOk X.prog X.w H s.heap tp (.tup cs) from I.hok tp _ hT)
      have e3 := ClsV.all k rv
      subst e3
      obtain ⟨oc, od', dt, sl⟩ := o
      simp only at h2 h3
      subst h2 h3
      exact PySem.W.kia_tup (PySem.W.kitx_exc hcl C.hg C.hk C.hs C.ha C.hn C.ht C.hm) I.kIn J h1 e (fun z => nomatch z) fun tk => ⟨.bl b, H, I.kept (t' := tk) fun _ _ z => z, rfl, q⟩
theorem pIsXT {cs : List (Addr × Bool)} {es : List Expr} {nn : Nat} {ws : List V} {us : List Value} (htb : ∀ C t, cs.lookup C = some t → ExcC X.K C ∧ PySem.W.kitAny X.K (.ref C) us = some t) (hcv : Paired ClsV ws us) (hz : Zc cls d oe) (hf : ∃ vs, oe.data = .fields vs) (he : PE (X.suite a ((a, oe) :: pn)) e (tP X.K fa)) (hes : PA (X.suite a ((a, oe) :: pn)) es (tCl ws)) (hm : X.mg "isinstance" = none) (hwl : ws.length ≤ 1000 := by exact Nat.le_of_ble_eq_true rfl)
    (hg : Gl (X.suite a ((a, oe) :: pn)) "isinstance" := by rfl) (hs : starEach [e, .Tuple es nn tpos] X.env = (false, eval e X.env) :: starEach [.Tuple es nn tpos] X.env := by rfl) (hs2 : starEach [.Tuple es nn tpos] X.env = (false, eval (.Tuple es nn tpos) X.env) :: starEach [] X.env := by rfl) (hpl : (backTo pos (starEach [.Tuple es nn tpos] X.env)).any (·.1) = false := by rfl) :
    PE (X.suite a ((a, oe) :: pn)) (.Call (.Name "isinstance" p) [e, .Tuple es nn tpos] [] pos) (tP X.K (b1 fa (isX a d cls cs))) := by
  have hn : (∀ C t, cs.lookup C = some t → cls ≠ .ref C) → PE (X.suite a ((a, oe) :: pn)) (.Call (.Name "isinstance" p) [e, .Tuple es nn tpos] [] pos) (tP X.K (b1 fa (isX a d cls cs))) := fun h => pNever fun ρ => by
    unfold b1
    cases fa ρ with
    | none => rfl
    | some z =>
      rw [Option.bind_some]
      unfold isX
      split
      · split
        · unfold isiE
          split
          · rename_i C' _
            split
            · cases q : cs.lookup C' with
              | none => rfl
              | some t => exact absurd rfl (h C' t q)
            · rfl
          · rfl
        · rfl
      · rfl
  by_cases hC : ∃ C t, cs.lookup C = some t ∧ cls = .ref C
  · obtain ⟨C0, t, hl, rfl⟩ := hC
    obtain ⟨TC, hk⟩ := htb C0 t hl
    refine PE.imp (pe_callB (call_isEXT TC hz hf) hg hm (by decide +kernel) (pa_cons he (pa_cons (pe_tup hes) pa_nil hs2) hs) (by decide) (by decide) hs hpl) fun σ H Q ⟨M, ρ, fo, fv, d0, R, l, e, k⟩ => ?_
    obtain ⟨z, ea, eg⟩ := b1_some e
    refine ⟨M, ρ, fo, fv, z, R, l, ea, fun M1 H1 v s1 R1 dv => ?_⟩
    refine tCl_mk ws _ _ _ ⟨len_le (Nat.le_trans hwl (by decide)), fun tp htp => ?_⟩
    unfold isX at eg
    split at eg
    · split at eg
      · rename_i hdd
        subst hdd
        unfold isiE at eg
        simp only at eg
        split at eg
        · rename_i haa
          rw [hl] at eg
          cases eg
          have hv : v = .ref a := by rw [← haa]; cases dv <;> rfl
          refine ⟨tp, ws, us, t, by rw [hv], upd_same, hcv, fun dd hdd => ?_, hk, k M1 _ _ s1 (R1.grow htp) (.bl _)⟩
          cases dv with
          | exn0 => cases hdd
          | exn1 hM _ _ =>
            cases hdd
            refine ⟨_, (R1.grow htp).same _ _ hM⟩
        · cases eg
      · cases eg
    · cases eg
  · exact hn fun C t hl e => hC ⟨C, t, hl, e⟩
end
end PD

/-! tests and walks that may raise -/
namespace PD
open PySem PySem.Spec L2
section
variable {X : Cx} {W : WX} {J : List Nat} {pos : Pos} {tg e c : Expr} {f : Ev → Option Rd} {t : Ev → Option (Bool ⊕ Exn)}
end
end PD

/-! try with several clauses, each with a name or without -/
namespace L2N
open PySem PySem.Spec PyProof.Rows L2
structure Hdl where
  c : Value
  slot : Option Nat
  ts : Addr → Value → Option Addr → TS
def endM : Option Nat → Ends → Ends
  | none, D => D
  | some k, D => { nx := fun τ G => D.nx (τ.set k none) G, rt := D.rt, bk := fun τ G => D.bk (τ.set k none) G, ct := fun τ G => D.ct (τ.set k none) G }
def putM : Option Nat → Addr → St → St
  | none, _, τ => τ
  | some k, a, τ => τ.set k (some (.ref a))
def wMix (K : PySem.W.Frag) (Wo : WX) (D : Ends) : List Hdl → WX
  | [] => Wo
  | q :: qs => fun cls d τ G => ∃ b, PySem.W.exmOne K cls q.c = some b ∧ (b = true → ∀ a, G a = none → q.ts a cls d (endM q.slot D) (putM q.slot a τ) G) ∧ (b = false → wMix K Wo D qs cls d τ G)
inductive MixOk (X : Cx) : List ExceptHandler → List Hdl → Prop
  | nil : MixOk X [] []
  | bare {y : Str} {c : Value} {ts : Addr → Value → Option Addr → TS} {b₁ : Stmt} {bs : List Stmt} {p1 p2 : Pos} {hr : List ExceptHandler} {qs : List Hdl} (nm : Names X y c)
      (su : ∀ (a : Addr) (ob : Obj) (cls : Value) (d : Option Addr) (pn : List (Addr × Obj)), Zn cls d ob → (∃ vs, ob.data = .fields vs) → PSs (X.suite a ((a, ob) :: pn)) (b₁ :: bs) (ts a cls d)) (more : MixOk X hr qs) :
      MixOk X (.ExceptHandler (some (.Name y p1)) none (b₁ :: bs) p2 :: hr) (⟨c, none, ts⟩ :: qs)
  | named {y n : Str} {c : Value} {k : Nat} {ts : Addr → Value → Option Addr → TS} {b₁ : Stmt} {bs : List Stmt} {p1 p2 : Pos} {hr : List ExceptHandler} {qs : List Hdl} (nm : Names X y c) (at_ : X.N[k]? = some n) (loc : X.env.kindOf n = some .local)
      (su : ∀ (a : Addr) (ob : Obj) (cls : Value) (d : Option Addr) (pn : List (Addr × Obj)), Zn cls d ob → (∃ vs, ob.data = .fields vs) → PSs (X.suite a ((a, ob) :: pn)) (b₁ :: bs) (ts a cls d)) (more : MixOk X hr qs) :
      MixOk X (.ExceptHandler (some (.Name y p1)) (some n) (b₁ :: bs) p2 :: hr) (⟨c, some k, ts⟩ :: qs)
/-- an exception on its way through the clauses -/
structure Fly (X : Cx) (pins : List (Addr × Obj)) (B : Heap) (sI sT : Shared) (τ : St) (G : Hp) (cls : Value) (d : Option Addr) (a : Addr) (g : Heap) : Prop where
  inv : Inv X pins τ G sI
  nb : ∀ b o, sI.heap.get? b = some o → b ∉ frs X.stack → B.get? b = some o
  up : sI.heap.UpToSlots g
  fl : HandSPX.FlyingZ B (X.env :: X.outer) a (Zn cls d) g
  na : G a = none
  os : sT.os = sI.os
  ag : AllBare sT.gens
section
variable {X : Cx} {pins : List (Addr × Obj)} {B : Heap} {sI sT : Shared} {τ : St} {G : Hp} {cls : Value} {d : Option Addr} {a : Addr} {g : Heap} {D : Ends} {Wo : WX}
theorem Fly.land (F : Fly X pins B sI sT τ G cls d a g) : Inv X pins τ G { sT with heap := g } := F.inv.landed F.nb F.fl.1 F.up F.os F.ag
theorem Fly.ob (F : Fly X pins B sI sT τ G cls d a g) (hf : X.env.frame = some X.env.locals) : ∃ ob vs, g.get? a = some ob ∧ Zn cls d ob ∧ ob.data = .fields vs ∧ a ≠ X.env.locals ∧ a ∉ X.fs := by
  obtain ⟨ob, vs, h1, h2, h3⟩ := F.fl.there
  have away : a ∉ frs (X.env :: X.outer) := fun hm => by
    obtain ⟨_, o2, e2, nf⟩ := F.fl.2.2.1.mem hm
    rw [h1] at e2
    cases e2
    exact nf _ h3
  exact ⟨ob, vs, h1, h2, h3, fun z => away (List.mem_filterMap.mpr ⟨X.env, List.mem_cons_self, by rw [hf, z]⟩), fun hm => by
    obtain ⟨e, he, q⟩ := List.mem_filterMap.mp hm
    exact away (List.mem_filterMap.mpr ⟨e, List.mem_cons_of_mem _ he, q⟩)⟩
theorem Fly.again (F : Fly X pins B sI sT τ G cls d a g) {g2 : Heap} (fl : HandSPX.FlyingZ B (X.env :: X.outer) a (Zn cls d) g2) (up : g.UpToSlots g2) : Fly X pins B sI sT τ G cls d a g2 := ⟨F.inv, F.nb, F.up.trans up, fl, F.na, F.os, F.ag⟩
/-- no clause is left -/
theorem Fly.pass (F : Fly X pins B sI sT τ G cls d a g) (hs : X.stack = X.env :: X.outer) (hf : X.env.frame = some X.env.locals) (tk : Takes X Wo) (w : Wo cls d τ G) : wpAny (model X.prog X.w) X.A (handleBy (.ref a) X.env []) (SP X pins D) X.xe { sT with heap := g } := by
  have fl := F.fl
  obtain ⟨_, _, _, ob, vs, T, _, _, g1, _, g3, g4, _⟩ := id fl
  have last : wpAny (model X.prog X.w) X.A (setFlight (.ref a) X.env.frame) (fun _ s4 => wpAny (model X.prog X.w) X.A (throw (.ref a) : Sem Flow) (SP X pins D) X.xe s4) X.xe { sT with heap := g } := by
    rw [hf]
    exact HandSPX.setFlight_upZ fl fun g2 hh up2 => wpAny_throw (tk _ _ ⟨a, B, sI, pins, τ, G, cls, d, rfl, F.inv, F.nb, F.up.trans up2, .inr (.inr (by rw [hs]; exact hh)), F.na, F.os, F.ag, w⟩)
  refine wpAny_handleBy_nil ?_
  unfold PySem.passOn
  refine wpAny_bind (wpAny_field g1 g3 g4 ?_)
  rw [if_neg (show ¬ ((Value.ref T == Value.none) = true) from by simp)]
  first
    | exact wpAny_bind (wpAny_pure (wpAny_bind last))
    | exact wpAny_bind last
/-- the clause's class is looked up and the exception held against it -/
theorem Fly.ask {y : Str} {c : Value} {p1 : Pos} {b : Bool} {R : Bool → Shared → Prop} {E : Value → Shared → Prop} (F : Fly X pins B sI sT τ G cls d a g) (hf : X.env.frame = some X.env.locals) (nm : Names X y c) (hb : PySem.W.exmOne X.K cls c = some b) (h : R b { sT with heap := g }) :
    wpAny (model X.prog X.w) (X.A.mark (some (.ref a))) (eval (.Name y p1) X.env) (fun v s1 => wpAny (model X.prog X.w) (X.A.mark (some (.ref a))) (excMatches (.ref a) v) (fun bb s2 => R bb s2) E s1) E { sT with heap := g } := by
  obtain ⟨ob, vs, h1, h2, h3, n1, n2⟩ := F.ob hf
  have S := F.land.suite h1 h3 F.na n1 n2
  have ty : PySem.W.Looks (model X.prog X.w) g (typeOf (.ref a)) cls := fun A Q E s k q => wpAny_typeOf_ref (k _ _ h1) (by rw [h2.1]; exact q)
  have ex := PySem.W.exm_one (M := model X.prog X.w) F.land.kIn ty hb
  obtain ⟨hg, hd, hm | ⟨hm, hv, hn⟩⟩ := nm
  · exact ld_glob (X := X.suite a ((a, ob) :: (X.pn ++ pins))) S hg hm (ex.here h) hd
  · exact ld_blt (X := X.suite a ((a, ob) :: (X.pn ++ pins))) S hg hm hv (ex.here h) hn hd
theorem Fly.go (hs : X.stack = X.env :: X.outer) (hf : X.env.frame = some X.env.locals) (hN : X.N.Nodup) (tk : Takes X Wo) : ∀ {hr : List ExceptHandler} {qs : List Hdl}, MixOk X hr qs → ∀ {g : Heap}, Fly X pins B sI sT τ G cls d a g → wMix X.K Wo D qs cls d τ G →
    wpAny (model X.prog X.w) X.A (handleBy (.ref a) X.env hr) (SP X pins D) X.xe { sT with heap := g } := by
  intro hr qs hm
  induction hm with
  | nil => exact fun F w => F.pass hs hf tk w
  | bare nm su more ih =>
    intro g F w
    obtain ⟨b, hb, yes, no⟩ := w
    refine wpAny_handleBy_cons (codeAny_handlers_test (F.ask hf nm hb ?_)) (by intro q; cases q)
    cases b with
    | false => exact ih F (no rfl)
    | true =>
      refine codeAny_handlers_suite (HandSPX.lands_againZ F.fl fun g2 fl2 up2 => ?_)
      have F2 := F.again fl2 up2
      obtain ⟨ob, vs, h1, h2, h3, n1, n2⟩ := F2.ob hf
      refine wpAny_mono ((su a ob cls d (X.pn ++ pins) h2 ⟨_, h3⟩).run [] _ _ G _ (F2.land.suite h1 h3 F2.na n1 n2) (yes rfl a F2.na)) (fun f s6 hsp => ?_) (fun _ _ z => False.elim z)
      have ok := F.inv.ok
      cases f with
      | next => obtain ⟨τ6, G6, S6, q6⟩ := hsp; exact ⟨τ6, G6, S6.unsuite ok, q6⟩
      | brk => obtain ⟨τ6, G6, S6, q6⟩ := hsp; exact ⟨τ6, G6, S6.unsuite ok, q6⟩
      | cont => obtain ⟨τ6, G6, S6, q6⟩ := hsp; exact ⟨τ6, G6, S6.unsuite ok, q6⟩
      | ret u => obtain ⟨v6, τ6, G6, S6, r6, q6⟩ := hsp; exact ⟨v6, τ6, G6, S6.unsuite ok, r6, q6⟩
  | named nm at_ loc su more ih =>
    intro g F w
    obtain ⟨b, hb, yes, no⟩ := w
    refine wpAny_handleBy_cons (codeAny_handlers_test (F.ask hf nm hb ?_)) (by intro q; cases q)
    cases b with
    | false => exact ih F (no rfl)
    | true =>
      refine codeAny_handlers_suite_as (HandSPX.lands_againZ F.fl fun g2 fl2 up2 => ?_)
      have F2 := F.again fl2 up2
      obtain ⟨ob, vs, h1, h2, h3, n1, n2⟩ := F2.ob hf
      have ok := F.inv.ok
      refine store_ok (X := X.suite a ((a, ob) :: (X.pn ++ pins))) (v := .ref a) (F2.land.suite h1 h3 F2.na n1 n2) hN at_ (.inl loc) rfl (fun s5 S5 => ?_) (.inr loc)
      refine wpAny_mono ((su a ob cls d (X.pn ++ pins) h2 ⟨_, h3⟩).run [] s5 _ G _ S5 (yes rfl a F2.na)) (fun f s6 hsp => ?_) (fun _ _ z => False.elim z)
      cases f with
      | next => obtain ⟨τ6, G6, S6, q6⟩ := hsp; exact gone_ok (S6.unsuite ok) hN at_ loc fun s7 J7 => ⟨_, G6, J7, q6⟩
      | brk => obtain ⟨τ6, G6, S6, q6⟩ := hsp; exact gone_ok (S6.unsuite ok) hN at_ loc fun s7 J7 => ⟨_, G6, J7, q6⟩
      | cont => obtain ⟨τ6, G6, S6, q6⟩ := hsp; exact gone_ok (S6.unsuite ok) hN at_ loc fun s7 J7 => ⟨_, G6, J7, q6⟩
      | ret u => obtain ⟨v6, τ6, G6, S6, r6, q6⟩ := hsp; exact gone_ok (S6.unsuite ok) hN at_ loc fun s7 J7 => ⟨v6, _, G6, J7, r6, q6⟩
end
end L2N

/-! try with several clauses, by data -/
namespace PD
open PySem PySem.Spec L2
/-- one clause: what it takes, the slot of its name, its suite -/
structure HM where
  tb : List (Addr × Bool)
  slot : Option Nat
  sm : Addr → Option Addr → Value → Ev → Option Fl
inductive HMOk (X : Cx) (J : List Nat) : List ExceptHandler → List HM → Prop
  | nil : HMOk X J [] []
  | bare {y : Str} {c : Value} {tb : List (Addr × Bool)} {sm : Addr → Option Addr → Value → Ev → Option Fl} {b₁ : Stmt} {bs : List Stmt} {p1 p2 : Pos} {hr : List ExceptHandler} {hs : List HM} (nm : Names X y c) (tbOk : ∀ C t, tb.lookup C = some t → PySem.W.exmOne X.K (.ref C) c = some t)
      (su : ∀ (a : Addr) (ob : Obj) (cls : Value) (d : Option Addr) (pn : List (Addr × Obj)), L2N.Zn cls d ob → (∃ vs, ob.data = .fields vs) → PSs (X.suite a ((a, ob) :: pn)) (b₁ :: bs) (tS X.K W0 J (sm a d cls))) (more : HMOk X J hr hs) :
      HMOk X J (.ExceptHandler (some (.Name y p1)) none (b₁ :: bs) p2 :: hr) (⟨tb, none, sm⟩ :: hs)
  | named {y n : Str} {c : Value} {k : Nat} {tb : List (Addr × Bool)} {sm : Addr → Option Addr → Value → Ev → Option Fl} {b₁ : Stmt} {bs : List Stmt} {p1 p2 : Pos} {hr : List ExceptHandler} {hs : List HM} (nm : Names X y c) (tbOk : ∀ C t, tb.lookup C = some t → PySem.W.exmOne X.K (.ref C) c = some t)
      (su : ∀ (a : Addr) (ob : Obj) (cls : Value) (d : Option Addr) (pn : List (Addr × Obj)), L2N.Zn cls d ob → (∃ vs, ob.data = .fields vs) → PSs (X.suite a ((a, ob) :: pn)) (b₁ :: bs) (tS X.K W0 J (sm a d cls))) (more : HMOk X J hr hs)
      (hJ : k ∉ J := by decide) (at_ : X.N[k]? = some n := by rfl) (loc : X.env.kindOf n = some .local := by rfl) :
      HMOk X J (.ExceptHandler (some (.Name y p1)) (some n) (b₁ :: bs) p2 :: hr) (⟨tb, some k, sm⟩ :: hs)
section
variable {X : Cx} {W : WX} {J : List Nat}
end
end PD
namespace PD
open PySem
section
variable {b : Ev → Option Fl} {ρ : Ev} {Q : Fl → Prop}
end
end PD
namespace PD
open PySem
end PD

/-! x in d, d a dict, where a part may raise -/
namespace PD
open PySem PySem.Spec L2
section
variable {X : Cx} {W : WX} {pos : Pos} {a b : Expr} {f g : Ev → Option Rd}
end
end PD

namespace PD
open PySem PySem.Spec L2
section
variable {X : Cx} {W : WX} {pos : Pos} {a b : Expr} {f g : Ev → Option Rd}
/-! ### xs.count(x), xs a list of texts -/
end
section
variable {X : Cx} {o e : Expr} {apos pos : Pos} {fa fb : Ev → Option D}
end
end PD

namespace PD
open PySem PySem.Spec L2
/-! ### s.find(t) -/
section
variable {X : Cx} {o e : Expr} {apos pos : Pos} {fa fb : Ev → Option D}
end
end PD

/-! found = {x: True for x in l}; queue = list(found) : the keys are tuples -/
namespace PD
open PySem PySem.Spec PyProof.Rows L2
/-! ### the first of each key -/
def fst1 (a : List NestedKey × List D) (p : NestedKey × D) : List NestedKey × List D := if p.1 ∈ a.1 then a else (a.1 ++ [p.1], a.2 ++ [p.2])
def fstF (ps : List (NestedKey × D)) : List NestedKey × List D := ps.foldl fst1 ([], [])
theorem fstF_snoc (ps : List (NestedKey × D)) (p : NestedKey × D) : fstF (ps ++ [p]) = fst1 (fstF ps) p := by unfold fstF; rw [List.foldl_append]; rfl
/-- the entries, told by keys and addresses -/
def entsT (r : Value) (ps : List (NestedKey × Addr)) : List TE3 := ps.foldl (fun xs p => storedH xs p.1 p.2 r) []
theorem entsT_snoc (r : Value) (ps : List (NestedKey × Addr)) (p : NestedKey × Addr) : entsT r (ps ++ [p]) = storedH (entsT r ps) p.1 p.2 r := by unfold entsT; rw [List.foldl_append]; rfl
/-- what is known of the dict after some entries -/
structure TSt (K : PySem.W.Frag) (M : Hp) (p : Addr) (v : V) (r : Value) (d : D) (qs : List (NestedKey × Addr)) (kds : List (NestedKey × D)) : Prop where
  tk : ∃ vs, TDk K M p (entsT r qs) (tfold (kds.map fun z => (z.1, d))).1 vs ∧ Dvs K M vs (tfold (kds.map fun z => (z.1, d))).2
  ks : (fstF kds).1 = (tfold (kds.map fun z => (z.1, d))).1
  ds : Dvs K M ((entsT r qs).map fun x => V.ref x.2.1) (fstF kds).2
theorem tlook_isSome {k : NestedKey} : ∀ {ks : List NestedKey} {ds : List D}, ds.length = ks.length → ((tlook k ks ds).isSome = true ↔ k ∈ ks)
  | [], [], _ => by unfold tlook; simp
  | [], _ :: _, h => nomatch h
  | _ :: _, [], h => nomatch h
  | k' :: ks, d :: ds, h => by
    have ih := tlook_isSome (k := k) (ks := ks) (ds := ds) (by simpa using h)
    unfold tlook
    by_cases e : k' = k
    · rw [if_pos e]; simp [e]
    · rw [if_neg e, ih]; simp [Ne.symm e]
theorem Dvs.snoc {K : PySem.W.Frag} {M : Hp} {vs : List V} {ds : List D} (h : Dvs K M vs ds) {v : V} {d : D} (hv : Dv K M v d) : Dvs K M (vs ++ [v]) (ds ++ [d]) := h.append (.cons hv .nil)
theorem TSt.zero {K : PySem.W.Frag} {M : Hp} {p : Addr} (hs : (p == sysModules) = false) {v : V} {r : Value} {d : D} : TSt K M p v r d [] [] := ⟨⟨[], TDk.zero hs, .nil⟩, rfl, .nil⟩
theorem TSt.put {K : PySem.W.Frag} {M : Hp} {p : Addr} {v : V} {r : Value} {d : D} {qs : List (NestedKey × Addr)} {kds : List (NestedKey × D)} (t : TSt K M p v r d qs kds) {k : NestedKey} {b : Addr} {kd : D} (nk : NK K M (.ref b) k) (dp : k.depth ≤ 8) (rv : RelV v r) (dv : Dv K M v d)
    (hk : Dv K M (.ref b) kd) (hl : kds.length < sizeLine) : TSt K M p v r d (qs ++ [(k, b)]) (kds ++ [(k, kd)]) := by
  obtain ⟨vs, t1, t2⟩ := t.tk
  have hl2 : (tfold (kds.map fun z => (z.1, d))).2.length < sizeLine := Nat.lt_of_le_of_lt (tfold_len _) (by rw [List.length_map]; exact hl)
  obtain ⟨vs', u1, u2⟩ := t1.put t2 nk dp rv dv hl2
  have ez : (tfold (kds.map fun z => (z.1, d))).2.length = (tfold (kds.map fun z => (z.1, d))).1.length := by
    have a1 := t2.length
    have a2 := t1.vals.length
    have a3 := congrArg List.length t1.eq
    rw [List.length_map] at a2 a3
    omega
  have es : tfold ((kds ++ [(k, kd)]).map fun z => (z.1, d)) = putT k d (tfold (kds.map fun z => (z.1, d))).1 (tfold (kds.map fun z => (z.1, d))).2 := by
    rw [List.map_append]; exact tfold_snoc _ _
  refine ⟨⟨vs', by rw [entsT_snoc, es]; exact u1, by rw [es]; exact u2⟩, ?_, ?_⟩
  · rw [fstF_snoc, es]
    unfold fst1 putT
    show (if k ∈ (fstF kds).1 then _ else _ : List NestedKey × List D).1 = _
    rw [t.ks]
    by_cases hm : k ∈ (tfold (kds.map fun z => (z.1, d))).1
    · rw [if_pos hm, if_pos ((tlook_isSome ez).mpr hm)]; exact t.ks
    · rw [if_neg hm, if_neg (fun z => hm ((tlook_isSome ez).mp z))]
  · rw [fstF_snoc, entsT_snoc]
    unfold fst1
    show Dvs K M _ (if k ∈ (fstF kds).1 then _ else _ : List NestedKey × List D).2
    rw [t.ks]
    have hat : (atKey (entsT r qs) k).isSome = true ↔ k ∈ (tfold (kds.map fun z => (z.1, d))).1 := by
      have h1 := tlook_val (k := k) t1.vals t2
      rw [t1.eq] at h1
      rw [← tlook_isSome ez]
      cases q : tlook k (tfold (kds.map fun z => (z.1, d))).1 (tfold (kds.map fun z => (z.1, d))).2 with
      | none => rw [q] at h1; rw [show atKey (entsT r qs) k = none from h1]; simp
      | some d0 => rw [q] at h1; obtain ⟨pp, _, hp, _⟩ := h1; rw [hp]; simp
    by_cases hm : k ∈ (tfold (kds.map fun z => (z.1, d))).1
    · rw [if_pos hm]
      obtain ⟨pp, hp⟩ := Option.isSome_iff_exists.mp (hat.mpr hm)
      rw [storedH_old hp, List.map_map]
      have ee : ((fun x : TE3 => V.ref x.2.1) ∘ putAt k r) = fun x => V.ref x.2.1 := funext fun x => by
        show V.ref (putAt k r x).2.1 = _
        rw [(putAt_key k r x).2]
      rw [ee]; exact t.ds
    · rw [if_neg hm]
      have hn : atKey (entsT r qs) k = none := by
        cases q : atKey (entsT r qs) k with
        | none => rfl
        | some z => exact absurd (hat.mp (by rw [q]; rfl)) hm
      rw [storedH_new hn, List.map_append]
      exact t.ds.snoc hk
end PD

namespace PD
open PySem PySem.Spec PyProof.Rows L2
end PD

namespace PD
open PySem PySem.Spec PyProof.Rows L2
section
variable {X : Cx} {WW : WX} {W : World} {J : List Nat} {scope : Scope} {pos spos py ps pt pp pq pl pz pc sp2 pb : Pos} {y q s st : Str} {rest : List Stmt} {r : Ev → Option Fl}
end
end PD

/-! for inside a generator def -/
namespace PD
open PySem PySem.Spec PyProof.Rows L2 GenW
section
variable {M : Model} {A : Around} {R : GenEnd} {Y : Protocol} {n : Nat} {s₀ : Shared} {c : Code} {fs : List Frame} {s : Shared} {env : Env}
  {K : Flow → Sem PySem.Fin} {H : Value → Sem PySem.Fin} {gd : Bool → Bool} {lv : List Value → List Value}
end
section
variable {prog : Program} {w : World} {A : Around} {R : GenEnd} {Y : Protocol} {n : Nat} {s₀ : Shared} {fs : List Frame} {s : Shared} {env : Env}
end
end PD

namespace PD
open PySem PySem.Spec PyProof.Rows L2 GenW
section
variable {X : Cx}
end
end PD

namespace PD
open PySem PySem.Spec PyProof.Rows L2 GenW
end PD

/-! a generator def's body, by data: what it hands out is a list of data -/
namespace PD
open PySem PySem.Spec PyProof.Rows L2 GenW
theorem GS.imp {X : Cx} {st : Stmt} {t t' : TGn} (h : GS X st t) (i : ∀ D ys σ H, t' D ys σ H → t D ys σ H) : GS X st t' := ⟨fun A S ip R n ys s₀ c fs K J gd lv s σ H D g hn k hI w => h.run A S ip R n ys s₀ c fs K J gd lv s σ H D g hn k hI (i D ys σ H w)⟩
theorem GSs.imp {X : Cx} {st : List Stmt} {t t' : TGn} (h : GSs X st t) (i : ∀ D ys σ H, t' D ys σ H → t D ys σ H) : GSs X st t' := ⟨fun A S ip R n ys s₀ c fs K J gd lv s σ H D g hn k hI w => h.run A S ip R n ys s₀ c fs K J gd lv s σ H D g hn k hI (i D ys σ H w)⟩
section
variable {X : Cx} {W : WX} {J : List Nat} {st : Stmt} {rest : List Stmt}
end
end PD

namespace PD
open PySem PySem.Spec PyProof.Rows L2 GenW
section
variable {X : Cx} {W : WX} {J : List Nat}
end
end PD

/-! a generator def that raises nothing, and list(f(..)) -/
namespace PD
open PySem PySem.Spec PyProof.Rows L2 GenW
section
variable {P : Program} {w : World} {K : PySem.W.Frag} {mg : Str → Option Value} {base : Heap}
end
section
variable {X : Cx} {k n : Nat} {f : Addr} {fd : FuncData} {ps : List Str} {x : Str} {p p2 pos pos' : Pos} {e : Expr} {es : List Expr} {ga : Ev → Option (List D)} {m : List D → Option (List D)}
end
end PD

/-! x = a place inside an own thing; x[k] = e (e may read x): both statements at once -/
namespace PD
open PySem PySem.Spec PyProof.Rows L2 L2H
section
variable {K : PySem.W.Frag} {M M' H H' : Hp}
end
section
variable {X : Cx} {W : WX} {J : List Nat} {pos pos' pos1 p px : Pos} {a b e : Expr} {i j : Nat} {pf : Ev → Option (List Nat)} {fb f : Ev → Option D}
/-- two statements that are told at once -/
def Pair (X : Cx) (W : WX) (J : List Nat) (s1 s2 : Stmt) (g : Ev → Option Fl) : Prop := ∃ t1 t2, PS X s1 t1 ∧ PS X s2 t2 ∧ ∀ E σ H, tS X.K W J g E σ H → tSeq t1 t2 E σ H
theorem Pair.one {s1 s2 : Stmt} {g : Ev → Option Fl} (h : Pair X W J s1 s2 g) : PSs X [s1, s2] (tS X.K W J g) := by
  obtain ⟨t1, t2, h1, h2, k⟩ := h
  exact PSs.imp (pss_cons h1 (pss_one h2)) k
theorem Pair.cons {s1 s2 : Stmt} {rest : List Stmt} {g g' : Ev → Option Fl} (h : Pair X W J s1 s2 g) (hr : PSs X rest (tS X.K W J g')) : PSs X (s1 :: s2 :: rest) (tS X.K W J (sq g g')) := by
  obtain ⟨t1, t2, h1, h2, k⟩ := h
  exact PSs.imp (pss_cons h1 (pss_cons h2 hr)) fun E σ H z => k _ σ H (tSeq_of z)
end
end PD

/-! range(a, b, -1); x.insert(i, e) -/
namespace PD
open PySem PySem.Spec PyProof.Rows L2 L2H
section
variable {X : Cx} {W : WX} {J : List Nat} {tg : Expr} {pos : Pos} {e e2 e3 : Expr} {f f2 f3 : Ev → Option D}
/-- x.insert(b, e) on a list of one's own -/
def ins (i : Nat) (fb f : Ev → Option D) (ρ : Ev) : Option Fl := match fb ρ with
  | some (.int n) => (f ρ).bind fun d => match ρ[i]? with
    | some (.lst os) => if os.length < 1000000 ∧ 0 ≤ n ∧ n < 2 ^ 62 then some (.nx (ρ.set i (.lst (os.take n.toNat ++ .dat d :: os.drop n.toNat)))) else none
    | _ => none
  | _ => none
end
end PD

/-! enumerate(e) where e may raise -/
namespace PD
open PySem PySem.Spec L2
section
variable {X : Cx} {W : WX} {pos p tpos : Pos} {e : Expr} {f : Ev → Option Rd} {elts : List Expr} {kk : Nat}
end
end PD

namespace PD
open PySem PySem.Spec PyProof.Rows L2
/-! ### for x in t[k]: x.append(e) -- t an own tuple, t[k] an own list of own lists -/
section
variable {X : Cx} {W : WX} {J : List Nat} {epos fpos apos cpos p0 px : Pos} {e b : Expr} {i j : Nat} {pf : Ev → Option (List Nat)} {f : Ev → Option O} {y : O}
end
end PD

/-! a tuple of new things, where the making of one may raise -/
namespace PD
open PySem PySem.Spec L2
section
variable {X : Cx} {W : WX} {pos : Pos} {e : Expr} {es : List Expr} {f : Ev → Option Rz} {g : Ev → Option (List O ⊕ Exn)}
end
end PD

/-! d[k] of a dict, where d or k may raise -/
namespace PD
open PySem PySem.Spec L2
section
variable {X : Cx} {W : WX} {pos : Pos} {a b : Expr} {f g : Ev → Option Rd}
end
end PD

/-! x[k] of a thing of one's own, where frozen data stands at that place -/
namespace PD
open PySem PySem.Spec L2
section
variable {X : Cx} {e : Expr} {i : Nat} {pf : Ev → Option (List Nat)}
end
end PD

/-! a raise out of a dict comprehension -/
namespace PD
open PySem PySem.Spec PyProof.Rows L2
section
variable {X : Cx} {W : WX}
variable {kx vx tg iter : Expr} {ifs : List Expr} {scope : Scope} {own : List (Str × Nat)} {wi : TI} {g : TG} {tt : WX → TT} {tk tv : WX → TE} {pos spos py : Pos}
end

section
variable {X : Cx} {W : WX} {J : List Nat} {pos : Pos} {tg iter kx vx e : Expr} {ifs : List Expr} {scope : Scope} {fi : Ev → Option Rs} {is kn : List Nat} {g : D → Ev → Option Ev} {fk : Ev → Option D} {fv : Ev → Option Rd}
end
end PD

/-! x in y, where y is a list or a dict -/
namespace PD
open PySem PySem.Spec L2
section
variable {X : Cx}
end
end PD

namespace PD
open PySem PySem.Spec PyProof.Rows L2
/-! ### own dicts of own things: the place d[k]; {k: [..] for ..} -/
section
variable {X : Cx} {pos : Pos} {a b : Expr} {i : Nat} {pf : Ev → Option (List Nat)} {fb : Ev → Option D}
end
end PD

namespace PD
open PySem PySem.Spec PyProof.Rows L2
/-! ### {k: v for .. in ..}, v an own thing -/
section
variable {X : Cx} {pos : Pos} {tg iter kx vx : Expr} {ifs : List Expr} {scope : Scope} {own : List (Str × Nat)} {fi : Ev → Option (List D)} {is kn : List Nat} {g : D → Ev → Option Ev} {t : Ev → Option Bool} {fk : Ev → Option D} {fv : Ev → Option O} {W : WX} {J : List Nat}
end
end PD

/-! generator defs that raise; defs whose exceptions' context is not known -/
namespace PD
open PySem PySem.Spec PyProof.Rows L2 GenW
/-! ### a generator def that may raise -/
section
variable {P : Program} {w : World} {K : PySem.W.Frag} {mg : Str → Option Value} {base : Heap}
end
section
variable {X : Cx} {k n : Nat} {f : Addr} {fd : FuncData} {ps : List Str} {x : Str} {p p2 pos pos' : Pos} {e : Expr} {es : List Expr} {ga : Ev → Option (List D)} {m : List D → Option Rs} {E : XK}
end
/-! ### a def whose exceptions' context is not known -/
section
variable {P : Program} {w : World} {K : PySem.W.Frag} {mg : Str → Option Value} {base : Heap}
end
section
variable {X : Cx} {W : WX} {k n : Nat} {f : Addr} {fd : FuncData} {ps : List Str} {x : Str} {p pos : Pos} {e : Expr} {es : List Expr} {ga : Ev → Option (List D)} {m : List D → Option Rz} {g : Ev → Option Rz}
variable {J : List Nat} {y : Str} {c : Value} {b₁ : Stmt} {bs body : List Stmt} {p1 p3 : Pos} {tb : List (Addr × Bool)} {sm : Addr → Option Addr → Value → Ev → Option Fl} {b : Ev → Option Fl}
end
end PD

/-! classes whose __init__ may raise -/
namespace PD
open PySem PySem.Spec PyProof.Rows L2
def outIX (r : Fl) : Option Rz := match r with
  | .nx ρ => (ρ[0]?).map .ok
  | .rt (.dat .non) ρ => (ρ[0]?).map .ok
  | .ex x _ => some (.ex x)
  | _ => none
def runIX (C : Addr) (n : Nat) (b : Ev → Option Fl) (ds : List D) : Option Rz := (b (envI C n ds)).bind outIX
def spIX (K : PySem.W.Frag) (C : Addr) (n : Nat) (m : List D → Option Rz) : Sp := fun vs H Q E => ∃ x ws M fo fv ds r, vs = .ref x :: ws ∧ ws.length + 1 = n ∧ Rep K M H (.obj C [] [] :: fo) (some (.ref x) :: fv) ∧ Dvs K M ws ds ∧ m ds = some r ∧ match r with
  | .ok o => ∀ M' H', Same M M' → Rep K M' H' (o :: fo) (some (.ref x) :: fv) → Q .non H'
  | .ex y => ∀ M' H' cls d, Same M M' → Rep K M' H' fo fv → ExR K M' y cls d → E cls d H'
section
variable {P : Program} {w : World} {K : PySem.W.Frag} {mg : Str → Option Value} {base : Heap}
theorem init_of {C : Addr} {N : List Str} {b : Ev → Option Fl} {n : Nat} {vs : List V} {H : Hp} {Q : VK} {E : XK} (h : spIX K C n (runIX C N.length b) vs H Q E) : tS K (fun cls d _ H => E cls d H) [0] b { nx := fun _ H' => Q .non H', rt := Q } (L2.start N vs) H := by
  obtain ⟨x, ws, M, fo, fv, ds, r0, rfl, hl, R, dv, e, kk⟩ := h
  have hlen := dv.length
  have R1 : Rep K M H (envI C N.length ds ++ fo) (L2.start N (.ref x :: ws) ++ fv) := by
    obtain ⟨s, fp, w, nd, nm⟩ := R
    cases w with
    | cons h1 h2 =>
      rename_i f1 f2
      refine ⟨s, f1 ++ (([] ++ []) ++ f2), ?_, by simpa using nd, fun a ha => nm a (by simpa using ha)⟩
      unfold envI L2.start
      rw [List.length_cons, hlen]
      exact .cons h1 (((ows_dat dv).append (ows_unk _)).append h2)
  have l1 : (L2.start N (.ref x :: ws)).length = (envI C N.length ds).length := by simp [L2.start, envI, hlen]
  unfold runIX at e
  cases q : b (envI C N.length ds) with
  | none => rw [q] at e; cases e
  | some r =>
    rw [q, Option.bind_some] at e
    have fin : ∀ {o : O} {ρ : Ev} {M1 H1 : Hp} {σ1 : L2.St} {tm : List O} {tv : List (Option V)}, (∀ M' H', Same M M' → Rep K M' H' (o :: fo) (some (.ref x) :: fv) → Q .non H') → ρ[0]? = some o → tv.length = tm.length → Same M M1 → Rep K M1 H1 (ρ ++ (tm ++ fo)) (σ1 ++ (tv ++ fv)) → Lk [0] (L2.start N (.ref x :: ws)) σ1 ρ → Q .non H1 := by
      intro o ρ M1 H1 σ1 tm tv kk eo lt s1 R2 lk
      have h0 := lk.2 0 (by simp)
      have h0' : σ1[0]? = some (some (.ref x)) := h0.trans (by simp [L2.start])
      cases ρ with
      | nil => simp at eo
      | cons o' ρt =>
        cases σ1 with
        | nil => simp at h0'
        | cons v' σt =>
          simp at eo h0'
          subst eo; subst h0'
          have lt' : σt.length = ρt.length := by have := lk.1; simpa using this
          refine kk M1 H1 s1 ?_
          have R3 : Rep K M1 H1 ([o'] ++ ((ρt ++ tm) ++ fo)) ([some (.ref x)] ++ ((σt ++ tv) ++ fv)) := by simpa using R2
          exact R3.dropM rfl (by simp [lt', lt])
    refine ⟨M, _, fo, fv, r, L2.start N (.ref x :: ws), R1, ⟨l1, fun _ _ => rfl⟩, q, ?_⟩
    cases r with
    | nx ρ =>
      obtain ⟨o, eo, er⟩ := Option.map_eq_some_iff.mp (show (ρ[0]?).map Rz.ok = some r0 from e)
      subst er
      exact fun M1 H1 σ1 s1 R2 lk => fin (tm := []) (tv := []) kk eo rfl s1 R2 lk
    | rt o' ρ =>
      cases o' with
      | dat d =>
        cases d with
        | non =>
          obtain ⟨o, eo, er⟩ := Option.map_eq_some_iff.mp (show (ρ[0]?).map Rz.ok = some r0 from e)
          subst er
          intro M1 H1 σ1 v s1 R2 lk
          obtain ⟨y, ey, dy⟩ := R2.datAt lk.1 rfl
          cases ey
          cases dy
          exact fin (tm := [.dat .non]) (tv := [some .non]) kk eo rfl s1 R2 lk
        | _ => cases e
      | _ => cases e
    | bk ρ => cases e
    | ct ρ => cases e
    | ex y ρ =>
      cases e
      exact fun M1 H1 σ1 cls d s1 R1 l1 ex => kk M1 H1 cls d s1 (R1.dropL l1.1) ex
theorem fnIXD {x qual : Str} {st : Stmt} {f C : Addr} {fd : FuncData} {N ps : List Str} {k : Nat} {b : Ev → Option Fl} {dvs : List V} {kws : List (Str × V)} (F : L2.FunD K x qual (defArgs st) (defBody st) (defScope st) dvs kws f fd) (S : FnScope N ps (defScope st))
    (hb : ∀ (cdv : Value) (A : Around) (outer : List Env) (s : Shared) (H : Hp) (E : XK), Room k (A.deeper (PyProof.Rows.envOfC qual (defScope st) s.heap.objs.size f cdv)) →
      PSs (cxOf (L2N.CX P w) P w K mg base N qual (defScope st) f cdv A outer s H E) (defBody st) (tS K (fun cls d _ H => E cls d H) [0] b)) : FnOk P w K mg base (L2N.CX P w) (k + 1) f fd ps (spIX K C ps.length (runIX C N.length b)) := by
  refine F.ok S (fun vs H Q E h => ?_) fun cdv A outer s H vs Q E hr h => ⟨_, hb cdv A outer s H E hr, init_of h⟩
  obtain ⟨x, ws, M, fo, fv, ds, o, rfl, hl, _⟩ := h
  simpa using hl
end
section
variable {X : Cx} {E0 : XK} {pos p : Pos} {e : Expr} {es : List Expr} {kws : List Keyword} {ga gk : Ev → Option (List D)} {k n : Nat} {f C : Addr} {fd : FuncData} {ps ks : List Str} {x : Str} {g : List Value → List Value → List Value}
theorem make_ofX {K : PySem.W.Frag} {m : List D → Option Rz} {ds : List D} {r : Rz} {M H : Hp} {fo : List O} {fv : List (Option V)} {l : List O} {lv : List (Option V)} {vs : List V} {Q : VK} {E : XK} (hl : lv.length = l.length) (R : Rep K M H (l ++ fo) (lv ++ fv)) (dv : Dvs K M vs ds) (hn : ds.length + 1 = n) (e : m ds = some r)
    (k : match r with
      | .ok o => ∀ M' H' v, Same M M' → Rep K M' H' (l ++ o :: fo) (lv ++ some v :: fv) → Q v H'
      | .ex y => ∀ M' H' cls d, Same M M' → Rep K M' H' (l ++ fo) (lv ++ fv) → ExR K M' y cls d → E cls d H') (x dx : Addr) (hx : H x = none) (hd : H dx = none) (ne : dx ≠ x) :
    spIX K C n m (.ref x :: vs) (upd (upd H dx (.own x)) x (.ins C dx [])) (fun v H2 => v = .non ∧ Q (.ref x) H2) E := by
  refine ⟨x, vs, M, l ++ fo, lv ++ fv, ds, r, rfl, by rw [dv.length]; exact hn, R.newI hx hd ne, dv, e, ?_⟩
  cases r with
  | ok o => exact fun M2 H2 s2 R2 => ⟨rfl, k M2 H2 _ s2 (R2.swap hl)⟩
  | ex y => exact k
end
end PD

/-! C(..) whose __init__ may raise, anywhere (in a try's body too) -/
namespace PD
open PySem PySem.Spec PyProof.Rows L2
section
variable {X : Cx} {W : WX} {k n j : Nat} {f C : Addr} {fd : FuncData} {ps ks : List Str} {x : Str} {p pos : Pos} {e : Expr} {es : List Expr} {kws : List Keyword} {ga gk : Ev → Option (List D)} {m : List D → Option Rz} {dvs : List V} {dds : List D}
theorem run_mkE {CX : CXT} {sp : Sp} {E : XK} {pn : List (Addr × Obj)} {σ : L2.St} {H : Hp} {s : Shared} {Q : VK} {us full : List Value} {kw : List (Str × Value)} {vv : List V} (Mc : Mk X.K C f) (F : FnOk X.prog X.w X.K X.mg X.base CX k f fd ps sp) (hr : Room (k + 1) X.A) (hx : PassesAt CX X σ E) (inv : Inv X pn σ H s)
    (hb : ∀ s', X.K.In s'.heap → BindsTo s' fd ⟨.ref (s.heap.objs.size + 1) :: us, kw⟩ (ps.zip full)) (rv : Vals vv full)
    (h : sp vv (upd (upd H s.heap.objs.size (.own (s.heap.objs.size + 1))) (s.heap.objs.size + 1) (.ins C s.heap.objs.size [])) (fun v H2 => v = .non ∧ Q (.ref (s.heap.objs.size + 1)) H2) E) :
    wpAny (model X.prog X.w) X.A (call (.ref C) us kw) (EP X pn σ Q) X.xe s := by
  have inv' := Inv.made (C := C) inv
  have run := F.run _ X.stack _ _ ⟨.ref (s.heap.objs.size + 1) :: us, kw⟩ full vv _ E (hr.make C us kw) (inv'.env0.make C us kw) (hb _ inv'.kIn) rv h
  refine wpAny_call (make_map (f := f) inv.kIn Mc.makes Mc.init (beq_iff_eq.mp Mc.fn) (codeAny_mono run fun z s' hz => ?_))
  match z, hz with
  | .error y, hz => exact hx pn _ _ y s' inv' hz
  | .ok (.ret _), hz =>
    obtain ⟨v, H', inv3, rv3, ev, q3⟩ := inv'.after hz
    subst ev
    exact ⟨rv3, V.ref (s.heap.objs.size + 1), H', inv3, rfl, q3⟩
/-- what the call leaves -/
theorem mkE_sp {K : PySem.W.Frag} {ds : List D} {r : Rz} {M H : Hp} {ρ fo : List O} {σ : L2.St} {fv : List (Option V)} {vs : List V} {Q : VK} {h : Heap} {P : Program} {w : World} (hok : HOk P w H h) (hl : σ.length = ρ.length) (R : Rep K M H (ρ ++ fo) (σ ++ fv)) (dv : Dvs K M vs ds) (hn : ds.length = j) (e : m ds = some r)
    (k : match r with
      | .ok o => ∀ M' H' v, Same M M' → Rep K M' H' (ρ ++ o :: fo) (σ ++ some v :: fv) → Q v H'
      | .ex y => ∀ M' H' cls d, Same M M' → Rep K M' H' (ρ ++ fo) (σ ++ fv) → ExR K M' y cls d → W cls d σ H') :
    spIX K C (j + 1) m (.ref (h.objs.size + 1) :: vs) (upd (upd H h.objs.size (.own (h.objs.size + 1))) (h.objs.size + 1) (.ins C h.objs.size [])) (fun v H2 => v = .non ∧ Q (.ref (h.objs.size + 1)) H2) (WE W σ) :=
  make_ofX hl R dv (by rw [hn]) e (by cases r with
    | ok o => exact k
    | ex y => exact k) _ _ (hok.fresh (Nat.le_succ _)) (hok.fresh (Nat.le_refl _)) (Nat.ne_of_lt (Nat.lt_succ_self _))
def xMk (ga : Ev → Option (List D)) (n : Nat) (dds : List D) (m : List D → Option Rz) (ρ : Ev) : Option Rz := (ga ρ).bind fun ds => if ds.length = n then m (ds ++ dds) else none
/-- C(e, ..), defaults fill up -/
theorem xMake (tk : L2N.Takes X W) (Mc : Mk X.K C f) (F : FnOk X.prog X.w X.K X.mg X.base (L2N.CX X.prog X.w) k f fd ps (spIX X.K C (j + 1) m)) (hr : Room (k + 1) X.A) (hm : X.mg x = some (.ref C)) (hb : ∃ us, Vals dvs us ∧ Binds X.K fd ps us) (hd : ∀ M, Dvs X.K M dvs dds) (hj : n + dds.length = j) (ha : PA X (e :: es) (tAr X.K ga)) (hg : Gl X x := by rfl)
    (hdb : (x == ("__debug__" : Str)) = false := by decide) (he : starEach (e :: es) X.env = (false, eval e X.env) :: starEach es X.env := by rfl) (hpl : (backTo pos (starEach es X.env)).any (·.1) = false := by rfl) :
    PE X (.Call (.Name x p) (e :: es) [] pos) (tXc X.K W (xMk ga n dds m)) := ⟨fun pn σs σ H Q inv h => by
  obtain ⟨M, ρ, fo, fv, r, R, l, e1, kk⟩ := h
  obtain ⟨ds0, vu, hb⟩ := hb
  unfold xMk at e1
  cases q : ga ρ with
  | none => rw [q] at e1; cases e1
  | some as =>
    rw [q, Option.bind_some] at e1
    split at e1
    case isFalse => cases e1
    rename_i hl
    refine wpAny_Call_Name_kw (ld_glob inv hg hm ?_ hdb)
    refine PySem.W.callWith_K (h₀ := X.base) inv.ok.mod.kin Mc.kp (thn (ha.run pos pn σs σ H (fun vs H1 => ∃ M1, Same M M1 ∧ Rep X.K M1 H1 (ρ ++ fo) (σ ++ fv) ∧ Dvs X.K M1 vs as) inv ⟨M, ρ, fo, fv, as, R, l, q, fun M1 H1 vs s1 R1 d1 => ⟨M1, s1, R1, d1⟩⟩) fun us st1 hu => ?_) he hpl
    obtain ⟨vs, H1, inv1, ru, M1, s1, R1, d1⟩ := hu
    refine ⟨inv1.kIn, ?_⟩
    have sp0 := mkE_sp (C := C) (j := j) (W := W) (Q := Q) inv1.hok l R1 (d1.append (hd M1)) (by rw [List.length_append, hl]; exact hj) e1 (by
      cases r with
      | ok o => exact fun M2 H2 v s2 R2 => kk M2 H2 v (s1.trans s2) R2
      | ex y => exact fun M2 H2 cls d s2 R2 ex => kk M2 H2 cls d (s1.trans s2) R2 ex)
    have rv : Vals (V.ref (st1.heap.objs.size + 1) :: (vs ++ dvs)) (Value.ref (st1.heap.objs.size + 1) :: (us ++ ds0)) := .cons rfl (ru.append vu)
    refine run_mkE (full := .ref (st1.heap.objs.size + 1) :: (us ++ ds0)) Mc F hr (L2N.passAt tk σ) inv1 (fun s' hin => ?_) rv sp0
    have hlen := F.len _ _ _ _ sp0
    exact hb s' (.ref (st1.heap.objs.size + 1) :: us) hin (by rw [← hlen, rv.length]; rfl)⟩
end
end PD

/-! keyword-only parameters with defaults, two of them; C(..) in every form -/
namespace PD
open PySem PySem.Spec PyProof.Rows L2
theorem funD_kw2 {K : PySem.W.Frag} {x qual : Str} {st : Stmt} {f T : Addr} {oc : Value} {od an : Option Addr} {osl : Array (Option Value)} {doc pm cdv ct u1 u2 : Value} {n1 n2 : Str} {v1 v2 : V} (l : K.lookup f = some ⟨oc, od, .func (PySem.W.fnOf x qual (defArgs st) (defBody st) (defScope st) .none (.ref T) doc pm an cdv ct), osl⟩)
    (c : PySem.W.codeIn K cdv qual = true) (k : PySem.W.keepIn K (.ref f) = true) (h1 : PySem.W.nsIn K T n1 = some (some u1)) (h2 : PySem.W.nsIn K T n2 = some (some u2)) (r1 : RelV v1 u1) (r2 : RelV v2 u2) :
    L2.FunD K x qual (defArgs st) (defBody st) (defScope st) [] [(n1, v1), (n2, v2)] f (PySem.W.fnOf x qual (defArgs st) (defBody st) (defScope st) .none (.ref T) doc pm an cdv ct) :=
  ⟨⟨oc, od, .none, .ref T, doc, pm, an, cdv, ct, osl, rfl, l, c, .inl ⟨rfl, rfl⟩, .inr ⟨T, rfl, fun q hq => by
    rcases List.mem_cons.mp hq with rfl | hq
    · exact ⟨u1, h1, r1⟩
    · rcases List.mem_singleton.mp hq with rfl
      exact ⟨u2, h2, r2⟩⟩⟩, k⟩
/-- the call's written values ahead of the missing ones -/
def gWM {α : Type} (us mv ws : List α) : List α := us ++ (ws ++ mv)
/-- the missing ones ahead -/
def gMW {α : Type} (us mv ws : List α) : List α := us ++ (mv ++ ws)
theorem kbn_ms {K : PySem.W.Frag} {x qual : Str} {st : Stmt} {f : Addr} {fd : FuncData} {ps : List Str} {kws : List (Str × V)} (F : L2.FunD K x qual (defArgs st) (defBody st) (defScope st) [] kws f fd) (n : Nat) (ks : List Str) (ms : List (Str × V)) (hk : kws ≠ []) (hms : ∀ q ∈ ms, q ∈ kws)
    (h : ∀ (T : Addr) (doc pm : Value) (an : Option Addr) (cdv ct : Value) (us mv ws : List Value), us.length = n → mv.length = ms.length → ws.length = ks.length → KwChain T ((ms.map (·.1)).zip mv) (bindArgs (PySem.W.fnOf x qual (defArgs st) (defBody st) (defScope st) .none (.ref T) doc pm an cdv ct) ⟨us, ks.zip ws⟩) (ps.zip (gWM us mv ws))) :
    ∃ g, KBn K fd ps n ks g (fun vs zs => gWM vs (ms.map (·.2)) zs) := by
  obtain ⟨mv, h1⟩ := F.kbinds0 (ps := ps) n ks ms gWM hk hms (fun r1 r2 r3 => r1.append (r3.append r2)) h
  exact ⟨_, h1⟩
theorem kbn_sm {K : PySem.W.Frag} {x qual : Str} {st : Stmt} {f : Addr} {fd : FuncData} {ps : List Str} {kws : List (Str × V)} (F : L2.FunD K x qual (defArgs st) (defBody st) (defScope st) [] kws f fd) (n : Nat) (ks : List Str) (ms : List (Str × V)) (hk : kws ≠ []) (hms : ∀ q ∈ ms, q ∈ kws)
    (h : ∀ (T : Addr) (doc pm : Value) (an : Option Addr) (cdv ct : Value) (us mv ws : List Value), us.length = n → mv.length = ms.length → ws.length = ks.length → KwChain T ((ms.map (·.1)).zip mv) (bindArgs (PySem.W.fnOf x qual (defArgs st) (defBody st) (defScope st) .none (.ref T) doc pm an cdv ct) ⟨us, ks.zip ws⟩) (ps.zip (gMW us mv ws))) :
    ∃ g, KBn K fd ps n ks g (fun vs zs => gMW vs (ms.map (·.2)) zs) := by
  obtain ⟨mv, h1⟩ := F.kbinds0 (ps := ps) n ks ms gMW hk hms (fun r1 r2 r3 => r1.append (r2.append r3)) h
  exact ⟨_, h1⟩
/-- how the written values and the defaults lie, for values and for data alike -/
structure Lay (gV : List V → List V → List V) (gD : List D → List D → List D) (n nk j : Nat) : Prop where
  hd : ∀ x vs zs, gV (x :: vs) zs = x :: gV vs zs
  rel : ∀ {K : PySem.W.Frag} {M : Hp} {vs zs : List V} {as bs : List D}, Dvs K M vs as → Dvs K M zs bs → Dvs K M (gV vs zs) (gD as bs)
  len : ∀ {as bs : List D}, as.length = n → bs.length = nk → (gD as bs).length = j
theorem lay_wm {mv : List V} {md : List D} {n nk j : Nat} (h : ∀ (K : PySem.W.Frag) (M : Hp), Dvs K M mv md) (e : n + nk + md.length = j) : Lay (fun vs zs => gWM vs mv zs) (fun as bs => gWM as md bs) n nk j where
  hd _ _ _ := rfl
  rel a b := a.append (b.append (h _ _))
  len a b := by show (_ ++ (_ ++ md)).length = j; rw [List.length_append, List.length_append, a, b, ← e]; omega
theorem lay_mw {mv : List V} {md : List D} {n nk j : Nat} (h : ∀ (K : PySem.W.Frag) (M : Hp), Dvs K M mv md) (e : n + nk + md.length = j) : Lay (fun vs zs => gMW vs mv zs) (fun as bs => gMW as md bs) n nk j where
  hd _ _ _ := rfl
  rel a b := a.append ((h _ _).append b)
  len a b := by show (_ ++ (md ++ _)).length = j; rw [List.length_append, List.length_append, a, b, ← e]; omega
section
variable {X : Cx} {W : WX} {k n j : Nat} {f C : Addr} {fd : FuncData} {ps ks : List Str} {x : Str} {p pos : Pos} {e : Expr} {es : List Expr} {kws : List Keyword} {ga gk : Ev → Option (List D)} {m : List D → Option Rz} {gV : List V → List V → List V} {gD : List D → List D → List D}
def xMkG (ga gk : Ev → Option (List D)) (n nk : Nat) (gD : List D → List D → List D) (m : List D → Option Rz) (ρ : Ev) : Option Rz := (ga ρ).bind fun as => (gk ρ).bind fun bs => if as.length = n ∧ bs.length = nk then m (gD as bs) else none
/-- C(e, .., k=v, ..), the defaults wherever they lie -/
theorem xMakeG (tk : L2N.Takes X W) (Mc : Mk X.K C f) (F : FnOk X.prog X.w X.K X.mg X.base (L2N.CX X.prog X.w) k f fd ps (spIX X.K C (j + 1) m)) (hr : Room (k + 1) X.A) (hm : X.mg x = some (.ref C)) (hb : ∃ g, KBn X.K fd ps (n + 1) ks g gV) (L : Lay gV gD n ks.length j)
    (ha : PA X (e :: es) (tAr X.K ga)) (hkw : PK X kws (tAr X.K gk)) (hg : Gl X x := by rfl) (hall : (backToKw pos (keywordEach kws X.env)).all (·.1.isSome) = true := by rfl) (hks : (backToKw pos (keywordEach kws X.env)).filterMap (·.1) = ks := by rfl)
    (hdb : (x == ("__debug__" : Str)) = false := by decide) (he : starEach (e :: es) X.env = (false, eval e X.env) :: starEach es X.env := by rfl)
    (hpl : ((backTo pos (starEach (e :: es) X.env)).any (·.1) || (backToKw pos (keywordEach kws X.env)).any (·.1.isNone)) = false := by rfl) :
    PE X (.Call (.Name x p) (e :: es) kws pos) (tXc X.K W (xMkG ga gk n ks.length gD m)) := ⟨fun pn σs σ H Q inv h => by
  obtain ⟨M, ρ, fo, fv, r, R, l, e1, kk⟩ := h
  obtain ⟨g, hb⟩ := hb
  unfold xMkG at e1
  cases q : ga ρ with
  | none => rw [q] at e1; cases e1
  | some as =>
    rw [q, Option.bind_some] at e1
    cases q2 : gk ρ with
    | none => rw [q2] at e1; cases e1
    | some bs =>
      rw [q2, Option.bind_some] at e1
      split at e1
      case isFalse => cases e1
      rename_i hl
      refine wpAny_Call_Name_kw (ld_glob inv hg hm ?_ hdb)
      refine PySem.W.callWith_KW (h₀ := X.base) inv.ok.mod.kin Mc.kp hall ?_ hpl he
      refine thn (ha.run pos pn σs σ H (fun vs H1 => ∃ M1, Same M M1 ∧ Rep X.K M1 H1 (ρ ++ fo) (σ ++ fv) ∧ Dvs X.K M1 vs as) inv ⟨M, ρ, fo, fv, as, R, l, q, fun M1 H1 vs s1 R1 d1 => ⟨M1, s1, R1, d1⟩⟩) fun us st1 hu => ?_
      obtain ⟨vs, H1, inv1, ru, M1, s1, R1, d1⟩ := hu
      refine thn (hkw.run pos pn st1 σ H1 (fun zs H2 => ∃ M2, Same M1 M2 ∧ Rep X.K M2 H2 (ρ ++ fo) (σ ++ fv) ∧ Dvs X.K M2 zs bs) inv1 ⟨M1, ρ, fo, fv, bs, R1, l, q2, fun M2 H2 zs s2 R2 d2 => ⟨M2, s2, R2, d2⟩⟩) fun ws st2 hw => ?_
      obtain ⟨zs, H2, inv2, rz, M2, s2, R2, d2⟩ := hw
      refine ⟨inv2.kIn, ?_⟩
      rw [hks]
      have sp0 := mkE_sp (C := C) (j := j) (W := W) (Q := Q) inv2.hok l R2 (L.rel (d1.mono s2) d2) (L.len hl.1 hl.2) e1 (by
        cases r with
        | ok o => exact fun M3 H3 v s3 R3 => kk M3 H3 v (s1.trans (s2.trans s3)) R3
        | ex y => exact fun M3 H3 cls d s3 R3 ex => kk M3 H3 cls d (s1.trans (s2.trans s3)) R3 ex)
      rw [← L.hd] at sp0
      have r1 : Vals (V.ref (st2.heap.objs.size + 1) :: vs) (Value.ref (st2.heap.objs.size + 1) :: us) := .cons rfl ru
      refine run_mkE (full := g (.ref (st2.heap.objs.size + 1) :: us) ws) Mc F hr (L2N.passAt tk σ) inv2 (fun s' hin => ?_) (hb.rel r1 rz) sp0
      refine hb.to s' (.ref (st2.heap.objs.size + 1) :: us) ws hin ?_ ?_
      · rw [List.length_cons, ← ru.length, d1.length, hl.1]
      · rw [← rz.length, d2.length, hl.2]⟩
def xMkK' (gk : Ev → Option (List D)) (nk : Nat) (gD : List D → List D → List D) (m : List D → Option Rz) (ρ : Ev) : Option Rz := (gk ρ).bind fun bs => if bs.length = nk then m (gD [] bs) else none
/-- C(k=v, ..) -/
theorem xMakeGK (tk : L2N.Takes X W) (Mc : Mk X.K C f) (F : FnOk X.prog X.w X.K X.mg X.base (L2N.CX X.prog X.w) k f fd ps (spIX X.K C (j + 1) m)) (hr : Room (k + 1) X.A) (hm : X.mg x = some (.ref C)) (hb : ∃ g, KBn X.K fd ps 1 ks g gV) (L : Lay gV gD 0 ks.length j)
    (hkw : PK X kws (tAr X.K gk)) (hg : Gl X x := by rfl) (hall : (backToKw pos (keywordEach kws X.env)).all (·.1.isSome) = true := by rfl) (hks : (backToKw pos (keywordEach kws X.env)).filterMap (·.1) = ks := by rfl)
    (hdb : (x == ("__debug__" : Str)) = false := by decide)
    (hpl : ((backTo pos (starEach [] X.env)).any (·.1) || (backToKw pos (keywordEach kws X.env)).any (·.1.isNone)) = false := by rfl) :
    PE X (.Call (.Name x p) [] kws pos) (tXc X.K W (xMkK' gk ks.length gD m)) := ⟨fun pn σs σ H Q inv h => by
  obtain ⟨M, ρ, fo, fv, r, R, l, e1, kk⟩ := h
  obtain ⟨g, hb⟩ := hb
  unfold xMkK' at e1
  cases q2 : gk ρ with
  | none => rw [q2] at e1; cases e1
  | some bs =>
    rw [q2, Option.bind_some] at e1
    split at e1
    case isFalse => cases e1
    rename_i hl
    refine wpAny_Call_Name_kw (ld_glob inv hg hm ?_ hdb)
    refine PySem.W.callWith_KW0 (h₀ := X.base) inv.ok.mod.kin Mc.kp hall ?_ hpl
    refine thn (hkw.run pos pn σs σ H (fun zs H2 => ∃ M2, Same M M2 ∧ Rep X.K M2 H2 (ρ ++ fo) (σ ++ fv) ∧ Dvs X.K M2 zs bs) inv ⟨M, ρ, fo, fv, bs, R, l, q2, fun M2 H2 zs s2 R2 d2 => ⟨M2, s2, R2, d2⟩⟩) fun ws st2 hw => ?_
    obtain ⟨zs, H2, inv2, rz, M2, s2, R2, d2⟩ := hw
    refine ⟨inv2.kIn, ?_⟩
    rw [hks]
    have sp0 := mkE_sp (C := C) (j := j) (W := W) (Q := Q) inv2.hok l R2 (L.rel .nil d2) (L.len rfl hl) e1 (by
      cases r with
      | ok o => exact fun M3 H3 v s3 R3 => kk M3 H3 v (s2.trans s3) R3
      | ex y => exact fun M3 H3 cls d s3 R3 ex => kk M3 H3 cls d (s2.trans s3) R3 ex)
    rw [← L.hd] at sp0
    have r1 : Vals [V.ref (st2.heap.objs.size + 1)] [Value.ref (st2.heap.objs.size + 1)] := .cons rfl .nil
    refine run_mkE (us := []) (full := g [.ref (st2.heap.objs.size + 1)] ws) Mc F hr (L2N.passAt tk σ) inv2 (fun s' hin => ?_) (hb.rel r1 rz) sp0
    refine hb.to s' [.ref (st2.heap.objs.size + 1)] ws hin rfl ?_
    rw [← rz.length, d2.length, hl]⟩
theorem xMakeGn {nk : Nat} (tk : L2N.Takes X W) (Mc : Mk X.K C f) (F : FnOk X.prog X.w X.K X.mg X.base (L2N.CX X.prog X.w) k f fd ps (spIX X.K C (j + 1) m)) (hr : Room (k + 1) X.A) (hm : X.mg x = some (.ref C)) (hb : ∃ g, KBn X.K fd ps (n + 1) ks g gV) (L : Lay gV gD n nk j)
    (ha : PA X (e :: es) (tAr X.K ga)) (hkw : PK X kws (tAr X.K gk)) (hg : Gl X x := by rfl) (hall : (backToKw pos (keywordEach kws X.env)).all (·.1.isSome) = true := by rfl) (hks : (backToKw pos (keywordEach kws X.env)).filterMap (·.1) = ks := by rfl)
    (hdb : (x == ("__debug__" : Str)) = false := by decide) (he : starEach (e :: es) X.env = (false, eval e X.env) :: starEach es X.env := by rfl)
    (hpl : ((backTo pos (starEach (e :: es) X.env)).any (·.1) || (backToKw pos (keywordEach kws X.env)).any (·.1.isNone)) = false := by rfl) (hnk : ks.length = nk := by rfl) :
    PE X (.Call (.Name x p) (e :: es) kws pos) (tXc X.K W (xMkG ga gk n nk gD m)) := by
  subst hnk
  exact xMakeG tk Mc F hr hm hb L ha hkw hg hall hks hdb he hpl
theorem xMakeGKn {nk : Nat} (tk : L2N.Takes X W) (Mc : Mk X.K C f) (F : FnOk X.prog X.w X.K X.mg X.base (L2N.CX X.prog X.w) k f fd ps (spIX X.K C (j + 1) m)) (hr : Room (k + 1) X.A) (hm : X.mg x = some (.ref C)) (hb : ∃ g, KBn X.K fd ps 1 ks g gV) (L : Lay gV gD 0 nk j)
    (hkw : PK X kws (tAr X.K gk)) (hg : Gl X x := by rfl) (hall : (backToKw pos (keywordEach kws X.env)).all (·.1.isSome) = true := by rfl) (hks : (backToKw pos (keywordEach kws X.env)).filterMap (·.1) = ks := by rfl)
    (hdb : (x == ("__debug__" : Str)) = false := by decide)
    (hpl : ((backTo pos (starEach [] X.env)).any (·.1) || (backToKw pos (keywordEach kws X.env)).any (·.1.isNone)) = false := by rfl) (hnk : ks.length = nk := by rfl) :
    PE X (.Call (.Name x p) [] kws pos) (tXc X.K W (xMkK' gk nk gD m)) := by
  subst hnk
  exact xMakeGK tk Mc F hr hm hb L hkw hg hall hks hdb hpl
end
end PD

/-! a list display whose items are own things -/
namespace PD
open PySem PySem.Spec L2
def tAOo (K : PySem.W.Frag) (f : Ev → Option (List O)) : TA := fun σ H Q => ∃ M ρ fo fv os, Rep K M H (ρ ++ fo) (σ ++ fv) ∧ σ.length = ρ.length ∧ f ρ = some os ∧ ∀ M' H' vs, Same M M' → Rep K M' H' (ρ ++ (os ++ fo)) (σ ++ (vs.map some ++ fv)) → vs.length = os.length → Q vs H'
def ooN (_ : Ev) : Option (List O) := some []
def ooC (f : Ev → Option O) (g : Ev → Option (List O)) (ρ : Ev) : Option (List O) := (f ρ).bind fun o => (g ρ).map (o :: ·)
def lstOs (g : Ev → Option (List O)) (ρ : Ev) : Option O := (g ρ).bind fun os => if os.length ≤ sizeLine then some (.lst os) else none
section
variable {X : Cx} {pos : Pos} {e : Expr} {es : List Expr} {f : Ev → Option O} {g : Ev → Option (List O)}
theorem ooNil : PA X [] (tAOo X.K ooN) := PA.imp pa_nil fun σ H Q ⟨M, ρ, fo, fv, os, R, l, e, k⟩ => by
  cases e
  exact k M H [] (Same.refl _) R rfl
theorem ooCons (ha : PE X e (tO X.K f)) (hr : PA X es (tAOo X.K g)) (hs : starEach (e :: es) X.env = (false, eval e X.env) :: starEach es X.env := by rfl) : PA X (e :: es) (tAOo X.K (ooC f g)) := PA.imp (pa_cons ha hr hs) fun σ H Q ⟨M, ρ, fo, fv, os0, R, l, e, k⟩ => by
  unfold ooC at e
  cases q : f ρ with
  | none => rw [q] at e; cases e
  | some o =>
    rw [q, Option.bind_some] at e
    refine ⟨M, ρ, fo, fv, o, R, l, q, ?_⟩
    cases q2 : g ρ with
    | none => rw [q2] at e; cases e
    | some os =>
      rw [q2] at e
      cases e
      intro M1 H1 v s1 R1
      refine ⟨M1, ρ, o :: fo, some v :: fv, os, R1, l, q2, ?_⟩
      intro M2 H2 vs s2 R2 lv
      refine k M2 H2 (v :: vs) (s1.trans s2) ?_ (by simp [lv])
      have lf := R.lens l
      refine R2.perm (by simp [l, lv, lf]) (by simp [l, lv, lf]) ?_
      rw [List.zip_append l.symm, List.zip_append l.symm]
      refine List.Perm.append_left _ ?_
      rw [List.zip_append (by simp [lv])]
      simp only [List.map_cons, List.cons_append, List.zip_cons_cons]
      rw [List.zip_append (by simp [lv])]
      exact List.perm_middle
theorem oLstOs (h : PA X es (tAOo X.K g)) : PE X (.List es pos) (tO X.K (lstOs g)) := PE.imp (pe_lst h) fun σ H Q ⟨M, ρ, fo, fv, o0, R, l, e, k⟩ => by
  unfold lstOs at e
  cases q : g ρ with
  | none => rw [q] at e; cases e
  | some os =>
    rw [q, Option.bind_some] at e
    split at e
    · rename_i hl
      cases e
      refine ⟨M, ρ, fo, fv, os, R, l, q, ?_⟩
      exact fun M1 H1 vs s1 R1 lv => ⟨by rw [lv]; exact hl, fun p hp => k _ _ _ s1 (R1.packL l lv hp)⟩
    · cases e
end
end PD

namespace K03
open PySem PySem.Spec L2 L2H PD
def topS (i : Nat) : Stmt := PySem.Challenge.pw_playhall_k03_moves_merge.main.body.getD i (.Pass ⟨0, 0, 0, 0⟩)
def clsS (i j : Nat) : Stmt := match topS i with
  | .ClassDef (body := b) .. => b.getD j (.Pass ⟨0, 0, 0, 0⟩)
  | _ => .Pass ⟨0, 0, 0, 0⟩
/-- where the classes stand -/
structure Cs where
  Move : Addr
  HallError : Addr
  BadMove : Addr
  BadSeason : Addr
  BadScoring : Addr
  BadHall : Addr
  BadGame : Addr
abbrev s_law_same : Stmt := topS 23
theorem sc_law_same : FnScope ["_law_actual", "_law_expected_here", "_law_k"] ["_law_actual", "_law_expected_here"] (defScope s_law_same) := ⟨rfl, rfl, rfl, by decide +kernel, rfl, by decide +kernel, by decide +kernel⟩
abbrev s_law_shown : Stmt := topS 38
theorem sc_law_shown : FnScope ["_law_move", "_law_expected_here"] ["_law_move", "_law_expected_here"] (defScope s_law_shown) := ⟨rfl, rfl, rfl, by decide +kernel, rfl, by decide +kernel, by decide +kernel⟩
abbrev s_law_summed : Stmt := topS 35
theorem sc_law_summed : FnScope ["_law_own_changes", "_law_result", "_law_labels", "_law_k", "_law_amount", "_law_change"] ["_law_own_changes"] (defScope s_law_summed) := ⟨rfl, rfl, rfl, by decide +kernel, rfl, by decide +kernel, by decide +kernel⟩
abbrev s_law_merged : Stmt := topS 34
theorem sc_law_merged : FnScope ["_law_own_needs", "_law_result", "_law_labels", "_law_k", "_law_lows", "_law_highs", "_law_low", "_law_high", "_law_need"] ["_law_own_needs"] (defScope s_law_merged) := ⟨rfl, rfl, rfl, by decide +kernel, rfl, by decide +kernel, by decide +kernel⟩
abbrev s_law_expected : Stmt := topS 36
theorem sc_law_expected : FnScope ["_law_parts", "_law_own_name", "_law_own_player", "_law_own_needs", "_law_own_changes", "_law_shown_here", "_law_wrong"] ["_law_parts"] (defScope s_law_expected) := ⟨rfl, rfl, rfl, by decide +kernel, rfl, by decide +kernel, by decide +kernel⟩
abbrev smerged_changes : Stmt := topS 17
theorem scmerged_changes : FnScope ["changes", "sums", "counter", "amount"] ["changes"] (defScope smerged_changes) := ⟨rfl, rfl, rfl, by decide +kernel, rfl, by decide +kernel, by decide +kernel⟩
abbrev slesser_high : Stmt := topS 14
theorem sclesser_high : FnScope ["one", "other", "high"] ["one", "other"] (defScope slesser_high) := ⟨rfl, rfl, rfl, by decide +kernel, rfl, by decide +kernel, by decide +kernel⟩
abbrev sgreater_low : Stmt := topS 13
theorem scgreater_low : FnScope ["one", "other", "low"] ["one", "other"] (defScope sgreater_low) := ⟨rfl, rfl, rfl, by decide +kernel, rfl, by decide +kernel, by decide +kernel⟩
abbrev smerged_needs : Stmt := topS 16
theorem scmerged_needs : FnScope ["needs", "limits", "counter", "low", "high", "merged_low", "merged_high"] ["needs"] (defScope smerged_needs) := ⟨rfl, rfl, rfl, by decide +kernel, rfl, by decide +kernel, by decide +kernel⟩
abbrev sis_name : Stmt := topS 10
theorem scis_name : FnScope ["text", "char"] ["text"] (defScope sis_name) := ⟨rfl, rfl, rfl, by decide +kernel, rfl, by decide +kernel, by decide +kernel⟩
abbrev sis_label : Stmt := topS 11
theorem scis_label : FnScope ["text", "parts", "part"] ["text"] (defScope sis_label) := ⟨rfl, rfl, rfl, by decide +kernel, rfl, by decide +kernel, by decide +kernel⟩
abbrev sis_need : Stmt := topS 15
theorem scis_need : FnScope ["need", "counter", "low", "high"] ["need"] (defScope sis_need) := ⟨rfl, rfl, rfl, by decide +kernel, rfl, by decide +kernel, by decide +kernel⟩
abbrev sMove_init : Stmt := clsS 18 0
theorem scMove_init : FnScope ["self", "name", "player", "needs", "changes", "sign", "foul", "need", "counter", "amount"] ["self", "name", "player", "needs", "changes", "sign", "foul"] (defScope sMove_init) := ⟨rfl, rfl, rfl, by decide +kernel, rfl, by decide +kernel, by decide +kernel⟩
abbrev s_law_build : Stmt := topS 37
theorem sc_law_build : FnScope ["_law_parts", "_law_short", "_law_own_name", "_law_own_player", "_law_own_needs", "_law_own_changes", "_law_shown_here", "_law_wrong"] ["_law_parts", "_law_short"] (defScope s_law_build) := ⟨rfl, rfl, rfl, by decide +kernel, rfl, by decide +kernel, by decide +kernel⟩
abbrev s_law_base : Stmt := topS 42
theorem sc_law_base : FnScope ["_law_parts", "e"] ["_law_parts"] (defScope s_law_base) := ⟨rfl, rfl, rfl, by decide +kernel, rfl, by decide +kernel, by decide +kernel⟩
abbrev s_law_is_name : Stmt := topS 28
theorem sc_law_is_name : FnScope ["_law_text_here", "_law_char"] ["_law_text_here"] (defScope s_law_is_name) := ⟨rfl, rfl, rfl, by decide +kernel, rfl, by decide +kernel, by decide +kernel⟩
abbrev s_law_is_label : Stmt := topS 29
theorem sc_law_is_label : FnScope ["_law_text_here", "_law_dots", "_law_k"] ["_law_text_here"] (defScope s_law_is_label) := ⟨rfl, rfl, rfl, by decide +kernel, rfl, by decide +kernel, by decide +kernel⟩
abbrev s_law_refused : Stmt := topS 33
theorem sc_law_refused : FnScope ["_law_parts", "_law_own_name", "_law_own_player", "_law_own_needs", "_law_own_changes", "_law_shown_here", "_law_wrong", "_law_label", "_law_low", "_law_high", "_law_amount"] ["_law_parts"] (defScope s_law_refused) := ⟨rfl, rfl, rfl, by decide +kernel, rfl, by decide +kernel, by decide +kernel⟩
abbrev s_law_told : Stmt := topS 43
theorem sc_law_told : FnScope ["_law_parts", "_law_short", "_law_told_here", "_law_actual", "e", "_law_expected_here"] ["_law_parts", "_law_short"] (defScope s_law_told) := ⟨rfl, rfl, rfl, by decide +kernel, rfl, by decide +kernel, by decide +kernel⟩
abbrev sMove_eq : Stmt := clsS 18 1
theorem scMove_eq : FnScope ["self", "other"] ["self", "other"] (defScope sMove_eq) := ⟨rfl, rfl, rfl, by decide +kernel, rfl, by decide +kernel, by decide +kernel⟩
abbrev s_law_wrong_changes : Stmt := topS 40
theorem sc_law_wrong_changes : FnScope ["_law_text_here", "_law_number_here"] ["_law_text_here", "_law_number_here"] (defScope s_law_wrong_changes) := ⟨rfl, rfl, rfl, by decide +kernel, rfl, by decide +kernel, by decide +kernel⟩
abbrev s_law_spoilt : Stmt := topS 41
theorem sc_law_spoilt : FnScope ["_law_parts", "_law_row_here", "_law_text_here", "_law_spoilt_here", "_law_kind", "_law_chosen", "_law_below", "_law_place", "_law_label", "_law_bad"] ["_law_parts", "_law_row_here", "_law_text_here"] (defScope s_law_spoilt) := ⟨rfl, rfl, rfl, by decide +kernel, rfl, by decide +kernel, by decide +kernel⟩
abbrev s_law_chars : Stmt := topS 26
theorem sc_law_chars : FnScope ["_law_menu", "_law_numbers", "_law_size", "_law_k"] ["_law_menu", "_law_numbers", "_law_size"] (defScope s_law_chars) := ⟨rfl, rfl, rfl, by decide +kernel, rfl, by decide +kernel, by decide +kernel⟩
abbrev s_law_text : Stmt := topS 27
theorem sc_law_text : FnScope ["_law_row_here", "_law_signs", "_law_letters", "_law_sizes", "_law_kind", "_law_text_here", "_law_place"] ["_law_row_here"] (defScope s_law_text) := ⟨rfl, rfl, rfl, by decide +kernel, rfl, by decide +kernel, by decide +kernel⟩
abbrev s_law_row : Stmt := topS 21
theorem sc_law_row : FnScope ["_law_cell_here", "_law_many", "_law_row_here", "_law_seed", "_law_rest", "_law_k", "_law_mixed"] ["_law_cell_here", "_law_many"] (defScope s_law_row) := ⟨rfl, rfl, rfl, by decide +kernel, rfl, by decide +kernel, by decide +kernel⟩
abbrev s_law_cell : Stmt := topS 20
theorem sc_law_cell : FnScope ["_law_script", "_law_k"] ["_law_script", "_law_k"] (defScope s_law_cell) := ⟨rfl, rfl, rfl, by decide +kernel, rfl, by decide +kernel, by decide +kernel⟩
abbrev s_law_near : Stmt := topS 39
theorem sc_law_near : FnScope ["_law_parts", "_law_own_name", "_law_own_player", "_law_own_needs", "_law_own_changes", "_law_shown_here", "_law_wrong", "_law_result", "_law_word_here", "_law_k", "_law_label", "_law_low", "_law_high"] ["_law_parts"] (defScope s_law_near) := ⟨rfl, rfl, rfl, by decide +kernel, rfl, by decide +kernel, by decide +kernel⟩
abbrev s_law_number : Stmt := topS 24
theorem sc_law_number : FnScope ["_law_numbers", "_law_most", "_law_own_sign", "_law_kind", "_law_value", "_law_k"] ["_law_numbers", "_law_most"] (defScope s_law_number) := ⟨rfl, rfl, rfl, by decide +kernel, rfl, by decide +kernel, by decide +kernel⟩
abbrev s_law_changes : Stmt := topS 32
theorem sc_law_changes : FnScope ["_law_row_here", "_law_pool_here", "_law_own_changes", "_law_k", "_law_at", "_law_amount", "_law_label"] ["_law_row_here", "_law_pool_here"] (defScope s_law_changes) := ⟨rfl, rfl, rfl, by decide +kernel, rfl, by decide +kernel, by decide +kernel⟩
abbrev s_law_limit : Stmt := topS 30
theorem sc_law_limit : FnScope ["_law_numbers", "_law_kind", "_law_value", "_law_k"] ["_law_numbers"] (defScope s_law_limit) := ⟨rfl, rfl, rfl, by decide +kernel, rfl, by decide +kernel, by decide +kernel⟩
abbrev s_law_needs : Stmt := topS 31
theorem sc_law_needs : FnScope ["_law_row_here", "_law_pool_here", "_law_own_needs", "_law_k", "_law_at", "_law_low", "_law_high"] ["_law_row_here", "_law_pool_here"] (defScope s_law_needs) := ⟨rfl, rfl, rfl, by decide +kernel, rfl, by decide +kernel, by decide +kernel⟩
abbrev s_law_word : Stmt := topS 22
theorem sc_law_word : FnScope ["_law_number_here", "_law_rest", "_law_word_here", "_law_k"] ["_law_number_here"] (defScope s_law_word) := ⟨rfl, rfl, rfl, by decide +kernel, rfl, by decide +kernel, by decide +kernel⟩
abbrev s_law_pool : Stmt := topS 25
theorem sc_law_pool : FnScope ["_law_row_here", "_law_first", "_law_second", "_law_pool_here", "_law_label"] ["_law_row_here"] (defScope s_law_pool) := ⟨rfl, rfl, rfl, by decide +kernel, rfl, by decide +kernel, by decide +kernel⟩
abbrev slaw : Stmt := topS 44
theorem sclaw : FnScope ["_law_script", "_law_row_here", "_law_pool_here", "_law_own_needs", "_law_own_changes", "_law_shown_here", "_law_parts", "_law_expected_here", "_law_passed", "_law_move", "_law_near_here", "_law_other", "_law_thing", "_law_k", "_law_numbers", "_law_spoilt_here"] ["_law_script"] (defScope slaw) := ⟨rfl, rfl, rfl, by decide +kernel, rfl, by decide +kernel, by decide +kernel⟩
abbrev sBadMove_init : Stmt := clsS 2 0
theorem xsBadMove : XSt "BadMove.__init__" sBadMove_init ["part"] := { ar := ⟨_, rfl, rfl⟩, n1 := rfl, n2 := rfl, n3 := rfl, n4 := rfl, n5 := rfl, n6 := rfl, n7 := by decide +kernel, body := ⟨_, _, _, _, _, _, _, _, _, rfl, fun _ _ _ _ => ⟨_, rfl⟩, .cons (.nil)⟩, binds := fun _ _ _ _ _ _ _ _ us hl => match us, hl with | [_, _], _ => rfl, loc := by decide +kernel, nd := by decide, few := by decide }
/-- _law_same: 0 _law_actual, 1 _law_expected_here, 2 _law_k -/
noncomputable abbrev b_law_same (c : Cs) (self_ : List D → Option D) : Ev → Option Fl :=
    (sq (ifS (asB (b2 (gv 1) kN isN)) (rtV (b2 (gv 0) kN isN)) skip)
    (sq (ifS (asB (b1 (gv 1) (isiD "bool"))) (rtV (andV (b1 (gv 0) (isiD "bool")) (b2 (gv 0) (gv 1) eqD))) skip)
    (sq (ifS (asB (b1 (gv 1) (isiD "int"))) (rtV (andV (b1 (gv 0) (isiD "int")) (andV (notV (b1 (gv 0) (isiD "bool"))) (b2 (gv 0) (gv 1) eqD)))) skip)
    (sq (ifS (asB (b1 (gv 1) (isiD "str"))) (rtV (andV (b1 (gv 0) (isiD "str")) (b2 (gv 0) (gv 1) eqD))) skip)
    (sq (ifS (andT (asB (b1 (gv 1) (isiD "tuple"))) (notT (asB (b1 (gv 0) (isiD "tuple"))))) (rtV (kB false)) skip)
    (sq (ifS (orT (andT (asB (b1 (gv 1) (isiD "list"))) (notT (asB (b1 (gv 0) (isiD "list"))))) (asB (b2 (cB (aCons (gv 0) aNil) lenD) (cB (aCons (gv 1) aNil) lenD) neD))) (rtV (kB false)) skip)
    (sq (forS (rng1 (cB (aCons (gv 1) aNil) lenD)) (gN 2) (ifS (notT (asB (cB (aCons (b2 (gv 0) (gv 2) ixD) (aCons (b2 (gv 1) (gv 2) ixD) aNil)) (len? 2 (self_))))) (rtV (kB false)) skip))
    (rtV (kB true)))))))))
noncomputable def m_law_same (c : Cs) : Nat → List D → Option D
  | 0 => fun _ => none
  | n + 1 => runP 3 (b_law_same c (m_law_same c n))
/-- _law_shown: 0 _law_move, 1 _law_expected_here -/
noncomputable abbrev b_law_shown (c : Cs) : Ev → Option Fl :=
    (rtV (cB (aCons (mkLst (aCons (b1 (gv 0) (fldD c.Move "name")) (aCons (b1 (gv 0) (fldD c.Move "player")) (aCons (b1 (gv 0) (fldD c.Move "needs")) (aCons (b1 (gv 0) (fldD c.Move "changes")) (aCons (b1 (gv 0) (fldD c.Move "sign")) (aCons (b1 (gv 0) (fldD c.Move "foul")) aNil))))))) (aCons (gv 1) aNil)) (len? 2 (m_law_same c 5))))
noncomputable def m_law_shown (c : Cs) : List D → Option D := runP 2 (b_law_shown c)
/-- _law_summed: 0 _law_own_changes, 1 _law_result, 2 _law_labels, 3 _law_k, 4 _law_amount, 5 _law_change -/
noncomputable abbrev b_law_summed (c : Cs) : Ev → Option Fl :=
    (sq (stO 1 (mkLstO aNil))
    (sq (stV 2 (frz (cO (aCons (lcD (iOf (gv 0)) (gN 5) yes (b2 (gv 5) (kI 0) ixD) [5]) aNil) srtO)))
    (sq (forS (rng1 (cB (aCons (gv 2) aNil) lenD)) (gN 3) (ifS (orT (asB (b2 (gv 3) (kI 0) eqD)) (asB (b2 (b2 (gv 2) (gv 3) ixD) (b2 (gv 2) (b2 (gv 3) (kI 1) subI) ixD) neD))) (sq (stV 4 (cB (aCons (lcD (iOf (gv 0)) (gN 5) (asB (b2 (b2 (gv 5) (kI 0) ixD) (b2 (gv 2) (gv 3) ixD) eqD)) (b2 (gv 5) (kI 1) ixD) [5]) aNil) sumD))
    (ifS (asB (b2 (gv 4) (kI 0) neD)) (app 1 (mkTup (aCons (b2 (gv 2) (gv 3) ixD) (aCons (gv 4) aNil)))) skip)) skip))
    (fz 1 (rtV (cB (aCons (gv 1) aNil) tupD))))))
noncomputable def m_law_summed (c : Cs) : List D → Option D := runP 6 (b_law_summed c)
/-- _law_merged: 0 _law_own_needs, 1 _law_result, 2 _law_labels, 3 _law_k, 4 _law_lows, 5 _law_highs, 6 _law_low, 7 _law_high, 8 _law_need -/
noncomputable abbrev b_law_merged (c : Cs) : Ev → Option Fl :=
    (sq (stO 1 (mkLstO aNil))
    (sq (stV 2 (frz (cO (aCons (lcD (iOf (gv 0)) (gN 8) yes (b2 (gv 8) (kI 0) ixD) [8]) aNil) srtO)))
    (sq (forS (rng1 (cB (aCons (gv 2) aNil) lenD)) (gN 3) (ifS (orT (asB (b2 (gv 3) (kI 0) eqD)) (asB (b2 (b2 (gv 2) (gv 3) ixD) (b2 (gv 2) (b2 (gv 3) (kI 1) subI) ixD) neD))) (sq (stV 4 (lcD (iOf (gv 0)) (gN 8) (andT (asB (b2 (b2 (gv 8) (kI 0) ixD) (b2 (gv 2) (gv 3) ixD) eqD)) (asB (b2 (b2 (gv 8) (kI 1) ixD) kN notN))) (b2 (gv 8) (kI 1) ixD) [8]))
    (sq (stV 5 (lcD (iOf (gv 0)) (gN 8) (andT (asB (b2 (b2 (gv 8) (kI 0) ixD) (b2 (gv 2) (gv 3) ixD) eqD)) (asB (b2 (b2 (gv 8) (kI 2) ixD) kN notN))) (b2 (gv 8) (kI 2) ixD) [8]))
    (sq (stV 6 kN)
    (sq (stV 7 kN)
    (sq (ifS (asB (b2 (cB (aCons (gv 4) aNil) lenD) (kI 0) gtI)) (stV 6 (cB (aCons (gv 4) aNil) maxLD)) skip)
    (sq (ifS (asB (b2 (cB (aCons (gv 5) aNil) lenD) (kI 0) gtI)) (stV 7 (cB (aCons (gv 5) aNil) minLD)) skip)
    (app 1 (mkTup (aCons (b2 (gv 2) (gv 3) ixD) (aCons (gv 6) (aCons (gv 7) aNil))))))))))) skip))
    (fz 1 (rtV (cB (aCons (gv 1) aNil) tupD))))))
noncomputable def m_law_merged (c : Cs) : List D → Option D := runP 9 (b_law_merged c)
/-- _law_expected: 0 _law_parts, 1 _law_own_name, 2 _law_own_player, 3 _law_own_needs, 4 _law_own_changes, 5 _law_shown_here, 6 _law_wrong -/
noncomputable abbrev b_law_expected (c : Cs) : Ev → Option Fl :=
    (sq (asg (gv 0) (gL 6 (gsC (gN 1) (gsC (gN 2) (gsC (gN 3) (gsC (gN 4) (gsC (gN 5) (gsC (gN 6) gsN))))))))
    (rtV (mkLst (aCons (gv 1) (aCons (gv 2) (aCons (cB (aCons (gv 3) aNil) (len? 1 (m_law_merged c))) (aCons (cB (aCons (gv 4) aNil) (len? 1 (m_law_summed c))) (aCons (gv 5) (aCons (gv 6) aNil)))))))))
noncomputable def m_law_expected (c : Cs) : List D → Option D := runP 7 (b_law_expected c)
/-- merged_changes: 0 changes, 1 sums, 2 counter, 3 amount -/
noncomputable abbrev bmerged_changes (c : Cs) : Ev → Option Fl :=
    (sq (stO 1 dic0)
    (sq (forS (iOf (gv 0)) (gT 2 (gsC (gN 2) (gsC (gN 3) gsN))) (dput 1 (gv 2) (b2 (get2O 1 (gv 2) (kI 0)) (gv 3) addA)))
    (fz 1 (rtV (cB (aCons (lcD (iOf (frz (cO (aCons (frz (cO (aCons (gv 1) aNil) keysO)) aNil) srtO))) (gN 2) (asB (b2 (b2 (gv 1) (gv 2) dgetD) (kI 0) neD)) (mkTup (aCons (gv 2) (aCons (b2 (gv 1) (gv 2) dgetD) aNil))) [2]) aNil) tupD)))))
noncomputable def mmerged_changes (c : Cs) : List D → Option D := runP 4 (bmerged_changes c)
/-- lesser_high: 0 one, 1 other, 2 high -/
noncomputable abbrev blesser_high (c : Cs) : Ev → Option Fl :=
    (rtV (cBK (aCons (lcD (iOf (mkTup (aCons (gv 0) (aCons (gv 1) aNil)))) (gN 2) (asB (b2 (gv 2) kN notN)) (gv 2) [2]) aNil) (aCons kN aNil) (mDfD min)))
noncomputable def mlesser_high (c : Cs) : List D → Option D := runP 3 (blesser_high c)
/-- greater_low: 0 one, 1 other, 2 low -/
noncomputable abbrev bgreater_low (c : Cs) : Ev → Option Fl :=
    (rtV (cBK (aCons (lcD (iOf (mkTup (aCons (gv 0) (aCons (gv 1) aNil)))) (gN 2) (asB (b2 (gv 2) kN notN)) (gv 2) [2]) aNil) (aCons kN aNil) (mDfD max)))
noncomputable def mgreater_low (c : Cs) : List D → Option D := runP 3 (bgreater_low c)
/-- merged_needs: 0 needs, 1 limits, 2 counter, 3 low, 4 high, 5 merged_low, 6 merged_high -/
noncomputable abbrev bmerged_needs (c : Cs) : Ev → Option Fl :=
    (sq (stO 1 dic0)
    (sq (forS (iOf (gv 0)) (gT 3 (gsC (gN 2) (gsC (gN 3) (gsC (gN 4) gsN)))) (sq (asg (get2O 1 (gv 2) (mkTup (aCons kN (aCons kN aNil)))) (gT 2 (gsC (gN 5) (gsC (gN 6) gsN))))
    (dput 1 (gv 2) (mkTup (aCons (cB (aCons (gv 5) (aCons (gv 3) aNil)) (len? 2 (mgreater_low c))) (aCons (cB (aCons (gv 6) (aCons (gv 4) aNil)) (len? 2 (mlesser_high c))) aNil))))))
    (fz 1 (rtV (cB (aCons (lcD (iOf (frz (cO (aCons (frz (cO (aCons (gv 1) aNil) keysO)) aNil) srtO))) (gN 2) yes (mkTup (aCons (gv 2) (aCons (b2 (b2 (gv 1) (gv 2) dgetD) (kI 0) ixD) (aCons (b2 (b2 (gv 1) (gv 2) dgetD) (kI 1) ixD) aNil)))) [2]) aNil) tupD)))))
noncomputable def mmerged_needs (c : Cs) : List D → Option D := runP 7 (bmerged_needs c)
/-- is_name: 0 text, 1 char -/
noncomputable abbrev bis_name (c : Cs) : Ev → Option Fl :=
    (rtV (andV (chn (kI 1) (cB (aCons (gv 0) aNil) lenD) (kI 12) leI leI) (cB (aCons (lcD (iOf (gv 0)) (gN 1) yes (b2 (gv 1) (kS "abcdefghijklmnopqrstuvwxyz") inD) [1]) aNil) allD)))
noncomputable def mis_name (c : Cs) : List D → Option D := runP 2 (bis_name c)
/-- is_label: 0 text, 1 parts, 2 part -/
noncomputable abbrev bis_label (c : Cs) : Ev → Option Fl :=
    (sq (stV 1 (m1 (gv 0) (kS ".") splitD))
    (rtV (andV (b2 (cB (aCons (gv 1) aNil) lenD) (kI 2) leI) (cB (aCons (lcD (iOf (gv 1)) (gN 2) yes (cB (aCons (gv 2) aNil) (len? 1 (mis_name c))) [2]) aNil) allD))))
noncomputable def mis_label (c : Cs) : List D → Option D := runP 3 (bis_label c)
/-- is_need: 0 need, 1 counter, 2 low, 3 high -/
noncomputable abbrev bis_need (c : Cs) : Ev → Option Fl :=
    (sq (asg (gv 0) (gT 3 (gsC (gN 1) (gsC (gN 2) (gsC (gN 3) gsN)))))
    (sq (ifS (orT (notT (asB (cB (aCons (gv 1) aNil) (len? 1 (mis_label c))))) (andT (asB (b2 (gv 2) kN isN)) (asB (b2 (gv 3) kN isN)))) (rtV (kB false)) skip)
    (rtV (andV (orV (b2 (gv 2) kN isN) (b2 (gv 2) (kI 0) geI)) (orV (b2 (gv 3) kN isN) (b2 (gv 3) (kI 0) geI))))))
noncomputable def mis_need (c : Cs) : List D → Option D := runP 4 (bis_need c)
/-- Move_init: 0 self, 1 name, 2 player, 3 needs, 4 changes, 5 sign, 6 foul, 7 need, 8 counter, 9 amount -/
noncomputable abbrev bMove_init (c : Cs) : Ev → Option Fl :=
    (sq (ifS (notT (asB (cB (aCons (gv 1) aNil) (len? 1 (mis_label c))))) (raiS c.BadMove ["part"] (aCons (kS "name") aNil)) skip)
    (sq (ifS (notT (asB (cB (aCons (gv 2) aNil) (len? 1 (mis_label c))))) (raiS c.BadMove ["part"] (aCons (kS "player") aNil)) skip)
    (sq (ifS (notT (asB (cB (aCons (lcD (iOf (gv 3)) (gN 7) yes (cB (aCons (gv 7) aNil) (len? 1 (mis_need c))) [7]) aNil) allD))) (raiS c.BadMove ["part"] (aCons (kS "needs") aNil)) skip)
    (sq (ifS (notT (asB (cB (aCons (lcD (iOf (gv 4)) (gT 2 (gsC (gN 8) (gsC (gN 9) gsN))) yes (cB (aCons (gv 8) aNil) (len? 1 (mis_label c))) [8, 9]) aNil) allD))) (raiS c.BadMove ["part"] (aCons (kS "changes") aNil)) skip)
    (sq (ifS (andT (asB (b2 (gv 5) kN notN)) (notT (asB (cB (aCons (gv 5) aNil) (len? 1 (mis_label c)))))) (raiS c.BadMove ["part"] (aCons (kS "sign") aNil)) skip)
    (sq (put c.Move 0 "name" (thaw (gv 1)))
    (sq (put c.Move 0 "player" (thaw (gv 2)))
    (sq (put c.Move 0 "needs" (thaw (cB (aCons (gv 3) aNil) (len? 1 (mmerged_needs c)))))
    (sq (put c.Move 0 "changes" (thaw (cB (aCons (gv 4) aNil) (len? 1 (mmerged_changes c)))))
    (sq (put c.Move 0 "sign" (thaw (gv 5)))
    (put c.Move 0 "foul" (thaw (gv 6)))))))))))))
noncomputable def mMove_init (c : Cs) : List D → Option Rz := runIX c.Move 10 (bMove_init c)
/-- _law_build: 0 _law_parts, 1 _law_short, 2 _law_own_name, 3 _law_own_player, 4 _law_own_needs, 5 _law_own_changes, 6 _law_shown_here, 7 _law_wrong -/
noncomputable abbrev b_law_build (c : Cs) : Ev → Option Fl :=
    (sq (asg (gv 0) (gL 6 (gsC (gN 2) (gsC (gN 3) (gsC (gN 4) (gsC (gN 5) (gsC (gN 6) (gsC (gN 7) gsN))))))))
    (sq (ifS (andT (asB (gv 1)) (andT (asB (b2 (gv 6) kN isN)) (notT (asB (gv 7))))) (rtX (xMk (aCons (gv 2) (aCons (gv 3) (aCons (gv 4) (aCons (gv 5) aNil)))) 4 [.non, .bl false] (mMove_init c))) skip)
    (sq (ifS (andT (asB (gv 1)) (asB (b2 (gv 6) kN isN))) (rtX (xMkG (aCons (gv 2) (aCons (gv 3) (aCons (gv 4) (aCons (gv 5) aNil)))) (aCons (gv 7) aNil) 4 1 (fun as bs => gMW as [.non] bs) (mMove_init c))) skip)
    (sq (ifS (andT (asB (gv 1)) (notT (asB (gv 7)))) (rtX (xMkG (aCons (gv 2) (aCons (gv 3) (aCons (gv 4) (aCons (gv 5) aNil)))) (aCons (gv 6) aNil) 4 1 (fun as bs => gWM as [.bl false] bs) (mMove_init c))) skip)
    (rtX (xMkK' (aCons (gv 2) (aCons (gv 3) (aCons (gv 4) (aCons (gv 5) (aCons (gv 6) (aCons (gv 7) aNil)))))) 6 (fun as bs => gWM as [] bs) (mMove_init c)))))))
noncomputable def m_law_build (c : Cs) : List D → Option Rz := runX 8 (b_law_build c)
/-- _law_base: 0 _law_parts, 1 e -/
noncomputable abbrev b_law_base (c : Cs) : Ev → Option Fl :=
    (sq (tryS [(c.BadMove, true)] 1
    (drpX (xC (aCons (gv 0) (aCons (kB false) aNil)) 2 (m_law_build c)))
    (fun a d cls => (sq (ifS (asB (b1 (gv 1) (isX a d cls [(c.BadMove, false)]))) (rtV (kB false)) skip)
    (rtV (andV (b1 (gv 1) (isX a d cls [(c.BadMove, true)])) (b1 (gv 1) (isX a d cls [(c.BadMove, true)])))))))
    (rtV (kB false)))
noncomputable def m_law_base (c : Cs) : List D → Option D := runP 2 (b_law_base c)
/-- _law_is_name: 0 _law_text_here, 1 _law_char -/
noncomputable abbrev b_law_is_name (c : Cs) : Ev → Option Fl :=
    (sq (forS (iOf (gv 0)) (gN 1) (ifS (asB (b2 (gv 1) (kS "abcdefghijklmnopqrstuvwxyz") ninD)) (rtV (kB false)) skip))
    (rtV (andV (b2 (cB (aCons (gv 0) aNil) lenD) (kI 0) gtI) (b2 (cB (aCons (gv 0) aNil) lenD) (kI 13) ltI))))
noncomputable def m_law_is_name (c : Cs) : List D → Option D := runP 2 (b_law_is_name c)
/-- _law_is_label: 0 _law_text_here, 1 _law_dots, 2 _law_k -/
noncomputable abbrev b_law_is_label (c : Cs) : Ev → Option Fl :=
    (sq (stV 1 (lcD (rng1 (cB (aCons (gv 0) aNil) lenD)) (gN 2) (asB (b2 (b2 (gv 0) (gv 2) ixD) (kS ".") eqD)) (gv 2) [2]))
    (sq (ifS (asB (b2 (cB (aCons (gv 1) aNil) lenD) (kI 0) eqD)) (rtV (cB (aCons (gv 0) aNil) (len? 1 (m_law_is_name c)))) skip)
    (rtV (andV (b2 (cB (aCons (gv 1) aNil) lenD) (kI 1) eqD) (andV (cB (aCons (slc (gv 0) noPart (part (b2 (gv 1) (kI 0) ixD))) aNil) (len? 1 (m_law_is_name c))) (cB (aCons (slc (gv 0) (part (b2 (b2 (gv 1) (kI 0) ixD) (kI 1) addA)) noPart) aNil) (len? 1 (m_law_is_name c))))))))
noncomputable def m_law_is_label (c : Cs) : List D → Option D := runP 3 (b_law_is_label c)
/-- _law_refused: 0 _law_parts, 1 _law_own_name, 2 _law_own_player, 3 _law_own_needs, 4 _law_own_changes, 5 _law_shown_here, 6 _law_wrong, 7 _law_label, 8 _law_low, 9 _law_high, 10 _law_amount -/
noncomputable abbrev b_law_refused (c : Cs) : Ev → Option Fl :=
    (sq (asg (gv 0) (gL 6 (gsC (gN 1) (gsC (gN 2) (gsC (gN 3) (gsC (gN 4) (gsC (gN 5) (gsC (gN 6) gsN))))))))
    (sq (ifS (notT (asB (cB (aCons (gv 1) aNil) (len? 1 (m_law_is_label c))))) (rtV (kS "name")) skip)
    (sq (ifS (notT (asB (cB (aCons (gv 2) aNil) (len? 1 (m_law_is_label c))))) (rtV (kS "player")) skip)
    (sq (forS (iOf (gv 3)) (gT 3 (gsC (gN 7) (gsC (gN 8) (gsC (gN 9) gsN)))) (sq (ifS (orT (notT (asB (cB (aCons (gv 7) aNil) (len? 1 (m_law_is_label c))))) (andT (asB (b2 (gv 8) kN isN)) (asB (b2 (gv 9) kN isN)))) (rtV (kS "needs")) skip)
    (ifS (orT (andT (asB (b2 (gv 8) kN notN)) (asB (b2 (gv 8) (kI 0) ltI))) (andT (asB (b2 (gv 9) kN notN)) (asB (b2 (gv 9) (kI 0) ltI)))) (rtV (kS "needs")) skip)))
    (sq (forS (iOf (gv 4)) (gT 2 (gsC (gN 7) (gsC (gN 10) gsN))) (ifS (notT (asB (cB (aCons (gv 7) aNil) (len? 1 (m_law_is_label c))))) (rtV (kS "changes")) skip))
    (sq (ifS (andT (asB (b2 (gv 5) kN notN)) (notT (asB (cB (aCons (gv 5) aNil) (len? 1 (m_law_is_label c)))))) (rtV (kS "sign")) skip)
    (rtV kN)))))))
noncomputable def m_law_refused (c : Cs) : List D → Option D := runP 11 (b_law_refused c)
/-- _law_told: 0 _law_parts, 1 _law_short, 2 _law_told_here, 3 _law_actual, 4 e, 5 _law_expected_here -/
noncomputable abbrev b_law_told (c : Cs) : Ev → Option Fl :=
    (sq (stV 2 kN)
    (sq (stV 3 kN)
    (sq (tryS [(c.BadMove, true)] 4
    (stXD 3 (xC (aCons (gv 0) (aCons (gv 1) aNil)) 2 (m_law_build c)))
    (fun a d cls => (stV 2 (b1 (gv 4) (fldE a d cls [c.BadMove] "part")))))
    (sq (stV 5 (cB (aCons (gv 0) aNil) (len? 1 (m_law_refused c))))
    (sq (ifS (asB (b2 (gv 5) kN notN)) (rtV (andV (b2 (gv 3) kN isN) (andV (cB (aCons (gv 2) (aCons (gv 5) aNil)) (len? 2 (m_law_same c 5))) (cB (aCons (gv 0) aNil) (len? 1 (m_law_base c)))))) skip)
    (rtV (andV (b2 (gv 2) kN isN) (cB (aCons (gv 3) (aCons (cB (aCons (gv 0) aNil) (len? 1 (m_law_expected c))) aNil)) (len? 2 (m_law_shown c))))))))))
noncomputable def m_law_told (c : Cs) : List D → Option D := runP 6 (b_law_told c)
/-- Move_eq: 0 self, 1 other -/
noncomputable abbrev bMove_eq (c : Cs) : Ev → Option Fl :=
    (rtV (andV (b1 (gv 1) (isiC [(c.Move, true)])) (andV (b2 (b1 (gv 0) (fldD c.Move "name")) (b1 (gv 1) (fldD c.Move "name")) eqD) (andV (b2 (b1 (gv 0) (fldD c.Move "player")) (b1 (gv 1) (fldD c.Move "player")) eqD) (andV (b2 (b1 (gv 0) (fldD c.Move "needs")) (b1 (gv 1) (fldD c.Move "needs")) eqD) (andV (b2 (b1 (gv 0) (fldD c.Move "changes")) (b1 (gv 1) (fldD c.Move "changes")) eqD) (andV (b2 (b1 (gv 0) (fldD c.Move "sign")) (b1 (gv 1) (fldD c.Move "sign")) eqD) (b2 (b1 (gv 0) (fldD c.Move "foul")) (b1 (gv 1) (fldD c.Move "foul")) eqD))))))))
noncomputable def mMove_eq (c : Cs) : List D → Option D := runP 2 (bMove_eq c)
/-- _law_wrong_changes: 0 _law_text_here, 1 _law_number_here -/
noncomputable abbrev b_law_wrong_changes (c : Cs) : Ev → Option Fl :=
    (rtV (b2 (mkLst (aCons (mkLst (aCons (mkTup (aCons (gv 0) (aCons (kI 1) aNil))) aNil)) (aCons (mkLst (aCons (mkTup (aCons (gv 0) (aCons (kI 0) aNil))) aNil)) (aCons (mkLst (aCons (mkTup (aCons (gv 0) (aCons (kI 2) aNil))) (aCons (mkTup (aCons (gv 0) (aCons (b1 (kI 2) negI) aNil))) aNil))) aNil)))) (b2 (cB (aCons (gv 1) aNil) intD) (kI 3) modI) ixD))
noncomputable def m_law_wrong_changes (c : Cs) : List D → Option D := runP 2 (b_law_wrong_changes c)
/-- _law_spoilt: 0 _law_parts, 1 _law_row_here, 2 _law_text_here, 3 _law_spoilt_here, 4 _law_kind, 5 _law_chosen, 6 _law_below, 7 _law_place, 8 _law_label, 9 _law_bad -/
noncomputable abbrev b_law_spoilt (c : Cs) : Ev → Option Fl :=
    (sq (stO 3 (cO (aCons (gv 0) aNil) listO))
    (sq (stV 4 (b2 (cB (aCons (b2 (gv 1) (kI 0) ixD) aNil) intD) (kI 7) modI))
    (sq (stV 5 (mkLst (aCons (gv 4) aNil)))
    (sq (ifS (asB (b2 (gv 4) (kI 5) eqD)) (stV 5 (mkLst (aCons (b2 (cB (aCons (b2 (gv 1) (kI 1) ixD) aNil) intD) (kI 5) modI) (aCons (b2 (cB (aCons (b2 (gv 1) (kI 2) ixD) aNil) intD) (kI 5) modI) aNil)))) skip)
    (sq (ifS (asB (b2 (gv 4) (kI 6) eqD)) (stV 5 (mkLst (aCons (kI 0) (aCons (kI 1) (aCons (kI 2) (aCons (kI 3) (aCons (kI 4) aNil))))))) skip)
    (sq (stV 6 (b2 (b2 (kI 0) (kI 1) subI) (b2 (cB (aCons (b2 (gv 1) (kI 3) ixD) aNil) intD) (kI 3) modI) subI))
    (sq (stV 7 (b2 (cB (aCons (b2 (gv 1) (kI 4) ixD) aNil) intD) (b2 (cB (aCons (b2 (gv 0) (kI 2) ixD) aNil) lenD) (kI 1) addA) modI))
    (sq (stV 8 (kS "q"))
    (sq (ifS (andT (asB (b2 (cB (aCons (b2 (gv 0) (kI 2) ixD) aNil) lenD) (kI 0) gtI)) (asB (b2 (b2 (cB (aCons (b2 (b2 (gv 1) (kI 5) ixD) (kI 5) divI) aNil) intD) (kI 3) modI) (kI 0) gtI))) (stV 8 (b2 (b2 (b2 (gv 0) (kI 2) ixD) (b2 (cB (aCons (b2 (b2 (gv 1) (kI 5) ixD) (kI 15) divI) aNil) intD) (cB (aCons (b2 (gv 0) (kI 2) ixD) aNil) lenD) modI) ixD) (kI 0) ixD)) skip)
    (sq (stV 9 (mkLst (aCons (mkTup (aCons (gv 2) (aCons (kI 0) (aCons kN aNil)))) (aCons (mkTup (aCons (gv 8) (aCons (gv 6) (aCons kN aNil)))) (aCons (mkTup (aCons (gv 8) (aCons kN (aCons (gv 6) aNil)))) aNil)))))
    (sq (stV 9 (b2 (b2 (gv 9) (mkLst (aCons (mkTup (aCons (gv 8) (aCons kN (aCons kN aNil)))) (aCons (mkTup (aCons (gv 8) (aCons (kI 3) (aCons (gv 6) aNil)))) aNil))) addA) (b2 (cB (aCons (b2 (gv 1) (kI 5) ixD) aNil) intD) (kI 5) modI) ixD))
    (sq (ifS (asB (b2 (kI 0) (gv 5) inD)) (setP 3 plN (kI 0) (thaw (gv 2))) skip)
    (sq (ifS (asB (b2 (kI 1) (gv 5) inD)) (setP 3 plN (kI 1) (thaw (gv 2))) skip)
    (sq (ifS (asB (b2 (kI 2) (gv 5) inD)) (setP 3 plN (kI 2) (thaw (b2 (b2 (slc (b2 (gv 0) (kI 2) ixD) noPart (part (gv 7))) (mkLst (aCons (gv 9) aNil)) addA) (slc (b2 (gv 0) (kI 2) ixD) (part (gv 7)) noPart) addA))) skip)
    (sq (ifS (asB (b2 (kI 3) (gv 5) inD)) (sq (stV 7 (b2 (cB (aCons (b2 (gv 1) (kI 6) ixD) aNil) intD) (b2 (cB (aCons (b2 (gv 0) (kI 3) ixD) aNil) lenD) (kI 1) addA) modI))
    (setP 3 plN (kI 3) (thaw (b2 (b2 (slc (b2 (gv 0) (kI 3) ixD) noPart (part (gv 7))) (cB (aCons (gv 2) (aCons (b2 (b2 (gv 1) (kI 6) ixD) (kI 24) divI) aNil)) (len? 2 (m_law_wrong_changes c))) addA) (slc (b2 (gv 0) (kI 3) ixD) (part (gv 7)) noPart) addA)))) skip)
    (sq (ifS (asB (b2 (kI 4) (gv 5) inD)) (setP 3 plN (kI 4) (thaw (gv 2))) skip)
    (fz 3 (rtV (gv 3)))))))))))))))))))
noncomputable def m_law_spoilt (c : Cs) : List D → Option D := runP 10 (b_law_spoilt c)
/-- _law_chars: 0 _law_menu, 1 _law_numbers, 2 _law_size, 3 _law_k -/
noncomputable abbrev b_law_chars (c : Cs) : Ev → Option Fl :=
    (rtV (m1 (kS "") (lcD (rng1 (gv 2)) (gN 3) yes (b2 (gv 0) (b2 (cB (aCons (b2 (gv 1) (gv 3) ixD) aNil) intD) (cB (aCons (gv 0) aNil) lenD) modI) ixD) [3]) joinD))
noncomputable def m_law_chars (c : Cs) : List D → Option D := runP 4 (b_law_chars c)
/-- _law_text: 0 _law_row_here, 1 _law_signs, 2 _law_letters, 3 _law_sizes, 4 _law_kind, 5 _law_text_here, 6 _law_place -/
noncomputable abbrev b_law_text (c : Cs) : Ev → Option Fl :=
    (sq (stV 1 (kS " !\"#$&'()*+,-./0123456789:;<=>?@ABCDEFGHIJKLMNOPQRSTUVWXYZ[\\]^_`"))
    (sq (stV 2 (kS "abcdefghijklmnopqrstuvwxyz"))
    (sq (stV 1 (b2 (b2 (gv 1) (gv 2) addA) (kS "{|}~\n") addA))
    (sq (stV 3 (mkLst (aCons (kI 0) (aCons (kI 1) (aCons (kI 2) (aCons (kI 7) (aCons (kI 11) (aCons (kI 12) (aCons (kI 13) (aCons (kI 14) aNil))))))))))
    (sq (stV 4 (b2 (cB (aCons (b2 (gv 0) (kI 0) ixD) aNil) intD) (kI 6) modI))
    (sq (stV 5 (cB (aCons (gv 1) (aCons (slc (gv 0) (part (kI 5)) noPart) (aCons (b2 (cB (aCons (b2 (gv 0) (kI 1) ixD) aNil) intD) (kI 40) modI) aNil))) (len? 3 (m_law_chars c))))
    (sq (ifS (asB (b2 (gv 4) (kI 1) eqD)) (stV 5 (cB (aCons (gv 2) (aCons (slc (gv 0) (part (kI 5)) noPart) (aCons (b2 (gv 3) (b2 (cB (aCons (b2 (gv 0) (kI 1) ixD) aNil) intD) (kI 8) modI) ixD) aNil))) (len? 3 (m_law_chars c)))) skip)
    (sq (ifS (asB (b2 (gv 4) (kI 2) eqD)) (sq (stV 5 (b2 (cB (aCons (gv 2) (aCons (slc (gv 0) (part (kI 5)) noPart) (aCons (b2 (gv 3) (b2 (cB (aCons (b2 (gv 0) (kI 1) ixD) aNil) intD) (kI 8) modI) ixD) aNil))) (len? 3 (m_law_chars c))) (kS ".") addA))
    (stV 5 (b2 (gv 5) (cB (aCons (gv 2) (aCons (slc (gv 0) (part (kI 20)) noPart) (aCons (b2 (gv 3) (b2 (cB (aCons (b2 (gv 0) (kI 2) ixD) aNil) intD) (kI 8) modI) ixD) aNil))) (len? 3 (m_law_chars c))) addA))) skip)
    (sq (ifS (asB (b2 (gv 4) (kI 3) eqD)) (stV 5 (cB (aCons (b2 (gv 2) (kS "....") addA) (aCons (slc (gv 0) (part (kI 5)) noPart) (aCons (b2 (cB (aCons (b2 (gv 0) (kI 1) ixD) aNil) intD) (kI 30) modI) aNil))) (len? 3 (m_law_chars c)))) skip)
    (sq (ifS (asB (b2 (gv 4) (kI 4) eqD)) (stV 5 (cB (aCons (kS "0123456789") (aCons (slc (gv 0) (part (kI 5)) noPart) (aCons (b2 (cB (aCons (b2 (gv 0) (kI 1) ixD) aNil) intD) (kI 40) modI) aNil))) (len? 3 (m_law_chars c)))) skip)
    (sq (ifS (asB (b2 (gv 4) (kI 5) eqD)) (stV 5 (cB (aCons (kS "00123") (aCons (slc (gv 0) (part (kI 5)) noPart) (aCons (b2 (cB (aCons (b2 (gv 0) (kI 1) ixD) aNil) intD) (kI 4) modI) aNil))) (len? 3 (m_law_chars c)))) skip)
    (sq (ifS (asB (b2 (b2 (cB (aCons (b2 (b2 (gv 0) (kI 0) ixD) (kI 6) divI) aNil) intD) (kI 3) modI) (kI 1) eqD)) (sq (stV 6 (b2 (cB (aCons (b2 (gv 0) (kI 3) ixD) aNil) intD) (b2 (cB (aCons (gv 5) aNil) lenD) (kI 1) addA) modI))
    (stV 5 (b2 (b2 (slc (gv 5) noPart (part (gv 6))) (b2 (gv 1) (b2 (cB (aCons (b2 (gv 0) (kI 4) ixD) aNil) intD) (cB (aCons (gv 1) aNil) lenD) modI) ixD) addA) (slc (gv 5) (part (gv 6)) noPart) addA))) skip)
    (rtV (gv 5))))))))))))))
noncomputable def m_law_text (c : Cs) : List D → Option D := runP 7 (b_law_text c)
/-- _law_row: 0 _law_cell_here, 1 _law_many, 2 _law_row_here, 3 _law_seed, 4 _law_rest, 5 _law_k, 6 _law_mixed -/
noncomputable abbrev b_law_row (c : Cs) : Ev → Option Fl :=
    (sq (stO 2 (mkLstO aNil))
    (sq (stV 3 (b2 (cB (aCons (gv 0) aNil) intD) (kI 2147483629) modI))
    (sq (stV 4 (b2 (gv 0) (b2 (kI 10) (kI 18) powI) subI))
    (sq (forS (rng1 (gv 1)) (gN 5) (sq (stV 3 (b2 (cB (aCons (b2 (b2 (b2 (gv 3) (kI 48271) mulI) (b2 (kI 977) (gv 5) mulI) addA) (kI 12345) addA) aNil) intD) (kI 2147483647) modI))
    (sq (stV 6 (b2 (cB (aCons (b2 (b2 (b2 (gv 3) (kI 69621) mulI) (b2 (kI 31) (gv 5) mulI) addA) (kI 7) addA) aNil) intD) (kI 2147483629) modI))
    (sq (app 2 (ifV (asB (b2 (gv 0) (b2 (kI 10) (kI 18) powI) geI)) (b2 (cB (aCons (gv 4) aNil) intD) (kI 1000) modI) (b2 (cB (aCons (b2 (gv 6) (kI 4099) divI) aNil) intD) (kI 1000) modI)))
    (stV 4 (b2 (gv 4) (kI 1000) divI))))))
    (fz 2 (rtV (gv 2)))))))
noncomputable def m_law_row (c : Cs) : List D → Option D := runP 7 (b_law_row c)
/-- _law_cell: 0 _law_script, 1 _law_k -/
noncomputable abbrev b_law_cell (c : Cs) : Ev → Option Fl :=
    (rtV (ifV (asB (b2 (gv 1) (cB (aCons (gv 0) aNil) lenD) ltI)) (cB (aCons (b2 (gv 0) (gv 1) ixD) aNil) intD) (kI 0)))
noncomputable def m_law_cell (c : Cs) : List D → Option D := runP 2 (b_law_cell c)
/-- _law_near: 0 _law_parts, 1 _law_own_name, 2 _law_own_player, 3 _law_own_needs, 4 _law_own_changes, 5 _law_shown_here, 6 _law_wrong, 7 _law_result, 8 _law_word_here, 9 _law_k, 10 _law_label, 11 _law_low, 12 _law_high -/
noncomputable abbrev b_law_near (c : Cs) : Ev → Option Fl :=
    (sq (asg (gv 0) (gL 6 (gsC (gN 1) (gsC (gN 2) (gsC (gN 3) (gsC (gN 4) (gsC (gN 5) (gsC (gN 6) gsN))))))))
    (sq (stO 7 (mkLstO (aCons (mkLst (aCons (gv 1) (aCons (gv 2) (aCons (slc (b2 (b1 (gv 3) revD) (gv 3) addA) noPart (part (kI 24))) (aCons (b1 (gv 4) revD) (aCons (gv 5) (aCons (gv 6) aNil))))))) aNil)))
    (sq (app 7 (mkLst (aCons (gv 1) (aCons (gv 2) (aCons (cB (aCons (gv 3) aNil) tupD) (aCons (cB (aCons (b2 (b2 (mkLst (aCons (mkTup (aCons (kS "q") (aCons (kI 3) aNil))) aNil)) (gv 4) addA) (mkLst (aCons (mkTup (aCons (kS "q") (aCons (b1 (kI 3) negI) aNil))) aNil)) addA) aNil) tupD) (aCons (gv 5) (aCons (gv 6) aNil))))))))
    (sq (forS (iOf (mkLst (aCons (kS "q") (aCons (kS "r") (aCons (kS "q.r") aNil))))) (gN 8) (sq (app 7 (mkLst (aCons (gv 8) (aCons (gv 2) (aCons (gv 3) (aCons (gv 4) (aCons (gv 5) (aCons (gv 6) aNil))))))))
    (sq (app 7 (mkLst (aCons (gv 1) (aCons (gv 8) (aCons (gv 3) (aCons (gv 4) (aCons (gv 5) (aCons (gv 6) aNil))))))))
    (sq (app 7 (mkLst (aCons (gv 1) (aCons (gv 2) (aCons (b2 (gv 3) (mkLst (aCons (mkTup (aCons (gv 8) (aCons (kI 0) (aCons kN aNil)))) aNil)) addA) (aCons (gv 4) (aCons (gv 5) (aCons (gv 6) aNil))))))))
    (sq (app 7 (mkLst (aCons (gv 1) (aCons (gv 2) (aCons (b2 (gv 3) (mkLst (aCons (mkTup (aCons (gv 8) (aCons kN (aCons (kI 5) aNil)))) aNil)) addA) (aCons (gv 4) (aCons (gv 5) (aCons (gv 6) aNil))))))))
    (sq (app 7 (mkLst (aCons (gv 1) (aCons (gv 2) (aCons (gv 3) (aCons (b2 (gv 4) (mkLst (aCons (mkTup (aCons (gv 8) (aCons (kI 1) aNil))) aNil)) addA) (aCons (gv 5) (aCons (gv 6) aNil))))))))
    (app 7 (mkLst (aCons (gv 1) (aCons (gv 2) (aCons (gv 3) (aCons (gv 4) (aCons (gv 8) (aCons (gv 6) aNil))))))))))))))
    (sq (forS (rng1 (cB (aCons (kI 6) (aCons (cB (aCons (gv 3) aNil) lenD) aNil)) min2)) (gN 9) (sq (asg (b2 (gv 3) (gv 9) ixD) (gT 3 (gsC (gN 10) (gsC (gN 11) (gsC (gN 12) gsN)))))
    (sq (app 7 (mkLst (aCons (gv 1) (aCons (gv 2) (aCons (b2 (gv 3) (mkLst (aCons (mkTup (aCons (gv 10) (aCons (kI 3) (aCons kN aNil)))) aNil)) addA) (aCons (gv 4) (aCons (gv 5) (aCons (gv 6) aNil))))))))
    (sq (app 7 (mkLst (aCons (gv 1) (aCons (gv 2) (aCons (b2 (gv 3) (mkLst (aCons (mkTup (aCons (gv 10) (aCons kN (aCons (kI 3) aNil)))) aNil)) addA) (aCons (gv 4) (aCons (gv 5) (aCons (gv 6) aNil))))))))
    (app 7 (mkLst (aCons (gv 1) (aCons (gv 2) (aCons (b2 (slc (gv 3) noPart (part (gv 9))) (slc (gv 3) (part (b2 (gv 9) (kI 1) addA)) noPart) addA) (aCons (gv 4) (aCons (gv 5) (aCons (gv 6) aNil))))))))))))
    (sq (forS (rng1 (cB (aCons (kI 6) (aCons (cB (aCons (gv 4) aNil) lenD) aNil)) min2)) (gN 9) (sq (app 7 (mkLst (aCons (gv 1) (aCons (gv 2) (aCons (gv 3) (aCons (b2 (gv 4) (mkLst (aCons (mkTup (aCons (b2 (b2 (gv 4) (gv 9) ixD) (kI 0) ixD) (aCons (kI 1) aNil))) aNil)) addA) (aCons (gv 5) (aCons (gv 6) aNil))))))))
    (app 7 (mkLst (aCons (gv 1) (aCons (gv 2) (aCons (gv 3) (aCons (b2 (slc (gv 4) noPart (part (gv 9))) (slc (gv 4) (part (b2 (gv 9) (kI 1) addA)) noPart) addA) (aCons (gv 5) (aCons (gv 6) aNil))))))))))
    (sq (app 7 (mkLst (aCons (gv 1) (aCons (gv 2) (aCons (gv 3) (aCons (gv 4) (aCons kN (aCons (gv 6) aNil))))))))
    (sq (app 7 (mkLst (aCons (gv 1) (aCons (gv 2) (aCons (gv 3) (aCons (gv 4) (aCons (gv 5) (aCons (notV (gv 6)) aNil))))))))
    (fz 7 (rtV (gv 7)))))))))))
noncomputable def m_law_near (c : Cs) : List D → Option D := runP 13 (b_law_near c)
/-- _law_number: 0 _law_numbers, 1 _law_most, 2 _law_own_sign, 3 _law_kind, 4 _law_value, 5 _law_k -/
noncomputable abbrev b_law_number (c : Cs) : Ev → Option Fl :=
    (sq (stV 2 (b2 (kI 1) (b2 (kI 2) (b2 (cB (aCons (b2 (b2 (gv 0) (kI 0) ixD) (kI 4) divI) aNil) intD) (kI 2) modI) mulI) subI))
    (sq (stV 3 (b2 (cB (aCons (b2 (gv 0) (kI 0) ixD) aNil) intD) (kI 4) modI))
    (sq (ifS (orT (asB (b2 (gv 1) (kI 0) eqD)) (asB (b2 (gv 3) (kI 0) eqD))) (rtV (b2 (b2 (cB (aCons (b2 (gv 0) (kI 1) ixD) aNil) intD) (kI 11) modI) (kI 5) subI)) skip)
    (sq (ifS (asB (b2 (gv 3) (kI 1) eqD)) (rtV (b2 (gv 2) (cB (aCons (b2 (gv 0) (kI 1) ixD) aNil) intD) mulA)) skip)
    (sq (stV 4 (kI 0))
    (sq (forS (rng1 (kI 13)) (gN 5) (stV 4 (b2 (b2 (gv 4) (kI 1000) mulI) (cB (aCons (b2 (gv 0) (b2 (kI 1) (gv 5) addA) ixD) aNil) intD) addA)))
    (sq (ifS (orT (asB (b2 (gv 1) (kI 1) eqD)) (asB (b2 (gv 3) (kI 2) eqD))) (stV 4 (b2 (cB (aCons (gv 4) aNil) intD) (b2 (kI 10) (kI 18) powI) modI)) skip)
    (rtV (b2 (gv 2) (gv 4) mulA)))))))))
noncomputable def m_law_number (c : Cs) : List D → Option D := runP 6 (b_law_number c)
/-- _law_changes: 0 _law_row_here, 1 _law_pool_here, 2 _law_own_changes, 3 _law_k, 4 _law_at, 5 _law_amount, 6 _law_label -/
noncomputable abbrev b_law_changes (c : Cs) : Ev → Option Fl :=
    (sq (stO 2 (mkLstO aNil))
    (sq (forS (rng1 (b2 (mkLst (aCons (kI 0) (aCons (kI 1) (aCons (kI 2) (aCons (kI 3) (aCons (kI 4) (aCons (kI 6) (aCons (kI 22) aNil)))))))) (b2 (cB (aCons (b2 (gv 0) (kI 0) ixD) aNil) intD) (kI 7) modI) ixD)) (gN 3) (sq (stV 4 (b2 (kI 1) (b2 (kI 15) (b2 (gv 3) (kI 6) modI) mulI) addA))
    (sq (stV 5 (cB (aCons (slc (gv 0) (part (b2 (gv 4) (kI 1) addA)) (part (b2 (gv 4) (kI 15) addA))) (aCons (kI 2) aNil)) (len? 2 (m_law_number c))))
    (sq (ifS (orT (asB (b2 (gv 5) (b2 (kI 10) (kI 38) powI) gtI)) (asB (b2 (gv 5) (b2 (kI 0) (b2 (kI 10) (kI 38) powI) subI) ltI))) (stV 5 (b2 (gv 5) (kI 100) divI)) skip)
    (sq (stV 6 (b2 (gv 1) (b2 (cB (aCons (b2 (b2 (gv 0) (gv 4) ixD) (b2 (gv 3) (kI 6) divI) addA) aNil) intD) (cB (aCons (gv 1) aNil) lenD) modI) ixD))
    (sq (ifS (andT (asB (b2 (gv 3) (kI 0) gtI)) (asB (b2 (b2 (cB (aCons (b2 (b2 (gv 0) (gv 4) ixD) (kI 5) divI) aNil) intD) (kI 4) modI) (kI 1) eqD))) (sq (stV 6 (vwI (b2 (b2 (gv 2) (b2 (gv 3) (kI 1) subI) ixD) (kI 0) ixD)))
    (stV 5 (vwI (b2 (kI 0) (b2 (b2 (gv 2) (b2 (gv 3) (kI 1) subI) ixD) (kI 1) ixD) subI)))) skip)
    (app 2 (mkTup (aCons (gv 6) (aCons (gv 5) aNil))))))))))
    (fz 2 (rtV (gv 2)))))
noncomputable def m_law_changes (c : Cs) : List D → Option D := runP 7 (b_law_changes c)
/-- _law_limit: 0 _law_numbers, 1 _law_kind, 2 _law_value, 3 _law_k -/
noncomputable abbrev b_law_limit (c : Cs) : Ev → Option Fl :=
    (sq (stV 1 (b2 (cB (aCons (b2 (gv 0) (kI 0) ixD) aNil) intD) (kI 5) modI))
    (sq (ifS (asB (b2 (gv 1) (kI 0) eqD)) (rtV kN) skip)
    (sq (ifS (asB (b2 (gv 1) (kI 4) ltI)) (rtV (b2 (cB (aCons (b2 (gv 0) (kI 1) ixD) aNil) intD) (kI 8) modI)) skip)
    (sq (stV 2 (kI 0))
    (sq (forS (rng1 (kI 13)) (gN 3) (stV 2 (b2 (b2 (gv 2) (kI 1000) mulI) (cB (aCons (b2 (gv 0) (b2 (kI 1) (gv 3) addA) ixD) aNil) intD) addA)))
    (rtV (gv 2)))))))
noncomputable def m_law_limit (c : Cs) : List D → Option D := runP 4 (b_law_limit c)
/-- _law_needs: 0 _law_row_here, 1 _law_pool_here, 2 _law_own_needs, 3 _law_k, 4 _law_at, 5 _law_low, 6 _law_high -/
noncomputable abbrev b_law_needs (c : Cs) : Ev → Option Fl :=
    (sq (stO 2 (mkLstO aNil))
    (sq (forS (rng1 (b2 (mkLst (aCons (kI 0) (aCons (kI 1) (aCons (kI 2) (aCons (kI 3) (aCons (kI 4) (aCons (kI 6) (aCons (kI 23) aNil)))))))) (b2 (cB (aCons (b2 (gv 0) (kI 0) ixD) aNil) intD) (kI 7) modI) ixD)) (gN 3) (sq (stV 4 (b2 (kI 1) (b2 (kI 29) (b2 (gv 3) (kI 6) modI) mulI) addA))
    (sq (stV 5 (cB (aCons (slc (gv 0) (part (b2 (gv 4) (kI 1) addA)) (part (b2 (gv 4) (kI 15) addA))) aNil) (len? 1 (m_law_limit c))))
    (sq (stV 6 (cB (aCons (slc (gv 0) (part (b2 (gv 4) (kI 15) addA)) (part (b2 (gv 4) (kI 29) addA))) aNil) (len? 1 (m_law_limit c))))
    (sq (ifS (asB (b2 (gv 5) kN notN)) (stV 5 (b2 (gv 5) (b2 (gv 3) (kI 6) divI) addA)) skip)
    (sq (ifS (andT (asB (b2 (gv 5) kN isN)) (asB (b2 (gv 6) kN isN))) (stV 5 (b2 (cB (aCons (b2 (b2 (gv 0) (gv 4) ixD) (kI 5) divI) aNil) intD) (kI 4) modI)) skip)
    (app 2 (mkTup (aCons (b2 (gv 1) (b2 (cB (aCons (b2 (b2 (gv 0) (gv 4) ixD) (b2 (gv 3) (kI 6) divI) addA) aNil) intD) (cB (aCons (gv 1) aNil) lenD) modI) ixD) (aCons (gv 5) (aCons (gv 6) aNil)))))))))))
    (fz 2 (rtV (gv 2)))))
noncomputable def m_law_needs (c : Cs) : List D → Option D := runP 7 (b_law_needs c)
/-- _law_word: 0 _law_number_here, 1 _law_rest, 2 _law_word_here, 3 _law_k -/
noncomputable abbrev b_law_word (c : Cs) : Ev → Option Fl :=
    (sq (stV 1 (b2 (cB (aCons (gv 0) aNil) intD) (kI 1) addA))
    (sq (stV 2 (kS ""))
    (sq (forS (rng1 (kI 12)) (gN 3) (sq (stV 2 (b2 (ifV (asB (b2 (gv 1) (kI 0) gtI)) (b2 (kS "abcdefghijklmnopqrstuvwxyz") (b2 (cB (aCons (b2 (gv 1) (kI 1) subI) aNil) intD) (kI 26) modI) ixD) (kS "")) (gv 2) addA))
    (stV 1 (b2 (b2 (gv 1) (kI 1) subI) (kI 26) divI))))
    (rtV (gv 2)))))
noncomputable def m_law_word (c : Cs) : List D → Option D := runP 4 (b_law_word c)
/-- _law_pool: 0 _law_row_here, 1 _law_first, 2 _law_second, 3 _law_pool_here, 4 _law_label -/
noncomputable abbrev b_law_pool (c : Cs) : Ev → Option Fl :=
    (sq (stV 1 (cB (aCons (b2 (b2 (gv 0) (kI 0) ixD) (b2 (kI 1000) (b2 (cB (aCons (b2 (gv 0) (kI 1) ixD) aNil) intD) (kI 30) modI) mulI) addA) aNil) (len? 1 (m_law_word c))))
    (sq (stV 2 (cB (aCons (b2 (gv 0) (kI 2) ixD) aNil) (len? 1 (m_law_word c))))
    (sq (ifS (asB (b2 (b2 (cB (aCons (b2 (gv 0) (kI 3) ixD) aNil) intD) (kI 3) modI) (kI 1) eqD)) (stV 2 (slc (b2 (gv 2) (kS "klmnopqrstuv") addA) noPart (part (kI 12)))) skip)
    (sq (stO 3 (mkLstO aNil))
    (sq (forS (iOf (mkLst (aCons (gv 1) (aCons (b2 (b2 (gv 1) (kS ".") addA) (gv 2) addA) (aCons (gv 2) (aCons (b2 (b2 (gv 2) (kS ".") addA) (gv 1) addA) (aCons (b2 (gv 1) (kS "a") addA) aNil))))))) (gN 4) (ifS (vwT (asB (b2 (gv 4) (gv 3) ninD))) (app 3 (gv 4)) skip))
    (fz 3 (rtV (gv 3))))))))
noncomputable def m_law_pool (c : Cs) : List D → Option D := runP 5 (b_law_pool c)
/-- law: 0 _law_script, 1 _law_row_here, 2 _law_pool_here, 3 _law_own_needs, 4 _law_own_changes, 5 _law_shown_here, 6 _law_parts, 7 _law_expected_here, 8 _law_passed, 9 _law_move, 10 _law_near_here, 11 _law_other, 12 _law_thing, 13 _law_k, 14 _law_numbers, 15 _law_spoilt_here -/
noncomputable abbrev blaw (c : Cs) : Ev → Option Fl :=
    (sq (stV 1 (cB (aCons (cB (aCons (gv 0) (aCons (kI 0) aNil)) (len? 2 (m_law_cell c))) (aCons (kI 10) aNil)) (len? 2 (m_law_row c))))
    (sq (stV 2 (cB (aCons (gv 1) aNil) (len? 1 (m_law_pool c))))
    (sq (stV 3 (cB (aCons (cB (aCons (cB (aCons (gv 0) (aCons (kI 1) aNil)) (len? 2 (m_law_cell c))) (aCons (kI 175) aNil)) (len? 2 (m_law_row c))) (aCons (gv 2) aNil)) (len? 2 (m_law_needs c))))
    (sq (stV 4 (cB (aCons (cB (aCons (cB (aCons (gv 0) (aCons (kI 2) aNil)) (len? 2 (m_law_cell c))) (aCons (kI 91) aNil)) (len? 2 (m_law_row c))) (aCons (gv 2) aNil)) (len? 2 (m_law_changes c))))
    (sq (stV 5 (b2 (mkLst (aCons kN (aCons (b2 (gv 2) (b2 (cB (aCons (b2 (gv 1) (kI 4) ixD) aNil) intD) (cB (aCons (gv 2) aNil) lenD) modI) ixD) aNil))) (b2 (cB (aCons (b2 (gv 1) (kI 5) ixD) aNil) intD) (kI 2) modI) ixD))
    (sq (stV 6 (mkLst (aCons (b2 (gv 2) (b2 (cB (aCons (b2 (gv 1) (kI 6) ixD) aNil) intD) (cB (aCons (gv 2) aNil) lenD) modI) ixD) (aCons (b2 (gv 2) (b2 (cB (aCons (b2 (gv 1) (kI 7) ixD) aNil) intD) (cB (aCons (gv 2) aNil) lenD) modI) ixD) (aCons (gv 3) (aCons (gv 4) (aCons (gv 5) (aCons (b2 (b2 (cB (aCons (b2 (gv 1) (kI 8) ixD) aNil) intD) (kI 2) modI) (kI 1) (orD eqD (eqC c.Move [] (mMove_eq c)))) aNil))))))))
    (sq (stV 7 (cB (aCons (gv 6) aNil) (len? 1 (m_law_expected c))))
    (sq (stO 8 (lstOs (ooC (thaw (b2 (gv 6) (kI 0) ixD)) (ooC (thaw (b2 (gv 6) (kI 1) ixD)) (ooC (cO (aCons (gv 3) aNil) listO) (ooC (cO (aCons (gv 4) aNil) listO) (ooC (thaw (gv 5)) (ooC (thaw (b2 (gv 6) (kI 5) ixD)) ooN))))))))
    (sq (stV 9 (frz (vwO (cX (aCons (gv 8) (aCons (b2 (b2 (cB (aCons (b2 (gv 1) (kI 9) ixD) aNil) intD) (kI 2) modI) (kI 1) (orD eqD (eqC c.Move [] (mMove_eq c)))) aNil)) 2 (m_law_build c)))))
    (sq (ifS (vwT (orT (notT (asB (cB (aCons (gv 8) (aCons (gv 6) aNil)) (len? 2 (m_law_same c 5))))) (notT (asB (cB (aCons (gv 9) (aCons (gv 7) aNil)) (len? 2 (m_law_shown c))))))) (rtV (kB false)) skip)
    (sq (appP 8 (plI 8 plN (kI 2)) (thaw (mkTup (aCons (kS "q") (aCons (kI 1) (aCons (kI 1) aNil))))))
    (sq (appP 8 (plI 8 plN (kI 3)) (thaw (mkTup (aCons (kS "q") (aCons (kI 1) aNil)))))
    (sq (forS (iOf (cB (aCons (gv 6) aNil) (len? 1 (m_law_near c)))) (gN 10) (sq (stV 11 (frz (cX (aCons (gv 10) (aCons (b2 (b2 (cB (aCons (b2 (gv 1) (kI 9) ixD) aNil) intD) (kI 2) modI) (kI 0) (orD eqD (eqC c.Move [] (mMove_eq c)))) aNil)) 2 (m_law_build c))))
    (ifS (orT (notT (asB (cB (aCons (b2 (gv 9) (gv 11) (orD eqD (eqC c.Move [] (mMove_eq c)))) (aCons (b2 (gv 7) (cB (aCons (gv 10) aNil) (len? 1 (m_law_expected c))) (orD eqD (eqC c.Move [] (mMove_eq c)))) aNil)) (len? 2 (m_law_same c 5))))) (notT (asB (cB (aCons (gv 11) (aCons (cB (aCons (gv 10) aNil) (len? 1 (m_law_expected c))) aNil)) (len? 2 (m_law_shown c)))))) (rtV (kB false)) skip)))
    (sq (forS (iOf (mkLst (aCons kN (aCons (cB (aCons (gv 7) aNil) tupD) (aCons (frz (cO (aCons (gv 7) aNil) listO)) (aCons (b2 (gv 6) (kI 0) ixD) (aCons (kI 0) aNil))))))) (gN 12) (ifS (notT (asB (cB (aCons (b2 (gv 9) (gv 12) (orD eqD (eqC c.Move [] (mMove_eq c)))) (aCons (kB false) aNil)) (len? 2 (m_law_same c 5))))) (rtV (kB false)) skip))
    (sq (forS (iOf (mkLst (aCons (kI 3) (aCons (kI 4) aNil)))) (gN 13) (sq (stV 14 (cB (aCons (cB (aCons (gv 0) (aCons (gv 13) aNil)) (len? 2 (m_law_cell c))) (aCons (kI 52) aNil)) (len? 2 (m_law_row c))))
    (sq (stV 15 (cB (aCons (gv 6) (aCons (gv 14) (aCons (cB (aCons (slc (gv 14) (part (kI 7)) noPart) aNil) (len? 1 (m_law_text c))) aNil))) (len? 3 (m_law_spoilt c))))
    (ifS (notT (asB (cB (aCons (gv 15) (aCons (b2 (b2 (cB (aCons (b2 (gv 1) (kI 9) ixD) aNil) intD) (kI 2) modI) (kI 1) (orD eqD (eqC c.Move [] (mMove_eq c)))) aNil)) (len? 2 (m_law_told c))))) (rtV (kB false)) skip))))
    (rtV (andV (cB (aCons (gv 9) (aCons (gv 7) aNil)) (len? 2 (m_law_shown c))) (andV (cB (aCons (gv 6) (aCons (kB true) aNil)) (len? 2 (m_law_told c))) (cB (aCons (gv 6) (aCons (kB false) aNil)) (len? 2 (m_law_told c)))))))))))))))))))))
noncomputable def mlaw (c : Cs) : List D → Option D := runP 16 (blaw c)
section
variable {P : Program} {w : World} {K : PySem.W.Frag} {mg : Str → Option Value} {base : Heap} {c : Cs}
set_option genInjectivity false in
set_option genSizeOf false in
/-- what the top has written -/
structure Tx (K : PySem.W.Frag) (mg : Str → Option Value) (c : Cs) where
  t_LETTERS : Tok
  t_LONGEST_NAME : Tok
  n_ValueError : mg "ValueError" = none
  n_all : mg "all" = none
  n_bool : mg "bool" = none
  n_int : mg "int" = none
  n_isinstance : mg "isinstance" = none
  n_len : mg "len" = none
  n_list : mg "list" = none
  n_max : mg "max" = none
  n_min : mg "min" = none
  n_range : mg "range" = none
  n_sorted : mg "sorted" = none
  n_str : mg "str" = none
  n_sum : mg "sum" = none
  n_tuple : mg "tuple" = none
  c_LETTERS : mg "LETTERS" = some (.str "abcdefghijklmnopqrstuvwxyz" (t_LETTERS))
  c_LONGEST_NAME : mg "LONGEST_NAME" = some (.int 12 (t_LONGEST_NAME))
  f_law_same : Addr
  fd_law_same : FuncData
  F_law_same : Fun K "_law_same" "_law_same" s_law_same f_law_same fd_law_same
  g_law_same : mg "_law_same" = some (.ref f_law_same)
  b_law_same : Binds K fd_law_same ["_law_actual", "_law_expected_here"] []
  f_law_shown : Addr
  fd_law_shown : FuncData
  F_law_shown : Fun K "_law_shown" "_law_shown" s_law_shown f_law_shown fd_law_shown
  g_law_shown : mg "_law_shown" = some (.ref f_law_shown)
  b_law_shown : Binds K fd_law_shown ["_law_move", "_law_expected_here"] []
  f_law_summed : Addr
  fd_law_summed : FuncData
  F_law_summed : Fun K "_law_summed" "_law_summed" s_law_summed f_law_summed fd_law_summed
  g_law_summed : mg "_law_summed" = some (.ref f_law_summed)
  b_law_summed : Binds K fd_law_summed ["_law_own_changes"] []
  f_law_merged : Addr
  fd_law_merged : FuncData
  F_law_merged : Fun K "_law_merged" "_law_merged" s_law_merged f_law_merged fd_law_merged
  g_law_merged : mg "_law_merged" = some (.ref f_law_merged)
  b_law_merged : Binds K fd_law_merged ["_law_own_needs"] []
  f_law_expected : Addr
  fd_law_expected : FuncData
  F_law_expected : Fun K "_law_expected" "_law_expected" s_law_expected f_law_expected fd_law_expected
  g_law_expected : mg "_law_expected" = some (.ref f_law_expected)
  b_law_expected : Binds K fd_law_expected ["_law_parts"] []
  fmerged_changes : Addr
  fdmerged_changes : FuncData
  Fmerged_changes : Fun K "merged_changes" "merged_changes" smerged_changes fmerged_changes fdmerged_changes
  gmerged_changes : mg "merged_changes" = some (.ref fmerged_changes)
  bmerged_changes : Binds K fdmerged_changes ["changes"] []
  flesser_high : Addr
  fdlesser_high : FuncData
  Flesser_high : Fun K "lesser_high" "lesser_high" slesser_high flesser_high fdlesser_high
  glesser_high : mg "lesser_high" = some (.ref flesser_high)
  blesser_high : Binds K fdlesser_high ["one", "other"] []
  fgreater_low : Addr
  fdgreater_low : FuncData
  Fgreater_low : Fun K "greater_low" "greater_low" sgreater_low fgreater_low fdgreater_low
  ggreater_low : mg "greater_low" = some (.ref fgreater_low)
  bgreater_low : Binds K fdgreater_low ["one", "other"] []
  fmerged_needs : Addr
  fdmerged_needs : FuncData
  Fmerged_needs : Fun K "merged_needs" "merged_needs" smerged_needs fmerged_needs fdmerged_needs
  gmerged_needs : mg "merged_needs" = some (.ref fmerged_needs)
  bmerged_needs : Binds K fdmerged_needs ["needs"] []
  fis_name : Addr
  fdis_name : FuncData
  Fis_name : Fun K "is_name" "is_name" sis_name fis_name fdis_name
  gis_name : mg "is_name" = some (.ref fis_name)
  bis_name : Binds K fdis_name ["text"] []
  fis_label : Addr
  fdis_label : FuncData
  Fis_label : Fun K "is_label" "is_label" sis_label fis_label fdis_label
  gis_label : mg "is_label" = some (.ref fis_label)
  bis_label : Binds K fdis_label ["text"] []
  fis_need : Addr
  fdis_need : FuncData
  Fis_need : Fun K "is_need" "is_need" sis_need fis_need fdis_need
  gis_need : mg "is_need" = some (.ref fis_need)
  bis_need : Binds K fdis_need ["need"] []
  fMove_init : Addr
  fdMove_init : FuncData
  FMove_init : L2.FunD K "__init__" "Move.__init__" (defArgs sMove_init) (defBody sMove_init) (defScope sMove_init) [] [("sign", .non), ("foul", .bl false)] fMove_init fdMove_init
  bMove_init : ∃ us, Vals [.non, .bl false] us ∧ Binds K fdMove_init ["self", "name", "player", "needs", "changes", "sign", "foul"] us
  kbMove_init_0 : ∃ g, KBn K fdMove_init ["self", "name", "player", "needs", "changes", "sign", "foul"] 1 ["name", "player", "needs", "changes", "sign", "foul"] g (fun vs zs => gWM vs [] zs)
  kbMove_init_1 : ∃ g, KBn K fdMove_init ["self", "name", "player", "needs", "changes", "sign", "foul"] 5 ["sign"] g (fun vs zs => gWM vs [.bl false] zs)
  kbMove_init_2 : ∃ g, KBn K fdMove_init ["self", "name", "player", "needs", "changes", "sign", "foul"] 5 ["foul"] g (fun vs zs => gMW vs [.non] zs)
  f_law_build : Addr
  fd_law_build : FuncData
  F_law_build : Fun K "_law_build" "_law_build" s_law_build f_law_build fd_law_build
  g_law_build : mg "_law_build" = some (.ref f_law_build)
  b_law_build : Binds K fd_law_build ["_law_parts", "_law_short"] []
  f_law_base : Addr
  fd_law_base : FuncData
  F_law_base : Fun K "_law_base" "_law_base" s_law_base f_law_base fd_law_base
  g_law_base : mg "_law_base" = some (.ref f_law_base)
  b_law_base : Binds K fd_law_base ["_law_parts"] []
  f_law_is_name : Addr
  fd_law_is_name : FuncData
  F_law_is_name : Fun K "_law_is_name" "_law_is_name" s_law_is_name f_law_is_name fd_law_is_name
  g_law_is_name : mg "_law_is_name" = some (.ref f_law_is_name)
  b_law_is_name : Binds K fd_law_is_name ["_law_text_here"] []
  f_law_is_label : Addr
  fd_law_is_label : FuncData
  F_law_is_label : Fun K "_law_is_label" "_law_is_label" s_law_is_label f_law_is_label fd_law_is_label
  g_law_is_label : mg "_law_is_label" = some (.ref f_law_is_label)
  b_law_is_label : Binds K fd_law_is_label ["_law_text_here"] []
  f_law_refused : Addr
  fd_law_refused : FuncData
  F_law_refused : Fun K "_law_refused" "_law_refused" s_law_refused f_law_refused fd_law_refused
  g_law_refused : mg "_law_refused" = some (.ref f_law_refused)
  b_law_refused : Binds K fd_law_refused ["_law_parts"] []
  f_law_told : Addr
  fd_law_told : FuncData
  F_law_told : Fun K "_law_told" "_law_told" s_law_told f_law_told fd_law_told
  g_law_told : mg "_law_told" = some (.ref f_law_told)
  b_law_told : Binds K fd_law_told ["_law_parts", "_law_short"] []
  fMove_eq : Addr
  fdMove_eq : FuncData
  FMove_eq : Fun K "__eq__" "Move.__eq__" sMove_eq fMove_eq fdMove_eq
  bMove_eq : Binds K fdMove_eq ["self", "other"] []
  f_law_wrong_changes : Addr
  fd_law_wrong_changes : FuncData
  F_law_wrong_changes : Fun K "_law_wrong_changes" "_law_wrong_changes" s_law_wrong_changes f_law_wrong_changes fd_law_wrong_changes
  g_law_wrong_changes : mg "_law_wrong_changes" = some (.ref f_law_wrong_changes)
  b_law_wrong_changes : Binds K fd_law_wrong_changes ["_law_text_here", "_law_number_here"] []
  f_law_spoilt : Addr
  fd_law_spoilt : FuncData
  F_law_spoilt : Fun K "_law_spoilt" "_law_spoilt" s_law_spoilt f_law_spoilt fd_law_spoilt
  g_law_spoilt : mg "_law_spoilt" = some (.ref f_law_spoilt)
  b_law_spoilt : Binds K fd_law_spoilt ["_law_parts", "_law_row_here", "_law_text_here"] []
  f_law_chars : Addr
  fd_law_chars : FuncData
  F_law_chars : Fun K "_law_chars" "_law_chars" s_law_chars f_law_chars fd_law_chars
  g_law_chars : mg "_law_chars" = some (.ref f_law_chars)
  b_law_chars : Binds K fd_law_chars ["_law_menu", "_law_numbers", "_law_size"] []
  f_law_text : Addr
  fd_law_text : FuncData
  F_law_text : Fun K "_law_text" "_law_text" s_law_text f_law_text fd_law_text
  g_law_text : mg "_law_text" = some (.ref f_law_text)
  b_law_text : Binds K fd_law_text ["_law_row_here"] []
  f_law_row : Addr
  fd_law_row : FuncData
  F_law_row : Fun K "_law_row" "_law_row" s_law_row f_law_row fd_law_row
  g_law_row : mg "_law_row" = some (.ref f_law_row)
  b_law_row : Binds K fd_law_row ["_law_cell_here", "_law_many"] []
  f_law_cell : Addr
  fd_law_cell : FuncData
  F_law_cell : Fun K "_law_cell" "_law_cell" s_law_cell f_law_cell fd_law_cell
  g_law_cell : mg "_law_cell" = some (.ref f_law_cell)
  b_law_cell : Binds K fd_law_cell ["_law_script", "_law_k"] []
  f_law_near : Addr
  fd_law_near : FuncData
  F_law_near : Fun K "_law_near" "_law_near" s_law_near f_law_near fd_law_near
  g_law_near : mg "_law_near" = some (.ref f_law_near)
  b_law_near : Binds K fd_law_near ["_law_parts"] []
  f_law_number : Addr
  fd_law_number : FuncData
  F_law_number : Fun K "_law_number" "_law_number" s_law_number f_law_number fd_law_number
  g_law_number : mg "_law_number" = some (.ref f_law_number)
  b_law_number : Binds K fd_law_number ["_law_numbers", "_law_most"] []
  f_law_changes : Addr
  fd_law_changes : FuncData
  F_law_changes : Fun K "_law_changes" "_law_changes" s_law_changes f_law_changes fd_law_changes
  g_law_changes : mg "_law_changes" = some (.ref f_law_changes)
  b_law_changes : Binds K fd_law_changes ["_law_row_here", "_law_pool_here"] []
  f_law_limit : Addr
  fd_law_limit : FuncData
  F_law_limit : Fun K "_law_limit" "_law_limit" s_law_limit f_law_limit fd_law_limit
  g_law_limit : mg "_law_limit" = some (.ref f_law_limit)
  b_law_limit : Binds K fd_law_limit ["_law_numbers"] []
  f_law_needs : Addr
  fd_law_needs : FuncData
  F_law_needs : Fun K "_law_needs" "_law_needs" s_law_needs f_law_needs fd_law_needs
  g_law_needs : mg "_law_needs" = some (.ref f_law_needs)
  b_law_needs : Binds K fd_law_needs ["_law_row_here", "_law_pool_here"] []
  f_law_word : Addr
  fd_law_word : FuncData
  F_law_word : Fun K "_law_word" "_law_word" s_law_word f_law_word fd_law_word
  g_law_word : mg "_law_word" = some (.ref f_law_word)
  b_law_word : Binds K fd_law_word ["_law_number_here"] []
  f_law_pool : Addr
  fd_law_pool : FuncData
  F_law_pool : Fun K "_law_pool" "_law_pool" s_law_pool f_law_pool fd_law_pool
  g_law_pool : mg "_law_pool" = some (.ref f_law_pool)
  b_law_pool : Binds K fd_law_pool ["_law_row_here"] []
  flaw : Addr
  fdlaw : FuncData
  Flaw : Fun K "law" "law" slaw flaw fdlaw
  glaw : mg "law" = some (.ref flaw)
  blaw : Binds K fdlaw ["_law_script"] []
  gMove : mg "Move" = some (.ref c.Move)
  cxMove : ClsX K c.Move
  clMove : Cls K c.Move
  naMove_foul : NoAttr K c.Move "foul"
  naMove_sign : NoAttr K c.Move "sign"
  naMove_changes : NoAttr K c.Move "changes"
  naMove_needs : NoAttr K c.Move "needs"
  naMove_player : NoAttr K c.Move "player"
  naMove_name : NoAttr K c.Move "name"
  mkMove : Mk K c.Move fMove_init
  isMove : IsC K c.Move [(c.Move, true)]
  eqMove : EqOf K c.Move fMove_eq []
  gHallError : mg "HallError" = some (.ref c.HallError)
  gBadMove : mg "BadMove" = some (.ref c.BadMove)
  gBadSeason : mg "BadSeason" = some (.ref c.BadSeason)
  gBadScoring : mg "BadScoring" = some (.ref c.BadScoring)
  gBadHall : mg "BadHall" = some (.ref c.BadHall)
  gBadGame : mg "BadGame" = some (.ref c.BadGame)
  xBadMove : XCls PySem.Challenge.pw_playhall_k03_moves_merge K mg c.BadMove ["part"]
  ecBadMove : ExcC K c.BadMove
  kiBadMove_BadMove : PySem.W.kitOne K (.ref c.BadMove) (.ref c.BadMove) = some true
  kiBadMove_ValueError : PySem.W.kitOne K (.ref c.BadMove) (.type "ValueError") = some true
  kiBadMove_BadGame : PySem.W.kitOne K (.ref c.BadMove) (.ref c.BadGame) = some false
  kiBadMove_BadHall : PySem.W.kitOne K (.ref c.BadMove) (.ref c.BadHall) = some false
  kiBadMove_BadScoring : PySem.W.kitOne K (.ref c.BadMove) (.ref c.BadScoring) = some false
  kiBadMove_BadSeason : PySem.W.kitOne K (.ref c.BadMove) (.ref c.BadSeason) = some false
  emBadMove_HallError : PySem.W.exmOne K (.ref c.BadMove) (.ref c.HallError) = some true
  xfBadMove : XfC K c.BadMove
  noBadMove_part : PySem.W.findIn K (.ref c.BadMove) "part" = some none
  emBadMove_BadMove : PySem.W.exmOne K (.ref c.BadMove) (.ref c.BadMove) = some true
theorem Tx.ok_law_same (T : Tx K mg c) : ∀ n : Nat, FnOk PySem.Challenge.pw_playhall_k03_moves_merge w K mg base CX0 (1 + n) T.f_law_same T.fd_law_same ["_law_actual", "_law_expected_here"] (spP K 2 (m_law_same c n))
  | 0 => fnNone
  | n + 1 => by
    have ih := Tx.ok_law_same T n
    exact fnP T.F_law_same sc_law_same fun cdv A outer s H E hr =>
    (sCons (sIf (tCmp oIs (pVar 1) pNon) (sOne (sRet (pCmp oIs (pVar 0) pNon))) sNil)
      (sCons (sIf (tVal (pIsi (pVar 1) T.n_isinstance T.n_bool)) (sOne (sRet (pAnd (pIsi (pVar 0) T.n_isinstance T.n_bool) (pOne (pCmp (oEq hr.units) (pVar 0) (pVar 1)))))) sNil)
      (sCons (sIf (tVal (pIsi (pVar 1) T.n_isinstance T.n_int)) (sOne (sRet (pAnd (pIsi (pVar 0) T.n_isinstance T.n_int) (pAnd (pNot (pIsi (pVar 0) T.n_isinstance T.n_bool)) (pOne (pCmp (oEq hr.units) (pVar 0) (pVar 1))))))) sNil)
      (sCons (sIf (tVal (pIsi (pVar 1) T.n_isinstance T.n_str)) (sOne (sRet (pAnd (pIsi (pVar 0) T.n_isinstance T.n_str) (pOne (pCmp (oEq hr.units) (pVar 0) (pVar 1)))))) sNil)
      (sCons (sIf (tW (tAndW (tVal (pIsi (pVar 1) T.n_isinstance T.n_tuple)) (tAnd1 (tNotT (tVal (pIsi (pVar 0) T.n_isinstance T.n_tuple)))))) (sOne (sRet pBl)) sNil)
      (sCons (sIf (tW (tOrW (tW (tAndW (tVal (pIsi (pVar 1) T.n_isinstance T.n_list)) (tAnd1 (tNotT (tVal (pIsi (pVar 0) T.n_isinstance T.n_list)))))) (tOr1 (tCmp (oNe hr.units) (pCallB cLen T.n_len (by decide +kernel) (qCons (pVar 0) qNil)) (pCallB cLen T.n_len (by decide +kernel) (qCons (pVar 1) qNil)))))) (sOne (sRet pBl)) sNil)
      (sCons (sFor PassesOwn.never rfl (iRange1 (pCallB cLen T.n_len (by decide +kernel) (qCons (pVar 1) qNil)) T.n_range) (gName' (i := 2) sc_law_same.nd) (sOne (sIf (tNotT (tVal (pCall ih (hr.mono (by first | decide | exact Nat.le_refl _ | omega)) T.g_law_same T.F_law_same.kp T.b_law_same (qCons (pIx oIx (pVar 0) (pVar 2)) (qCons (pIx oIx (pVar 1) (pVar 2)) qNil))))) (sOne (sRet pBl)) sNil)))
      (sOne (sRet pBl)))))))))
theorem Tx.ok_law_shown (T : Tx K mg c) : FnOk PySem.Challenge.pw_playhall_k03_moves_merge w K mg base CX0 7 T.f_law_shown T.fd_law_shown ["_law_move", "_law_expected_here"] (spP K 2 (m_law_shown c)) :=
  fnP T.F_law_shown sc_law_shown fun cdv A outer s H E hr =>
    (sOne (sRet (pCall (T.ok_law_same 5) (hr.mono (by first | decide | exact Nat.le_refl _ | omega)) T.g_law_same T.F_law_same.kp T.b_law_same (qCons (pLst (qCons (pFld T.clMove T.naMove_name (pVar 0)) (qCons (pFld T.clMove T.naMove_player (pVar 0)) (qCons (pFld T.clMove T.naMove_needs (pVar 0)) (qCons (pFld T.clMove T.naMove_changes (pVar 0)) (qCons (pFld T.clMove T.naMove_sign (pVar 0)) (qCons (pFld T.clMove T.naMove_foul (pVar 0)) qNil))))))) (qCons (pVar 1) qNil)))))
theorem Tx.ok_law_summed (T : Tx K mg c) : FnOk PySem.Challenge.pw_playhall_k03_moves_merge w K mg base CX0 1 T.f_law_summed T.fd_law_summed ["_law_own_changes"] (spP K 1 (m_law_summed c)) :=
  fnP T.F_law_summed sc_law_summed fun cdv A outer s H E hr =>
    (sCons (sSetO (i := 1) sc_law_summed.nd (oLst qNil))
      (sCons (sSet (i := 2) sc_law_summed.nd (pO (oCallB (cSorted hr.units) T.n_sorted (by decide +kernel) (qCons (pLc [("_law_change", 5)] rfl sc_law_summed.nd (iSeq (pVar 0)) (blkOk_by (N := ["_law_own_changes", "_law_result", "_law_labels", "_law_k", "_law_amount", "_law_change"]) (sc := defScope s_law_summed) (by decide +kernel)) (fun _ _ _ _ _ => (gName' (i := 5) sc_law_summed.nd)) (fun _ _ _ _ _ => ptsNil) (fun _ _ _ _ _ => (pIx oIx (pVar 5) pInt)) (gN_ok 5)) qNil))))
      (sCons (sFor PassesOwn.never rfl (iRange1 (pCallB cLen T.n_len (by decide +kernel) (qCons (pVar 2) qNil)) T.n_range) (gName' (i := 3) sc_law_summed.nd) (sOne (sIf (tW (tOrW (tCmp (oEq hr.units) (pVar 3) pInt) (tOr1 (tCmp (oNe hr.units) (pIx oIx (pVar 2) (pVar 3)) (pIx oIx (pVar 2) (pOp oSub (pVar 3) pInt)))))) (sCons (sSet (i := 4) sc_law_summed.nd (pCallB (cSum rfl) T.n_sum (by decide +kernel) (qCons (pLc [("_law_change", 5)] rfl sc_law_summed.nd (iSeq (pVar 0)) (blkOk_by (N := ["_law_own_changes", "_law_result", "_law_labels", "_law_k", "_law_amount", "_law_change"]) (sc := defScope s_law_summed) (by decide +kernel)) (fun _ _ _ _ _ => (gName' (i := 5) sc_law_summed.nd)) (fun _ _ _ _ _ => (ptsOne (tCmp (oEq hr.units) (pIx oIx (pVar 5) pInt) (pIx oIx (pVar 2) (pVar 3))))) (fun _ _ _ _ _ => (pIx oIx (pVar 5) pInt)) (gN_ok 5)) qNil)))
      (sOne (sIf (tCmp (oNe hr.units) (pVar 4) pInt) (sOne (sApp (i := 1) (pv 1) (pTup (qCons (pIx oIx (pVar 2) (pVar 3)) (qCons (pVar 4) qNil))))) sNil))) sNil)))
      (sOne (sFz (i := 1) (sRet (pCallT cTup T.n_tuple (by decide +kernel) (qCons (pVar 1) qNil))))))))
theorem Tx.ok_law_merged (T : Tx K mg c) : FnOk PySem.Challenge.pw_playhall_k03_moves_merge w K mg base CX0 1 T.f_law_merged T.fd_law_merged ["_law_own_needs"] (spP K 1 (m_law_merged c)) :=
  fnP T.F_law_merged sc_law_merged fun cdv A outer s H E hr =>
    (sCons (sSetO (i := 1) sc_law_merged.nd (oLst qNil))
      (sCons (sSet (i := 2) sc_law_merged.nd (pO (oCallB (cSorted hr.units) T.n_sorted (by decide +kernel) (qCons (pLc [("_law_need", 8)] rfl sc_law_merged.nd (iSeq (pVar 0)) (blkOk_by (N := ["_law_own_needs", "_law_result", "_law_labels", "_law_k", "_law_lows", "_law_highs", "_law_low", "_law_high", "_law_need"]) (sc := defScope s_law_merged) (by decide +kernel)) (fun _ _ _ _ _ => (gName' (i := 8) sc_law_merged.nd)) (fun _ _ _ _ _ => ptsNil) (fun _ _ _ _ _ => (pIx oIx (pVar 8) pInt)) (gN_ok 8)) qNil))))
      (sCons (sFor PassesOwn.never rfl (iRange1 (pCallB cLen T.n_len (by decide +kernel) (qCons (pVar 2) qNil)) T.n_range) (gName' (i := 3) sc_law_merged.nd) (sOne (sIf (tW (tOrW (tCmp (oEq hr.units) (pVar 3) pInt) (tOr1 (tCmp (oNe hr.units) (pIx oIx (pVar 2) (pVar 3)) (pIx oIx (pVar 2) (pOp oSub (pVar 3) pInt)))))) (sCons (sLcD (i := 4) [("_law_need", 8)] rfl sc_law_merged.nd (iSeq (pVar 0)) (blkOk_by (N := ["_law_own_needs", "_law_result", "_law_labels", "_law_k", "_law_lows", "_law_highs", "_law_low", "_law_high", "_law_need"]) (sc := defScope s_law_merged) (by decide +kernel)) (fun _ _ _ _ _ => (gName' (i := 8) sc_law_merged.nd)) (fun _ _ _ _ _ => (ptsOne (tW (tAndW (tCmp (oEq hr.units) (pIx oIx (pVar 8) pInt) (pIx oIx (pVar 2) (pVar 3))) (tAnd1 (tCmp oIsNot (pIx oIx (pVar 8) pInt) pNon)))))) (fun _ _ _ _ _ => (pIx oIx (pVar 8) pInt)) (gN_ok 8))
      (sCons (sLcD (i := 5) [("_law_need", 8)] rfl sc_law_merged.nd (iSeq (pVar 0)) (blkOk_by (N := ["_law_own_needs", "_law_result", "_law_labels", "_law_k", "_law_lows", "_law_highs", "_law_low", "_law_high", "_law_need"]) (sc := defScope s_law_merged) (by decide +kernel)) (fun _ _ _ _ _ => (gName' (i := 8) sc_law_merged.nd)) (fun _ _ _ _ _ => (ptsOne (tW (tAndW (tCmp (oEq hr.units) (pIx oIx (pVar 8) pInt) (pIx oIx (pVar 2) (pVar 3))) (tAnd1 (tCmp oIsNot (pIx oIx (pVar 8) pInt) pNon)))))) (fun _ _ _ _ _ => (pIx oIx (pVar 8) pInt)) (gN_ok 8))
      (sCons (sSet (i := 6) sc_law_merged.nd pNon)
      (sCons (sSet (i := 7) sc_law_merged.nd pNon)
      (sCons (sIf (tCmp oGt (pCallB cLen T.n_len (by decide +kernel) (qCons (pVar 4) qNil)) pInt) (sOne (sSet (i := 6) sc_law_merged.nd (pCallB (cMaxL rfl) T.n_max (by decide +kernel) (qCons (pVar 4) qNil)))) sNil)
      (sCons (sIf (tCmp oGt (pCallB cLen T.n_len (by decide +kernel) (qCons (pVar 5) qNil)) pInt) (sOne (sSet (i := 7) sc_law_merged.nd (pCallB (cMinL rfl) T.n_min (by decide +kernel) (qCons (pVar 5) qNil)))) sNil)
      (sOne (sApp (i := 1) (pv 1) (pTup (qCons (pIx oIx (pVar 2) (pVar 3)) (qCons (pVar 6) (qCons (pVar 7) qNil)))))))))))) sNil)))
      (sOne (sFz (i := 1) (sRet (pCallT cTup T.n_tuple (by decide +kernel) (qCons (pVar 1) qNil))))))))
theorem Tx.ok_law_expected (T : Tx K mg c) : FnOk PySem.Challenge.pw_playhall_k03_moves_merge w K mg base CX0 2 T.f_law_expected T.fd_law_expected ["_law_parts"] (spP K 1 (m_law_expected c)) :=
  fnP T.F_law_expected sc_law_expected fun cdv A outer s H E hr =>
    (sCons (sAsg (pVar 0) (gLst' rfl (gsCons' (gName' (i := 1) sc_law_expected.nd) (gsCons' (gName' (i := 2) sc_law_expected.nd) (gsCons' (gName' (i := 3) sc_law_expected.nd) (gsCons' (gName' (i := 4) sc_law_expected.nd) (gsCons' (gName' (i := 5) sc_law_expected.nd) (gsCons' (gName' (i := 6) sc_law_expected.nd) gsNil'))))))))
      (sOne (sRet (pLst (qCons (pVar 1) (qCons (pVar 2) (qCons (pCall T.ok_law_merged (hr.mono (by first | decide | exact Nat.le_refl _ | omega)) T.g_law_merged T.F_law_merged.kp T.b_law_merged (qCons (pVar 3) qNil)) (qCons (pCall T.ok_law_summed (hr.mono (by first | decide | exact Nat.le_refl _ | omega)) T.g_law_summed T.F_law_summed.kp T.b_law_summed (qCons (pVar 4) qNil)) (qCons (pVar 5) (qCons (pVar 6) qNil))))))))))
theorem Tx.okmerged_changes (T : Tx K mg c) : FnOk PySem.Challenge.pw_playhall_k03_moves_merge w K mg base CX0 1 T.fmerged_changes T.fdmerged_changes ["changes"] (spP K 1 (mmerged_changes c)) :=
  fnP T.Fmerged_changes scmerged_changes fun cdv A outer s H E hr =>
    (sCons (sSetO (i := 1) scmerged_changes.nd oDic0)
      (sCons (sFor PassesOwn.never rfl (iSeq (pVar 0)) (gTup' rfl (gsCons' (gName' (i := 2) scmerged_changes.nd) (gsCons' (gName' (i := 3) scmerged_changes.nd) gsNil'))) (sOne (sDput (i := 1) hr.units (pv 1) (pVar 2) (pOp oAddA (pGet2O (i := 1) hr.units (pv 1) (pVar 2) pInt) (pVar 3)))))
      (sOne (sFz (i := 1) (sRet (pCallT cTup T.n_tuple (by decide +kernel) (qCons (pLc [("counter", 2)] rfl scmerged_changes.nd (iSeq (pO (oCallB (cSorted hr.units) T.n_sorted (by decide +kernel) (qCons (pO (oCallT (cListD rfl) T.n_list (by decide +kernel) (qCons (pVar 1) qNil))) qNil)))) (blkOk_by (N := ["changes", "sums", "counter", "amount"]) (sc := defScope smerged_changes) (by decide +kernel)) (fun _ _ _ _ _ => (gName' (i := 2) scmerged_changes.nd)) (fun _ _ _ _ _ => (ptsOne (tCmp (oNe hr.units) (pDget hr.units (pVar 1) (pVar 2)) pInt))) (fun _ _ _ _ _ => (pTup (qCons (pVar 2) (qCons (pDget hr.units (pVar 1) (pVar 2)) qNil)))) (gN_ok 2)) qNil)))))))
theorem Tx.oklesser_high (T : Tx K mg c) : FnOk PySem.Challenge.pw_playhall_k03_moves_merge w K mg base CX0 1 T.flesser_high T.fdlesser_high ["one", "other"] (spP K 2 (mlesser_high c)) :=
  fnP T.Flesser_high sclesser_high fun cdv A outer s H E hr =>
    (sOne (sRet (pMDf (call_minDf rfl hr.units) T.n_min (by decide +kernel) (qCons (pLc [("high", 2)] rfl sclesser_high.nd (iSeq (pTup (qCons (pVar 0) (qCons (pVar 1) qNil)))) (blkOk_by (N := ["one", "other", "high"]) (sc := defScope slesser_high) (by decide +kernel)) (fun _ _ _ _ _ => (gName' (i := 2) sclesser_high.nd)) (fun _ _ _ _ _ => (ptsOne (tCmp oIsNot (pVar 2) pNon))) (fun _ _ _ _ _ => (pVar 2)) (gN_ok 2)) qNil) (kCons pNon kNil))))
theorem Tx.okgreater_low (T : Tx K mg c) : FnOk PySem.Challenge.pw_playhall_k03_moves_merge w K mg base CX0 1 T.fgreater_low T.fdgreater_low ["one", "other"] (spP K 2 (mgreater_low c)) :=
  fnP T.Fgreater_low scgreater_low fun cdv A outer s H E hr =>
    (sOne (sRet (pMDf (call_maxDf rfl hr.units) T.n_max (by decide +kernel) (qCons (pLc [("low", 2)] rfl scgreater_low.nd (iSeq (pTup (qCons (pVar 0) (qCons (pVar 1) qNil)))) (blkOk_by (N := ["one", "other", "low"]) (sc := defScope sgreater_low) (by decide +kernel)) (fun _ _ _ _ _ => (gName' (i := 2) scgreater_low.nd)) (fun _ _ _ _ _ => (ptsOne (tCmp oIsNot (pVar 2) pNon))) (fun _ _ _ _ _ => (pVar 2)) (gN_ok 2)) qNil) (kCons pNon kNil))))
theorem Tx.okmerged_needs (T : Tx K mg c) : FnOk PySem.Challenge.pw_playhall_k03_moves_merge w K mg base CX0 2 T.fmerged_needs T.fdmerged_needs ["needs"] (spP K 1 (mmerged_needs c)) :=
  fnP T.Fmerged_needs scmerged_needs fun cdv A outer s H E hr =>
    (sCons (sSetO (i := 1) scmerged_needs.nd oDic0)
      (sCons (sFor PassesOwn.never rfl (iSeq (pVar 0)) (gTup' rfl (gsCons' (gName' (i := 2) scmerged_needs.nd) (gsCons' (gName' (i := 3) scmerged_needs.nd) (gsCons' (gName' (i := 4) scmerged_needs.nd) gsNil')))) (sCons (sAsg (pGet2O (i := 1) hr.units (pv 1) (pVar 2) (pTup (qCons pNon (qCons pNon qNil)))) (gTup' rfl (gsCons' (gName' (i := 5) scmerged_needs.nd) (gsCons' (gName' (i := 6) scmerged_needs.nd) gsNil'))))
      (sOne (sDput (i := 1) hr.units (pv 1) (pVar 2) (pTup (qCons (pCall T.okgreater_low (hr.mono (by first | decide | exact Nat.le_refl _ | omega)) T.ggreater_low T.Fgreater_low.kp T.bgreater_low (qCons (pVar 5) (qCons (pVar 3) qNil))) (qCons (pCall T.oklesser_high (hr.mono (by first | decide | exact Nat.le_refl _ | omega)) T.glesser_high T.Flesser_high.kp T.blesser_high (qCons (pVar 6) (qCons (pVar 4) qNil))) qNil)))))))
      (sOne (sFz (i := 1) (sRet (pCallT cTup T.n_tuple (by decide +kernel) (qCons (pLc [("counter", 2)] rfl scmerged_needs.nd (iSeq (pO (oCallB (cSorted hr.units) T.n_sorted (by decide +kernel) (qCons (pO (oCallT (cListD rfl) T.n_list (by decide +kernel) (qCons (pVar 1) qNil))) qNil)))) (blkOk_by (N := ["needs", "limits", "counter", "low", "high", "merged_low", "merged_high"]) (sc := defScope smerged_needs) (by decide +kernel)) (fun _ _ _ _ _ => (gName' (i := 2) scmerged_needs.nd)) (fun _ _ _ _ _ => ptsNil) (fun _ _ _ _ _ => (pTup (qCons (pVar 2) (qCons (pIx oIx (pDget hr.units (pVar 1) (pVar 2)) pInt) (qCons (pIx oIx (pDget hr.units (pVar 1) (pVar 2)) pInt) qNil))))) (gN_ok 2)) qNil)))))))
theorem Tx.okis_name (T : Tx K mg c) : FnOk PySem.Challenge.pw_playhall_k03_moves_merge w K mg base CX0 1 T.fis_name T.fdis_name ["text"] (spP K 1 (mis_name c)) :=
  fnP T.Fis_name scis_name fun cdv A outer s H E hr =>
    (sOne (sRet (pAnd (pChain oLe oLe pInt (pCallB cLen T.n_len (by decide +kernel) (qCons (pVar 0) qNil)) (pGlobI T.c_LONGEST_NAME)) (pOne (pCallB (cAll rfl) T.n_all (by decide +kernel) (qCons (pLc [("char", 1)] rfl scis_name.nd (iSeq (pVar 0)) (blkOk_by (N := ["text", "char"]) (sc := defScope sis_name) (by decide +kernel)) (fun _ _ _ _ _ => (gName' (i := 1) scis_name.nd)) (fun _ _ _ _ _ => ptsNil) (fun _ _ _ _ _ => (pCmp oIn (pVar 1) (pGlobS T.c_LETTERS))) (gN_ok 1)) qNil))))))
theorem Tx.okis_label (T : Tx K mg c) : FnOk PySem.Challenge.pw_playhall_k03_moves_merge w K mg base CX0 2 T.fis_label T.fdis_label ["text"] (spP K 1 (mis_label c)) :=
  fnP T.Fis_label scis_label fun cdv A outer s H E hr =>
    (sCons (sSet (i := 1) scis_label.nd (pSplit (pVar 0) pStr))
      (sOne (sRet (pAnd (pCmp oLe (pCallB cLen T.n_len (by decide +kernel) (qCons (pVar 1) qNil)) pInt) (pOne (pCallB (cAll rfl) T.n_all (by decide +kernel) (qCons (pLc [("part", 2)] rfl scis_label.nd (iSeq (pVar 1)) (blkOk_by (N := ["text", "parts", "part"]) (sc := defScope sis_label) (by decide +kernel)) (fun _ _ _ _ _ => (gName' (i := 2) scis_label.nd)) (fun _ _ _ _ _ => ptsNil) (fun _ _ _ _ _ => (pCall T.okis_name (hr.mono (by first | decide | exact Nat.le_refl _ | omega)) T.gis_name T.Fis_name.kp T.bis_name (qCons (pVar 2) qNil))) (gN_ok 2)) qNil)))))))
theorem Tx.okis_need (T : Tx K mg c) : FnOk PySem.Challenge.pw_playhall_k03_moves_merge w K mg base CX0 3 T.fis_need T.fdis_need ["need"] (spP K 1 (mis_need c)) :=
  fnP T.Fis_need scis_need fun cdv A outer s H E hr =>
    (sCons (sAsg (pVar 0) (gTup' rfl (gsCons' (gName' (i := 1) scis_need.nd) (gsCons' (gName' (i := 2) scis_need.nd) (gsCons' (gName' (i := 3) scis_need.nd) gsNil')))))
      (sCons (sIf (tW (tOrW (tNotT (tVal (pCall T.okis_label (hr.mono (by first | decide | exact Nat.le_refl _ | omega)) T.gis_label T.Fis_label.kp T.bis_label (qCons (pVar 1) qNil)))) (tOr1 (tW (tAndW (tCmp oIs (pVar 2) pNon) (tAnd1 (tCmp oIs (pVar 3) pNon))))))) (sOne (sRet pBl)) sNil)
      (sOne (sRet (pAnd (pOr (pCmp oIs (pVar 2) pNon) (pOne (pCmp oGe (pVar 2) pInt))) (pOne (pOr (pCmp oIs (pVar 3) pNon) (pOne (pCmp oGe (pVar 3) pInt)))))))))
theorem Tx.okMove_init (T : Tx K mg c) : FnOk PySem.Challenge.pw_playhall_k03_moves_merge w K mg base (L2N.CX PySem.Challenge.pw_playhall_k03_moves_merge w) 4 T.fMove_init T.fdMove_init ["self", "name", "player", "needs", "changes", "sign", "foul"] (spIX K c.Move 7 (mMove_init c)) :=
  fnIXD T.FMove_init scMove_init fun cdv A outer s H E hr =>
    (sCons (sIf (tNotT (tVal (pCall T.okis_label (hr.mono (by first | decide | exact Nat.le_refl _ | omega)) T.gis_label T.Fis_label.kp T.bis_label (qCons (pVar 1) qNil)))) (sOne (sRaise rfl (L2N.takes_of rfl rfl rfl rfl) T.xBadMove (by simp) (hr.mono (by first | decide | omega)) T.gBadMove (qCons pStr qNil))) sNil)
      (sCons (sIf (tNotT (tVal (pCall T.okis_label (hr.mono (by first | decide | exact Nat.le_refl _ | omega)) T.gis_label T.Fis_label.kp T.bis_label (qCons (pVar 2) qNil)))) (sOne (sRaise rfl (L2N.takes_of rfl rfl rfl rfl) T.xBadMove (by simp) (hr.mono (by first | decide | omega)) T.gBadMove (qCons pStr qNil))) sNil)
      (sCons (sIf (tNotT (tVal (pCallB (cAll rfl) T.n_all (by decide +kernel) (qCons (pLc [("need", 7)] rfl scMove_init.nd (iSeq (pVar 3)) (blkOk_by (N := ["self", "name", "player", "needs", "changes", "sign", "foul", "need", "counter", "amount"]) (sc := defScope sMove_init) (by decide +kernel)) (fun _ _ _ _ _ => (gName' (i := 7) scMove_init.nd)) (fun _ _ _ _ _ => ptsNil) (fun _ _ _ _ _ => (pCall T.okis_need (hr.mono (by first | decide | exact Nat.le_refl _ | omega)) T.gis_need T.Fis_need.kp T.bis_need (qCons (pVar 7) qNil))) (gN_ok 7)) qNil)))) (sOne (sRaise rfl (L2N.takes_of rfl rfl rfl rfl) T.xBadMove (by simp) (hr.mono (by first | decide | omega)) T.gBadMove (qCons pStr qNil))) sNil)
      (sCons (sIf (tNotT (tVal (pCallB (cAll rfl) T.n_all (by decide +kernel) (qCons (pLc [("counter", 8), ("amount", 9)] rfl scMove_init.nd (iSeq (pVar 4)) (blkOk_by (N := ["self", "name", "player", "needs", "changes", "sign", "foul", "need", "counter", "amount"]) (sc := defScope sMove_init) (by decide +kernel)) (fun _ _ _ _ _ => (gTup' rfl (gsCons' (gName' (i := 8) scMove_init.nd) (gsCons' (gName' (i := 9) scMove_init.nd) gsNil')))) (fun _ _ _ _ _ => ptsNil) (fun _ _ _ _ _ => (pCall T.okis_label (hr.mono (by first | decide | exact Nat.le_refl _ | omega)) T.gis_label T.Fis_label.kp T.bis_label (qCons (pVar 8) qNil))) (gT_ok (gsC_ok (gN_ok 8) (gsC_ok (gN_ok 9) gsN_ok)))) qNil)))) (sOne (sRaise rfl (L2N.takes_of rfl rfl rfl rfl) T.xBadMove (by simp) (hr.mono (by first | decide | omega)) T.gBadMove (qCons pStr qNil))) sNil)
      (sCons (sIf (tW (tAndW (tCmp oIsNot (pVar 5) pNon) (tAnd1 (tNotT (tVal (pCall T.okis_label (hr.mono (by first | decide | exact Nat.le_refl _ | omega)) T.gis_label T.Fis_label.kp T.bis_label (qCons (pVar 5) qNil))))))) (sOne (sRaise rfl (L2N.takes_of rfl rfl rfl rfl) T.xBadMove (by simp) (hr.mono (by first | decide | omega)) T.gBadMove (qCons pStr qNil))) sNil)
      (sCons (sPut (i := 0) T.clMove T.naMove_name (pv 0) (oP (pVar 1)))
      (sCons (sPut (i := 0) T.clMove T.naMove_player (pv 0) (oP (pVar 2)))
      (sCons (sPut (i := 0) T.clMove T.naMove_needs (pv 0) (oP (pCall T.okmerged_needs (hr.mono (by first | decide | exact Nat.le_refl _ | omega)) T.gmerged_needs T.Fmerged_needs.kp T.bmerged_needs (qCons (pVar 3) qNil))))
      (sCons (sPut (i := 0) T.clMove T.naMove_changes (pv 0) (oP (pCall T.okmerged_changes (hr.mono (by first | decide | exact Nat.le_refl _ | omega)) T.gmerged_changes T.Fmerged_changes.kp T.bmerged_changes (qCons (pVar 4) qNil))))
      (sCons (sPut (i := 0) T.clMove T.naMove_sign (pv 0) (oP (pVar 5)))
      (sOne (sPut (i := 0) T.clMove T.naMove_foul (pv 0) (oP (pVar 6))))))))))))))
theorem Tx.ok_law_build (T : Tx K mg c) : FnOk PySem.Challenge.pw_playhall_k03_moves_merge w K mg base (L2N.CX PySem.Challenge.pw_playhall_k03_moves_merge w) 6 T.f_law_build T.fd_law_build ["_law_parts", "_law_short"] (spX K 2 (m_law_build c)) :=
  fnX T.F_law_build sc_law_build fun cdv A outer s H E hr =>
    (sCons (sAsg (pVar 0) (gLst' rfl (gsCons' (gName' (i := 2) sc_law_build.nd) (gsCons' (gName' (i := 3) sc_law_build.nd) (gsCons' (gName' (i := 4) sc_law_build.nd) (gsCons' (gName' (i := 5) sc_law_build.nd) (gsCons' (gName' (i := 6) sc_law_build.nd) (gsCons' (gName' (i := 7) sc_law_build.nd) gsNil'))))))))
      (sCons (sIf (tW (tAndW (tVal (pVar 1)) (tAndW (tCmp oIs (pVar 6) pNon) (tAnd1 (tNotT (tVal (pVar 7))))))) (sOne (sRetX (xMake (n := 4) (j := 6) (L2N.takes_of rfl rfl rfl rfl) T.mkMove T.okMove_init (hr.mono (by first | decide | exact Nat.le_refl _ | omega)) T.gMove T.bMove_init (fun _ => (.cons .non (.cons (.bl _) .nil))) rfl (qCons (pVar 2) (qCons (pVar 3) (qCons (pVar 4) (qCons (pVar 5) qNil))))))) sNil)
      (sCons (sIf (tW (tAndW (tVal (pVar 1)) (tAnd1 (tCmp oIs (pVar 6) pNon)))) (sOne (sRetX (xMakeGn (n := 4) (j := 6) (L2N.takes_of rfl rfl rfl rfl) T.mkMove T.okMove_init (hr.mono (by first | decide | exact Nat.le_refl _ | omega)) T.gMove T.kbMove_init_2 (lay_mw (fun _ _ => (.cons .non .nil)) rfl) (qCons (pVar 2) (qCons (pVar 3) (qCons (pVar 4) (qCons (pVar 5) qNil)))) (kCons (pVar 7) kNil)))) sNil)
      (sCons (sIf (tW (tAndW (tVal (pVar 1)) (tAnd1 (tNotT (tVal (pVar 7)))))) (sOne (sRetX (xMakeGn (n := 4) (j := 6) (L2N.takes_of rfl rfl rfl rfl) T.mkMove T.okMove_init (hr.mono (by first | decide | exact Nat.le_refl _ | omega)) T.gMove T.kbMove_init_1 (lay_wm (fun _ _ => (.cons (.bl _) .nil)) rfl) (qCons (pVar 2) (qCons (pVar 3) (qCons (pVar 4) (qCons (pVar 5) qNil)))) (kCons (pVar 6) kNil)))) sNil)
      (sOne (sRetX (xMakeGKn (j := 6) (L2N.takes_of rfl rfl rfl rfl) T.mkMove T.okMove_init (hr.mono (by first | decide | exact Nat.le_refl _ | omega)) T.gMove T.kbMove_init_0 (lay_wm (fun _ _ => .nil) rfl) (kCons (pVar 2) (kCons (pVar 3) (kCons (pVar 4) (kCons (pVar 5) (kCons (pVar 6) (kCons (pVar 7) kNil)))))))))))))
theorem Tx.ok_law_base (T : Tx K mg c) : FnOk PySem.Challenge.pw_playhall_k03_moves_merge w K mg base CX0 7 T.f_law_base T.fd_law_base ["_law_parts"] (spP K 1 (m_law_base c)) :=
  fnP T.F_law_base sc_law_base fun cdv A outer s H E hr =>
    (sCons (sTryAs (i := 1) rfl rfl sc_law_base.nd ⟨rfl, by decide, .inl T.gHallError⟩ takesN0 (tb_all (P := fun C t => PySem.W.exmOne _ (.ref C) (.ref c.HallError) = some t) (fa_cons T.emBadMove_HallError fa_nil)) (fun W pn xe tk po => (sOne (sExprX (xCall tk T.ok_law_build (hr.mono (by first | decide | exact Nat.le_refl _ | omega)) T.g_law_build T.F_law_build.kp T.b_law_build (qCons (pVar 0) (qCons pBl qNil))))))
      (fun a oe cls d pn hz hf => (sCons (sIf (tVal (pIsXT (ws := [.ref c.BadGame, .ref c.BadHall, .ref c.BadScoring, .ref c.BadSeason]) (us := [.ref c.BadGame, .ref c.BadHall, .ref c.BadScoring, .ref c.BadSeason]) (tb_all (P := fun C t => ExcC _ C ∧ PySem.W.kitAny _ (.ref C) [.ref c.BadGame, .ref c.BadHall, .ref c.BadScoring, .ref c.BadSeason] = some t) (fa_cons ⟨T.ecBadMove, (kit_miss T.kiBadMove_BadGame (kit_miss T.kiBadMove_BadHall (kit_miss T.kiBadMove_BadScoring (kit_miss T.kiBadMove_BadSeason kit_end))))⟩ fa_nil)) (.cons (.own _) (.cons (.own _) (.cons (.own _) (.cons (.own _) .nil)))) hz.zc hf (pVar 1) (pa_cons (pe_glob (v := .ref c.BadGame) rfl T.gBadGame rfl) (pa_cons (pe_glob (v := .ref c.BadHall) rfl T.gBadHall rfl) (pa_cons (pe_glob (v := .ref c.BadScoring) rfl T.gBadScoring rfl) (pa_cons (pe_glob (v := .ref c.BadSeason) rfl T.gBadSeason rfl) pa_nil)))) T.n_isinstance)) (sOne (sRet pBl)) sNil)
      (sOne (sRet (pAnd (pIsXo (tb_all (P := fun C t => ExcC _ C ∧ PySem.W.kitOne _ (.ref C) (.ref c.BadMove) = some t) (fa_cons ⟨T.ecBadMove, T.kiBadMove_BadMove⟩ fa_nil)) T.gBadMove hz.zc hf (pVar 1) T.n_isinstance) (pOne (pIsXt (tb_all (P := fun C t => ExcC _ C ∧ PySem.W.kitOne _ (.ref C) (.type "ValueError") = some t) (fa_cons ⟨T.ecBadMove, T.kiBadMove_ValueError⟩ fa_nil)) T.n_ValueError hz.zc hf (pVar 1) T.n_isinstance))))))))
      (sOne (sRet pBl)))
theorem Tx.ok_law_is_name (T : Tx K mg c) : FnOk PySem.Challenge.pw_playhall_k03_moves_merge w K mg base CX0 1 T.f_law_is_name T.fd_law_is_name ["_law_text_here"] (spP K 1 (m_law_is_name c)) :=
  fnP T.F_law_is_name sc_law_is_name fun cdv A outer s H E hr =>
    (sCons (sFor PassesOwn.never rfl (iSeq (pVar 0)) (gName' (i := 1) sc_law_is_name.nd) (sOne (sIf (tCmp oNotIn (pVar 1) pStr) (sOne (sRet pBl)) sNil)))
      (sOne (sRet (pAnd (pCmp oGt (pCallB cLen T.n_len (by decide +kernel) (qCons (pVar 0) qNil)) pInt) (pOne (pCmp oLt (pCallB cLen T.n_len (by decide +kernel) (qCons (pVar 0) qNil)) pInt))))))
theorem Tx.ok_law_is_label (T : Tx K mg c) : FnOk PySem.Challenge.pw_playhall_k03_moves_merge w K mg base CX0 2 T.f_law_is_label T.fd_law_is_label ["_law_text_here"] (spP K 1 (m_law_is_label c)) :=
  fnP T.F_law_is_label sc_law_is_label fun cdv A outer s H E hr =>
    (sCons (sLcD (i := 1) [("_law_k", 2)] rfl sc_law_is_label.nd (iRange1 (pCallB cLen T.n_len (by decide +kernel) (qCons (pVar 0) qNil)) T.n_range) (blkOk_by (N := ["_law_text_here", "_law_dots", "_law_k"]) (sc := defScope s_law_is_label) (by decide +kernel)) (fun _ _ _ _ _ => (gName' (i := 2) sc_law_is_label.nd)) (fun _ _ _ _ _ => (ptsOne (tCmp (oEq hr.units) (pIx oIx (pVar 0) (pVar 2)) pStr))) (fun _ _ _ _ _ => (pVar 2)) (gN_ok 2))
      (sCons (sIf (tCmp (oEq hr.units) (pCallB cLen T.n_len (by decide +kernel) (qCons (pVar 1) qNil)) pInt) (sOne (sRet (pCall T.ok_law_is_name (hr.mono (by first | decide | exact Nat.le_refl _ | omega)) T.g_law_is_name T.F_law_is_name.kp T.b_law_is_name (qCons (pVar 0) qNil)))) sNil)
      (sOne (sRet (pAnd (pCmp (oEq hr.units) (pCallB cLen T.n_len (by decide +kernel) (qCons (pVar 1) qNil)) pInt) (pAnd (pCall T.ok_law_is_name (hr.mono (by first | decide | exact Nat.le_refl _ | omega)) T.g_law_is_name T.F_law_is_name.kp T.b_law_is_name (qCons (pSl (pVar 0) poNone (poSome (pIx oIx (pVar 1) pInt))) qNil)) (pOne (pCall T.ok_law_is_name (hr.mono (by first | decide | exact Nat.le_refl _ | omega)) T.g_law_is_name T.F_law_is_name.kp T.b_law_is_name (qCons (pSl (pVar 0) (poSome (pOp oAddA (pIx oIx (pVar 1) pInt) pInt)) poNone) qNil)))))))))
theorem Tx.ok_law_refused (T : Tx K mg c) : FnOk PySem.Challenge.pw_playhall_k03_moves_merge w K mg base CX0 3 T.f_law_refused T.fd_law_refused ["_law_parts"] (spP K 1 (m_law_refused c)) :=
  fnP T.F_law_refused sc_law_refused fun cdv A outer s H E hr =>
    (sCons (sAsg (pVar 0) (gLst' rfl (gsCons' (gName' (i := 1) sc_law_refused.nd) (gsCons' (gName' (i := 2) sc_law_refused.nd) (gsCons' (gName' (i := 3) sc_law_refused.nd) (gsCons' (gName' (i := 4) sc_law_refused.nd) (gsCons' (gName' (i := 5) sc_law_refused.nd) (gsCons' (gName' (i := 6) sc_law_refused.nd) gsNil'))))))))
      (sCons (sIf (tNotT (tVal (pCall T.ok_law_is_label (hr.mono (by first | decide | exact Nat.le_refl _ | omega)) T.g_law_is_label T.F_law_is_label.kp T.b_law_is_label (qCons (pVar 1) qNil)))) (sOne (sRet pStr)) sNil)
      (sCons (sIf (tNotT (tVal (pCall T.ok_law_is_label (hr.mono (by first | decide | exact Nat.le_refl _ | omega)) T.g_law_is_label T.F_law_is_label.kp T.b_law_is_label (qCons (pVar 2) qNil)))) (sOne (sRet pStr)) sNil)
      (sCons (sFor PassesOwn.never rfl (iSeq (pVar 3)) (gTup' rfl (gsCons' (gName' (i := 7) sc_law_refused.nd) (gsCons' (gName' (i := 8) sc_law_refused.nd) (gsCons' (gName' (i := 9) sc_law_refused.nd) gsNil')))) (sCons (sIf (tW (tOrW (tNotT (tVal (pCall T.ok_law_is_label (hr.mono (by first | decide | exact Nat.le_refl _ | omega)) T.g_law_is_label T.F_law_is_label.kp T.b_law_is_label (qCons (pVar 7) qNil)))) (tOr1 (tW (tAndW (tCmp oIs (pVar 8) pNon) (tAnd1 (tCmp oIs (pVar 9) pNon))))))) (sOne (sRet pStr)) sNil)
      (sOne (sIf (tW (tOrW (tW (tAndW (tCmp oIsNot (pVar 8) pNon) (tAnd1 (tCmp oLt (pVar 8) pInt)))) (tOr1 (tW (tAndW (tCmp oIsNot (pVar 9) pNon) (tAnd1 (tCmp oLt (pVar 9) pInt))))))) (sOne (sRet pStr)) sNil))))
      (sCons (sFor PassesOwn.never rfl (iSeq (pVar 4)) (gTup' rfl (gsCons' (gName' (i := 7) sc_law_refused.nd) (gsCons' (gName' (i := 10) sc_law_refused.nd) gsNil'))) (sOne (sIf (tNotT (tVal (pCall T.ok_law_is_label (hr.mono (by first | decide | exact Nat.le_refl _ | omega)) T.g_law_is_label T.F_law_is_label.kp T.b_law_is_label (qCons (pVar 7) qNil)))) (sOne (sRet pStr)) sNil)))
      (sCons (sIf (tW (tAndW (tCmp oIsNot (pVar 5) pNon) (tAnd1 (tNotT (tVal (pCall T.ok_law_is_label (hr.mono (by first | decide | exact Nat.le_refl _ | omega)) T.g_law_is_label T.F_law_is_label.kp T.b_law_is_label (qCons (pVar 5) qNil))))))) (sOne (sRet pStr)) sNil)
      (sOne (sRet pNon))))))))
theorem Tx.ok_law_told (T : Tx K mg c) : FnOk PySem.Challenge.pw_playhall_k03_moves_merge w K mg base CX0 8 T.f_law_told T.fd_law_told ["_law_parts", "_law_short"] (spP K 2 (m_law_told c)) :=
  fnP T.F_law_told sc_law_told fun cdv A outer s H E hr =>
    (sCons (sSet (i := 2) sc_law_told.nd pNon)
      (sCons (sSet (i := 3) sc_law_told.nd pNon)
      (sCons (sTryAs (i := 4) rfl rfl sc_law_told.nd ⟨rfl, by decide, .inl T.gBadMove⟩ takesN0 (tb_all (P := fun C t => PySem.W.exmOne _ (.ref C) (.ref c.BadMove) = some t) (fa_cons T.emBadMove_BadMove fa_nil)) (fun W pn xe tk po => (sOne (sSetXD (i := 3) sc_law_told.nd (xCall tk T.ok_law_build (hr.mono (by first | decide | exact Nat.le_refl _ | omega)) T.g_law_build T.F_law_build.kp T.b_law_build (qCons (pVar 0) (qCons (pVar 1) qNil))))))
      (fun a oe cls d pn hz hf => (sOne (sSet (i := 2) sc_law_told.nd (pFldX (fa_cons ⟨T.xfBadMove, T.noBadMove_part⟩ fa_nil) hz.zc hf (pVar 4))))))
      (sCons (sSet (i := 5) sc_law_told.nd (pCall T.ok_law_refused (hr.mono (by first | decide | exact Nat.le_refl _ | omega)) T.g_law_refused T.F_law_refused.kp T.b_law_refused (qCons (pVar 0) qNil)))
      (sCons (sIf (tCmp oIsNot (pVar 5) pNon) (sOne (sRet (pAnd (pCmp oIs (pVar 3) pNon) (pAnd (pCall (T.ok_law_same 5) (hr.mono (by first | decide | exact Nat.le_refl _ | omega)) T.g_law_same T.F_law_same.kp T.b_law_same (qCons (pVar 2) (qCons (pVar 5) qNil))) (pOne (pCall T.ok_law_base (hr.mono (by first | decide | exact Nat.le_refl _ | omega)) T.g_law_base T.F_law_base.kp T.b_law_base (qCons (pVar 0) qNil))))))) sNil)
      (sOne (sRet (pAnd (pCmp oIs (pVar 2) pNon) (pOne (pCall T.ok_law_shown (hr.mono (by first | decide | exact Nat.le_refl _ | omega)) T.g_law_shown T.F_law_shown.kp T.b_law_shown (qCons (pVar 3) (qCons (pCall T.ok_law_expected (hr.mono (by first | decide | exact Nat.le_refl _ | omega)) T.g_law_expected T.F_law_expected.kp T.b_law_expected (qCons (pVar 0) qNil)) qNil))))))))))))
theorem Tx.okMove_eq (T : Tx K mg c) : FnOk PySem.Challenge.pw_playhall_k03_moves_merge w K mg base CX0 1 T.fMove_eq T.fdMove_eq ["self", "other"] (spP K 2 (mMove_eq c)) :=
  fnP T.FMove_eq scMove_eq fun cdv A outer s H E hr =>
    (sOne (sRet (pAnd (pIsiC T.isMove T.gMove (pVar 1) T.n_isinstance) (pAnd (pCmp (oEq hr.units) (pFld T.clMove T.naMove_name (pVar 0)) (pFld T.clMove T.naMove_name (pVar 1))) (pAnd (pCmp (oEq hr.units) (pFld T.clMove T.naMove_player (pVar 0)) (pFld T.clMove T.naMove_player (pVar 1))) (pAnd (pCmp (oEq hr.units) (pFld T.clMove T.naMove_needs (pVar 0)) (pFld T.clMove T.naMove_needs (pVar 1))) (pAnd (pCmp (oEq hr.units) (pFld T.clMove T.naMove_changes (pVar 0)) (pFld T.clMove T.naMove_changes (pVar 1))) (pAnd (pCmp (oEq hr.units) (pFld T.clMove T.naMove_sign (pVar 0)) (pFld T.clMove T.naMove_sign (pVar 1))) (pOne (pCmp (oEq hr.units) (pFld T.clMove T.naMove_foul (pVar 0)) (pFld T.clMove T.naMove_foul (pVar 1))))))))))))
theorem Tx.ok_law_wrong_changes (T : Tx K mg c) : FnOk PySem.Challenge.pw_playhall_k03_moves_merge w K mg base CX0 1 T.f_law_wrong_changes T.fd_law_wrong_changes ["_law_text_here", "_law_number_here"] (spP K 2 (m_law_wrong_changes c)) :=
  fnP T.F_law_wrong_changes sc_law_wrong_changes fun cdv A outer s H E hr =>
    (sOne (sRet (pIx oIx (pLst (qCons (pLst (qCons (pTup (qCons (pVar 0) (qCons pInt qNil))) qNil)) (qCons (pLst (qCons (pTup (qCons (pVar 0) (qCons pInt qNil))) qNil)) (qCons (pLst (qCons (pTup (qCons (pVar 0) (qCons pInt qNil))) (qCons (pTup (qCons (pVar 0) (qCons (pUn oNeg pInt) qNil))) qNil))) qNil)))) (pOp oMod (pCallT cInt T.n_int (by decide +kernel) (qCons (pVar 1) qNil)) pInt))))
theorem Tx.ok_law_spoilt (T : Tx K mg c) : FnOk PySem.Challenge.pw_playhall_k03_moves_merge w K mg base CX0 2 T.f_law_spoilt T.fd_law_spoilt ["_law_parts", "_law_row_here", "_law_text_here"] (spP K 3 (m_law_spoilt c)) :=
  fnP T.F_law_spoilt sc_law_spoilt fun cdv A outer s H E hr =>
    (sCons (sSetO (i := 3) sc_law_spoilt.nd (oCallT cList T.n_list (by decide +kernel) (qCons (pVar 0) qNil)))
      (sCons (sSet (i := 4) sc_law_spoilt.nd (pOp oMod (pCallT cInt T.n_int (by decide +kernel) (qCons (pIx oIx (pVar 1) pInt) qNil)) pInt))
      (sCons (sSet (i := 5) sc_law_spoilt.nd (pLst (qCons (pVar 4) qNil)))
      (sCons (sIf (tCmp (oEq hr.units) (pVar 4) pInt) (sOne (sSet (i := 5) sc_law_spoilt.nd (pLst (qCons (pOp oMod (pCallT cInt T.n_int (by decide +kernel) (qCons (pIx oIx (pVar 1) pInt) qNil)) pInt) (qCons (pOp oMod (pCallT cInt T.n_int (by decide +kernel) (qCons (pIx oIx (pVar 1) pInt) qNil)) pInt) qNil))))) sNil)
      (sCons (sIf (tCmp (oEq hr.units) (pVar 4) pInt) (sOne (sSet (i := 5) sc_law_spoilt.nd (pLst (qCons pInt (qCons pInt (qCons pInt (qCons pInt (qCons pInt qNil)))))))) sNil)
      (sCons (sSet (i := 6) sc_law_spoilt.nd (pOp oSub (pOp oSub pInt pInt) (pOp oMod (pCallT cInt T.n_int (by decide +kernel) (qCons (pIx oIx (pVar 1) pInt) qNil)) pInt)))
      (sCons (sSet (i := 7) sc_law_spoilt.nd (pOp oMod (pCallT cInt T.n_int (by decide +kernel) (qCons (pIx oIx (pVar 1) pInt) qNil)) (pOp oAddA (pCallB cLen T.n_len (by decide +kernel) (qCons (pIx oIx (pVar 0) pInt) qNil)) pInt)))
      (sCons (sSet (i := 8) sc_law_spoilt.nd pStr)
      (sCons (sIf (tW (tAndW (tCmp oGt (pCallB cLen T.n_len (by decide +kernel) (qCons (pIx oIx (pVar 0) pInt) qNil)) pInt) (tAnd1 (tCmp oGt (pOp oMod (pCallT cInt T.n_int (by decide +kernel) (qCons (pOp oDiv (pIx oIx (pVar 1) pInt) pInt) qNil)) pInt) pInt)))) (sOne (sSet (i := 8) sc_law_spoilt.nd (pIx oIx (pIx oIx (pIx oIx (pVar 0) pInt) (pOp oMod (pCallT cInt T.n_int (by decide +kernel) (qCons (pOp oDiv (pIx oIx (pVar 1) pInt) pInt) qNil)) (pCallB cLen T.n_len (by decide +kernel) (qCons (pIx oIx (pVar 0) pInt) qNil)))) pInt))) sNil)
      (sCons (sSet (i := 9) sc_law_spoilt.nd (pLst (qCons (pTup (qCons (pVar 2) (qCons pInt (qCons pNon qNil)))) (qCons (pTup (qCons (pVar 8) (qCons (pVar 6) (qCons pNon qNil)))) (qCons (pTup (qCons (pVar 8) (qCons pNon (qCons (pVar 6) qNil)))) qNil)))))
      (sCons (sSet (i := 9) sc_law_spoilt.nd (pIx oIx (pOp oAddA (pVar 9) (pLst (qCons (pTup (qCons (pVar 8) (qCons pNon (qCons pNon qNil)))) (qCons (pTup (qCons (pVar 8) (qCons pInt (qCons (pVar 6) qNil)))) qNil)))) (pOp oMod (pCallT cInt T.n_int (by decide +kernel) (qCons (pIx oIx (pVar 1) pInt) qNil)) pInt)))
      (sCons (sIf (tCmp oIn pInt (pVar 5)) (sOne (sSetP (oP (pVar 2)) (plName (pv 3)) pInt)) sNil)
      (sCons (sIf (tCmp oIn pInt (pVar 5)) (sOne (sSetP (oP (pVar 2)) (plName (pv 3)) pInt)) sNil)
      (sCons (sIf (tCmp oIn pInt (pVar 5)) (sOne (sSetP (oP (pOp oAddA (pOp oAddA (pSl (pIx oIx (pVar 0) pInt) poNone (poSome (pVar 7))) (pLst (qCons (pVar 9) qNil))) (pSl (pIx oIx (pVar 0) pInt) (poSome (pVar 7)) poNone))) (plName (pv 3)) pInt)) sNil)
      (sCons (sIf (tCmp oIn pInt (pVar 5)) (sCons (sSet (i := 7) sc_law_spoilt.nd (pOp oMod (pCallT cInt T.n_int (by decide +kernel) (qCons (pIx oIx (pVar 1) pInt) qNil)) (pOp oAddA (pCallB cLen T.n_len (by decide +kernel) (qCons (pIx oIx (pVar 0) pInt) qNil)) pInt)))
      (sOne (sSetP (oP (pOp oAddA (pOp oAddA (pSl (pIx oIx (pVar 0) pInt) poNone (poSome (pVar 7))) (pCall T.ok_law_wrong_changes (hr.mono (by first | decide | exact Nat.le_refl _ | omega)) T.g_law_wrong_changes T.F_law_wrong_changes.kp T.b_law_wrong_changes (qCons (pVar 2) (qCons (pOp oDiv (pIx oIx (pVar 1) pInt) pInt) qNil)))) (pSl (pIx oIx (pVar 0) pInt) (poSome (pVar 7)) poNone))) (plName (pv 3)) pInt))) sNil)
      (sCons (sIf (tCmp oIn pInt (pVar 5)) (sOne (sSetP (oP (pVar 2)) (plName (pv 3)) pInt)) sNil)
      (sOne (sFz (i := 3) (sRet (pVar 3))))))))))))))))))))
theorem Tx.ok_law_chars (T : Tx K mg c) : FnOk PySem.Challenge.pw_playhall_k03_moves_merge w K mg base CX0 1 T.f_law_chars T.fd_law_chars ["_law_menu", "_law_numbers", "_law_size"] (spP K 3 (m_law_chars c)) :=
  fnP T.F_law_chars sc_law_chars fun cdv A outer s H E hr =>
    (sOne (sRet (pJoin pStr (pLc [("_law_k", 3)] rfl sc_law_chars.nd (iRange1 (pVar 2) T.n_range) (blkOk_by (N := ["_law_menu", "_law_numbers", "_law_size", "_law_k"]) (sc := defScope s_law_chars) (by decide +kernel)) (fun _ _ _ _ _ => (gName' (i := 3) sc_law_chars.nd)) (fun _ _ _ _ _ => ptsNil) (fun _ _ _ _ _ => (pIx oIx (pVar 0) (pOp oMod (pCallT cInt T.n_int (by decide +kernel) (qCons (pIx oIx (pVar 1) (pVar 3)) qNil)) (pCallB cLen T.n_len (by decide +kernel) (qCons (pVar 0) qNil))))) (gN_ok 3)))))
theorem Tx.ok_law_text (T : Tx K mg c) : FnOk PySem.Challenge.pw_playhall_k03_moves_merge w K mg base CX0 2 T.f_law_text T.fd_law_text ["_law_row_here"] (spP K 1 (m_law_text c)) :=
  fnP T.F_law_text sc_law_text fun cdv A outer s H E hr =>
    (sCons (sSet (i := 1) sc_law_text.nd pStr)
      (sCons (sSet (i := 2) sc_law_text.nd pStr)
      (sCons (sSet (i := 1) sc_law_text.nd (pOp oAddA (pOp oAddA (pVar 1) (pVar 2)) pStr))
      (sCons (sSet (i := 3) sc_law_text.nd (pLst (qCons pInt (qCons pInt (qCons pInt (qCons pInt (qCons pInt (qCons pInt (qCons pInt (qCons pInt qNil))))))))))
      (sCons (sSet (i := 4) sc_law_text.nd (pOp oMod (pCallT cInt T.n_int (by decide +kernel) (qCons (pIx oIx (pVar 0) pInt) qNil)) pInt))
      (sCons (sSet (i := 5) sc_law_text.nd (pCall T.ok_law_chars (hr.mono (by first | decide | exact Nat.le_refl _ | omega)) T.g_law_chars T.F_law_chars.kp T.b_law_chars (qCons (pVar 1) (qCons (pSl (pVar 0) (poSome pInt) poNone) (qCons (pOp oMod (pCallT cInt T.n_int (by decide +kernel) (qCons (pIx oIx (pVar 0) pInt) qNil)) pInt) qNil)))))
      (sCons (sIf (tCmp (oEq hr.units) (pVar 4) pInt) (sOne (sSet (i := 5) sc_law_text.nd (pCall T.ok_law_chars (hr.mono (by first | decide | exact Nat.le_refl _ | omega)) T.g_law_chars T.F_law_chars.kp T.b_law_chars (qCons (pVar 2) (qCons (pSl (pVar 0) (poSome pInt) poNone) (qCons (pIx oIx (pVar 3) (pOp oMod (pCallT cInt T.n_int (by decide +kernel) (qCons (pIx oIx (pVar 0) pInt) qNil)) pInt)) qNil)))))) sNil)
      (sCons (sIf (tCmp (oEq hr.units) (pVar 4) pInt) (sCons (sSet (i := 5) sc_law_text.nd (pOp oAddA (pCall T.ok_law_chars (hr.mono (by first | decide | exact Nat.le_refl _ | omega)) T.g_law_chars T.F_law_chars.kp T.b_law_chars (qCons (pVar 2) (qCons (pSl (pVar 0) (poSome pInt) poNone) (qCons (pIx oIx (pVar 3) (pOp oMod (pCallT cInt T.n_int (by decide +kernel) (qCons (pIx oIx (pVar 0) pInt) qNil)) pInt)) qNil)))) pStr))
      (sOne (sSet (i := 5) sc_law_text.nd (pOp oAddA (pVar 5) (pCall T.ok_law_chars (hr.mono (by first | decide | exact Nat.le_refl _ | omega)) T.g_law_chars T.F_law_chars.kp T.b_law_chars (qCons (pVar 2) (qCons (pSl (pVar 0) (poSome pInt) poNone) (qCons (pIx oIx (pVar 3) (pOp oMod (pCallT cInt T.n_int (by decide +kernel) (qCons (pIx oIx (pVar 0) pInt) qNil)) pInt)) qNil)))))))) sNil)
      (sCons (sIf (tCmp (oEq hr.units) (pVar 4) pInt) (sOne (sSet (i := 5) sc_law_text.nd (pCall T.ok_law_chars (hr.mono (by first | decide | exact Nat.le_refl _ | omega)) T.g_law_chars T.F_law_chars.kp T.b_law_chars (qCons (pOp oAddA (pVar 2) pStr) (qCons (pSl (pVar 0) (poSome pInt) poNone) (qCons (pOp oMod (pCallT cInt T.n_int (by decide +kernel) (qCons (pIx oIx (pVar 0) pInt) qNil)) pInt) qNil)))))) sNil)
      (sCons (sIf (tCmp (oEq hr.units) (pVar 4) pInt) (sOne (sSet (i := 5) sc_law_text.nd (pCall T.ok_law_chars (hr.mono (by first | decide | exact Nat.le_refl _ | omega)) T.g_law_chars T.F_law_chars.kp T.b_law_chars (qCons pStr (qCons (pSl (pVar 0) (poSome pInt) poNone) (qCons (pOp oMod (pCallT cInt T.n_int (by decide +kernel) (qCons (pIx oIx (pVar 0) pInt) qNil)) pInt) qNil)))))) sNil)
      (sCons (sIf (tCmp (oEq hr.units) (pVar 4) pInt) (sOne (sSet (i := 5) sc_law_text.nd (pCall T.ok_law_chars (hr.mono (by first | decide | exact Nat.le_refl _ | omega)) T.g_law_chars T.F_law_chars.kp T.b_law_chars (qCons pStr (qCons (pSl (pVar 0) (poSome pInt) poNone) (qCons (pOp oMod (pCallT cInt T.n_int (by decide +kernel) (qCons (pIx oIx (pVar 0) pInt) qNil)) pInt) qNil)))))) sNil)
      (sCons (sIf (tCmp (oEq hr.units) (pOp oMod (pCallT cInt T.n_int (by decide +kernel) (qCons (pOp oDiv (pIx oIx (pVar 0) pInt) pInt) qNil)) pInt) pInt) (sCons (sSet (i := 6) sc_law_text.nd (pOp oMod (pCallT cInt T.n_int (by decide +kernel) (qCons (pIx oIx (pVar 0) pInt) qNil)) (pOp oAddA (pCallB cLen T.n_len (by decide +kernel) (qCons (pVar 5) qNil)) pInt)))
      (sOne (sSet (i := 5) sc_law_text.nd (pOp oAddA (pOp oAddA (pSl (pVar 5) poNone (poSome (pVar 6))) (pIx oIx (pVar 1) (pOp oMod (pCallT cInt T.n_int (by decide +kernel) (qCons (pIx oIx (pVar 0) pInt) qNil)) (pCallB cLen T.n_len (by decide +kernel) (qCons (pVar 1) qNil))))) (pSl (pVar 5) (poSome (pVar 6)) poNone))))) sNil)
      (sOne (sRet (pVar 5)))))))))))))))
theorem Tx.ok_law_row (T : Tx K mg c) : FnOk PySem.Challenge.pw_playhall_k03_moves_merge w K mg base CX0 1 T.f_law_row T.fd_law_row ["_law_cell_here", "_law_many"] (spP K 2 (m_law_row c)) :=
  fnP T.F_law_row sc_law_row fun cdv A outer s H E hr =>
    (sCons (sSetO (i := 2) sc_law_row.nd (oLst qNil))
      (sCons (sSet (i := 3) sc_law_row.nd (pOp oMod (pCallT cInt T.n_int (by decide +kernel) (qCons (pVar 0) qNil)) pInt))
      (sCons (sSet (i := 4) sc_law_row.nd (pOp oSub (pVar 0) (pOp oPow pInt pInt)))
      (sCons (sFor PassesOwn.never rfl (iRange1 (pVar 1) T.n_range) (gName' (i := 5) sc_law_row.nd) (sCons (sSet (i := 3) sc_law_row.nd (pOp oMod (pCallT cInt T.n_int (by decide +kernel) (qCons (pOp oAddA (pOp oAddA (pOp oMul (pVar 3) pInt) (pOp oMul pInt (pVar 5))) pInt) qNil)) pInt))
      (sCons (sSet (i := 6) sc_law_row.nd (pOp oMod (pCallT cInt T.n_int (by decide +kernel) (qCons (pOp oAddA (pOp oAddA (pOp oMul (pVar 3) pInt) (pOp oMul pInt (pVar 5))) pInt) qNil)) pInt))
      (sCons (sApp (i := 2) (pv 2) (pIf (tCmp oGe (pVar 0) (pOp oPow pInt pInt)) (pOp oMod (pCallT cInt T.n_int (by decide +kernel) (qCons (pVar 4) qNil)) pInt) (pOp oMod (pCallT cInt T.n_int (by decide +kernel) (qCons (pOp oDiv (pVar 6) pInt) qNil)) pInt)))
      (sOne (sSet (i := 4) sc_law_row.nd (pOp oDiv (pVar 4) pInt)))))))
      (sOne (sFz (i := 2) (sRet (pVar 2))))))))
theorem Tx.ok_law_cell (T : Tx K mg c) : FnOk PySem.Challenge.pw_playhall_k03_moves_merge w K mg base CX0 1 T.f_law_cell T.fd_law_cell ["_law_script", "_law_k"] (spP K 2 (m_law_cell c)) :=
  fnP T.F_law_cell sc_law_cell fun cdv A outer s H E hr =>
    (sOne (sRet (pIf (tCmp oLt (pVar 1) (pCallB cLen T.n_len (by decide +kernel) (qCons (pVar 0) qNil))) (pCallT cInt T.n_int (by decide +kernel) (qCons (pIx oIx (pVar 0) (pVar 1)) qNil)) pInt)))
theorem Tx.ok_law_near (T : Tx K mg c) : FnOk PySem.Challenge.pw_playhall_k03_moves_merge w K mg base CX0 1 T.f_law_near T.fd_law_near ["_law_parts"] (spP K 1 (m_law_near c)) :=
  fnP T.F_law_near sc_law_near fun cdv A outer s H E hr =>
    (sCons (sAsg (pVar 0) (gLst' rfl (gsCons' (gName' (i := 1) sc_law_near.nd) (gsCons' (gName' (i := 2) sc_law_near.nd) (gsCons' (gName' (i := 3) sc_law_near.nd) (gsCons' (gName' (i := 4) sc_law_near.nd) (gsCons' (gName' (i := 5) sc_law_near.nd) (gsCons' (gName' (i := 6) sc_law_near.nd) gsNil'))))))))
      (sCons (sSetO (i := 7) sc_law_near.nd (oLst (qCons (pLst (qCons (pVar 1) (qCons (pVar 2) (qCons (pSl (pOp oAddA (pRev (pVar 3)) (pVar 3)) poNone (poSome pInt)) (qCons (pRev (pVar 4)) (qCons (pVar 5) (qCons (pVar 6) qNil))))))) qNil)))
      (sCons (sApp (i := 7) (pv 7) (pLst (qCons (pVar 1) (qCons (pVar 2) (qCons (pCallT cTup T.n_tuple (by decide +kernel) (qCons (pVar 3) qNil)) (qCons (pCallT cTup T.n_tuple (by decide +kernel) (qCons (pOp oAddA (pOp oAddA (pLst (qCons (pTup (qCons pStr (qCons pInt qNil))) qNil)) (pVar 4)) (pLst (qCons (pTup (qCons pStr (qCons (pUn oNeg pInt) qNil))) qNil))) qNil)) (qCons (pVar 5) (qCons (pVar 6) qNil))))))))
      (sCons (sFor PassesOwn.never rfl (iSeq (pLst (qCons pStr (qCons pStr (qCons pStr qNil))))) (gName' (i := 8) sc_law_near.nd) (sCons (sApp (i := 7) (pv 7) (pLst (qCons (pVar 8) (qCons (pVar 2) (qCons (pVar 3) (qCons (pVar 4) (qCons (pVar 5) (qCons (pVar 6) qNil))))))))
      (sCons (sApp (i := 7) (pv 7) (pLst (qCons (pVar 1) (qCons (pVar 8) (qCons (pVar 3) (qCons (pVar 4) (qCons (pVar 5) (qCons (pVar 6) qNil))))))))
      (sCons (sApp (i := 7) (pv 7) (pLst (qCons (pVar 1) (qCons (pVar 2) (qCons (pOp oAddA (pVar 3) (pLst (qCons (pTup (qCons (pVar 8) (qCons pInt (qCons pNon qNil)))) qNil))) (qCons (pVar 4) (qCons (pVar 5) (qCons (pVar 6) qNil))))))))
      (sCons (sApp (i := 7) (pv 7) (pLst (qCons (pVar 1) (qCons (pVar 2) (qCons (pOp oAddA (pVar 3) (pLst (qCons (pTup (qCons (pVar 8) (qCons pNon (qCons pInt qNil)))) qNil))) (qCons (pVar 4) (qCons (pVar 5) (qCons (pVar 6) qNil))))))))
      (sCons (sApp (i := 7) (pv 7) (pLst (qCons (pVar 1) (qCons (pVar 2) (qCons (pVar 3) (qCons (pOp oAddA (pVar 4) (pLst (qCons (pTup (qCons (pVar 8) (qCons pInt qNil))) qNil))) (qCons (pVar 5) (qCons (pVar 6) qNil))))))))
      (sOne (sApp (i := 7) (pv 7) (pLst (qCons (pVar 1) (qCons (pVar 2) (qCons (pVar 3) (qCons (pVar 4) (qCons (pVar 8) (qCons (pVar 6) qNil)))))))))))))))
      (sCons (sFor PassesOwn.never rfl (iRange1 (pCallB (cMin2 rfl) T.n_min (by decide +kernel) (qCons pInt (qCons (pCallB cLen T.n_len (by decide +kernel) (qCons (pVar 3) qNil)) qNil))) T.n_range) (gName' (i := 9) sc_law_near.nd) (sCons (sAsg (pIx oIx (pVar 3) (pVar 9)) (gTup' rfl (gsCons' (gName' (i := 10) sc_law_near.nd) (gsCons' (gName' (i := 11) sc_law_near.nd) (gsCons' (gName' (i := 12) sc_law_near.nd) gsNil')))))
      (sCons (sApp (i := 7) (pv 7) (pLst (qCons (pVar 1) (qCons (pVar 2) (qCons (pOp oAddA (pVar 3) (pLst (qCons (pTup (qCons (pVar 10) (qCons pInt (qCons pNon qNil)))) qNil))) (qCons (pVar 4) (qCons (pVar 5) (qCons (pVar 6) qNil))))))))
      (sCons (sApp (i := 7) (pv 7) (pLst (qCons (pVar 1) (qCons (pVar 2) (qCons (pOp oAddA (pVar 3) (pLst (qCons (pTup (qCons (pVar 10) (qCons pNon (qCons pInt qNil)))) qNil))) (qCons (pVar 4) (qCons (pVar 5) (qCons (pVar 6) qNil))))))))
      (sOne (sApp (i := 7) (pv 7) (pLst (qCons (pVar 1) (qCons (pVar 2) (qCons (pOp oAddA (pSl (pVar 3) poNone (poSome (pVar 9))) (pSl (pVar 3) (poSome (pOp oAddA (pVar 9) pInt)) poNone)) (qCons (pVar 4) (qCons (pVar 5) (qCons (pVar 6) qNil)))))))))))))
      (sCons (sFor PassesOwn.never rfl (iRange1 (pCallB (cMin2 rfl) T.n_min (by decide +kernel) (qCons pInt (qCons (pCallB cLen T.n_len (by decide +kernel) (qCons (pVar 4) qNil)) qNil))) T.n_range) (gName' (i := 9) sc_law_near.nd) (sCons (sApp (i := 7) (pv 7) (pLst (qCons (pVar 1) (qCons (pVar 2) (qCons (pVar 3) (qCons (pOp oAddA (pVar 4) (pLst (qCons (pTup (qCons (pIx oIx (pIx oIx (pVar 4) (pVar 9)) pInt) (qCons pInt qNil))) qNil))) (qCons (pVar 5) (qCons (pVar 6) qNil))))))))
      (sOne (sApp (i := 7) (pv 7) (pLst (qCons (pVar 1) (qCons (pVar 2) (qCons (pVar 3) (qCons (pOp oAddA (pSl (pVar 4) poNone (poSome (pVar 9))) (pSl (pVar 4) (poSome (pOp oAddA (pVar 9) pInt)) poNone)) (qCons (pVar 5) (qCons (pVar 6) qNil)))))))))))
      (sCons (sApp (i := 7) (pv 7) (pLst (qCons (pVar 1) (qCons (pVar 2) (qCons (pVar 3) (qCons (pVar 4) (qCons pNon (qCons (pVar 6) qNil))))))))
      (sCons (sApp (i := 7) (pv 7) (pLst (qCons (pVar 1) (qCons (pVar 2) (qCons (pVar 3) (qCons (pVar 4) (qCons (pVar 5) (qCons (pNot (pVar 6)) qNil))))))))
      (sOne (sFz (i := 7) (sRet (pVar 7))))))))))))
theorem Tx.ok_law_number (T : Tx K mg c) : FnOk PySem.Challenge.pw_playhall_k03_moves_merge w K mg base CX0 1 T.f_law_number T.fd_law_number ["_law_numbers", "_law_most"] (spP K 2 (m_law_number c)) :=
  fnP T.F_law_number sc_law_number fun cdv A outer s H E hr =>
    (sCons (sSet (i := 2) sc_law_number.nd (pOp oSub pInt (pOp oMul pInt (pOp oMod (pCallT cInt T.n_int (by decide +kernel) (qCons (pOp oDiv (pIx oIx (pVar 0) pInt) pInt) qNil)) pInt))))
      (sCons (sSet (i := 3) sc_law_number.nd (pOp oMod (pCallT cInt T.n_int (by decide +kernel) (qCons (pIx oIx (pVar 0) pInt) qNil)) pInt))
      (sCons (sIf (tW (tOrW (tCmp (oEq hr.units) (pVar 1) pInt) (tOr1 (tCmp (oEq hr.units) (pVar 3) pInt)))) (sOne (sRet (pOp oSub (pOp oMod (pCallT cInt T.n_int (by decide +kernel) (qCons (pIx oIx (pVar 0) pInt) qNil)) pInt) pInt))) sNil)
      (sCons (sIf (tCmp (oEq hr.units) (pVar 3) pInt) (sOne (sRet (pOp oMulA (pVar 2) (pCallT cInt T.n_int (by decide +kernel) (qCons (pIx oIx (pVar 0) pInt) qNil))))) sNil)
      (sCons (sSet (i := 4) sc_law_number.nd pInt)
      (sCons (sFor PassesOwn.never rfl (iRange1 pInt T.n_range) (gName' (i := 5) sc_law_number.nd) (sOne (sSet (i := 4) sc_law_number.nd (pOp oAddA (pOp oMul (pVar 4) pInt) (pCallT cInt T.n_int (by decide +kernel) (qCons (pIx oIx (pVar 0) (pOp oAddA pInt (pVar 5))) qNil))))))
      (sCons (sIf (tW (tOrW (tCmp (oEq hr.units) (pVar 1) pInt) (tOr1 (tCmp (oEq hr.units) (pVar 3) pInt)))) (sOne (sSet (i := 4) sc_law_number.nd (pOp oMod (pCallT cInt T.n_int (by decide +kernel) (qCons (pVar 4) qNil)) (pOp oPow pInt pInt)))) sNil)
      (sOne (sRet (pOp oMulA (pVar 2) (pVar 4)))))))))))
theorem Tx.ok_law_changes (T : Tx K mg c) : FnOk PySem.Challenge.pw_playhall_k03_moves_merge w K mg base CX0 2 T.f_law_changes T.fd_law_changes ["_law_row_here", "_law_pool_here"] (spP K 2 (m_law_changes c)) :=
  fnP T.F_law_changes sc_law_changes fun cdv A outer s H E hr =>
    (sCons (sSetO (i := 2) sc_law_changes.nd (oLst qNil))
      (sCons (sFor PassesOwn.never rfl (iRange1 (pIx oIx (pLst (qCons pInt (qCons pInt (qCons pInt (qCons pInt (qCons pInt (qCons pInt (qCons pInt qNil)))))))) (pOp oMod (pCallT cInt T.n_int (by decide +kernel) (qCons (pIx oIx (pVar 0) pInt) qNil)) pInt)) T.n_range) (gName' (i := 3) sc_law_changes.nd) (sCons (sSet (i := 4) sc_law_changes.nd (pOp oAddA pInt (pOp oMul pInt (pOp oMod (pVar 3) pInt))))
      (sCons (sSet (i := 5) sc_law_changes.nd (pCall T.ok_law_number (hr.mono (by first | decide | exact Nat.le_refl _ | omega)) T.g_law_number T.F_law_number.kp T.b_law_number (qCons (pSl (pVar 0) (poSome (pOp oAddA (pVar 4) pInt)) (poSome (pOp oAddA (pVar 4) pInt))) (qCons pInt qNil))))
      (sCons (sIf (tW (tOrW (tCmp oGt (pVar 5) (pOp oPow pInt pInt)) (tOr1 (tCmp oLt (pVar 5) (pOp oSub pInt (pOp oPow pInt pInt)))))) (sOne (sSet (i := 5) sc_law_changes.nd (pOp oDiv (pVar 5) pInt))) sNil)
      (sCons (sSet (i := 6) sc_law_changes.nd (pIx oIx (pVar 1) (pOp oMod (pCallT cInt T.n_int (by decide +kernel) (qCons (pOp oAddA (pIx oIx (pVar 0) (pVar 4)) (pOp oDiv (pVar 3) pInt)) qNil)) (pCallB cLen T.n_len (by decide +kernel) (qCons (pVar 1) qNil)))))
      (sCons (sIf (tW (tAndW (tCmp oGt (pVar 3) pInt) (tAnd1 (tCmp (oEq hr.units) (pOp oMod (pCallT cInt T.n_int (by decide +kernel) (qCons (pOp oDiv (pIx oIx (pVar 0) (pVar 4)) pInt) qNil)) pInt) pInt)))) (sCons (sSet (i := 6) sc_law_changes.nd (pVwI (pIx oIx (pIx oIx (pVar 2) (pOp oSub (pVar 3) pInt)) pInt)))
      (sOne (sSet (i := 5) sc_law_changes.nd (pVwI (pOp oSub pInt (pIx oIx (pIx oIx (pVar 2) (pOp oSub (pVar 3) pInt)) pInt)))))) sNil)
      (sOne (sApp (i := 2) (pv 2) (pTup (qCons (pVar 6) (qCons (pVar 5) qNil)))))))))))
      (sOne (sFz (i := 2) (sRet (pVar 2))))))
theorem Tx.ok_law_limit (T : Tx K mg c) : FnOk PySem.Challenge.pw_playhall_k03_moves_merge w K mg base CX0 1 T.f_law_limit T.fd_law_limit ["_law_numbers"] (spP K 1 (m_law_limit c)) :=
  fnP T.F_law_limit sc_law_limit fun cdv A outer s H E hr =>
    (sCons (sSet (i := 1) sc_law_limit.nd (pOp oMod (pCallT cInt T.n_int (by decide +kernel) (qCons (pIx oIx (pVar 0) pInt) qNil)) pInt))
      (sCons (sIf (tCmp (oEq hr.units) (pVar 1) pInt) (sOne (sRet pNon)) sNil)
      (sCons (sIf (tCmp oLt (pVar 1) pInt) (sOne (sRet (pOp oMod (pCallT cInt T.n_int (by decide +kernel) (qCons (pIx oIx (pVar 0) pInt) qNil)) pInt))) sNil)
      (sCons (sSet (i := 2) sc_law_limit.nd pInt)
      (sCons (sFor PassesOwn.never rfl (iRange1 pInt T.n_range) (gName' (i := 3) sc_law_limit.nd) (sOne (sSet (i := 2) sc_law_limit.nd (pOp oAddA (pOp oMul (pVar 2) pInt) (pCallT cInt T.n_int (by decide +kernel) (qCons (pIx oIx (pVar 0) (pOp oAddA pInt (pVar 3))) qNil))))))
      (sOne (sRet (pVar 2))))))))
theorem Tx.ok_law_needs (T : Tx K mg c) : FnOk PySem.Challenge.pw_playhall_k03_moves_merge w K mg base CX0 2 T.f_law_needs T.fd_law_needs ["_law_row_here", "_law_pool_here"] (spP K 2 (m_law_needs c)) :=
  fnP T.F_law_needs sc_law_needs fun cdv A outer s H E hr =>
    (sCons (sSetO (i := 2) sc_law_needs.nd (oLst qNil))
      (sCons (sFor PassesOwn.never rfl (iRange1 (pIx oIx (pLst (qCons pInt (qCons pInt (qCons pInt (qCons pInt (qCons pInt (qCons pInt (qCons pInt qNil)))))))) (pOp oMod (pCallT cInt T.n_int (by decide +kernel) (qCons (pIx oIx (pVar 0) pInt) qNil)) pInt)) T.n_range) (gName' (i := 3) sc_law_needs.nd) (sCons (sSet (i := 4) sc_law_needs.nd (pOp oAddA pInt (pOp oMul pInt (pOp oMod (pVar 3) pInt))))
      (sCons (sSet (i := 5) sc_law_needs.nd (pCall T.ok_law_limit (hr.mono (by first | decide | exact Nat.le_refl _ | omega)) T.g_law_limit T.F_law_limit.kp T.b_law_limit (qCons (pSl (pVar 0) (poSome (pOp oAddA (pVar 4) pInt)) (poSome (pOp oAddA (pVar 4) pInt))) qNil)))
      (sCons (sSet (i := 6) sc_law_needs.nd (pCall T.ok_law_limit (hr.mono (by first | decide | exact Nat.le_refl _ | omega)) T.g_law_limit T.F_law_limit.kp T.b_law_limit (qCons (pSl (pVar 0) (poSome (pOp oAddA (pVar 4) pInt)) (poSome (pOp oAddA (pVar 4) pInt))) qNil)))
      (sCons (sIf (tCmp oIsNot (pVar 5) pNon) (sOne (sSet (i := 5) sc_law_needs.nd (pOp oAddA (pVar 5) (pOp oDiv (pVar 3) pInt)))) sNil)
      (sCons (sIf (tW (tAndW (tCmp oIs (pVar 5) pNon) (tAnd1 (tCmp oIs (pVar 6) pNon)))) (sOne (sSet (i := 5) sc_law_needs.nd (pOp oMod (pCallT cInt T.n_int (by decide +kernel) (qCons (pOp oDiv (pIx oIx (pVar 0) (pVar 4)) pInt) qNil)) pInt))) sNil)
      (sOne (sApp (i := 2) (pv 2) (pTup (qCons (pIx oIx (pVar 1) (pOp oMod (pCallT cInt T.n_int (by decide +kernel) (qCons (pOp oAddA (pIx oIx (pVar 0) (pVar 4)) (pOp oDiv (pVar 3) pInt)) qNil)) (pCallB cLen T.n_len (by decide +kernel) (qCons (pVar 1) qNil)))) (qCons (pVar 5) (qCons (pVar 6) qNil))))))))))))
      (sOne (sFz (i := 2) (sRet (pVar 2))))))
theorem Tx.ok_law_word (T : Tx K mg c) : FnOk PySem.Challenge.pw_playhall_k03_moves_merge w K mg base CX0 1 T.f_law_word T.fd_law_word ["_law_number_here"] (spP K 1 (m_law_word c)) :=
  fnP T.F_law_word sc_law_word fun cdv A outer s H E hr =>
    (sCons (sSet (i := 1) sc_law_word.nd (pOp oAddA (pCallT cInt T.n_int (by decide +kernel) (qCons (pVar 0) qNil)) pInt))
      (sCons (sSet (i := 2) sc_law_word.nd pStr)
      (sCons (sFor PassesOwn.never rfl (iRange1 pInt T.n_range) (gName' (i := 3) sc_law_word.nd) (sCons (sSet (i := 2) sc_law_word.nd (pOp oAddA (pIf (tCmp oGt (pVar 1) pInt) (pIx oIx pStr (pOp oMod (pCallT cInt T.n_int (by decide +kernel) (qCons (pOp oSub (pVar 1) pInt) qNil)) pInt)) pStr) (pVar 2)))
      (sOne (sSet (i := 1) sc_law_word.nd (pOp oDiv (pOp oSub (pVar 1) pInt) pInt)))))
      (sOne (sRet (pVar 2))))))
theorem Tx.ok_law_pool (T : Tx K mg c) : FnOk PySem.Challenge.pw_playhall_k03_moves_merge w K mg base CX0 2 T.f_law_pool T.fd_law_pool ["_law_row_here"] (spP K 1 (m_law_pool c)) :=
  fnP T.F_law_pool sc_law_pool fun cdv A outer s H E hr =>
    (sCons (sSet (i := 1) sc_law_pool.nd (pCall T.ok_law_word (hr.mono (by first | decide | exact Nat.le_refl _ | omega)) T.g_law_word T.F_law_word.kp T.b_law_word (qCons (pOp oAddA (pIx oIx (pVar 0) pInt) (pOp oMul pInt (pOp oMod (pCallT cInt T.n_int (by decide +kernel) (qCons (pIx oIx (pVar 0) pInt) qNil)) pInt))) qNil)))
      (sCons (sSet (i := 2) sc_law_pool.nd (pCall T.ok_law_word (hr.mono (by first | decide | exact Nat.le_refl _ | omega)) T.g_law_word T.F_law_word.kp T.b_law_word (qCons (pIx oIx (pVar 0) pInt) qNil)))
      (sCons (sIf (tCmp (oEq hr.units) (pOp oMod (pCallT cInt T.n_int (by decide +kernel) (qCons (pIx oIx (pVar 0) pInt) qNil)) pInt) pInt) (sOne (sSet (i := 2) sc_law_pool.nd (pSl (pOp oAddA (pVar 2) pStr) poNone (poSome pInt)))) sNil)
      (sCons (sSetO (i := 3) sc_law_pool.nd (oLst qNil))
      (sCons (sFor PassesOwn.never rfl (iSeq (pLst (qCons (pVar 1) (qCons (pOp oAddA (pOp oAddA (pVar 1) pStr) (pVar 2)) (qCons (pVar 2) (qCons (pOp oAddA (pOp oAddA (pVar 2) pStr) (pVar 1)) (qCons (pOp oAddA (pVar 1) pStr) qNil))))))) (gName' (i := 4) sc_law_pool.nd) (sOne (sIf (tVw (tCmp oNotIn (pVar 4) (pVar 3))) (sOne (sApp (i := 3) (pv 3) (pVar 4))) sNil)))
      (sOne (sFz (i := 3) (sRet (pVar 3)))))))))
theorem Tx.oklaw (T : Tx K mg c) : FnOk PySem.Challenge.pw_playhall_k03_moves_merge w K mg base CX0 9 T.flaw T.fdlaw ["_law_script"] (spP K 1 (mlaw c)) :=
  fnP T.Flaw sclaw fun cdv A outer s H E hr =>
    (sCons (sSet (i := 1) sclaw.nd (pCall T.ok_law_row (hr.mono (by first | decide | exact Nat.le_refl _ | omega)) T.g_law_row T.F_law_row.kp T.b_law_row (qCons (pCall T.ok_law_cell (hr.mono (by first | decide | exact Nat.le_refl _ | omega)) T.g_law_cell T.F_law_cell.kp T.b_law_cell (qCons (pVar 0) (qCons pInt qNil))) (qCons pInt qNil))))
      (sCons (sSet (i := 2) sclaw.nd (pCall T.ok_law_pool (hr.mono (by first | decide | exact Nat.le_refl _ | omega)) T.g_law_pool T.F_law_pool.kp T.b_law_pool (qCons (pVar 1) qNil)))
      (sCons (sSet (i := 3) sclaw.nd (pCall T.ok_law_needs (hr.mono (by first | decide | exact Nat.le_refl _ | omega)) T.g_law_needs T.F_law_needs.kp T.b_law_needs (qCons (pCall T.ok_law_row (hr.mono (by first | decide | exact Nat.le_refl _ | omega)) T.g_law_row T.F_law_row.kp T.b_law_row (qCons (pCall T.ok_law_cell (hr.mono (by first | decide | exact Nat.le_refl _ | omega)) T.g_law_cell T.F_law_cell.kp T.b_law_cell (qCons (pVar 0) (qCons pInt qNil))) (qCons pInt qNil))) (qCons (pVar 2) qNil))))
      (sCons (sSet (i := 4) sclaw.nd (pCall T.ok_law_changes (hr.mono (by first | decide | exact Nat.le_refl _ | omega)) T.g_law_changes T.F_law_changes.kp T.b_law_changes (qCons (pCall T.ok_law_row (hr.mono (by first | decide | exact Nat.le_refl _ | omega)) T.g_law_row T.F_law_row.kp T.b_law_row (qCons (pCall T.ok_law_cell (hr.mono (by first | decide | exact Nat.le_refl _ | omega)) T.g_law_cell T.F_law_cell.kp T.b_law_cell (qCons (pVar 0) (qCons pInt qNil))) (qCons pInt qNil))) (qCons (pVar 2) qNil))))
      (sCons (sSet (i := 5) sclaw.nd (pIx oIx (pLst (qCons pNon (qCons (pIx oIx (pVar 2) (pOp oMod (pCallT cInt T.n_int (by decide +kernel) (qCons (pIx oIx (pVar 1) pInt) qNil)) (pCallB cLen T.n_len (by decide +kernel) (qCons (pVar 2) qNil)))) qNil))) (pOp oMod (pCallT cInt T.n_int (by decide +kernel) (qCons (pIx oIx (pVar 1) pInt) qNil)) pInt)))
      (sCons (sSet (i := 6) sclaw.nd (pLst (qCons (pIx oIx (pVar 2) (pOp oMod (pCallT cInt T.n_int (by decide +kernel) (qCons (pIx oIx (pVar 1) pInt) qNil)) (pCallB cLen T.n_len (by decide +kernel) (qCons (pVar 2) qNil)))) (qCons (pIx oIx (pVar 2) (pOp oMod (pCallT cInt T.n_int (by decide +kernel) (qCons (pIx oIx (pVar 1) pInt) qNil)) (pCallB cLen T.n_len (by decide +kernel) (qCons (pVar 2) qNil)))) (qCons (pVar 3) (qCons (pVar 4) (qCons (pVar 5) (qCons (pCmp (op_orD (oEq hr.units) (oEqC T.eqMove T.okMove_eq (hr.mono (by first | decide | exact Nat.le_refl _ | omega)) T.bMove_eq)) (pOp oMod (pCallT cInt T.n_int (by decide +kernel) (qCons (pIx oIx (pVar 1) pInt) qNil)) pInt) pInt) qNil))))))))
      (sCons (sSet (i := 7) sclaw.nd (pCall T.ok_law_expected (hr.mono (by first | decide | exact Nat.le_refl _ | omega)) T.g_law_expected T.F_law_expected.kp T.b_law_expected (qCons (pVar 6) qNil)))
      (sCons (sSetO (i := 8) sclaw.nd (oLstOs (ooCons (oP (pIx oIx (pVar 6) pInt)) (ooCons (oP (pIx oIx (pVar 6) pInt)) (ooCons (oCallT cList T.n_list (by decide +kernel) (qCons (pVar 3) qNil)) (ooCons (oCallT cList T.n_list (by decide +kernel) (qCons (pVar 4) qNil)) (ooCons (oP (pVar 5)) (ooCons (oP (pIx oIx (pVar 6) pInt)) ooNil))))))))
      (sCons (sSet (i := 9) sclaw.nd (pO (oVw (oCallX T.ok_law_build (hr.mono (by first | decide | exact Nat.le_refl _ | omega)) T.g_law_build T.F_law_build.kp T.b_law_build (qCons (pVar 8) (qCons (pCmp (op_orD (oEq hr.units) (oEqC T.eqMove T.okMove_eq (hr.mono (by first | decide | exact Nat.le_refl _ | omega)) T.bMove_eq)) (pOp oMod (pCallT cInt T.n_int (by decide +kernel) (qCons (pIx oIx (pVar 1) pInt) qNil)) pInt) pInt) qNil))))))
      (sCons (sIf (tVw (tW (tOrW (tNotT (tVal (pCall (T.ok_law_same 5) (hr.mono (by first | decide | exact Nat.le_refl _ | omega)) T.g_law_same T.F_law_same.kp T.b_law_same (qCons (pVar 8) (qCons (pVar 6) qNil))))) (tOr1 (tNotT (tVal (pCall T.ok_law_shown (hr.mono (by first | decide | exact Nat.le_refl _ | omega)) T.g_law_shown T.F_law_shown.kp T.b_law_shown (qCons (pVar 9) (qCons (pVar 7) qNil))))))))) (sOne (sRet pBl)) sNil)
      (sCons (sAppP (plIx (plName (pv 8)) pInt) (oP (pTup (qCons pStr (qCons pInt (qCons pInt qNil))))))
      (sCons (sAppP (plIx (plName (pv 8)) pInt) (oP (pTup (qCons pStr (qCons pInt qNil)))))
      (sCons (sFor PassesOwn.never rfl (iSeq (pCall T.ok_law_near (hr.mono (by first | decide | exact Nat.le_refl _ | omega)) T.g_law_near T.F_law_near.kp T.b_law_near (qCons (pVar 6) qNil))) (gName' (i := 10) sclaw.nd) (sCons (sSet (i := 11) sclaw.nd (pO (oCallX T.ok_law_build (hr.mono (by first | decide | exact Nat.le_refl _ | omega)) T.g_law_build T.F_law_build.kp T.b_law_build (qCons (pVar 10) (qCons (pCmp (op_orD (oEq hr.units) (oEqC T.eqMove T.okMove_eq (hr.mono (by first | decide | exact Nat.le_refl _ | omega)) T.bMove_eq)) (pOp oMod (pCallT cInt T.n_int (by decide +kernel) (qCons (pIx oIx (pVar 1) pInt) qNil)) pInt) pInt) qNil)))))
      (sOne (sIf (tW (tOrW (tNotT (tVal (pCall (T.ok_law_same 5) (hr.mono (by first | decide | exact Nat.le_refl _ | omega)) T.g_law_same T.F_law_same.kp T.b_law_same (qCons (pCmp (op_orD (oEq hr.units) (oEqC T.eqMove T.okMove_eq (hr.mono (by first | decide | exact Nat.le_refl _ | omega)) T.bMove_eq)) (pVar 9) (pVar 11)) (qCons (pCmp (op_orD (oEq hr.units) (oEqC T.eqMove T.okMove_eq (hr.mono (by first | decide | exact Nat.le_refl _ | omega)) T.bMove_eq)) (pVar 7) (pCall T.ok_law_expected (hr.mono (by first | decide | exact Nat.le_refl _ | omega)) T.g_law_expected T.F_law_expected.kp T.b_law_expected (qCons (pVar 10) qNil))) qNil))))) (tOr1 (tNotT (tVal (pCall T.ok_law_shown (hr.mono (by first | decide | exact Nat.le_refl _ | omega)) T.g_law_shown T.F_law_shown.kp T.b_law_shown (qCons (pVar 11) (qCons (pCall T.ok_law_expected (hr.mono (by first | decide | exact Nat.le_refl _ | omega)) T.g_law_expected T.F_law_expected.kp T.b_law_expected (qCons (pVar 10) qNil)) qNil)))))))) (sOne (sRet pBl)) sNil))))
      (sCons (sFor PassesOwn.never rfl (iSeq (pLst (qCons pNon (qCons (pCallT cTup T.n_tuple (by decide +kernel) (qCons (pVar 7) qNil)) (qCons (pO (oCallT cList T.n_list (by decide +kernel) (qCons (pVar 7) qNil))) (qCons (pIx oIx (pVar 6) pInt) (qCons pInt qNil))))))) (gName' (i := 12) sclaw.nd) (sOne (sIf (tNotT (tVal (pCall (T.ok_law_same 5) (hr.mono (by first | decide | exact Nat.le_refl _ | omega)) T.g_law_same T.F_law_same.kp T.b_law_same (qCons (pCmp (op_orD (oEq hr.units) (oEqC T.eqMove T.okMove_eq (hr.mono (by first | decide | exact Nat.le_refl _ | omega)) T.bMove_eq)) (pVar 9) (pVar 12)) (qCons pBl qNil))))) (sOne (sRet pBl)) sNil)))
      (sCons (sFor PassesOwn.never rfl (iSeq (pLst (qCons pInt (qCons pInt qNil)))) (gName' (i := 13) sclaw.nd) (sCons (sSet (i := 14) sclaw.nd (pCall T.ok_law_row (hr.mono (by first | decide | exact Nat.le_refl _ | omega)) T.g_law_row T.F_law_row.kp T.b_law_row (qCons (pCall T.ok_law_cell (hr.mono (by first | decide | exact Nat.le_refl _ | omega)) T.g_law_cell T.F_law_cell.kp T.b_law_cell (qCons (pVar 0) (qCons (pVar 13) qNil))) (qCons pInt qNil))))
      (sCons (sSet (i := 15) sclaw.nd (pCall T.ok_law_spoilt (hr.mono (by first | decide | exact Nat.le_refl _ | omega)) T.g_law_spoilt T.F_law_spoilt.kp T.b_law_spoilt (qCons (pVar 6) (qCons (pVar 14) (qCons (pCall T.ok_law_text (hr.mono (by first | decide | exact Nat.le_refl _ | omega)) T.g_law_text T.F_law_text.kp T.b_law_text (qCons (pSl (pVar 14) (poSome pInt) poNone) qNil)) qNil)))))
      (sOne (sIf (tNotT (tVal (pCall T.ok_law_told (hr.mono (by first | decide | exact Nat.le_refl _ | omega)) T.g_law_told T.F_law_told.kp T.b_law_told (qCons (pVar 15) (qCons (pCmp (op_orD (oEq hr.units) (oEqC T.eqMove T.okMove_eq (hr.mono (by first | decide | exact Nat.le_refl _ | omega)) T.bMove_eq)) (pOp oMod (pCallT cInt T.n_int (by decide +kernel) (qCons (pIx oIx (pVar 1) pInt) qNil)) pInt) pInt) qNil))))) (sOne (sRet pBl)) sNil)))))
      (sOne (sRet (pAnd (pCall T.ok_law_shown (hr.mono (by first | decide | exact Nat.le_refl _ | omega)) T.g_law_shown T.F_law_shown.kp T.b_law_shown (qCons (pVar 9) (qCons (pVar 7) qNil))) (pAnd (pCall T.ok_law_told (hr.mono (by first | decide | exact Nat.le_refl _ | omega)) T.g_law_told T.F_law_told.kp T.b_law_told (qCons (pVar 6) (qCons pBl qNil))) (pOne (pCall T.ok_law_told (hr.mono (by first | decide | exact Nat.le_refl _ | omega)) T.g_law_told T.F_law_told.kp T.b_law_told (qCons (pVar 6) (qCons pBl qNil)))))))))))))))))))))))
end
theorem tx_mk {K : PySem.W.Frag} {h : Heap} {mg : Str → Option Value} (X : K.In h) (G : h.Ns mainGlobals mg)
    (z0 : PySem.W.nsIn K mainGlobals "ValueError" = some none)
    (z1 : PySem.W.nsIn K mainGlobals "all" = some none)
    (z2 : PySem.W.nsIn K mainGlobals "bool" = some none)
    (z3 : PySem.W.nsIn K mainGlobals "int" = some none)
    (z4 : PySem.W.nsIn K mainGlobals "isinstance" = some none)
    (z5 : PySem.W.nsIn K mainGlobals "len" = some none)
    (z6 : PySem.W.nsIn K mainGlobals "list" = some none)
    (z7 : PySem.W.nsIn K mainGlobals "max" = some none)
    (z8 : PySem.W.nsIn K mainGlobals "min" = some none)
    (z9 : PySem.W.nsIn K mainGlobals "range" = some none)
    (z10 : PySem.W.nsIn K mainGlobals "sorted" = some none)
    (z11 : PySem.W.nsIn K mainGlobals "str" = some none)
    (z12 : PySem.W.nsIn K mainGlobals "sum" = some none)
    (z13 : PySem.W.nsIn K mainGlobals "tuple" = some none)
    {t0 : Tok}
    (y0 : PySem.W.nsIn K mainGlobals "LETTERS" = some (some (.str "abcdefghijklmnopqrstuvwxyz" t0)))
    {t1 : Tok}
    (y1 : PySem.W.nsIn K mainGlobals "LONGEST_NAME" = some (some (.int 12 t1)))
    {C0 : Addr} {cd0d : ClassData}
    (u0_g : PySem.W.nsIn K mainGlobals "Move" = some (some (.ref C0)))
    (u0_a : PySem.W.plainGet K C0 Str.empty = true)
    (u0_b : PySem.W.hasDictIn K C0 = true)
    (u0_c : PySem.W.plainOver K C0 = true)
    (u0_d : PySem.W.findIn K (.ref C0) "__setattr__" = some (some (.builtin "object.__setattr__")))
    (u0_e : PySem.W.findIn K (.ref C0) "__class__" = some (some (.builtin "object.__class__")))
    (u0_f : PySem.W.specialIn K (.builtin "object.__class__") "__get__" = some (some (.builtin "getset_descriptor.__get__")))
    (u0_h : PySem.W.takesIn K (.builtin "object.__class__") = some true)
    (u0_i : PySem.W.mroIn K C0 (.type "object") = some true)
    (u0_j : PySem.W.typeIn K (.ref C0) = some (.type "type"))
    (u0_k : PySem.W.clsIn K C0 = some cd0d)
    (u0_l : PySem.W.keepIn K (.ref C0) = true)
    (v0_0 : PySem.W.findIn K (.ref C0) "foul" = some none)
    (v0_1 : PySem.W.findIn K (.ref C0) "sign" = some none)
    (v0_2 : PySem.W.findIn K (.ref C0) "changes" = some none)
    (v0_3 : PySem.W.findIn K (.ref C0) "needs" = some none)
    (v0_4 : PySem.W.findIn K (.ref C0) "player" = some none)
    (v0_5 : PySem.W.findIn K (.ref C0) "name" = some none)
    (v0_6 : PySem.W.makesIn K C0 = true)
    {f0 : Addr} {oc0 kV0 dc0 pm0 cd0 ct0 : Value} {od0 an0 : Option Addr} {sl0 : Array (Option Value)}
    (a0 : PySem.W.nsIn K mainGlobals "_law_same" = some (some (.ref f0)))
    (l0 : K.lookup f0 = some ⟨oc0, od0, .func (PySem.W.fnOf "_law_same" "_law_same" (defArgs s_law_same) (defBody s_law_same) (defScope s_law_same) .none kV0 dc0 pm0 an0 cd0 ct0), sl0⟩)
    (c0 : PySem.W.codeIn K cd0 "_law_same" = true)
    (k0 : PySem.W.keepIn K (.ref f0) = true)
    {f1 : Addr} {oc1 kV1 dc1 pm1 cd1 ct1 : Value} {od1 an1 : Option Addr} {sl1 : Array (Option Value)}
    (a1 : PySem.W.nsIn K mainGlobals "_law_shown" = some (some (.ref f1)))
    (l1 : K.lookup f1 = some ⟨oc1, od1, .func (PySem.W.fnOf "_law_shown" "_law_shown" (defArgs s_law_shown) (defBody s_law_shown) (defScope s_law_shown) .none kV1 dc1 pm1 an1 cd1 ct1), sl1⟩)
    (c1 : PySem.W.codeIn K cd1 "_law_shown" = true)
    (k1 : PySem.W.keepIn K (.ref f1) = true)
    {f2 : Addr} {oc2 kV2 dc2 pm2 cd2 ct2 : Value} {od2 an2 : Option Addr} {sl2 : Array (Option Value)}
    (a2 : PySem.W.nsIn K mainGlobals "_law_summed" = some (some (.ref f2)))
    (l2 : K.lookup f2 = some ⟨oc2, od2, .func (PySem.W.fnOf "_law_summed" "_law_summed" (defArgs s_law_summed) (defBody s_law_summed) (defScope s_law_summed) .none kV2 dc2 pm2 an2 cd2 ct2), sl2⟩)
    (c2 : PySem.W.codeIn K cd2 "_law_summed" = true)
    (k2 : PySem.W.keepIn K (.ref f2) = true)
    {f3 : Addr} {oc3 kV3 dc3 pm3 cd3 ct3 : Value} {od3 an3 : Option Addr} {sl3 : Array (Option Value)}
    (a3 : PySem.W.nsIn K mainGlobals "_law_merged" = some (some (.ref f3)))
    (l3 : K.lookup f3 = some ⟨oc3, od3, .func (PySem.W.fnOf "_law_merged" "_law_merged" (defArgs s_law_merged) (defBody s_law_merged) (defScope s_law_merged) .none kV3 dc3 pm3 an3 cd3 ct3), sl3⟩)
    (c3 : PySem.W.codeIn K cd3 "_law_merged" = true)
    (k3 : PySem.W.keepIn K (.ref f3) = true)
    {f4 : Addr} {oc4 kV4 dc4 pm4 cd4 ct4 : Value} {od4 an4 : Option Addr} {sl4 : Array (Option Value)}
    (a4 : PySem.W.nsIn K mainGlobals "_law_expected" = some (some (.ref f4)))
    (l4 : K.lookup f4 = some ⟨oc4, od4, .func (PySem.W.fnOf "_law_expected" "_law_expected" (defArgs s_law_expected) (defBody s_law_expected) (defScope s_law_expected) .none kV4 dc4 pm4 an4 cd4 ct4), sl4⟩)
    (c4 : PySem.W.codeIn K cd4 "_law_expected" = true)
    (k4 : PySem.W.keepIn K (.ref f4) = true)
    {f5 : Addr} {oc5 kV5 dc5 pm5 cd5 ct5 : Value} {od5 an5 : Option Addr} {sl5 : Array (Option Value)}
    (a5 : PySem.W.nsIn K mainGlobals "merged_changes" = some (some (.ref f5)))
    (l5 : K.lookup f5 = some ⟨oc5, od5, .func (PySem.W.fnOf "merged_changes" "merged_changes" (defArgs smerged_changes) (defBody smerged_changes) (defScope smerged_changes) .none kV5 dc5 pm5 an5 cd5 ct5), sl5⟩)
    (c5 : PySem.W.codeIn K cd5 "merged_changes" = true)
    (k5 : PySem.W.keepIn K (.ref f5) = true)
    {f6 : Addr} {oc6 kV6 dc6 pm6 cd6 ct6 : Value} {od6 an6 : Option Addr} {sl6 : Array (Option Value)}
    (a6 : PySem.W.nsIn K mainGlobals "lesser_high" = some (some (.ref f6)))
    (l6 : K.lookup f6 = some ⟨oc6, od6, .func (PySem.W.fnOf "lesser_high" "lesser_high" (defArgs slesser_high) (defBody slesser_high) (defScope slesser_high) .none kV6 dc6 pm6 an6 cd6 ct6), sl6⟩)
    (c6 : PySem.W.codeIn K cd6 "lesser_high" = true)
    (k6 : PySem.W.keepIn K (.ref f6) = true)
    {f7 : Addr} {oc7 kV7 dc7 pm7 cd7 ct7 : Value} {od7 an7 : Option Addr} {sl7 : Array (Option Value)}
    (a7 : PySem.W.nsIn K mainGlobals "greater_low" = some (some (.ref f7)))
    (l7 : K.lookup f7 = some ⟨oc7, od7, .func (PySem.W.fnOf "greater_low" "greater_low" (defArgs sgreater_low) (defBody sgreater_low) (defScope sgreater_low) .none kV7 dc7 pm7 an7 cd7 ct7), sl7⟩)
    (c7 : PySem.W.codeIn K cd7 "greater_low" = true)
    (k7 : PySem.W.keepIn K (.ref f7) = true)
    {f8 : Addr} {oc8 kV8 dc8 pm8 cd8 ct8 : Value} {od8 an8 : Option Addr} {sl8 : Array (Option Value)}
    (a8 : PySem.W.nsIn K mainGlobals "merged_needs" = some (some (.ref f8)))
    (l8 : K.lookup f8 = some ⟨oc8, od8, .func (PySem.W.fnOf "merged_needs" "merged_needs" (defArgs smerged_needs) (defBody smerged_needs) (defScope smerged_needs) .none kV8 dc8 pm8 an8 cd8 ct8), sl8⟩)
    (c8 : PySem.W.codeIn K cd8 "merged_needs" = true)
    (k8 : PySem.W.keepIn K (.ref f8) = true)
    {f9 : Addr} {oc9 kV9 dc9 pm9 cd9 ct9 : Value} {od9 an9 : Option Addr} {sl9 : Array (Option Value)}
    (a9 : PySem.W.nsIn K mainGlobals "is_name" = some (some (.ref f9)))
    (l9 : K.lookup f9 = some ⟨oc9, od9, .func (PySem.W.fnOf "is_name" "is_name" (defArgs sis_name) (defBody sis_name) (defScope sis_name) .none kV9 dc9 pm9 an9 cd9 ct9), sl9⟩)
    (c9 : PySem.W.codeIn K cd9 "is_name" = true)
    (k9 : PySem.W.keepIn K (.ref f9) = true)
    {f10 : Addr} {oc10 kV10 dc10 pm10 cd10 ct10 : Value} {od10 an10 : Option Addr} {sl10 : Array (Option Value)}
    (a10 : PySem.W.nsIn K mainGlobals "is_label" = some (some (.ref f10)))
    (l10 : K.lookup f10 = some ⟨oc10, od10, .func (PySem.W.fnOf "is_label" "is_label" (defArgs sis_label) (defBody sis_label) (defScope sis_label) .none kV10 dc10 pm10 an10 cd10 ct10), sl10⟩)
    (c10 : PySem.W.codeIn K cd10 "is_label" = true)
    (k10 : PySem.W.keepIn K (.ref f10) = true)
    {f11 : Addr} {oc11 kV11 dc11 pm11 cd11 ct11 : Value} {od11 an11 : Option Addr} {sl11 : Array (Option Value)}
    (a11 : PySem.W.nsIn K mainGlobals "is_need" = some (some (.ref f11)))
    (l11 : K.lookup f11 = some ⟨oc11, od11, .func (PySem.W.fnOf "is_need" "is_need" (defArgs sis_need) (defBody sis_need) (defScope sis_need) .none kV11 dc11 pm11 an11 cd11 ct11), sl11⟩)
    (c11 : PySem.W.codeIn K cd11 "is_need" = true)
    (k11 : PySem.W.keepIn K (.ref f11) = true)
    {f12 : Addr} {oc12 dc12 pm12 cd12 ct12 : Value} {od12 an12 : Option Addr} {sl12 : Array (Option Value)}
    (a12 : PySem.W.findIn K (.ref C0) "__init__" = some (some (.ref f12)))
    (a12_1 : PySem.W.isFn K (.ref f12) = true)
    {kT12 : Addr}
    (l12 : K.lookup f12 = some ⟨oc12, od12, .func (PySem.W.fnOf "__init__" "Move.__init__" (defArgs sMove_init) (defBody sMove_init) (defScope sMove_init) .none (.ref kT12) dc12 pm12 an12 cd12 ct12), sl12⟩)
    (kd12_0 : PySem.W.nsIn K kT12 "sign" = some (some .none))
    (kd12_1 : PySem.W.nsIn K kT12 "foul" = some (some (.bool false)))
    (c12 : PySem.W.codeIn K cd12 "Move.__init__" = true)
    (k12 : PySem.W.keepIn K (.ref f12) = true)
    {f13 : Addr} {oc13 kV13 dc13 pm13 cd13 ct13 : Value} {od13 an13 : Option Addr} {sl13 : Array (Option Value)}
    (a13 : PySem.W.nsIn K mainGlobals "_law_build" = some (some (.ref f13)))
    (l13 : K.lookup f13 = some ⟨oc13, od13, .func (PySem.W.fnOf "_law_build" "_law_build" (defArgs s_law_build) (defBody s_law_build) (defScope s_law_build) .none kV13 dc13 pm13 an13 cd13 ct13), sl13⟩)
    (c13 : PySem.W.codeIn K cd13 "_law_build" = true)
    (k13 : PySem.W.keepIn K (.ref f13) = true)
    {f14 : Addr} {oc14 kV14 dc14 pm14 cd14 ct14 : Value} {od14 an14 : Option Addr} {sl14 : Array (Option Value)}
    (a14 : PySem.W.nsIn K mainGlobals "_law_base" = some (some (.ref f14)))
    (l14 : K.lookup f14 = some ⟨oc14, od14, .func (PySem.W.fnOf "_law_base" "_law_base" (defArgs s_law_base) (defBody s_law_base) (defScope s_law_base) .none kV14 dc14 pm14 an14 cd14 ct14), sl14⟩)
    (c14 : PySem.W.codeIn K cd14 "_law_base" = true)
    (k14 : PySem.W.keepIn K (.ref f14) = true)
    {f15 : Addr} {oc15 kV15 dc15 pm15 cd15 ct15 : Value} {od15 an15 : Option Addr} {sl15 : Array (Option Value)}
    (a15 : PySem.W.nsIn K mainGlobals "_law_is_name" = some (some (.ref f15)))
    (l15 : K.lookup f15 = some ⟨oc15, od15, .func (PySem.W.fnOf "_law_is_name" "_law_is_name" (defArgs s_law_is_name) (defBody s_law_is_name) (defScope s_law_is_name) .none kV15 dc15 pm15 an15 cd15 ct15), sl15⟩)
    (c15 : PySem.W.codeIn K cd15 "_law_is_name" = true)
    (k15 : PySem.W.keepIn K (.ref f15) = true)
    {f16 : Addr} {oc16 kV16 dc16 pm16 cd16 ct16 : Value} {od16 an16 : Option Addr} {sl16 : Array (Option Value)}
    (a16 : PySem.W.nsIn K mainGlobals "_law_is_label" = some (some (.ref f16)))
    (l16 : K.lookup f16 = some ⟨oc16, od16, .func (PySem.W.fnOf "_law_is_label" "_law_is_label" (defArgs s_law_is_label) (defBody s_law_is_label) (defScope s_law_is_label) .none kV16 dc16 pm16 an16 cd16 ct16), sl16⟩)
    (c16 : PySem.W.codeIn K cd16 "_law_is_label" = true)
    (k16 : PySem.W.keepIn K (.ref f16) = true)
    {f17 : Addr} {oc17 kV17 dc17 pm17 cd17 ct17 : Value} {od17 an17 : Option Addr} {sl17 : Array (Option Value)}
    (a17 : PySem.W.nsIn K mainGlobals "_law_refused" = some (some (.ref f17)))
    (l17 : K.lookup f17 = some ⟨oc17, od17, .func (PySem.W.fnOf "_law_refused" "_law_refused" (defArgs s_law_refused) (defBody s_law_refused) (defScope s_law_refused) .none kV17 dc17 pm17 an17 cd17 ct17), sl17⟩)
    (c17 : PySem.W.codeIn K cd17 "_law_refused" = true)
    (k17 : PySem.W.keepIn K (.ref f17) = true)
    {f18 : Addr} {oc18 kV18 dc18 pm18 cd18 ct18 : Value} {od18 an18 : Option Addr} {sl18 : Array (Option Value)}
    (a18 : PySem.W.nsIn K mainGlobals "_law_told" = some (some (.ref f18)))
    (l18 : K.lookup f18 = some ⟨oc18, od18, .func (PySem.W.fnOf "_law_told" "_law_told" (defArgs s_law_told) (defBody s_law_told) (defScope s_law_told) .none kV18 dc18 pm18 an18 cd18 ct18), sl18⟩)
    (c18 : PySem.W.codeIn K cd18 "_law_told" = true)
    (k18 : PySem.W.keepIn K (.ref f18) = true)
    {f19 : Addr} {oc19 kV19 dc19 pm19 cd19 ct19 : Value} {od19 an19 : Option Addr} {sl19 : Array (Option Value)}
    (a19 : PySem.W.findIn K (.ref C0) "__eq__" = some (some (.ref f19)))
    (a19_1 : PySem.W.isFn K (.ref f19) = true)
    (l19 : K.lookup f19 = some ⟨oc19, od19, .func (PySem.W.fnOf "__eq__" "Move.__eq__" (defArgs sMove_eq) (defBody sMove_eq) (defScope sMove_eq) .none kV19 dc19 pm19 an19 cd19 ct19), sl19⟩)
    (c19 : PySem.W.codeIn K cd19 "Move.__eq__" = true)
    (k19 : PySem.W.keepIn K (.ref f19) = true)
    {f20 : Addr} {oc20 kV20 dc20 pm20 cd20 ct20 : Value} {od20 an20 : Option Addr} {sl20 : Array (Option Value)}
    (a20 : PySem.W.nsIn K mainGlobals "_law_wrong_changes" = some (some (.ref f20)))
    (l20 : K.lookup f20 = some ⟨oc20, od20, .func (PySem.W.fnOf "_law_wrong_changes" "_law_wrong_changes" (defArgs s_law_wrong_changes) (defBody s_law_wrong_changes) (defScope s_law_wrong_changes) .none kV20 dc20 pm20 an20 cd20 ct20), sl20⟩)
    (c20 : PySem.W.codeIn K cd20 "_law_wrong_changes" = true)
    (k20 : PySem.W.keepIn K (.ref f20) = true)
    {f21 : Addr} {oc21 kV21 dc21 pm21 cd21 ct21 : Value} {od21 an21 : Option Addr} {sl21 : Array (Option Value)}
    (a21 : PySem.W.nsIn K mainGlobals "_law_spoilt" = some (some (.ref f21)))
    (l21 : K.lookup f21 = some ⟨oc21, od21, .func (PySem.W.fnOf "_law_spoilt" "_law_spoilt" (defArgs s_law_spoilt) (defBody s_law_spoilt) (defScope s_law_spoilt) .none kV21 dc21 pm21 an21 cd21 ct21), sl21⟩)
    (c21 : PySem.W.codeIn K cd21 "_law_spoilt" = true)
    (k21 : PySem.W.keepIn K (.ref f21) = true)
    {f22 : Addr} {oc22 kV22 dc22 pm22 cd22 ct22 : Value} {od22 an22 : Option Addr} {sl22 : Array (Option Value)}
    (a22 : PySem.W.nsIn K mainGlobals "_law_chars" = some (some (.ref f22)))
    (l22 : K.lookup f22 = some ⟨oc22, od22, .func (PySem.W.fnOf "_law_chars" "_law_chars" (defArgs s_law_chars) (defBody s_law_chars) (defScope s_law_chars) .none kV22 dc22 pm22 an22 cd22 ct22), sl22⟩)
    (c22 : PySem.W.codeIn K cd22 "_law_chars" = true)
    (k22 : PySem.W.keepIn K (.ref f22) = true)
    {f23 : Addr} {oc23 kV23 dc23 pm23 cd23 ct23 : Value} {od23 an23 : Option Addr} {sl23 : Array (Option Value)}
    (a23 : PySem.W.nsIn K mainGlobals "_law_text" = some (some (.ref f23)))
    (l23 : K.lookup f23 = some ⟨oc23, od23, .func (PySem.W.fnOf "_law_text" "_law_text" (defArgs s_law_text) (defBody s_law_text) (defScope s_law_text) .none kV23 dc23 pm23 an23 cd23 ct23), sl23⟩)
    (c23 : PySem.W.codeIn K cd23 "_law_text" = true)
    (k23 : PySem.W.keepIn K (.ref f23) = true)
    {f24 : Addr} {oc24 kV24 dc24 pm24 cd24 ct24 : Value} {od24 an24 : Option Addr} {sl24 : Array (Option Value)}
    (a24 : PySem.W.nsIn K mainGlobals "_law_row" = some (some (.ref f24)))
    (l24 : K.lookup f24 = some ⟨oc24, od24, .func (PySem.W.fnOf "_law_row" "_law_row" (defArgs s_law_row) (defBody s_law_row) (defScope s_law_row) .none kV24 dc24 pm24 an24 cd24 ct24), sl24⟩)
    (c24 : PySem.W.codeIn K cd24 "_law_row" = true)
    (k24 : PySem.W.keepIn K (.ref f24) = true)
    {f25 : Addr} {oc25 kV25 dc25 pm25 cd25 ct25 : Value} {od25 an25 : Option Addr} {sl25 : Array (Option Value)}
    (a25 : PySem.W.nsIn K mainGlobals "_law_cell" = some (some (.ref f25)))
    (l25 : K.lookup f25 = some ⟨oc25, od25, .func (PySem.W.fnOf "_law_cell" "_law_cell" (defArgs s_law_cell) (defBody s_law_cell) (defScope s_law_cell) .none kV25 dc25 pm25 an25 cd25 ct25), sl25⟩)
    (c25 : PySem.W.codeIn K cd25 "_law_cell" = true)
    (k25 : PySem.W.keepIn K (.ref f25) = true)
    {f26 : Addr} {oc26 kV26 dc26 pm26 cd26 ct26 : Value} {od26 an26 : Option Addr} {sl26 : Array (Option Value)}
    (a26 : PySem.W.nsIn K mainGlobals "_law_near" = some (some (.ref f26)))
    (l26 : K.lookup f26 = some ⟨oc26, od26, .func (PySem.W.fnOf "_law_near" "_law_near" (defArgs s_law_near) (defBody s_law_near) (defScope s_law_near) .none kV26 dc26 pm26 an26 cd26 ct26), sl26⟩)
    (c26 : PySem.W.codeIn K cd26 "_law_near" = true)
    (k26 : PySem.W.keepIn K (.ref f26) = true)
    {f27 : Addr} {oc27 kV27 dc27 pm27 cd27 ct27 : Value} {od27 an27 : Option Addr} {sl27 : Array (Option Value)}
    (a27 : PySem.W.nsIn K mainGlobals "_law_number" = some (some (.ref f27)))
    (l27 : K.lookup f27 = some ⟨oc27, od27, .func (PySem.W.fnOf "_law_number" "_law_number" (defArgs s_law_number) (defBody s_law_number) (defScope s_law_number) .none kV27 dc27 pm27 an27 cd27 ct27), sl27⟩)
    (c27 : PySem.W.codeIn K cd27 "_law_number" = true)
    (k27 : PySem.W.keepIn K (.ref f27) = true)
    {f28 : Addr} {oc28 kV28 dc28 pm28 cd28 ct28 : Value} {od28 an28 : Option Addr} {sl28 : Array (Option Value)}
    (a28 : PySem.W.nsIn K mainGlobals "_law_changes" = some (some (.ref f28)))
    (l28 : K.lookup f28 = some ⟨oc28, od28, .func (PySem.W.fnOf "_law_changes" "_law_changes" (defArgs s_law_changes) (defBody s_law_changes) (defScope s_law_changes) .none kV28 dc28 pm28 an28 cd28 ct28), sl28⟩)
    (c28 : PySem.W.codeIn K cd28 "_law_changes" = true)
    (k28 : PySem.W.keepIn K (.ref f28) = true)
    {f29 : Addr} {oc29 kV29 dc29 pm29 cd29 ct29 : Value} {od29 an29 : Option Addr} {sl29 : Array (Option Value)}
    (a29 : PySem.W.nsIn K mainGlobals "_law_limit" = some (some (.ref f29)))
    (l29 : K.lookup f29 = some ⟨oc29, od29, .func (PySem.W.fnOf "_law_limit" "_law_limit" (defArgs s_law_limit) (defBody s_law_limit) (defScope s_law_limit) .none kV29 dc29 pm29 an29 cd29 ct29), sl29⟩)
    (c29 : PySem.W.codeIn K cd29 "_law_limit" = true)
    (k29 : PySem.W.keepIn K (.ref f29) = true)
    {f30 : Addr} {oc30 kV30 dc30 pm30 cd30 ct30 : Value} {od30 an30 : Option Addr} {sl30 : Array (Option Value)}
    (a30 : PySem.W.nsIn K mainGlobals "_law_needs" = some (some (.ref f30)))
    (l30 : K.lookup f30 = some ⟨oc30, od30, .func (PySem.W.fnOf "_law_needs" "_law_needs" (defArgs s_law_needs) (defBody s_law_needs) (defScope s_law_needs) .none kV30 dc30 pm30 an30 cd30 ct30), sl30⟩)
    (c30 : PySem.W.codeIn K cd30 "_law_needs" = true)
    (k30 : PySem.W.keepIn K (.ref f30) = true)
    {f31 : Addr} {oc31 kV31 dc31 pm31 cd31 ct31 : Value} {od31 an31 : Option Addr} {sl31 : Array (Option Value)}
    (a31 : PySem.W.nsIn K mainGlobals "_law_word" = some (some (.ref f31)))
    (l31 : K.lookup f31 = some ⟨oc31, od31, .func (PySem.W.fnOf "_law_word" "_law_word" (defArgs s_law_word) (defBody s_law_word) (defScope s_law_word) .none kV31 dc31 pm31 an31 cd31 ct31), sl31⟩)
    (c31 : PySem.W.codeIn K cd31 "_law_word" = true)
    (k31 : PySem.W.keepIn K (.ref f31) = true)
    {f32 : Addr} {oc32 kV32 dc32 pm32 cd32 ct32 : Value} {od32 an32 : Option Addr} {sl32 : Array (Option Value)}
    (a32 : PySem.W.nsIn K mainGlobals "_law_pool" = some (some (.ref f32)))
    (l32 : K.lookup f32 = some ⟨oc32, od32, .func (PySem.W.fnOf "_law_pool" "_law_pool" (defArgs s_law_pool) (defBody s_law_pool) (defScope s_law_pool) .none kV32 dc32 pm32 an32 cd32 ct32), sl32⟩)
    (c32 : PySem.W.codeIn K cd32 "_law_pool" = true)
    (k32 : PySem.W.keepIn K (.ref f32) = true)
    {f33 : Addr} {oc33 kV33 dc33 pm33 cd33 ct33 : Value} {od33 an33 : Option Addr} {sl33 : Array (Option Value)}
    (a33 : PySem.W.nsIn K mainGlobals "law" = some (some (.ref f33)))
    (l33 : K.lookup f33 = some ⟨oc33, od33, .func (PySem.W.fnOf "law" "law" (defArgs slaw) (defBody slaw) (defScope slaw) .none kV33 dc33 pm33 an33 cd33 ct33), sl33⟩)
    (c33 : PySem.W.codeIn K cd33 "law" = true)
    (k33 : PySem.W.keepIn K (.ref f33) = true)
    {X0 : Addr}
    (e0_g : PySem.W.nsIn K mainGlobals "HallError" = some (some (.ref X0)))
    {X1 : Addr}
    (e1_g : PySem.W.nsIn K mainGlobals "BadMove" = some (some (.ref X1)))
    {X2 : Addr}
    (e2_g : PySem.W.nsIn K mainGlobals "BadSeason" = some (some (.ref X2)))
    {X3 : Addr}
    (e3_g : PySem.W.nsIn K mainGlobals "BadScoring" = some (some (.ref X3)))
    {X4 : Addr}
    (e4_g : PySem.W.nsIn K mainGlobals "BadHall" = some (some (.ref X4)))
    {X5 : Addr}
    (e5_g : PySem.W.nsIn K mainGlobals "BadGame" = some (some (.ref X5)))
    {xN1 xf1 xcc1 xcda1 xD1 : Addr} {xcn1 xcq1 xnm1 : Str} {xbs1 xbm1 xsub1 : List Value} {xsn1 : List Str} {xab1 : Bool} {xcol1 : Option Bool} {xdd1 xan1 xod1 xcdd1 xcld1 : Option Addr} {xk0_1 xk1_1 xk2_1 xk3_1 xk5_1 : Option Value} {xkV1 xdoc1 xpm1 xct1 xoc1 xccl1 xcl1 : Value} {xosl1 xccs1 xcsl1 : Array (Option Value)} {xvs1 : Array Value} {xfile1 : Str} {xtf1 : Tok} {xcdD1 : ClassData}
    (e1_a : K.lookup X1 = some (excClassObj xcn1 xcq1 X1 xN1 xbs1 xbm1 true xsn1 xsub1 xab1 xcol1 xdd1 xk0_1 xk1_1 xk2_1 xk3_1 xk5_1 "ValueError.__new__"))
    (e1_b : PySem.HandSPX.refsVE xbm1 = true)
    (e1_c : PySem.W.findIn K (.ref X1) "__setattr__" = some (some (.builtin "object.__setattr__")))
    (e1_d : PySem.W.subIn K (.ref X1) (.type "BaseException") = some true)
    (e1_e : PySem.W.typeIn K (.ref X1) = some (.type "type"))
    (e1_f : PySem.W.keepIn K (.ref X1) = true)
    (e1_h : PySem.W.subIn K (.ref X1) (.type "ValueError") = some true)
    (e1_i : PySem.W.findIn K (.ref X1) "__init__" = some (some (.ref xf1)))
    (e1_j : PySem.W.typeIn K (.ref xf1) = some (.type "function"))
    (e1_k : K.lookup xf1 = some ⟨xoc1, xod1, .func (PySem.W.fnX xnm1 "BadMove.__init__" (defArgs sBadMove_init) (defBody sBadMove_init) (defScope sBadMove_init) [("__class__", xcc1)] .none xkV1 xdoc1 xpm1 xan1 (.ref xcda1) xct1), xosl1⟩)
    (e1_l : PySem.W.codeIn K (.ref xcda1) "BadMove.__init__" = true)
    (e1_m : K.lookup xcda1 = some ⟨xccl1, xcdd1, .fields xvs1, xccs1⟩)
    (e1_n : xvs1[2]? = some (.str xfile1 xtf1))
    (e1_o : ((PySem.Challenge.pw_playhall_k03_moves_merge.main.file : Str) == xfile1) = true)
    (e1_p : K.lookup xcc1 = some ⟨xcl1, xcld1, .cell (some (.ref xD1)), xcsl1⟩)
    (e1_q : PySem.W.clsIn K xD1 = some xcdD1)
    (e1_r : PySem.W.mroIn K X1 (.ref xD1) = some true)
    (e1_s : PySem.W.nsIn K cStatics "thirdparty.any" = some none)
    (e1_t : PySem.W.ks_superIn K X1 xD1 "__init__" = some (some (.builtin "ValueError.__init__")))
    (e1_u0 : PySem.W.findIn K (.ref X1) "part" = some none)
    (e1_v : PySem.W.nsIn K mainGlobals "super" = some none)
    (e1_w : (PySem.Challenge.pw_playhall_k03_moves_merge.main.scope.names.lookup ("super" : Str)).isSome = false)
    (e1_ga : PySem.W.findIn K (.ref X1) "__getattribute__" = some (some (.builtin "BaseException.__getattribute__")))
    (e1_gg : PySem.W.findIn K (.ref X1) "__getattr__" = some none)
    (e1_hd : PySem.W.hasDictIn K X1 = true)
    (e1_xa : PySem.W.findIn K (.ref X1) "__class__" = some (some (.builtin "object.__class__")))
    (e1_xn : PySem.W.specialIn K (.builtin "object.__class__") "__get__" = some (some (.builtin "getset_descriptor.__get__")))
    (e1_xt : PySem.W.takesIn K (.builtin "object.__class__") = some true)
    (e1_xm : PySem.W.mroIn K X1 (.type "object") = some true)
    (ki1_BadMove : PySem.W.kitOne K (.ref X1) (.ref X1) = some true)
    (ki1_ValueError : PySem.W.kitOne K (.ref X1) (.type "ValueError") = some true)
    (ki1_BadGame : PySem.W.kitOne K (.ref X1) (.ref X5) = some false)
    (ki1_BadHall : PySem.W.kitOne K (.ref X1) (.ref X4) = some false)
    (ki1_BadScoring : PySem.W.kitOne K (.ref X1) (.ref X3) = some false)
    (ki1_BadSeason : PySem.W.kitOne K (.ref X1) (.ref X2) = some false)
    (em1_0 : PySem.W.exmOne K (.ref X1) (.ref X0) = some true)
    (em1_1 : PySem.W.exmOne K (.ref X1) (.ref X1) = some true)
    : ∃ (c : Cs) (T : Tx K mg c), ∀ (s : Shared) (v : Value), BindsTo s T.fdlaw ⟨[v], []⟩ [("_law_script", v)] := by
  have F0 := fun_mk (st := s_law_same) l0 c0 k0
  have b0 := F0.binds (ps := ["_law_actual", "_law_expected_here"]) fun _ _ _ _ _ _ => args2 fun _ _ => rfl
  have F1 := fun_mk (st := s_law_shown) l1 c1 k1
  have b1 := F1.binds (ps := ["_law_move", "_law_expected_here"]) fun _ _ _ _ _ _ => args2 fun _ _ => rfl
  have F2 := fun_mk (st := s_law_summed) l2 c2 k2
  have b2 := F2.binds (ps := ["_law_own_changes"]) fun _ _ _ _ _ _ => args1 fun _ => rfl
  have F3 := fun_mk (st := s_law_merged) l3 c3 k3
  have b3 := F3.binds (ps := ["_law_own_needs"]) fun _ _ _ _ _ _ => args1 fun _ => rfl
  have F4 := fun_mk (st := s_law_expected) l4 c4 k4
  have b4 := F4.binds (ps := ["_law_parts"]) fun _ _ _ _ _ _ => args1 fun _ => rfl
  have F5 := fun_mk (st := smerged_changes) l5 c5 k5
  have b5 := F5.binds (ps := ["changes"]) fun _ _ _ _ _ _ => args1 fun _ => rfl
  have F6 := fun_mk (st := slesser_high) l6 c6 k6
  have b6 := F6.binds (ps := ["one", "other"]) fun _ _ _ _ _ _ => args2 fun _ _ => rfl
  have F7 := fun_mk (st := sgreater_low) l7 c7 k7
  have b7 := F7.binds (ps := ["one", "other"]) fun _ _ _ _ _ _ => args2 fun _ _ => rfl
  have F8 := fun_mk (st := smerged_needs) l8 c8 k8
  have b8 := F8.binds (ps := ["needs"]) fun _ _ _ _ _ _ => args1 fun _ => rfl
  have F9 := fun_mk (st := sis_name) l9 c9 k9
  have b9 := F9.binds (ps := ["text"]) fun _ _ _ _ _ _ => args1 fun _ => rfl
  have F10 := fun_mk (st := sis_label) l10 c10 k10
  have b10 := F10.binds (ps := ["text"]) fun _ _ _ _ _ _ => args1 fun _ => rfl
  have F11 := fun_mk (st := sis_need) l11 c11 k11
  have b11 := F11.binds (ps := ["need"]) fun _ _ _ _ _ _ => args1 fun _ => rfl
  have F12 := funD_kw2 (st := sMove_init) (v1 := .non) (v2 := .bl false) l12 c12 k12 kd12_0 kd12_1 rfl rfl
  have b12 := F12.binds0 (ps := ["self", "name", "player", "needs", "changes", "sign", "foul"]) 5 (by simp) rfl fun _ _ _ _ _ _ us ks l1 l2 => match us, l1, ks, l2 with | [_, _, _, _, _], _, [_, _], _ => ⟨_, _, _, _, _, _, rfl, rfl, ⟨_, _, _, _, _, _, rfl, rfl, rfl⟩⟩
  have kb12_0 := kbn_ms (ps := ["self", "name", "player", "needs", "changes", "sign", "foul"]) F12 1 ["name", "player", "needs", "changes", "sign", "foul"] [] (by simp) (by simp) fun _ _ _ _ _ _ us mv ws h1 h2 h3 => match us, h1, mv, h2, ws, h3 with | [_], _, [], _, [_, _, _, _, _, _], _ => rfl
  have kb12_1 := kbn_ms (ps := ["self", "name", "player", "needs", "changes", "sign", "foul"]) F12 5 ["sign"] [("foul", .bl false)] (by simp) (by simp) fun _ _ _ _ _ _ us mv ws h1 h2 h3 => match us, h1, mv, h2, ws, h3 with | [_, _, _, _, _], _, [_], _, [_], _ => ⟨_, _, _, _, _, _, rfl, rfl, rfl⟩
  have kb12_2 := kbn_sm (ps := ["self", "name", "player", "needs", "changes", "sign", "foul"]) F12 5 ["foul"] [("sign", .non)] (by simp) (by simp) fun _ _ _ _ _ _ us mv ws h1 h2 h3 => match us, h1, mv, h2, ws, h3 with | [_, _, _, _, _], _, [_], _, [_], _ => ⟨_, _, _, _, _, _, rfl, rfl, rfl⟩
  have F13 := fun_mk (st := s_law_build) l13 c13 k13
  have b13 := F13.binds (ps := ["_law_parts", "_law_short"]) fun _ _ _ _ _ _ => args2 fun _ _ => rfl
  have F14 := fun_mk (st := s_law_base) l14 c14 k14
  have b14 := F14.binds (ps := ["_law_parts"]) fun _ _ _ _ _ _ => args1 fun _ => rfl
  have F15 := fun_mk (st := s_law_is_name) l15 c15 k15
  have b15 := F15.binds (ps := ["_law_text_here"]) fun _ _ _ _ _ _ => args1 fun _ => rfl
  have F16 := fun_mk (st := s_law_is_label) l16 c16 k16
  have b16 := F16.binds (ps := ["_law_text_here"]) fun _ _ _ _ _ _ => args1 fun _ => rfl
  have F17 := fun_mk (st := s_law_refused) l17 c17 k17
  have b17 := F17.binds (ps := ["_law_parts"]) fun _ _ _ _ _ _ => args1 fun _ => rfl
  have F18 := fun_mk (st := s_law_told) l18 c18 k18
  have b18 := F18.binds (ps := ["_law_parts", "_law_short"]) fun _ _ _ _ _ _ => args2 fun _ _ => rfl
  have F19 := fun_mk (st := sMove_eq) l19 c19 k19
  have b19 := F19.binds (ps := ["self", "other"]) fun _ _ _ _ _ _ => args2 fun _ _ => rfl
  have F20 := fun_mk (st := s_law_wrong_changes) l20 c20 k20
  have b20 := F20.binds (ps := ["_law_text_here", "_law_number_here"]) fun _ _ _ _ _ _ => args2 fun _ _ => rfl
  have F21 := fun_mk (st := s_law_spoilt) l21 c21 k21
  have b21 := F21.binds (ps := ["_law_parts", "_law_row_here", "_law_text_here"]) fun _ _ _ _ _ _ => args3 fun _ _ _ => rfl
  have F22 := fun_mk (st := s_law_chars) l22 c22 k22
  have b22 := F22.binds (ps := ["_law_menu", "_law_numbers", "_law_size"]) fun _ _ _ _ _ _ => args3 fun _ _ _ => rfl
  have F23 := fun_mk (st := s_law_text) l23 c23 k23
  have b23 := F23.binds (ps := ["_law_row_here"]) fun _ _ _ _ _ _ => args1 fun _ => rfl
  have F24 := fun_mk (st := s_law_row) l24 c24 k24
  have b24 := F24.binds (ps := ["_law_cell_here", "_law_many"]) fun _ _ _ _ _ _ => args2 fun _ _ => rfl
  have F25 := fun_mk (st := s_law_cell) l25 c25 k25
  have b25 := F25.binds (ps := ["_law_script", "_law_k"]) fun _ _ _ _ _ _ => args2 fun _ _ => rfl
  have F26 := fun_mk (st := s_law_near) l26 c26 k26
  have b26 := F26.binds (ps := ["_law_parts"]) fun _ _ _ _ _ _ => args1 fun _ => rfl
  have F27 := fun_mk (st := s_law_number) l27 c27 k27
  have b27 := F27.binds (ps := ["_law_numbers", "_law_most"]) fun _ _ _ _ _ _ => args2 fun _ _ => rfl
  have F28 := fun_mk (st := s_law_changes) l28 c28 k28
  have b28 := F28.binds (ps := ["_law_row_here", "_law_pool_here"]) fun _ _ _ _ _ _ => args2 fun _ _ => rfl
  have F29 := fun_mk (st := s_law_limit) l29 c29 k29
  have b29 := F29.binds (ps := ["_law_numbers"]) fun _ _ _ _ _ _ => args1 fun _ => rfl
  have F30 := fun_mk (st := s_law_needs) l30 c30 k30
  have b30 := F30.binds (ps := ["_law_row_here", "_law_pool_here"]) fun _ _ _ _ _ _ => args2 fun _ _ => rfl
  have F31 := fun_mk (st := s_law_word) l31 c31 k31
  have b31 := F31.binds (ps := ["_law_number_here"]) fun _ _ _ _ _ _ => args1 fun _ => rfl
  have F32 := fun_mk (st := s_law_pool) l32 c32 k32
  have b32 := F32.binds (ps := ["_law_row_here"]) fun _ _ _ _ _ _ => args1 fun _ => rfl
  have F33 := fun_mk (st := slaw) l33 c33 k33
  have b33 := F33.binds (ps := ["_law_script"]) fun _ _ _ _ _ _ => args1 fun _ => rfl
  have cx0 : ClsX K C0 := ⟨⟨u0_a, u0_b, u0_c, u0_d⟩, u0_e, u0_f, u0_h, u0_i, u0_j⟩
  exact ⟨⟨C0, X0, X1, X2, X3, X4, X5⟩, { n_ValueError := PySem.W.mg_none_of X G z0, n_all := PySem.W.mg_none_of X G z1, n_bool := PySem.W.mg_none_of X G z2, n_int := PySem.W.mg_none_of X G z3, n_isinstance := PySem.W.mg_none_of X G z4, n_len := PySem.W.mg_none_of X G z5, n_list := PySem.W.mg_none_of X G z6, n_max := PySem.W.mg_none_of X G z7, n_min := PySem.W.mg_none_of X G z8, n_range := PySem.W.mg_none_of X G z9, n_sorted := PySem.W.mg_none_of X G z10, n_str := PySem.W.mg_none_of X G z11, n_sum := PySem.W.mg_none_of X G z12, n_tuple := PySem.W.mg_none_of X G z13, t_LETTERS := t0, c_LETTERS := PySem.W.mg_of X G y0, t_LONGEST_NAME := t1, c_LONGEST_NAME := PySem.W.mg_of X G y1, f_law_same := f0, fd_law_same := _, F_law_same := F0, b_law_same := b0, g_law_same := PySem.W.mg_of X G a0, f_law_shown := f1, fd_law_shown := _, F_law_shown := F1, b_law_shown := b1, g_law_shown := PySem.W.mg_of X G a1, f_law_summed := f2, fd_law_summed := _, F_law_summed := F2, b_law_summed := b2, g_law_summed := PySem.W.mg_of X G a2, f_law_merged := f3, fd_law_merged := _, F_law_merged := F3, b_law_merged := b3, g_law_merged := PySem.W.mg_of X G a3, f_law_expected := f4, fd_law_expected := _, F_law_expected := F4, b_law_expected := b4, g_law_expected := PySem.W.mg_of X G a4, fmerged_changes := f5, fdmerged_changes := _, Fmerged_changes := F5, bmerged_changes := b5, gmerged_changes := PySem.W.mg_of X G a5, flesser_high := f6, fdlesser_high := _, Flesser_high := F6, blesser_high := b6, glesser_high := PySem.W.mg_of X G a6, fgreater_low := f7, fdgreater_low := _, Fgreater_low := F7, bgreater_low := b7, ggreater_low := PySem.W.mg_of X G a7, fmerged_needs := f8, fdmerged_needs := _, Fmerged_needs := F8, bmerged_needs := b8, gmerged_needs := PySem.W.mg_of X G a8, fis_name := f9, fdis_name := _, Fis_name := F9, bis_name := b9, gis_name := PySem.W.mg_of X G a9, fis_label := f10, fdis_label := _, Fis_label := F10, bis_label := b10, gis_label := PySem.W.mg_of X G a10, fis_need := f11, fdis_need := _, Fis_need := F11, bis_need := b11, gis_need := PySem.W.mg_of X G a11, fMove_init := f12, fdMove_init := _, FMove_init := F12, bMove_init := b12, kbMove_init_0 := kb12_0, kbMove_init_1 := kb12_1, kbMove_init_2 := kb12_2, f_law_build := f13, fd_law_build := _, F_law_build := F13, b_law_build := b13, g_law_build := PySem.W.mg_of X G a13, f_law_base := f14, fd_law_base := _, F_law_base := F14, b_law_base := b14, g_law_base := PySem.W.mg_of X G a14, f_law_is_name := f15, fd_law_is_name := _, F_law_is_name := F15, b_law_is_name := b15, g_law_is_name := PySem.W.mg_of X G a15, f_law_is_label := f16, fd_law_is_label := _, F_law_is_label := F16, b_law_is_label := b16, g_law_is_label := PySem.W.mg_of X G a16, f_law_refused := f17, fd_law_refused := _, F_law_refused := F17, b_law_refused := b17, g_law_refused := PySem.W.mg_of X G a17, f_law_told := f18, fd_law_told := _, F_law_told := F18, b_law_told := b18, g_law_told := PySem.W.mg_of X G a18, fMove_eq := f19, fdMove_eq := _, FMove_eq := F19, bMove_eq := b19, f_law_wrong_changes := f20, fd_law_wrong_changes := _, F_law_wrong_changes := F20, b_law_wrong_changes := b20, g_law_wrong_changes := PySem.W.mg_of X G a20, f_law_spoilt := f21, fd_law_spoilt := _, F_law_spoilt := F21, b_law_spoilt := b21, g_law_spoilt := PySem.W.mg_of X G a21, f_law_chars := f22, fd_law_chars := _, F_law_chars := F22, b_law_chars := b22, g_law_chars := PySem.W.mg_of X G a22, f_law_text := f23, fd_law_text := _, F_law_text := F23, b_law_text := b23, g_law_text := PySem.W.mg_of X G a23, f_law_row := f24, fd_law_row := _, F_law_row := F24, b_law_row := b24, g_law_row := PySem.W.mg_of X G a24, f_law_cell := f25, fd_law_cell := _, F_law_cell := F25, b_law_cell := b25, g_law_cell := PySem.W.mg_of X G a25, f_law_near := f26, fd_law_near := _, F_law_near := F26, b_law_near := b26, g_law_near := PySem.W.mg_of X G a26, f_law_number := f27, fd_law_number := _, F_law_number := F27, b_law_number := b27, g_law_number := PySem.W.mg_of X G a27, f_law_changes := f28, fd_law_changes := _, F_law_changes := F28, b_law_changes := b28, g_law_changes := PySem.W.mg_of X G a28, f_law_limit := f29, fd_law_limit := _, F_law_limit := F29, b_law_limit := b29, g_law_limit := PySem.W.mg_of X G a29, f_law_needs := f30, fd_law_needs := _, F_law_needs := F30, b_law_needs := b30, g_law_needs := PySem.W.mg_of X G a30, f_law_word := f31, fd_law_word := _, F_law_word := F31, b_law_word := b31, g_law_word := PySem.W.mg_of X G a31, f_law_pool := f32, fd_law_pool := _, F_law_pool := F32, b_law_pool := b32, g_law_pool := PySem.W.mg_of X G a32, flaw := f33, fdlaw := _, Flaw := F33, blaw := b33, glaw := PySem.W.mg_of X G a33, gMove := PySem.W.mg_of X G u0_g, cxMove := cx0, clMove := cx0.c, naMove_foul := v0_0, naMove_sign := v0_1, naMove_changes := v0_2, naMove_needs := v0_3, naMove_player := v0_4, naMove_name := v0_5, mkMove := ⟨v0_6, a12, a12_1, u0_l⟩, isMove := isC_one cx0 (by rw [u0_k]; rfl), eqMove := ⟨a19, a19_1, cx0, fun _ z => nomatch z⟩, gHallError := PySem.W.mg_of X G e0_g, gBadMove := PySem.W.mg_of X G e1_g, gBadSeason := PySem.W.mg_of X G e2_g, gBadScoring := PySem.W.mg_of X G e3_g, gBadHall := PySem.W.mg_of X G e4_g, gBadGame := PySem.W.mg_of X G e5_g, xBadMove := xcls_mk xsBadMove e1_a e1_b e1_c e1_d e1_e e1_f e1_h e1_i e1_j e1_k e1_l e1_m e1_n e1_o e1_p e1_q e1_r e1_s e1_t (fa_cons e1_u0 fa_nil) (PySem.W.mg_none_of X G e1_v) e1_w, ecBadMove := ⟨e1_ga, e1_gg, e1_d, e1_hd, e1_xa, e1_xn, e1_xt, e1_xm⟩, kiBadMove_BadMove := ki1_BadMove, kiBadMove_ValueError := ki1_ValueError, kiBadMove_BadGame := ki1_BadGame, kiBadMove_BadHall := ki1_BadHall, kiBadMove_BadScoring := ki1_BadScoring, kiBadMove_BadSeason := ki1_BadSeason, emBadMove_HallError := em1_0, xfBadMove := ⟨e1_ga, e1_gg, e1_d, e1_hd⟩, noBadMove_part := e1_u0, emBadMove_BadMove := em1_1 }, fun s v => .of_eq rfl⟩
end K03

namespace GA
open PySem PySem.Spec L2 PD
/-! ### the law's words: 0 a, 1 b, .., 25 z, 26 aa, .. -/
def wd : Nat → List Nat
  | 0 => []
  | r + 1 => wd (r / 26) ++ [97 + r % 26]
termination_by r => r
decreasing_by omega
theorem wd_succ (r : Nat) : wd (r + 1) = wd (r / 26) ++ [97 + r % 26] := by rw [wd]
theorem wd_zero : wd 0 = [] := by rw [wd]
theorem wd_letters : ∀ (r : Nat), ∀ c ∈ wd r, 97 ≤ c ∧ c < 123
  | 0, c, h => by rw [wd_zero] at h; cases h
  | r + 1, c, h => by
    rw [wd_succ] at h
    rcases List.mem_append.mp h with h | h
    · exact wd_letters (r / 26) c h
    · have : c = 97 + r % 26 := by simpa using h
      omega
termination_by r => r
decreasing_by omega
theorem wd_len : ∀ (k r : Nat), r ≤ 26 ^ k → (wd r).length ≤ k + 1
  | _, 0, _ => by rw [wd_zero]; exact Nat.zero_le _
  | 0, r + 1, h => by
    have : r = 0 := by omega
    subst this
    rw [wd_succ, show (0 : Nat) / 26 = 0 from rfl, wd_zero]; simp
  | k + 1, r + 1, h => by
    have h2 : r / 26 ≤ 26 ^ k := by
      rw [Nat.pow_succ] at h
      omega
    have := wd_len k (r / 26) h2
    rw [wd_succ, List.length_append]
    simp only [List.length_singleton]
    omega
theorem wd_pos (r : Nat) : wd (r + 1) ≠ [] := by rw [wd_succ]; simp
def wS (n : Nat) : Str := ⟨(wd (n + 1)).toArray⟩
abbrev ABC : Str := Str.ofString "abcdefghijklmnopqrstuvwxyz"
theorem abc_at {j : Nat} (h : j < 26) : atI ABC.cps.toList (j : Int) = some (97 + j) := by
  have : ∀ j, j < 26 → ABC.cps.toList[j]? = some (97 + j) := by decide +kernel
  exact atI_nat (this j h)
theorem str_cat (a b : List Nat) : (⟨a.toArray⟩ : Str) ++ ⟨b.toArray⟩ = ⟨(a ++ b).toArray⟩ := by
  show Str.mk (a.toArray ++ b.toArray) = _
  simp
noncomputable def gWord : Ev → Option Fl := (sq (stV 1 (b2 (cB (aCons (gv 0) aNil) intD) (kI 1) addA))
    (sq (stV 2 (kS ""))
    (sq (forS (rng1 (kI 12)) (gN 3) (sq (stV 2 (b2 (ifV (asB (b2 (gv 1) (kI 0) gtI)) (b2 (kS "abcdefghijklmnopqrstuvwxyz") (b2 (cB (aCons (b2 (gv 1) (kI 1) subI) aNil) intD) (kI 26) modI) ixD) (kS "")) (gv 2) addA))
    (stV 1 (b2 (b2 (gv 1) (kI 1) subI) (kI 26) divI))))
    (rtV (gv 2)))))
theorem empty_str : (Str.ofString "" : Str) = ⟨([] : List Nat).toArray⟩ := rfl
theorem word_eq (n : Nat) (hn : n + 1 ≤ 26 ^ 11) : runP 4 gWord [.int n] = some (.str (wS n)) := by
  refine runP_eq ?_
  unfold gWord
  show Rn _ [.dat (.int n), .unk, .unk, .unk] _
  refine Rn.sqst (d := .int ((n + 1 : Nat) : Int)) (by
    show PD.b2 _ _ _ [.dat (.int n), .unk, .unk, .unk] = _
    (simp (disch := first | assumption | omega) only [MV, MW]); rfl) ?_
  refine Rn.sqst (d := .str ⟨([] : List Nat).toArray⟩) rfl ?_
  show Rn _ [.dat (.int n), .dat (.int ((n + 1 : Nat) : Int)), .dat (.str ⟨([] : List Nat).toArray⟩), .unk] _
  refine Rn.sqforR (lo := 0) (n := 12) (by (simp (disch := first | assumption | omega) only [MV, MW]); rfl) (fun i ρ => ∃ (r : Int) (t : List Nat) (x : O), ρ = [.dat (.int n), .dat (.int r), .dat (.str ⟨t.toArray⟩), x] ∧ wd r.toNat ++ t = wd (n + 1) ∧ t.length ≤ 12 ∧ r ≤ if i = 12 then 0 else ((26 ^ (11 - i) : Nat) : Int)) ⟨_, [], _, rfl, by simp, by simp, by
    rw [if_neg (by decide)]
    exact Int.ofNat_le.mpr hn⟩ (fun i hi ρ hI => ?_) (fun ρ hI => ?_)
  · obtain ⟨r, t, x, rfl, hw, hl, hr⟩ := hI
    refine ⟨_, rfl, ?_⟩
    rw [Int.zero_add]
    have hnext : (r - 1) / 26 ≤ if i + 1 = 12 then 0 else ((26 ^ (11 - (i + 1)) : Nat) : Int) := by
      rw [if_neg (by omega)] at hr
      by_cases h11 : i = 11
      · subst h11
        rw [if_pos rfl]
        have : r ≤ 1 := hr
        omega
      · rw [if_neg (by omega)]
        have e : (26 : Nat) ^ (11 - i) = 26 ^ (11 - (i + 1)) * 26 := by rw [← Nat.pow_succ]; congr 1; omega
        rw [e] at hr
        generalize 26 ^ (11 - (i + 1)) = B at hr ⊢
        rw [Int.natCast_mul] at hr
        omega
    have hlen : (wd (n + 1)).length ≤ 12 := wd_len 11 (n + 1) hn
    by_cases hc : 0 < r
    · obtain ⟨m, hm⟩ := Int.eq_ofNat_of_zero_le (show 0 ≤ r - 1 by omega)
      have hr1 : r = ((m + 1 : Nat) : Int) := by omega
      subst hr1
      have e1 : wd (m / 26) ++ ((97 + m % 26) :: t) = wd (n + 1) := by
        rw [Int.toNat_natCast, wd_succ, List.append_assoc] at hw
        exact hw
      have hq : ((m + 1 : Nat) : Int) - 1 = (m : Int) := by omega
      have hmod : (m : Int) % 26 = ((m % 26 : Nat) : Int) := (Int.natCast_emod m 26).symm
      have hdiv : (m : Int) / 26 = ((m / 26 : Nat) : Int) := (Int.natCast_ediv m 26).symm
      have e2 : ixD (.str ABC) (.int ((m % 26 : Nat) : Int)) = some (.str ⟨[97 + m % 26].toArray⟩) := by
        show (if ABC.length ≤ sizeLine then (atI ABC.cps.toList ((m % 26 : Nat) : Int)).map _ else none) = _
        rw [if_pos (len_le (by decide)), abc_at (Nat.mod_lt _ (by decide))]; rfl
      have hc2 : decide ((0 : Int) < ((m + 1 : Nat) : Int)) = true := decide_eq_true (by omega)
      have htl : ((97 + m % 26) :: t).length ≤ 12 := by
        have := congrArg List.length e1
        rw [List.length_append] at this
        omega
      have hcat : addA (.str ⟨[97 + m % 26].toArray⟩) (.str ⟨t.toArray⟩) = some (.str ⟨((97 + m % 26) :: t).toArray⟩) := by
        show orD addD (orD catL catT) _ _ = _
        have hz : (⟨[97 + m % 26].toArray⟩ : Str).length + (⟨t.toArray⟩ : Str).length ≤ sizeLine := Nat.le_trans (show 1 + t.length ≤ 1000 by omega) (by decide)
        simp only [orD, addD, addI, addS, i2, s2, decide_eq_true hz, if_true]
        rw [str_cat]; rfl
      refine Rn.sqst (d := .str ⟨((97 + m % 26) :: t).toArray⟩) (by
        show PD.b2 _ _ _ [_, .dat (.int ((m + 1 : Nat) : Int)), .dat (.str ⟨t.toArray⟩), _] = _
        (simp (disch := first | assumption | omega) only [hc2, hq, hmod, e2, hcat, MV, MW])) ?_
      refine Rn.st (d := .int ((m / 26 : Nat) : Int)) (by
        show PD.b2 _ _ _ [_, .dat (.int ((m + 1 : Nat) : Int)), _, _] = _
        (simp (disch := first | assumption | omega) only [hq, hdiv, MV, MW])) ?_
      refine ⟨_, _, .dat (.int (i : Nat)), rfl, by rw [Int.toNat_natCast]; exact e1, htl, ?_⟩
      rw [hq, hdiv] at hnext
      exact hnext
    · have h0 : r.toNat = 0 := by omega
      have hc2 : decide ((0 : Int) < r) = false := decide_eq_false hc
      have hcat : addA (.str ⟨([] : List Nat).toArray⟩) (.str ⟨t.toArray⟩) = some (.str ⟨t.toArray⟩) := by
        show orD addD (orD catL catT) _ _ = _
        have hz : (⟨([] : List Nat).toArray⟩ : Str).length + (⟨t.toArray⟩ : Str).length ≤ sizeLine := Nat.le_trans (show 0 + t.length ≤ 1000 by omega) (by decide)
        simp only [orD, addD, addI, addS, i2, s2, decide_eq_true hz, if_true]
        rw [str_cat]; rfl
      refine Rn.sqst (d := .str ⟨t.toArray⟩) (by
        show PD.b2 _ _ _ [_, .dat (.int r), .dat (.str ⟨t.toArray⟩), _] = _
        (simp (disch := first | assumption | omega) only [hc2, empty_str, hcat, MV, MW])) ?_
      refine Rn.st (d := .int ((r - 1) / 26)) (by
        show PD.b2 _ _ _ [_, .dat (.int r), _, _] = _
        (simp (disch := first | assumption | omega) only [MV, MW])) ?_
      refine ⟨_, t, .dat (.int (i : Nat)), rfl, ?_, hl, hnext⟩
      have h1 : ((r - 1) / 26).toNat = 0 := by omega
      rw [h1]
      rw [h0] at hw
      exact hw
  · obtain ⟨r, t, x, rfl, hw, hl, hr⟩ := hI
    rw [if_pos rfl] at hr
    have h0 : r.toNat = 0 := by omega
    rw [h0, wd_zero, List.nil_append] at hw
    subst hw
    exact Rn.ret (d := .str (wS n)) rfl ⟨_, rfl, rfl⟩
end GA

namespace GA
open PySem PySem.Spec L2 PD
/-! ### names and labels -/
noncomputable def gName : Ev → Option Fl := (rtV (andV (chn (kI 1) (cB (aCons (gv 0) aNil) lenD) (kI 12) leI leI) (cB (aCons (lcD (iOf (gv 0)) (gN 1) yes (b2 (gv 1) (kS "abcdefghijklmnopqrstuvwxyz") inD) [1]) aNil) allD)))
noncomputable def gLabel : Ev → Option Fl := (sq (stV 1 (m1 (gv 0) (kS ".") splitD))
    (rtV (andV (b2 (cB (aCons (gv 1) aNil) lenD) (kI 2) leI) (cB (aCons (lcD (iOf (gv 1)) (gN 2) yes (cB (aCons (gv 2) aNil) (len? 1 (runP 2 gName))) [2]) aNil) allD))))
def nm (l : List Nat) : Prop := (1 ≤ l.length ∧ l.length ≤ 12) ∧ ∀ c ∈ l, 97 ≤ c ∧ c < 123
def Lab (s : Str) : Prop := nm s.cps.toList ∨ ∃ a b, nm a ∧ nm b ∧ s.cps.toList = a ++ 46 :: b
theorem all_bls (bs : List Bool) : allD [.lst (bs.map .bl)] = some (.bl (bs.all id)) := by
  show (bls (bs.map .bl)).map (fun bs => D.bl (bs.all id)) = _
  rw [bls_map]; rfl
theorem abc_mem {c : Nat} (h : 97 ≤ c ∧ c < 123) : c ∈ ABC.cps.toList := by
  have : ∀ c, c < 123 → 97 ≤ c → c ∈ ABC.cps.toList := by decide +kernel
  exact this c h.2 h.1
theorem aC1 {f : Ev → Option D} {ρ : Ev} {d : D} (h : f ρ = some d) : aCons f aNil ρ = some [d] := by
  unfold aCons
  rw [h]; rfl
theorem cB_of {g : Ev → Option (List D)} {f : List D → Option D} {ρ : Ev} {ds : List D} {d : D} (h : g ρ = some ds) (h2 : f ds = some d) : cB g f ρ = some d := by
  unfold cB
  rw [h]; exact h2
theorem nm_dot {l : List Nat} (h : nm l) : 46 ∉ l := fun hm => by
  have := h.2 46 hm
  omega
theorem label_parts {s : Str} (h : Lab s) : ∃ ps : List (List Nat), sp 46 s.cps.toList = ps ∧ (∀ p ∈ ps, nm p) ∧ ps.length ≤ 2 ∧ s.length ≤ 25 := by
  rcases h with h | ⟨a, b, ha, hb, e⟩
  · refine ⟨_, sp_free (nm_dot h), fun p hp => ?_, by simp, by rw [← str_len]; have := h.1; omega⟩
    rw [List.mem_singleton.mp hp]; exact h
  · refine ⟨[a, b], by rw [e, sp_cut b (nm_dot ha), sp_free (nm_dot hb)], fun p hp => ?_, by simp, ?_⟩
    · rcases List.mem_cons.mp hp with rfl | hp
      · exact ha
      · rw [List.mem_singleton.mp hp]; exact hb
    · rw [← str_len, e, List.length_append, List.length_cons]
      have := ha.1
      have := hb.1
      omega
theorem nm_wd {n : Nat} (h : n + 1 ≤ 26 ^ 11) : nm (wd (n + 1)) := ⟨⟨List.length_pos_iff.mpr (wd_pos n), wd_len 11 _ h⟩, wd_letters _⟩
end GA

namespace GA
open PySem PySem.Spec L2 PD
/-! ### limits and needs -/
abbrev Lim := Option Int
def oD : Lim → D
  | none => .non
  | some i => .int i
def gmax : Lim → Lim → Lim
  | none, b => b
  | a, none => a
  | some i, some j => some (max i j)
def lmin : Lim → Lim → Lim
  | none, b => b
  | a, none => a
  | some i, some j => some (min i j)
noncomputable def gGreater : Ev → Option Fl := (rtV (cBK (aCons (lcD (iOf (mkTup (aCons (gv 0) (aCons (gv 1) aNil)))) (gN 2) (asB (b2 (gv 2) kN notN)) (gv 2) [2]) aNil) (aCons kN aNil) (mDfD max)))
noncomputable def gLesser : Ev → Option Fl := (rtV (cBK (aCons (lcD (iOf (mkTup (aCons (gv 0) (aCons (gv 1) aNil)))) (gN 2) (asB (b2 (gv 2) kN notN)) (gv 2) [2]) aNil) (aCons kN aNil) (mDfD min)))
theorem cBK_of {ga gk : Ev → Option (List D)} {f : List D → List D → Option D} {ρ : Ev} {a b : List D} {d : D} (h1 : ga ρ = some a) (h2 : gk ρ = some b) (h3 : f a b = some d) : cBK ga gk f ρ = some d := by
  unfold cBK
  rw [h1, Option.bind_some, h2]; exact h3
def lims (a b : Lim) : List Int := (match a with | none => [] | some i => [i]) ++ (match b with | none => [] | some i => [i])
theorem lims_lc (a b : Lim) : lcD (iOf (mkTup (aCons (gv 0) (aCons (gv 1) aNil)))) (gN 2) (asB (b2 (gv 2) kN notN)) (gv 2) [2] [.dat (oD a), .dat (oD b), .unk] = some (.lst ((lims a b).map .int)) := by
  have h := lc_fil (fi := iOf (mkTup (aCons (gv 0) (aCons (gv 1) aNil)))) (gt := gN 2) (vs := [2]) (t := asB (b2 (gv 2) kN notN)) (f := gv 2) (ρ := [.dat (oD a), .dat (oD b), .unk]) (φ := oD) oD (fun x => x.isSome) (xs := [a, b]) rfl rfl (by simp) fun x _ => ⟨_, rfl, by cases x <;> rfl, fun _ => rfl⟩
  rw [h]
  cases a <;> cases b <;> rfl
theorem greater_eq (a b : Lim) : runP 3 gGreater [oD a, oD b] = some (oD (gmax a b)) := by
  refine runP_eq ?_
  unfold gGreater
  show Rn _ [.dat (oD a), .dat (oD b), .unk] _
  refine Rn.ret (d := oD (gmax a b)) (cBK_of (aC1 (lims_lc a b)) (aC1 rfl) ?_) ⟨_, rfl, rfl⟩
  show (intsD ((lims a b).map .int)).map (foldDD max .non) = _
  rw [intsD_map]
  cases a <;> cases b <;> rfl
theorem lesser_eq (a b : Lim) : runP 3 gLesser [oD a, oD b] = some (oD (lmin a b)) := by
  refine runP_eq ?_
  unfold gLesser
  show Rn _ [.dat (oD a), .dat (oD b), .unk] _
  refine Rn.ret (d := oD (lmin a b)) (cBK_of (aC1 (lims_lc a b)) (aC1 rfl) ?_) ⟨_, rfl, rfl⟩
  show (intsD ((lims a b).map .int)).map (foldDD min .non) = _
  rw [intsD_map]
  cases a <;> cases b <;> rfl
abbrev Nd := Str × Lim × Lim
def ndD (n : Nd) : D := .tup [.str n.1, oD n.2.1, oD n.2.2]
def okLim (a : Lim) : Prop := ∀ i, a = some i → 0 ≤ i
/-- a need that Move and Game take -/
structure NdOk (n : Nd) : Prop where
  lab : Lab n.1
  one : n.2.1 ≠ none ∨ n.2.2 ≠ none
  lo : okLim n.2.1
  hi : okLim n.2.2
noncomputable def gNeed : Ev → Option Fl := (sq (asg (gv 0) (gT 3 (gsC (gN 1) (gsC (gN 2) (gsC (gN 3) gsN)))))
    (sq (ifS (orT (notT (asB (cB (aCons (gv 1) aNil) (len? 1 (runP 3 gLabel))))) (andT (asB (b2 (gv 2) kN isN)) (asB (b2 (gv 3) kN isN)))) (rtV (kB false)) skip)
    (rtV (andV (orV (b2 (gv 2) kN isN) (b2 (gv 2) (kI 0) geI)) (orV (b2 (gv 3) kN isN) (b2 (gv 3) (kI 0) geI))))))
theorem isN_oD (a : Lim) : isN (oD a) .non = some (.bl a.isNone) := by cases a <;> rfl
end GA

namespace GA
open PySem PySem.Spec L2 PD
/-! ### texts sorted -/
def leS (a b : Str) : Bool := leD (.str a) (.str b)
def srtS (ss : List Str) : List Str := ss.mergeSort leS
theorem srtS_perm (ss : List Str) : (srtS ss).Perm ss := List.mergeSort_perm _ _
theorem sortOk_strs (ss : List Str) (h : ss.length ≤ 1000) : SortOk (ss.map .str) := by
  refine ⟨fun d hd => ?_, fun d hd e he => ?_, ?_, by rw [List.length_map]; exact len_le (by omega)⟩
  · obtain ⟨r, _, rfl⟩ := List.mem_map.mp hd
    exact ⟨rfl, Nat.le_of_ble_eq_true rfl⟩
  · obtain ⟨x, hx, rfl⟩ := List.mem_map.mp hd
    obtain ⟨y, hy, rfl⟩ := List.mem_map.mp he
    obtain ⟨r, _, rfl⟩ := List.mem_map.mp hx
    obtain ⟨q, _, rfl⟩ := List.mem_map.mp hy
    rfl
  · rw [List.map_map]
    exact PySem.W.Sortable.others (enc := pyT ∘ D.str) fun b => ⟨(fun e => nomatch (show PyData.str b = PyData.none from e)), (fun xs e => nomatch (show PyData.str b = PyData.tuple xs from e))⟩
theorem srt_strs (ss : List Str) (h : ss.length ≤ 1000) : srtO [.lst (ss.map .str)] = some (.dats ((srtS ss).map .str)) := by
  show (open Classical in if SortOk (ss.map .str) then some (O.lst (((ss.map .str).mergeSort leD).map O.dat)) else none) = _
  rw [if_pos (sortOk_strs ss h)]
  have : (ss.map D.str).mergeSort leD = (srtS ss).map .str := (PySem.W.sort_maps (f := D.str) fun _ _ _ _ => rfl).symm
  rw [this]; rfl
theorem frz_srt {fa : Ev → Option D} {ρ : Ev} {ss : List Str} (h : fa ρ = some (.lst (ss.map .str))) (hl : ss.length ≤ 1000) : frz (cO (aCons fa aNil) srtO) ρ = some (.lst ((srtS ss).map .str)) := by
  unfold frz cO
  rw [aC1 h, Option.bind_some, srt_strs ss hl, Option.bind_some]
  exact toD_dats _
/-! ### tables by texts: the first place of a key stays -/
section
variable {α : Type}
def lk (M : List (Str × α)) (c : Str) : Option α := (M.find? fun p => decide (p.1 = c)).map (·.2)
def pt (M : List (Str × α)) (c : Str) (v : α) : List (Str × α) := if (lk M c).isSome then M.map fun p => if p.1 = c then (c, v) else p else M ++ [(c, v)]
theorem lk_none {M : List (Str × α)} {c : Str} : lk M c = none ↔ c ∉ M.map (·.1) := by
  unfold lk
  rw [Option.map_eq_none_iff, List.find?_eq_none]
  constructor
  · intro h hm
    obtain ⟨p, hp, e⟩ := List.mem_map.mp hm
    exact h p hp (decide_eq_true e)
  · intro h p hp e
    exact h (List.mem_map.mpr ⟨p, hp, of_decide_eq_true e⟩)
theorem lk_append (M : List (Str × α)) (c d : Str) (v : α) : lk (M ++ [(c, v)]) d = (lk M d).or (if c = d then some v else none) := by
  unfold lk
  rw [List.find?_append]
  cases M.find? (fun p => decide (p.1 = d)) with
  | some p => rfl
  | none =>
    show ((none : Option (Str × α)).or _).map _ = _
    by_cases h : c = d
    · simp [h]
    · simp [h]
theorem lk_map (M : List (Str × α)) (c d : Str) (v : α) : lk (M.map fun p => if p.1 = c then (c, v) else p) d = if d = c then (lk M d).map fun _ => v else lk M d := by
  induction M with
  | nil => by_cases h : d = c <;> simp [lk, h]
  | cons p M ih =>
    obtain ⟨k, u⟩ := p
    unfold lk at ih ⊢
    rw [List.map_cons, List.find?_cons, List.find?_cons]
    by_cases h1 : k = c
    · subst h1
      by_cases h2 : k = d
      · subst h2; simp
      · have h3 : ¬ d = k := fun e => h2 e.symm
        simp only [if_true, decide_eq_false h2]
        rw [ih, if_neg h3]
    · by_cases h2 : k = d
      · subst h2; simp [h1]
      · simp only [if_neg h1, decide_eq_false h2]
        exact ih
theorem lk_pt (M : List (Str × α)) (c d : Str) (v : α) : lk (pt M c v) d = if d = c then some v else lk M d := by
  unfold pt
  split
  · rename_i h
    rw [lk_map]
    by_cases e : d = c
    · subst e
      rw [if_pos rfl, if_pos rfl]
      obtain ⟨u, hu⟩ := Option.isSome_iff_exists.mp h
      rw [hu]; rfl
    · rw [if_neg e, if_neg e]
  · rename_i h
    have h0 : lk M c = none := by cases q : lk M c with
      | none => rfl
      | some u => rw [q] at h; exact absurd rfl h
    rw [lk_append]
    by_cases e : d = c
    · subst e; rw [h0]; simp
    · rw [if_neg e, if_neg (fun z => e z.symm)]; simp
theorem pt_keys (M : List (Str × α)) (c : Str) (v : α) : (pt M c v).map (·.1) = if (lk M c).isSome then M.map (·.1) else M.map (·.1) ++ [c] := by
  unfold pt
  split
  · rw [List.map_map]
    refine List.map_congr_left fun p _ => ?_
    show (if p.1 = c then (c, v) else p).1 = p.1
    split
    · rename_i h; exact h.symm
    · rfl
  · rw [List.map_append]; rfl
theorem pt_nodup {M : List (Str × α)} {c : Str} {v : α} (h : (M.map (·.1)).Nodup) : ((pt M c v).map (·.1)).Nodup := by
  rw [pt_keys]
  cases q : lk M c with
  | some u => exact h
  | none =>
    show (M.map (·.1) ++ [c]).Nodup
    rw [List.nodup_append]
    refine ⟨h, by simp, fun a ha b hb e => ?_⟩
    rw [List.mem_singleton.mp hb] at e
    exact lk_none.mp q (e ▸ ha)
/-! the same as an own dict -/
def dicO (φ : α → D) (M : List (Str × α)) : O := O.dicD (M.map fun p => .inr p.1) (M.map fun p => φ p.2)
theorem olook_dicO (φ : α → D) (M : List (Str × α)) (c : Str) : olook (.inr c) (M.map fun p => .inr p.1) ((M.map fun p => φ p.2).map .dat) = (lk M c).map fun v => .dat (φ v) := by
  induction M with
  | nil => rfl
  | cons p M ih =>
    obtain ⟨k, u⟩ := p
    unfold lk at ih ⊢
    rw [List.map_cons, List.map_cons, List.map_cons, List.find?_cons]
    unfold olook
    by_cases h : k = c
    · subst h; simp
    · have h2 : ¬ (Sum.inr k : Key) = .inr c := fun e => h (Sum.inr.inj e)
      simp only [if_neg h2, decide_eq_false h]
      exact ih
theorem putKD_dicO (φ : α → D) (M : List (Str × α)) (c : Str) (v : α) : putKD (.inr c) (φ v) (M.map fun p => .inr p.1) ((M.map fun p => φ p.2).map .dat) = ((pt M c v).map fun p => .inr p.1, ((pt M c v).map fun p => φ p.2).map .dat) := by
  have ha : ((M.map fun p => (Sum.inr p.1 : Key)).any fun k' => decide (k' = .inr c)) = (lk M c).isSome := by
    induction M with
    | nil => rfl
    | cons p M ih =>
      obtain ⟨k, u⟩ := p
      unfold lk at ih ⊢
      rw [List.map_cons, List.any_cons, List.find?_cons]
      by_cases h : k = c
      · subst h; simp
      · have h2 : ¬ (Sum.inr k : Key) = .inr c := fun e => h (Sum.inr.inj e)
        simp only [decide_eq_false h2, decide_eq_false h, Bool.false_or]
        exact ih
  unfold putKD pt
  rw [ha]
  cases q : (lk M c).isSome with
  | true =>
    simp only [if_true]
    rw [List.map_map, List.map_map, List.map_map]
    refine Prod.ext (List.map_congr_left fun p _ => ?_) ?_
    · show (Sum.inr p.1 : Key) = .inr (if p.1 = c then (c, v) else p).1
      split
      · rename_i h; rw [h]
      · rfl
    · show List.zipWith (fun k' o => if k' = (Sum.inr c : Key) then O.dat (φ v) else o) (M.map fun p => Sum.inr p.1) (M.map (O.dat ∘ fun p => φ p.2)) = (M.map fun p => if p.1 = c then (c, v) else p).map (O.dat ∘ fun p => φ p.2)
      clear q ha
      induction M with
      | nil => rfl
      | cons p M ih =>
        rw [List.map_cons, List.map_cons, List.zipWith_cons_cons, List.map_cons, List.map_cons, ih]
        congr 1
        show (if (Sum.inr p.1 : Key) = .inr c then O.dat (φ v) else .dat (φ p.2)) = .dat (φ (if p.1 = c then (c, v) else p).2)
        by_cases h : p.1 = c
        · rw [if_pos h, if_pos (by rw [h])]
        · rw [if_neg h, if_neg fun e => h (Sum.inr.inj e)]
  | false =>
    simp only [Bool.false_eq_true, if_false]
    rw [List.map_append, List.map_append, List.map_append]; rfl
theorem Rn.dputG {φ : α → D} {M : List (Str × α)} {i : Nat} {ρ : Ev} {Q : Fl → Prop} {fk fv : Ev → Option D} {c : Str} {v : α} (h0 : ρ[i]? = some (dicO φ M)) (hv : fv ρ = some (φ v)) (hy : fk ρ = some (.str c)) (hl : M.length ≤ 1000)
    (q : Q (.nx (ρ.set i (dicO φ (pt M c v))))) : Rn (dput i fk fv) ρ Q := by
  refine ⟨_, ?_, q⟩
  unfold dput
  rw [hv, Option.bind_some, hy, Option.bind_some]
  show (match ρ[i]? with
    | some (.dic ks os) => if os.length < sizeLine then some (Fl.nx (ρ.set i (.dic (putKD (.inr c) (φ v) ks os).1 (putKD (.inr c) (φ v) ks os).2))) else none
    | _ => none) = _
  rw [h0]
  show (if ((M.map fun p => φ p.2).map O.dat).length < sizeLine then some (Fl.nx (ρ.set i (.dic (putKD (.inr c) (φ v) (M.map fun p => .inr p.1) ((M.map fun p => φ p.2).map .dat)).1 (putKD (.inr c) (φ v) (M.map fun p => .inr p.1) ((M.map fun p => φ p.2).map .dat)).2))) else none) = _
  rw [if_pos (by rw [List.length_map, List.length_map]; exact Nat.lt_of_le_of_lt hl (by decide)), putKD_dicO]
  rfl
end
end GA

namespace GA
open PySem PySem.Spec L2 PD
/-! ### merged needs -/
noncomputable def gMergedN : Ev → Option Fl := (sq (stO 1 dic0)
    (sq (forS (iOf (gv 0)) (gT 3 (gsC (gN 2) (gsC (gN 3) (gsC (gN 4) gsN)))) (sq (asg (get2O 1 (gv 2) (mkTup (aCons kN (aCons kN aNil)))) (gT 2 (gsC (gN 5) (gsC (gN 6) gsN))))
    (dput 1 (gv 2) (mkTup (aCons (cB (aCons (gv 5) (aCons (gv 3) aNil)) (len? 2 (runP 3 gGreater))) (aCons (cB (aCons (gv 6) (aCons (gv 4) aNil)) (len? 2 (runP 3 gLesser))) aNil))))))
    (fz 1 (rtV (cB (aCons (lcD (iOf (frz (cO (aCons (frz (cO (aCons (gv 1) aNil) keysO)) aNil) srtO))) (gN 2) yes (mkTup (aCons (gv 2) (aCons (b2 (b2 (gv 1) (gv 2) dgetD) (kI 0) ixD) (aCons (b2 (b2 (gv 1) (gv 2) dgetD) (kI 1) ixD) aNil)))) [2]) aNil) tupD)))))
abbrev LL := Lim × Lim
def llD (v : LL) : D := .tup [oD v.1, oD v.2]
def noL : LL := (none, none)
def stN (M : List (Str × LL)) (n : Nd) : List (Str × LL) := pt M n.1 (gmax ((lk M n.1).getD noL).1 n.2.1, lmin ((lk M n.1).getD noL).2 n.2.2)
def mN (ns : List Nd) : List (Str × LL) := ns.foldl stN []
theorem mN_snoc (ns : List Nd) (n : Nd) : mN (ns ++ [n]) = stN (mN ns) n := by unfold mN; rw [List.foldl_append]; rfl
def mns (ns : List Nd) : List Nd := (srtS ((mN ns).map (·.1))).map fun c => (c, ((lk (mN ns) c).getD noL).1, ((lk (mN ns) c).getD noL).2)
theorem pt_len {α : Type} (M : List (Str × α)) (c : Str) (v : α) : (pt M c v).length ≤ M.length + 1 := by
  unfold pt
  split
  · rw [List.length_map]; omega
  · rw [List.length_append]; simp
theorem mN_len (ns : List Nd) : (mN ns).length ≤ ns.length := by
  have : ∀ (ns : List Nd) (M : List (Str × LL)), (ns.foldl stN M).length ≤ M.length + ns.length := fun ns => by
    induction ns with
    | nil => intro M; simp
    | cons n ns ih =>
      intro M
      have h1 := ih (stN M n)
      have h2 : (stN M n).length ≤ M.length + 1 := pt_len _ _ _
      rw [List.foldl_cons, List.length_cons]
      omega
  have := this ns []
  simpa [mN] using this
theorem dlook_lk {α : Type} (φ : α → D) (M : List (Str × α)) (c : Str) : dlook (.inr c) (M.map fun p => .inr p.1) (M.map fun p => φ p.2) = (lk M c).map φ := by
  have := dlook_find (fun p : Str × α => (Sum.inr p.1 : Key)) (fun p => φ p.2) (.inr c) M
  rw [this]
  unfold lk
  have e : (fun p : Str × α => decide ((Sum.inr p.1 : Key) = .inr c)) = fun p => decide (p.1 = c) := funext fun p => by
    by_cases h : p.1 = c
    · rw [h]; simp
    · rw [decide_eq_false h, decide_eq_false fun e => h (Sum.inr.inj e)]
  rw [e, Option.map_map]; rfl
theorem aC2 {f g : Ev → Option D} {ρ : Ev} {d e : D} (h : f ρ = some d) (h2 : g ρ = some e) : aCons f (aCons g aNil) ρ = some [d, e] := by
  unfold aCons
  rw [h, h2]; rfl
theorem aC3 {f g k : Ev → Option D} {ρ : Ev} {d e c : D} (h : f ρ = some d) (h2 : g ρ = some e) (h3 : k ρ = some c) : aCons f (aCons g (aCons k aNil)) ρ = some [d, e, c] := by
  unfold aCons
  rw [h, h2, h3]; rfl
theorem mkTup_of {g : Ev → Option (List D)} {ρ : Ev} {ds : List D} (h : g ρ = some ds) (hl : ds.length ≤ 1000) : mkTup g ρ = some (.tup ds) := by
  (simp (disch := first | assumption | omega) only [h, MV, MW])
theorem lk_mem {α : Type} {M : List (Str × α)} {c : Str} (h : c ∈ M.map (·.1)) : ∃ v, lk M c = some v := by
  cases q : lk M c with
  | some v => exact ⟨v, rfl⟩
  | none => exact absurd h (lk_none.mp q)
theorem merged_eq {d : D} {ns : List Nd} (hd : seqD d = some (ns.map ndD)) (hl : ns.length ≤ 500) : runP 7 gMergedN [d] = some (.tup ((mns ns).map ndD)) := by
  refine runP_eq ?_
  unfold gMergedN
  show Rn _ [.dat d, .unk, .unk, .unk, .unk, .unk, .unk] _
  refine Rn.sqstO (o := dicO llD []) rfl ?_
  refine Rn.sqfor (xs := ns) (φ := ndD) (by show (some d).bind seqD = _; exact hd) (fun i ρ => ∃ x2 x3 x4 x5 x6, ρ = [.dat d, dicO llD (mN (ns.take i)), .dat x2, .dat x3, .dat x4, .dat x5, .dat x6] ∨ ρ = [.dat d, dicO llD (mN (ns.take i)), .unk, .unk, .unk, .unk, .unk]) ⟨d, d, d, d, d, .inr rfl⟩ (fun i hi ρ hI => ?_) (fun ρ hI => ?_)
  · have et : ns.take (i + 1) = ns.take i ++ [ns[i]] := List.take_succ_eq_append_getElem hi
    have hml := mN_len (ns.take i)
    rw [List.length_take] at hml
    rw [et, mN_snoc]
    generalize mN (ns.take i) = M at hI hml
    generalize ns[i] = n
    obtain ⟨c, lo, hi'⟩ := n
    have step : ∀ y5 y6 : O, Rn (sq (asg (get2O 1 (gv 2) (mkTup (aCons kN (aCons kN aNil)))) (gT 2 (gsC (gN 5) (gsC (gN 6) gsN))))
        (dput 1 (gv 2) (mkTup (aCons (cB (aCons (gv 5) (aCons (gv 3) aNil)) (len? 2 (runP 3 gGreater))) (aCons (cB (aCons (gv 6) (aCons (gv 4) aNil)) (len? 2 (runP 3 gLesser))) aNil))))) [.dat d, dicO llD M, .dat (.str c), .dat (oD lo), .dat (oD hi'), y5, y6]
        fun r => r = .nx [.dat d, dicO llD (stN M (c, lo, hi')), .dat (.str c), .dat (oD lo), .dat (oD hi'), .dat (oD ((lk M c).getD noL).1), .dat (oD ((lk M c).getD noL).2)] := fun y5 y6 => by
      have eg : get2O 1 (gv 2) (mkTup (aCons kN (aCons kN aNil))) [.dat d, dicO llD M, .dat (.str c), .dat (oD lo), .dat (oD hi'), y5, y6] = some (llD ((lk M c).getD noL)) := by
        unfold get2O
        rw [show gv 2 [.dat d, dicO llD M, .dat (.str c), .dat (oD lo), .dat (oD hi'), y5, y6] = some (.str c) from rfl, Option.bind_some]
        rw [show mkTup (aCons kN (aCons kN aNil)) [.dat d, dicO llD M, .dat (.str c), .dat (oD lo), .dat (oD hi'), y5, y6] = some (llD noL) from mkTup_of rfl (by simp), Option.bind_some]
        show (match olook (.inr c) (M.map fun p => .inr p.1) ((M.map fun p => llD p.2).map .dat) with
          | some (.dat d) => some d
          | none => some (llD noL)
          | _ => none) = _
        rw [olook_dicO]
        cases lk M c <;> rfl
      refine Rn.sq ⟨.nx [.dat d, dicO llD M, .dat (.str c), .dat (oD lo), .dat (oD hi'), .dat (oD ((lk M c).getD noL).1), .dat (oD ((lk M c).getD noL).2)], ?_, ?_⟩
      · unfold asg
        rw [eg]; rfl
      · generalize hv : (lk M c).getD noL = v
        refine Rn.dputG (M := M) (φ := llD) (c := c) (v := (gmax v.1 lo, lmin v.2 hi')) rfl ?_ rfl (by omega) ?_
        · exact mkTup_of (aC2 (cB_of (f := len? 2 (runP 3 gGreater)) (aC2 rfl rfl) (greater_eq v.1 lo)) (cB_of (f := len? 2 (runP 3 gLesser)) (aC2 rfl rfl) (lesser_eq v.2 hi'))) (by simp)
        · unfold stN
          rw [hv]; rfl
    obtain ⟨x2, x3, x4, x5, x6, rfl | rfl⟩ := hI
    · refine ⟨_, rfl, ?_⟩
      obtain ⟨r, e, rfl⟩ := step (.dat x5) (.dat x6)
      exact ⟨_, e, _, _, _, _, _, .inl rfl⟩
    · refine ⟨_, rfl, ?_⟩
      obtain ⟨r, e, rfl⟩ := step .unk .unk
      exact ⟨_, e, _, _, _, _, _, .inl rfl⟩
  · rw [List.take_length] at hI
    have hml := mN_len ns
    have fin : ∀ y2 y3 y4 y5 y6 : O, okW [.dat d, .dat (.dic ((mN ns).map fun p => .inr p.1) ((mN ns).map fun p => llD p.2)), y2, y3, y4, y5, y6] [2] = true → Rn (fz 1 (rtV (cB (aCons (lcD (iOf (frz (cO (aCons (frz (cO (aCons (gv 1) aNil) keysO)) aNil) srtO))) (gN 2) yes (mkTup (aCons (gv 2) (aCons (PD.b2 (PD.b2 (gv 1) (gv 2) dgetD) (kI 0) ixD) (aCons (PD.b2 (PD.b2 (gv 1) (gv 2) dgetD) (kI 1) ixD) aNil)))) [2]) aNil) tupD))) [.dat d, dicO llD (mN ns), y2, y3, y4, y5, y6] fun r => ∃ o, outO r = some o ∧ o.toD = some (.tup ((mns ns).map ndD)) := fun y2 y3 y4 y5 y6 hw => by
      refine Rn.fz (o := dicO llD (mN ns)) rfl (show (dicO llD (mN ns)).toD = _ from toD_dicD _ _) ?_
      show Rn _ [.dat d, .dat (.dic ((mN ns).map fun p => .inr p.1) ((mN ns).map fun p => llD p.2)), y2, y3, y4, y5, y6] _
      generalize hM : mN ns = M at hw hml
      have ek : frz (cO (aCons (gv 1) aNil) keysO) [.dat d, .dat (.dic (M.map fun p => .inr p.1) (M.map fun p => llD p.2)), y2, y3, y4, y5, y6] = some (.lst ((M.map (·.1)).map .str)) := by
        unfold frz cO
        rw [aC1 (f := gv 1) rfl, Option.bind_some]
        show (O.toD (O.dats ((M.map fun p => (Sum.inr p.1 : Key)).map keyData))) = _
        rw [toD_dats, List.map_map, List.map_map]; rfl
      have es := frz_srt ek (by rw [List.length_map]; omega)
      have hit : iOf (frz (cO (aCons (frz (cO (aCons (gv 1) aNil) keysO)) aNil) srtO)) [.dat d, .dat (.dic (M.map fun p => .inr p.1) (M.map fun p => llD p.2)), y2, y3, y4, y5, y6] = some ((srtS (M.map (·.1))).map .str) := by
        unfold iOf
        rw [es]; rfl
      have hlen : (srtS (M.map (·.1))).length ≤ 1000 := by rw [(srtS_perm _).length_eq, List.length_map]; omega
      have el := lc_map (gt := gN 2) (vs := [2]) (f := mkTup (aCons (gv 2) (aCons (PD.b2 (PD.b2 (gv 1) (gv 2) dgetD) (kI 0) ixD) (aCons (PD.b2 (PD.b2 (gv 1) (gv 2) dgetD) (kI 1) ixD) aNil)))) (φ := D.str) (fun c => ndD (c, ((lk M c).getD noL).1, ((lk M c).getD noL).2)) (xs := srtS (M.map (·.1))) hw hit (by omega) fun c hc => ⟨_, rfl, by
        obtain ⟨v, hv⟩ := lk_mem ((srtS_perm _).mem_iff.mp hc)
        have hg : PD.b2 (gv 1) (gv 2) dgetD [.dat d, .dat (.dic (M.map fun p => .inr p.1) (M.map fun p => llD p.2)), .dat (.str c), y3, y4, y5, y6] = some (llD v) := by
          show dlook (.inr c) (M.map fun p => .inr p.1) (M.map fun p => llD p.2) = _
          rw [dlook_lk, hv]; rfl
        rw [hv]
        refine mkTup_of (aC3 rfl ?_ ?_) (by simp)
        · show PD.b2 (PD.b2 (gv 1) (gv 2) dgetD) (kI 0) ixD [.dat d, .dat (.dic (M.map fun p => .inr p.1) (M.map fun p => llD p.2)), .dat (.str c), y3, y4, y5, y6] = _
          unfold PD.b2 at hg ⊢
          rw [hg]; rfl
        · show PD.b2 (PD.b2 (gv 1) (gv 2) dgetD) (kI 1) ixD [.dat d, .dat (.dic (M.map fun p => .inr p.1) (M.map fun p => llD p.2)), .dat (.str c), y3, y4, y5, y6] = _
          unfold PD.b2 at hg ⊢
          rw [hg]; rfl⟩
      refine Rn.ret (d := .tup ((mns ns).map ndD)) ?_ ⟨_, rfl, rfl⟩
      refine cB_of (f := tupD) (aC1 el) ?_
      unfold mns
      rw [hM, List.map_map]; rfl
    obtain ⟨x2, x3, x4, x5, x6, rfl | rfl⟩ := hI
    · exact fin _ _ _ _ _ rfl
    · exact fin _ _ _ _ _ rfl
end GA

/-! is_name and is_label at every text -/
namespace GA
open PySem PySem.Spec L2 PD
def nmB (l : List Nat) : Bool := decide (1 ≤ l.length) && (decide (l.length ≤ 12) && l.all fun c => decide (c ∈ ABC.cps.toList))
def labB (l : List Nat) : Bool := decide ((sp 46 l).length ≤ 2) && (sp 46 l).all nmB
theorem all_map_bl {α : Type} (xs : List α) (p : α → Bool) : allD [.lst (xs.map fun x => .bl (p x))] = some (.bl (xs.all p)) := by
  have := all_bls (xs.map p)
  rw [List.map_map] at this
  rw [show (xs.map fun x => D.bl (p x)) = xs.map (D.bl ∘ p) from rfl, this, List.all_map]
  rfl
theorem name_run {s : Str} (hl : s.length ≤ 900) : runP 2 gName [.str s] = some (.bl (nmB s.cps.toList)) := by
  refine runP_eq ?_
  unfold gName
  show Rn _ [.dat (.str s), .unk] _
  refine Rn.ret (d := .bl (nmB s.cps.toList)) ?_ ⟨_, rfl, rfl⟩
  have ls : s.cps.toList.length = s.length := str_len s
  have e1 : iOf (gv 0) [.dat (.str s), .unk] = some (s.cps.toList.map fun c => .str ⟨#[c]⟩) := rfl
  have e2 := lc_map (fi := iOf (gv 0)) (gt := gN 1) (vs := [1]) (f := PD.b2 (gv 1) (kS "abcdefghijklmnopqrstuvwxyz") inD) (ρ := [.dat (.str s), .unk]) (φ := fun c => .str ⟨#[c]⟩) (fun c => .bl (decide (c ∈ ABC.cps.toList))) (xs := s.cps.toList) rfl e1 (by omega) fun c hc => ⟨_, rfl, by
    show inD (.str ⟨#[c]⟩) (.str ABC) = _
    show some (D.bl (Txt.has ABC ⟨#[c]⟩)) = _
    rw [has_sign]⟩
  have e4 := cB_of (f := allD) (aC1 e2) (all_map_bl s.cps.toList fun c => decide (c ∈ ABC.cps.toList))
  have hlen : lenD [.str s] = some (.int s.length) := ev_lenS (by omega)
  have d1 : decide ((1 : Int) ≤ (s.length : Int)) = decide (1 ≤ s.length) := decide_eq_decide.mpr (by omega)
  have d2 : decide ((s.length : Int) ≤ 12) = decide (s.length ≤ 12) := decide_eq_decide.mpr (by omega)
  have e5 : chn (kI 1) (cB (aCons (gv 0) aNil) lenD) (kI 12) leI leI [.dat (.str s), .unk] = some (.bl (decide (1 ≤ s.length) && decide (s.length ≤ 12))) := by
    unfold chn
    rw [show kI 1 [.dat (.str s), .unk] = some (.int 1) from rfl, Option.bind_some, cB_of (f := lenD) (aC1 rfl) hlen, Option.bind_some]
    show ((some (D.bl (decide ((1 : Int) ≤ (s.length : Int))))).bind _) = _
    rw [d1]
    cases decide (1 ≤ s.length) with
    | false => rfl
    | true =>
      show some (D.bl (decide ((s.length : Int) ≤ 12))) = _
      rw [d2]; rfl
  have e6 := andV_of (a := decide (1 ≤ s.length) && decide (s.length ≤ 12)) (b := s.cps.toList.all fun c => decide (c ∈ ABC.cps.toList)) e5 fun _ => e4
  rw [e6]
  unfold nmB
  rw [ls, Bool.and_assoc]
theorem sp_len (k : Nat) : ∀ l : List Nat, (sp k l).length ≤ l.length + 1
  | [] => by simp [sp]
  | x :: xs => by
    have ih := sp_len k xs
    unfold sp
    by_cases h : x = k
    · rw [if_pos h]; simp only [List.length_cons]; omega
    · rw [if_neg h]
      obtain ⟨p, ps, e⟩ := sp_ne k xs
      rw [e] at ih ⊢
      simp only [List.length_cons] at ih ⊢
      omega
theorem sp_part (k : Nat) : ∀ (l : List Nat) (p : List Nat), p ∈ sp k l → p.length ≤ l.length
  | [], p, h => by rw [List.mem_singleton.mp h]; exact Nat.le_refl _
  | x :: xs, p, h => by
    have ih := sp_part k xs
    unfold sp at h
    by_cases e : x = k
    · rw [if_pos e] at h
      rcases List.mem_cons.mp h with rfl | h
      · simp
      · have := ih p h
        simp only [List.length_cons]; omega
    · rw [if_neg e] at h
      obtain ⟨q, qs, e2⟩ := sp_ne k xs
      rw [e2] at h ih
      rcases List.mem_cons.mp h with rfl | h
      · have := ih q List.mem_cons_self
        simp only [List.length_cons]; omega
      · have := ih p (List.mem_cons_of_mem _ h)
        simp only [List.length_cons]; omega
theorem label_run {s : Str} (hs : s.length ≤ 900) : runP 3 gLabel [.str s] = some (.bl (labB s.cps.toList)) := by
  have ls : s.cps.toList.length = s.length := str_len s
  have hl := sp_len 46 s.cps.toList
  refine runP_eq ?_
  unfold gLabel
  show Rn _ [.dat (.str s), .unk, .unk] _
  have e0 : splitD (.str s) [.str (Str.ofString ".")] = some (.lst ((sp 46 s.cps.toList).map fun p => .str (toS p))) := by
    show (if ((Str.ofString ".").length == 0) = false ∧ s.length + 2 ≤ sizeLine then some (D.lst ((Txt.split s (Str.ofString ".")).map .str)) else none) = _
    rw [if_pos ⟨by decide, len_le (by omega)⟩]
    have := split_eq s 46
    rw [show Txt.split s (Str.ofString ".") = (sp 46 s.cps.toList).map toS from this, List.map_map]; rfl
  refine Rn.sqst (d := .lst ((sp 46 s.cps.toList).map fun p => .str (toS p))) e0 ?_
  show Rn _ [.dat (.str s), .dat (.lst ((sp 46 s.cps.toList).map fun p => .str (toS p))), .unk] _
  refine Rn.ret (d := .bl (labB s.cps.toList)) ?_ ⟨_, rfl, rfl⟩
  have e2 := lc_map (fi := iOf (gv 1)) (gt := gN 2) (vs := [2]) (f := cB (aCons (gv 2) aNil) (len? 1 (runP 2 gName))) (ρ := [.dat (.str s), .dat (.lst ((sp 46 s.cps.toList).map fun p => .str (toS p))), .unk]) (φ := fun p => .str (toS p)) (fun p => .bl (nmB p)) (xs := sp 46 s.cps.toList) rfl rfl (by omega) fun p hpm => ⟨_, rfl,
    cB_of (f := len? 1 (runP 2 gName)) (aC1 rfl) (by
      have hp := sp_part 46 _ p hpm
      have h := name_run (s := toS p) (by rw [← str_len, toS_codes]; omega)
      rw [toS_codes] at h
      exact h)⟩
  have e1 : PD.b2 (cB (aCons (gv 1) aNil) lenD) (kI 2) leI [.dat (.str s), .dat (.lst ((sp 46 s.cps.toList).map fun p => .str (toS p))), .unk] = some (.bl (decide ((sp 46 s.cps.toList).length ≤ 2))) := by
    unfold PD.b2
    rw [cB_of (f := lenD) (aC1 rfl) (ev_lenL _), Option.bind_some, List.length_map]
    show some (D.bl (decide (((sp 46 s.cps.toList).length : Int) ≤ 2))) = _
    rw [decide_eq_decide.mpr (show (((sp 46 s.cps.toList).length : Int) ≤ 2) ↔ (sp 46 s.cps.toList).length ≤ 2 by omega)]
  exact andV_of (a := decide ((sp 46 s.cps.toList).length ≤ 2)) (b := (sp 46 s.cps.toList).all nmB) e1 fun _ => cB_of (f := allD) (aC1 e2) (all_map_bl _ nmB)
end GA

namespace GA
open PySem PySem.Spec L2 PD
/-! ### merged changes -/
noncomputable def gMergedC : Ev → Option Fl := (sq (stO 1 dic0)
    (sq (forS (iOf (gv 0)) (gT 2 (gsC (gN 2) (gsC (gN 3) gsN))) (dput 1 (gv 2) (b2 (get2O 1 (gv 2) (kI 0)) (gv 3) addA)))
    (fz 1 (rtV (cB (aCons (lcD (iOf (frz (cO (aCons (frz (cO (aCons (gv 1) aNil) keysO)) aNil) srtO))) (gN 2) (asB (b2 (b2 (gv 1) (gv 2) dgetD) (kI 0) neD)) (mkTup (aCons (gv 2) (aCons (b2 (gv 1) (gv 2) dgetD) aNil))) [2]) aNil) tupD)))))
abbrev Ch := Str × Int
def chD (n : Ch) : D := .tup [.str n.1, .int n.2]
def stC (M : List (Str × Int)) (n : Ch) : List (Str × Int) := pt M n.1 ((lk M n.1).getD 0 + n.2)
def mC (ns : List Ch) : List (Str × Int) := ns.foldl stC []
theorem mC_snoc (ns : List Ch) (n : Ch) : mC (ns ++ [n]) = stC (mC ns) n := by unfold mC; rw [List.foldl_append]; rfl
def mcs (ns : List Ch) : List Ch := ((srtS ((mC ns).map (·.1))).filter fun c => decide ((lk (mC ns) c).getD 0 ≠ 0)).map fun c => (c, (lk (mC ns) c).getD 0)
theorem mC_len (ns : List Ch) : (mC ns).length ≤ ns.length := by
  have : ∀ (ns : List Ch) (M : List (Str × Int)), (ns.foldl stC M).length ≤ M.length + ns.length := fun ns => by
    induction ns with
    | nil => intro M; simp
    | cons n ns ih =>
      intro M
      have h1 := ih (stC M n)
      have h2 : (stC M n).length ≤ M.length + 1 := pt_len _ _ _
      rw [List.foldl_cons, List.length_cons]
      omega
  have := this ns []
  simpa [mC] using this
theorem ne_int0 (i : Int) : neD (.int i) (.int 0) = some (.bl (decide (i ≠ 0))) := by
  show some (D.bl (!decide (i = 0))) = _
  by_cases h : i = 0 <;> simp [h]
theorem mergedC_eq {d : D} {ns : List Ch} (hd : seqD d = some (ns.map chD)) (hl : ns.length ≤ 500) : runP 4 gMergedC [d] = some (.tup ((mcs ns).map chD)) := by
  refine runP_eq ?_
  unfold gMergedC
  show Rn _ [.dat d, .unk, .unk, .unk] _
  refine Rn.sqstO (o := dicO D.int []) rfl ?_
  refine Rn.sqfor (xs := ns) (φ := chD) (by show (some d).bind seqD = _; exact hd) (fun i ρ => ∃ x2 x3, ρ = [.dat d, dicO D.int (mC (ns.take i)), .dat x2, .dat x3] ∨ ρ = [.dat d, dicO D.int (mC (ns.take i)), .unk, .unk]) ⟨d, d, .inr rfl⟩ (fun i hi ρ hI => ?_) (fun ρ hI => ?_)
  · have et : ns.take (i + 1) = ns.take i ++ [ns[i]] := List.take_succ_eq_append_getElem hi
    have hml := mC_len (ns.take i)
    rw [List.length_take] at hml
    rw [et, mC_snoc]
    generalize mC (ns.take i) = M at hI hml
    generalize ns[i] = n
    obtain ⟨c, a⟩ := n
    have step : Rn (dput 1 (gv 2) (PD.b2 (get2O 1 (gv 2) (kI 0)) (gv 3) addA)) [.dat d, dicO D.int M, .dat (.str c), .dat (.int a)] fun r => r = .nx [.dat d, dicO D.int (stC M (c, a)), .dat (.str c), .dat (.int a)] := by
      have eg : get2O 1 (gv 2) (kI 0) [.dat d, dicO D.int M, .dat (.str c), .dat (.int a)] = some (.int ((lk M c).getD 0)) := by
        unfold get2O
        rw [show gv 2 [.dat d, dicO D.int M, .dat (.str c), .dat (.int a)] = some (.str c) from rfl, Option.bind_some]
        rw [show kI 0 [.dat d, dicO D.int M, .dat (.str c), .dat (.int a)] = some (.int 0) from rfl, Option.bind_some]
        show (match olook (.inr c) (M.map fun p => .inr p.1) ((M.map fun p => D.int p.2).map .dat) with
          | some (.dat d) => some d
          | none => some (.int 0)
          | _ => none) = _
        rw [olook_dicO]
        cases lk M c <;> rfl
      refine Rn.dputG (M := M) (φ := D.int) (c := c) (v := (lk M c).getD 0 + a) rfl ?_ rfl (by omega) rfl
      unfold PD.b2
      rw [eg]; rfl
    obtain ⟨x2, x3, rfl | rfl⟩ := hI
    · refine ⟨_, rfl, ?_⟩
      obtain ⟨r, e, rfl⟩ := step
      exact ⟨_, e, _, _, .inl rfl⟩
    · refine ⟨_, rfl, ?_⟩
      obtain ⟨r, e, rfl⟩ := step
      exact ⟨_, e, _, _, .inl rfl⟩
  · rw [List.take_length] at hI
    have hml := mC_len ns
    have fin : ∀ y2 y3 : O, okW [.dat d, .dat (.dic ((mC ns).map fun p => .inr p.1) ((mC ns).map fun p => D.int p.2)), y2, y3] [2] = true → Rn (fz 1 (rtV (cB (aCons (lcD (iOf (frz (cO (aCons (frz (cO (aCons (gv 1) aNil) keysO)) aNil) srtO))) (gN 2) (asB (PD.b2 (PD.b2 (gv 1) (gv 2) dgetD) (kI 0) neD)) (mkTup (aCons (gv 2) (aCons (PD.b2 (gv 1) (gv 2) dgetD) aNil))) [2]) aNil) tupD))) [.dat d, dicO D.int (mC ns), y2, y3] fun r => ∃ o, outO r = some o ∧ o.toD = some (.tup ((mcs ns).map chD)) := fun y2 y3 hw => by
      refine Rn.fz (o := dicO D.int (mC ns)) rfl (show (dicO D.int (mC ns)).toD = _ from toD_dicD _ _) ?_
      show Rn _ [.dat d, .dat (.dic ((mC ns).map fun p => .inr p.1) ((mC ns).map fun p => D.int p.2)), y2, y3] _
      generalize hM : mC ns = M at hw hml
      have ek : frz (cO (aCons (gv 1) aNil) keysO) [.dat d, .dat (.dic (M.map fun p => .inr p.1) (M.map fun p => D.int p.2)), y2, y3] = some (.lst ((M.map (·.1)).map .str)) := by
        unfold frz cO
        rw [aC1 (f := gv 1) rfl, Option.bind_some]
        show (O.toD (O.dats ((M.map fun p => (Sum.inr p.1 : Key)).map keyData))) = _
        rw [toD_dats, List.map_map, List.map_map]; rfl
      have es := frz_srt ek (by rw [List.length_map]; omega)
      have hit : iOf (frz (cO (aCons (frz (cO (aCons (gv 1) aNil) keysO)) aNil) srtO)) [.dat d, .dat (.dic (M.map fun p => .inr p.1) (M.map fun p => D.int p.2)), y2, y3] = some ((srtS (M.map (·.1))).map .str) := by
        unfold iOf
        rw [es]; rfl
      have hlen : (srtS (M.map (·.1))).length ≤ 1000 := by rw [(srtS_perm _).length_eq, List.length_map]; omega
      have hg : ∀ c ∈ srtS (M.map (·.1)), PD.b2 (gv 1) (gv 2) dgetD [.dat d, .dat (.dic (M.map fun p => .inr p.1) (M.map fun p => D.int p.2)), .dat (.str c), y3] = some (.int ((lk M c).getD 0)) := fun c hc => by
        obtain ⟨v, hv⟩ := lk_mem ((srtS_perm _).mem_iff.mp hc)
        show dlook (.inr c) (M.map fun p => .inr p.1) (M.map fun p => D.int p.2) = _
        rw [dlook_lk, hv]; rfl
      have el := lc_fil (gt := gN 2) (vs := [2]) (t := asB (PD.b2 (PD.b2 (gv 1) (gv 2) dgetD) (kI 0) neD)) (f := mkTup (aCons (gv 2) (aCons (PD.b2 (gv 1) (gv 2) dgetD) aNil))) (φ := D.str) (fun c => chD (c, (lk M c).getD 0)) (fun c => decide ((lk M c).getD 0 ≠ 0)) (xs := srtS (M.map (·.1))) hw hit (by omega) fun c hc => ⟨_, rfl, by
        show asB (PD.b2 (PD.b2 (gv 1) (gv 2) dgetD) (kI 0) neD) [.dat d, .dat (.dic (M.map fun p => .inr p.1) (M.map fun p => D.int p.2)), .dat (.str c), y3] = _
        have h := hg c hc
        have n0 := ne_int0 ((lk M c).getD 0)
        unfold asB PD.b2
        unfold PD.b2 at h
        rw [h, Option.bind_some]
        show (match neD (.int ((lk M c).getD 0)) (.int 0) with
          | some (.bl b) => some b
          | _ => none) = _
        rw [n0], fun _ => mkTup_of (aC2 rfl (hg c hc)) (by simp)⟩
      refine Rn.ret (d := .tup ((mcs ns).map chD)) ?_ ⟨_, rfl, rfl⟩
      refine cB_of (f := tupD) (aC1 el) ?_
      unfold mcs
      rw [hM, List.map_map]; rfl
    obtain ⟨x2, x3, rfl | rfl⟩ := hI
    · exact fin _ _ rfl
    · exact fin _ _ rfl
end GA

/-! k03: the mirrors, for any class places -/
namespace GA
open PySem PySem.Spec L2 PD
noncomputable def gLNm : Ev → Option Fl :=
    (sq (forS (iOf (gv 0)) (gN 1) (ifS (asB (PD.b2 (gv 1) (kS "abcdefghijklmnopqrstuvwxyz") ninD)) (rtV (kB false)) skip))
    (rtV (andV (PD.b2 (cB (aCons (gv 0) aNil) lenD) (kI 0) gtI) (PD.b2 (cB (aCons (gv 0) aNil) lenD) (kI 13) ltI))))
noncomputable def gLLab : Ev → Option Fl :=
    (sq (stV 1 (lcD (rng1 (cB (aCons (gv 0) aNil) lenD)) (gN 2) (asB (PD.b2 (PD.b2 (gv 0) (gv 2) ixD) (kS ".") eqD)) (gv 2) [2]))
    (sq (ifS (asB (PD.b2 (cB (aCons (gv 1) aNil) lenD) (kI 0) eqD)) (rtV (cB (aCons (gv 0) aNil) (len? 1 (runP 2 gLNm)))) skip)
    (rtV (andV (PD.b2 (cB (aCons (gv 1) aNil) lenD) (kI 1) eqD) (andV (cB (aCons (slc (gv 0) noPart (part (PD.b2 (gv 1) (kI 0) ixD))) aNil) (len? 1 (runP 2 gLNm))) (cB (aCons (slc (gv 0) (part (PD.b2 (PD.b2 (gv 1) (kI 0) ixD) (kI 1) addA)) noPart) aNil) (len? 1 (runP 2 gLNm))))))))
noncomputable def gLMrg : Ev → Option Fl :=
    (sq (stO 1 (mkLstO aNil))
    (sq (stV 2 (frz (cO (aCons (lcD (iOf (gv 0)) (gN 8) yes (PD.b2 (gv 8) (kI 0) ixD) [8]) aNil) srtO)))
    (sq (forS (rng1 (cB (aCons (gv 2) aNil) lenD)) (gN 3) (ifS (orT (asB (PD.b2 (gv 3) (kI 0) eqD)) (asB (PD.b2 (PD.b2 (gv 2) (gv 3) ixD) (PD.b2 (gv 2) (PD.b2 (gv 3) (kI 1) subI) ixD) neD))) (sq (stV 4 (lcD (iOf (gv 0)) (gN 8) (andT (asB (PD.b2 (PD.b2 (gv 8) (kI 0) ixD) (PD.b2 (gv 2) (gv 3) ixD) eqD)) (asB (PD.b2 (PD.b2 (gv 8) (kI 1) ixD) kN notN))) (PD.b2 (gv 8) (kI 1) ixD) [8]))
    (sq (stV 5 (lcD (iOf (gv 0)) (gN 8) (andT (asB (PD.b2 (PD.b2 (gv 8) (kI 0) ixD) (PD.b2 (gv 2) (gv 3) ixD) eqD)) (asB (PD.b2 (PD.b2 (gv 8) (kI 2) ixD) kN notN))) (PD.b2 (gv 8) (kI 2) ixD) [8]))
    (sq (stV 6 kN)
    (sq (stV 7 kN)
    (sq (ifS (asB (PD.b2 (cB (aCons (gv 4) aNil) lenD) (kI 0) gtI)) (stV 6 (cB (aCons (gv 4) aNil) maxLD)) skip)
    (sq (ifS (asB (PD.b2 (cB (aCons (gv 5) aNil) lenD) (kI 0) gtI)) (stV 7 (cB (aCons (gv 5) aNil) minLD)) skip)
    (PD.app 1 (mkTup (aCons (PD.b2 (gv 2) (gv 3) ixD) (aCons (gv 6) (aCons (gv 7) aNil))))))))))) skip))
    (fz 1 (rtV (cB (aCons (gv 1) aNil) tupD))))))
noncomputable def gLSum : Ev → Option Fl :=
    (sq (stO 1 (mkLstO aNil))
    (sq (stV 2 (frz (cO (aCons (lcD (iOf (gv 0)) (gN 5) yes (PD.b2 (gv 5) (kI 0) ixD) [5]) aNil) srtO)))
    (sq (forS (rng1 (cB (aCons (gv 2) aNil) lenD)) (gN 3) (ifS (orT (asB (PD.b2 (gv 3) (kI 0) eqD)) (asB (PD.b2 (PD.b2 (gv 2) (gv 3) ixD) (PD.b2 (gv 2) (PD.b2 (gv 3) (kI 1) subI) ixD) neD))) (sq (stV 4 (cB (aCons (lcD (iOf (gv 0)) (gN 5) (asB (PD.b2 (PD.b2 (gv 5) (kI 0) ixD) (PD.b2 (gv 2) (gv 3) ixD) eqD)) (PD.b2 (gv 5) (kI 1) ixD) [5]) aNil) sumD))
    (ifS (asB (PD.b2 (gv 4) (kI 0) neD)) (PD.app 1 (mkTup (aCons (PD.b2 (gv 2) (gv 3) ixD) (aCons (gv 4) aNil)))) skip)) skip))
    (fz 1 (rtV (cB (aCons (gv 1) aNil) tupD))))))
noncomputable def gLExp : Ev → Option Fl :=
    (sq (asg (gv 0) (gL 6 (gsC (gN 1) (gsC (gN 2) (gsC (gN 3) (gsC (gN 4) (gsC (gN 5) (gsC (gN 6) gsN))))))))
    (rtV (mkLst (aCons (gv 1) (aCons (gv 2) (aCons (cB (aCons (gv 3) aNil) (len? 1 (runP 9 gLMrg))) (aCons (cB (aCons (gv 4) aNil) (len? 1 (runP 6 gLSum))) (aCons (gv 5) (aCons (gv 6) aNil)))))))))
noncomputable def gLRef : Ev → Option Fl :=
    (sq (asg (gv 0) (gL 6 (gsC (gN 1) (gsC (gN 2) (gsC (gN 3) (gsC (gN 4) (gsC (gN 5) (gsC (gN 6) gsN))))))))
    (sq (ifS (notT (asB (cB (aCons (gv 1) aNil) (len? 1 (runP 3 gLLab))))) (rtV (kS "name")) skip)
    (sq (ifS (notT (asB (cB (aCons (gv 2) aNil) (len? 1 (runP 3 gLLab))))) (rtV (kS "player")) skip)
    (sq (forS (iOf (gv 3)) (gT 3 (gsC (gN 7) (gsC (gN 8) (gsC (gN 9) gsN)))) (sq (ifS (orT (notT (asB (cB (aCons (gv 7) aNil) (len? 1 (runP 3 gLLab))))) (andT (asB (PD.b2 (gv 8) kN isN)) (asB (PD.b2 (gv 9) kN isN)))) (rtV (kS "needs")) skip)
    (ifS (orT (andT (asB (PD.b2 (gv 8) kN notN)) (asB (PD.b2 (gv 8) (kI 0) ltI))) (andT (asB (PD.b2 (gv 9) kN notN)) (asB (PD.b2 (gv 9) (kI 0) ltI)))) (rtV (kS "needs")) skip)))
    (sq (forS (iOf (gv 4)) (gT 2 (gsC (gN 7) (gsC (gN 10) gsN))) (ifS (notT (asB (cB (aCons (gv 7) aNil) (len? 1 (runP 3 gLLab))))) (rtV (kS "changes")) skip))
    (sq (ifS (andT (asB (PD.b2 (gv 5) kN notN)) (notT (asB (cB (aCons (gv 5) aNil) (len? 1 (runP 3 gLLab)))))) (rtV (kS "sign")) skip)
    (rtV kN)))))))
noncomputable def gMvI (CM BM : Addr) : Ev → Option Fl :=
    (sq (ifS (notT (asB (cB (aCons (gv 1) aNil) (len? 1 (runP 3 gLabel))))) (raiS BM ["part"] (aCons (kS "name") aNil)) skip)
    (sq (ifS (notT (asB (cB (aCons (gv 2) aNil) (len? 1 (runP 3 gLabel))))) (raiS BM ["part"] (aCons (kS "player") aNil)) skip)
    (sq (ifS (notT (asB (cB (aCons (lcD (iOf (gv 3)) (gN 7) yes (cB (aCons (gv 7) aNil) (len? 1 (runP 4 gNeed))) [7]) aNil) allD))) (raiS BM ["part"] (aCons (kS "needs") aNil)) skip)
    (sq (ifS (notT (asB (cB (aCons (lcD (iOf (gv 4)) (gT 2 (gsC (gN 8) (gsC (gN 9) gsN))) yes (cB (aCons (gv 8) aNil) (len? 1 (runP 3 gLabel))) [8, 9]) aNil) allD))) (raiS BM ["part"] (aCons (kS "changes") aNil)) skip)
    (sq (ifS (andT (asB (PD.b2 (gv 5) kN notN)) (notT (asB (cB (aCons (gv 5) aNil) (len? 1 (runP 3 gLabel)))))) (raiS BM ["part"] (aCons (kS "sign") aNil)) skip)
    (sq (put CM 0 "name" (thaw (gv 1)))
    (sq (put CM 0 "player" (thaw (gv 2)))
    (sq (put CM 0 "needs" (thaw (cB (aCons (gv 3) aNil) (len? 1 (runP 7 gMergedN)))))
    (sq (put CM 0 "changes" (thaw (cB (aCons (gv 4) aNil) (len? 1 (runP 4 gMergedC)))))
    (sq (put CM 0 "sign" (thaw (gv 5)))
    (put CM 0 "foul" (thaw (gv 6)))))))))))))
noncomputable def gMvEq (CM : Addr) : Ev → Option Fl :=
    (rtV (andV (PD.b1 (gv 1) (isiC [(CM, true)])) (andV (PD.b2 (PD.b1 (gv 0) (fldD CM "name")) (PD.b1 (gv 1) (fldD CM "name")) eqD) (andV (PD.b2 (PD.b1 (gv 0) (fldD CM "player")) (PD.b1 (gv 1) (fldD CM "player")) eqD) (andV (PD.b2 (PD.b1 (gv 0) (fldD CM "needs")) (PD.b1 (gv 1) (fldD CM "needs")) eqD) (andV (PD.b2 (PD.b1 (gv 0) (fldD CM "changes")) (PD.b1 (gv 1) (fldD CM "changes")) eqD) (andV (PD.b2 (PD.b1 (gv 0) (fldD CM "sign")) (PD.b1 (gv 1) (fldD CM "sign")) eqD) (PD.b2 (PD.b1 (gv 0) (fldD CM "foul")) (PD.b1 (gv 1) (fldD CM "foul")) eqD))))))))
noncomputable def gBld (CM BM : Addr) : Ev → Option Fl :=
    (sq (asg (gv 0) (gL 6 (gsC (gN 2) (gsC (gN 3) (gsC (gN 4) (gsC (gN 5) (gsC (gN 6) (gsC (gN 7) gsN))))))))
    (sq (ifS (andT (asB (gv 1)) (andT (asB (PD.b2 (gv 6) kN isN)) (notT (asB (gv 7))))) (rtX (xMk (aCons (gv 2) (aCons (gv 3) (aCons (gv 4) (aCons (gv 5) aNil)))) 4 [.non, .bl false] (runIX CM 10 (gMvI CM BM)))) skip)
    (sq (ifS (andT (asB (gv 1)) (asB (PD.b2 (gv 6) kN isN))) (rtX (xMkG (aCons (gv 2) (aCons (gv 3) (aCons (gv 4) (aCons (gv 5) aNil)))) (aCons (gv 7) aNil) 4 1 (fun as bs => gMW as [.non] bs) (runIX CM 10 (gMvI CM BM)))) skip)
    (sq (ifS (andT (asB (gv 1)) (notT (asB (gv 7)))) (rtX (xMkG (aCons (gv 2) (aCons (gv 3) (aCons (gv 4) (aCons (gv 5) aNil)))) (aCons (gv 6) aNil) 4 1 (fun as bs => gWM as [.bl false] bs) (runIX CM 10 (gMvI CM BM)))) skip)
    (rtX (xMkK' (aCons (gv 2) (aCons (gv 3) (aCons (gv 4) (aCons (gv 5) (aCons (gv 6) (aCons (gv 7) aNil)))))) 6 (fun as bs => gWM as [] bs) (runIX CM 10 (gMvI CM BM))))))))
end GA

/-! the law's names -/
namespace GA
open PySem PySem.Spec L2 PD
theorem lnm_run {s : Str} (hl : s.length ≤ 900) : runP 2 gLNm [.str s] = some (.bl (nmB s.cps.toList)) := by
  have ls : s.cps.toList.length = s.length := str_len s
  refine runP_eq ?_
  unfold gLNm
  show Rn _ [.dat (.str s), .unk] _
  refine Rn.sqfor (xs := s.cps.toList) (φ := fun c => .str ⟨#[c]⟩) (show iOf (gv 0) [.dat (.str s), .unk] = some (s.cps.toList.map fun c => .str ⟨#[c]⟩) from rfl) (fun j ρ => (∃ x, ρ = [.dat (.str s), x]) ∧ ∀ c ∈ s.cps.toList.take j, c ∈ ABC.cps.toList) ⟨⟨_, rfl⟩, fun c hc => by simp at hc⟩ (fun j hj ρ hI => ?_) (fun ρ hI => ?_)
  · obtain ⟨⟨x, rfl⟩, ha⟩ := hI
    refine ⟨[.dat (.str s), .dat (.str ⟨#[s.cps.toList[j]]⟩)], rfl, ?_⟩
    have ht : asB (PD.b2 (gv 1) (kS "abcdefghijklmnopqrstuvwxyz") ninD) [.dat (.str s), .dat (.str ⟨#[s.cps.toList[j]]⟩)] = some (decide (s.cps.toList[j] ∉ ABC.cps.toList)) := by
      have e0 : PD.b2 (gv 1) (kS "abcdefghijklmnopqrstuvwxyz") ninD [.dat (.str s), .dat (.str ⟨#[s.cps.toList[j]]⟩)] = some (.bl (decide (s.cps.toList[j] ∉ ABC.cps.toList))) := by
        show some (D.bl (!Txt.has ABC ⟨#[s.cps.toList[j]]⟩)) = _
        rw [has_sign, decide_not]
      unfold asB
      rw [e0]
    refine Rn.ite ht (fun hn => ?_) fun hn => ?_
    · have : nmB s.cps.toList = false := by
        unfold nmB
        rw [show (s.cps.toList.all fun c => decide (c ∈ ABC.cps.toList)) = false from by
          rw [List.all_eq_false]
          exact ⟨_, List.getElem_mem hj, by simpa using hn⟩]
        simp
      rw [this]
      exact Rn.ret (d := .bl false) rfl ⟨_, rfl, rfl⟩
    · refine ⟨_, rfl, ⟨⟨_, rfl⟩, fun c hc => ?_⟩⟩
      rw [List.take_add_one, List.getElem?_eq_getElem hj] at hc
      rcases List.mem_append.mp hc with hc | hc
      · exact ha c hc
      · rw [List.mem_singleton.mp hc]
        simpa using hn
  · obtain ⟨⟨x, rfl⟩, ha⟩ := hI
    rw [List.take_length] at ha
    have hlen : lenD [.str s] = some (.int s.length) := ev_lenS (by omega)
    have e1 : PD.b2 (cB (aCons (gv 0) aNil) lenD) (kI 0) gtI [.dat (.str s), x] = some (.bl (decide (1 ≤ s.length))) := by
      unfold PD.b2
      rw [cB_of (f := lenD) (aC1 rfl) hlen, Option.bind_some]
      show some (D.bl (decide ((0 : Int) < (s.length : Int)))) = _
      rw [decide_eq_decide.mpr (show ((0 : Int) < (s.length : Int)) ↔ 1 ≤ s.length by omega)]
    have e2 : PD.b2 (cB (aCons (gv 0) aNil) lenD) (kI 13) ltI [.dat (.str s), x] = some (.bl (decide (s.length ≤ 12))) := by
      unfold PD.b2
      rw [cB_of (f := lenD) (aC1 rfl) hlen, Option.bind_some]
      show some (D.bl (decide ((s.length : Int) < 13))) = _
      rw [decide_eq_decide.mpr (show ((s.length : Int) < 13) ↔ s.length ≤ 12 by omega)]
    have e3 : nmB s.cps.toList = (decide (1 ≤ s.length) && decide (s.length ≤ 12)) := by
      unfold nmB
      rw [show (s.cps.toList.all fun c => decide (c ∈ ABC.cps.toList)) = true from List.all_eq_true.mpr fun c hc => decide_eq_true (ha c hc), ls, Bool.and_true]
    rw [e3]
    exact Rn.ret (d := .bl (decide (1 ≤ s.length) && decide (s.length ≤ 12))) (andV_of (a := decide (1 ≤ s.length)) (b := decide (s.length ≤ 12)) e1 fun _ => e2) ⟨_, rfl, rfl⟩
end GA

/-! where the dots stand -/
namespace GA
open PySem PySem.Spec L2 PD
def dts (l : List Nat) : List Nat := (List.range l.length).filter fun k => decide (l.getD k 0 = 46)
theorem dts_cons (x : Nat) (l : List Nat) : dts (x :: l) = (if x = 46 then [0] else []) ++ (dts l).map (· + 1) := by
  unfold dts
  rw [List.length_cons, List.range_succ_eq_map, List.filter_cons, List.filter_map]
  have e : ((fun k => decide ((x :: l).getD k 0 = 46)) ∘ Nat.succ) = fun k => decide (l.getD k 0 = 46) := by
    funext k
    simp
  rw [e]
  by_cases h : x = 46
  · rw [if_pos h, if_pos (by simpa using h)]; rfl
  · rw [if_neg h, if_neg (by simpa using h)]; rfl
theorem sp_dts : ∀ l : List Nat, (sp 46 l).length = (dts l).length + 1
  | [] => rfl
  | x :: l => by
    have ih := sp_dts l
    rw [dts_cons, List.length_append, List.length_map]
    unfold sp
    by_cases h : x = 46
    · rw [if_pos h, if_pos h, List.length_cons, ih, List.length_singleton]; omega
    · rw [if_neg h, if_neg h]
      obtain ⟨p, ps, e⟩ := sp_ne 46 l
      rw [e] at ih ⊢
      simpa using ih
theorem dts_mem {l : List Nat} {k : Nat} : k ∈ dts l ↔ k < l.length ∧ l.getD k 0 = 46 := by
  unfold dts
  rw [List.mem_filter, List.mem_range, decide_eq_true_iff]
theorem dts_nil {l : List Nat} (h : dts l = []) : sp 46 l = [l] := sp_free fun hm => by
  obtain ⟨k, hk, e⟩ := List.mem_iff_getElem.mp hm
  have : k ∈ dts l := dts_mem.mpr ⟨hk, by rw [List.getD_eq_getElem?_getD, List.getElem?_eq_getElem hk]; exact e⟩
  rw [h] at this
  cases this
theorem dts_one {l : List Nat} {k : Nat} (h : dts l = [k]) : k < l.length ∧ sp 46 l = [l.take k, l.drop (k + 1)] := by
  obtain ⟨hk, e⟩ := dts_mem.mp (show k ∈ dts l by rw [h]; exact List.mem_cons_self)
  have e' : l[k] = 46 := by rw [List.getD_eq_getElem?_getD, List.getElem?_eq_getElem hk] at e; exact e
  have hl : l = l.take k ++ 46 :: l.drop (k + 1) := by
    rw [← e', List.getElem_cons_drop, List.take_append_drop]
  have ha : 46 ∉ l.take k := fun hm => by
    obtain ⟨j, hj, ej⟩ := List.mem_iff_getElem.mp hm
    rw [List.length_take] at hj
    have : j ∈ dts l := dts_mem.mpr ⟨by omega, by rw [List.getD_eq_getElem?_getD, List.getElem?_eq_getElem (by omega)]; rw [List.getElem_take] at ej; exact ej⟩
    rw [h] at this
    have := List.mem_singleton.mp this
    omega
  have hb : 46 ∉ l.drop (k + 1) := fun hm => by
    obtain ⟨j, hj, ej⟩ := List.mem_iff_getElem.mp hm
    rw [List.length_drop] at hj
    have : k + 1 + j ∈ dts l := dts_mem.mpr ⟨by omega, by rw [List.getD_eq_getElem?_getD, List.getElem?_eq_getElem (by omega)]; rw [List.getElem_drop] at ej; exact ej⟩
    rw [h] at this
    have := List.mem_singleton.mp this
    omega
  refine ⟨hk, ?_⟩
  conv => lhs; rw [hl]
  rw [sp_cut _ ha, sp_free hb]
theorem labB_dts (l : List Nat) : labB l = if dts l = [] then nmB l else match dts l with
    | [k] => nmB (l.take k) && nmB (l.drop (k + 1))
    | _ => false := by
  unfold labB
  by_cases h : dts l = []
  · rw [if_pos h, dts_nil h]; simp
  · rw [if_neg h]
    match e : dts l with
    | [] => exact absurd e h
    | [k] =>
      rw [(dts_one e).2]; simp
    | a :: b :: r =>
      have := sp_dts l
      rw [e, List.length_cons, List.length_cons] at this
      rw [decide_eq_false (by omega)]; rfl
end GA

/-! the law's labels -/
namespace GA
open PySem PySem.Spec L2 PD
theorem cut_to {l : List Nat} {k : Nat} (hk : k ≤ l.length) : cutD l none (some (k : Int)) = l.take k := by
  unfold cutD
  rw [HT.sIx_none, HT.sIx_nat, Nat.min_eq_left hk]; rfl
theorem cut_from {l : List Nat} {k : Nat} (hk : k ≤ l.length) : cutD l (some (k : Int)) none = l.drop k := by
  unfold cutD
  rw [HT.sIx_none, HT.sIx_nat, Nat.min_eq_left hk, List.take_of_length_le (by rw [List.length_drop]; omega)]
theorem llab_run {s : Str} (hl : s.length ≤ 900) : runP 3 gLLab [.str s] = some (.bl (labB s.cps.toList)) := by
  have ls : s.cps.toList.length = s.length := str_len s
  have hlen : lenD [.str s] = some (.int s.length) := ev_lenS (by omega)
  refine runP_eq ?_
  unfold gLLab
  show Rn _ [.dat (.str s), .unk, .unk] _
  have e0 := lc_fil (fi := rng1 (cB (aCons (gv 0) aNil) lenD)) (gt := gN 2) (t := asB (PD.b2 (PD.b2 (gv 0) (gv 2) ixD) (kS ".") eqD)) (f := gv 2) (vs := [2]) (ρ := [.dat (.str s), .unk, .unk]) (φ := fun k : Nat => .int (0 + (k : Int))) (fun k : Nat => .int (0 + (k : Int))) (fun k => decide (s.cps.toList.getD k 0 = 46)) (xs := List.range s.cps.toList.length) rfl
    (by show rng1 _ [.dat (.str s), .unk, .unk] = _; exact (rng1_of (n := s.length) (ρ := [.dat (.str s), .unk, .unk]) (fa := cB (aCons (gv 0) aNil) lenD) (cB_of (f := lenD) (aC1 (d := .str s) rfl) hlen) (by omega)).trans (by rw [ls]; exact congrArg some (rangeD_map 0 s.length))) (by rw [List.length_range]; omega) (fun k hk => by
      have hk' := List.mem_range.mp hk
      refine ⟨[.dat (.str s), .unk, .dat (.int (0 + (k : Int)))], rfl, asB_of ?_, fun _ => rfl⟩
      have ei : PD.b2 (gv 0) (gv 2) ixD [.dat (.str s), .unk, .dat (.int (0 + (k : Int)))] = some (.str ⟨#[s.cps.toList[k]]⟩) := by
        show (if s.length ≤ sizeLine then (atI s.cps.toList (0 + (k : Int))).map fun c => D.str ⟨#[c]⟩ else none) = _
        rw [if_pos (len_le (by omega)), Int.zero_add, atI_nat (List.getElem?_eq_getElem hk')]; rfl
      show (PD.b2 (gv 0) (gv 2) ixD [.dat (.str s), .unk, .dat (.int (0 + (k : Int)))]).bind (fun x => (kS "." _).bind fun y => eqD x y) = _
      rw [ei]
      show some (D.bl (decide ((⟨#[s.cps.toList[k]]⟩ : Str) = ⟨#[46]⟩))) = _
      rw [List.getD_eq_getElem?_getD, List.getElem?_eq_getElem hk']
      refine congrArg (fun b => some (D.bl b)) (decide_eq_decide.mpr ⟨fun e => ?_, fun e => ?_⟩)
      · have := congrArg (fun z : Str => z.cps.toList) e
        simpa using this
      · show (⟨#[s.cps.toList[k]]⟩ : Str) = ⟨#[46]⟩
        rw [show s.cps.toList[k] = 46 from e])
  refine Rn.sqst (d := .lst ((dts s.cps.toList).map fun k : Nat => .int (0 + (k : Int)))) e0 ?_
  show Rn _ [.dat (.str s), .dat (.lst ((dts s.cps.toList).map fun k : Nat => .int (0 + (k : Int)))), .unk] _
  have hn : lenD [.lst ((dts s.cps.toList).map fun k : Nat => .int (0 + (k : Int)))] = some (.int (dts s.cps.toList).length) := by
    rw [ev_lenL, List.length_map]
  have t0 : asB (PD.b2 (cB (aCons (gv 1) aNil) lenD) (kI 0) eqD) [.dat (.str s), .dat (.lst ((dts s.cps.toList).map fun k : Nat => .int (0 + (k : Int)))), .unk] = some (decide (dts s.cps.toList = [])) := by
    refine asB_of ?_
    unfold PD.b2
    rw [cB_of (f := lenD) (aC1 rfl) hn, Option.bind_some]
    show some (D.bl (decide (((dts s.cps.toList).length : Int) = 0))) = _
    rw [decide_eq_decide.mpr (show (((dts s.cps.toList).length : Int) = 0) ↔ dts s.cps.toList = [] by
      rw [← List.length_eq_zero_iff]; omega)]
  rw [labB_dts]
  refine Rn.sqif t0 (fun h0 => ?_) fun h0 => ?_
  · rw [if_pos h0]
    exact Rn.sqret (d := .bl (nmB s.cps.toList)) (cB_of (f := len? 1 (runP 2 gLNm)) (aC1 rfl) (lnm_run hl)) ⟨_, rfl, rfl⟩
  · rw [if_neg h0]
    refine Rn.sqskip ?_
    have t1 : PD.b2 (cB (aCons (gv 1) aNil) lenD) (kI 1) eqD [.dat (.str s), .dat (.lst ((dts s.cps.toList).map fun k : Nat => .int (0 + (k : Int)))), .unk] = some (.bl (decide ((dts s.cps.toList).length = 1))) := by
      unfold PD.b2
      rw [cB_of (f := lenD) (aC1 rfl) hn, Option.bind_some]
      show some (D.bl (decide (((dts s.cps.toList).length : Int) = 1))) = _
      rw [decide_eq_decide.mpr (show (((dts s.cps.toList).length : Int) = 1) ↔ (dts s.cps.toList).length = 1 by omega)]
    match e : dts s.cps.toList with
    | [] => exact absurd e h0
    | a :: b :: r =>
      rw [e] at t1
      refine Rn.ret (d := .bl false) ?_ ⟨_, rfl, rfl⟩
      exact (andV_of (a := decide ((a :: b :: r).length = 1)) (b := false) t1 (fun z => by simp at z)).trans (by simp)
    | [k] =>
      rw [e] at t1
      obtain ⟨hk, _⟩ := dts_one e
      refine Rn.ret (d := .bl (nmB (s.cps.toList.take k) && nmB (s.cps.toList.drop (k + 1)))) ?_ ⟨_, rfl, rfl⟩
      have c1 : runP 2 gLNm [.str (cutS s none (some (k : Int)))] = some (.bl (nmB (s.cps.toList.take k))) := by
        have h := lnm_run (s := cutS s none (some (k : Int))) (by rw [← str_len, cutS_codes, cut_to (by omega), List.length_take]; omega)
        rw [cutS_codes, cut_to (by omega)] at h
        exact h
      have c2 : runP 2 gLNm [.str (cutS s (some ((k + 1 : Nat) : Int)) none)] = some (.bl (nmB (s.cps.toList.drop (k + 1)))) := by
        have h := lnm_run (s := cutS s (some ((k + 1 : Nat) : Int)) none) (by rw [← str_len, cutS_codes, cut_from (by omega), List.length_drop]; omega)
        rw [cutS_codes, cut_from (by omega)] at h
        exact h
      refine andV_of (a := true) (b := nmB (s.cps.toList.take k) && nmB (s.cps.toList.drop (k + 1))) (by rw [t1]; rfl) fun _ => ?_
      have g1 : ixD (.lst [.int (0 + (k : Int))]) (.int 0) = some (.int (k : Int)) := by
        show atI [D.int (0 + (k : Int))] ((0 : Nat) : Int) = _
        rw [atI_nat rfl, Int.zero_add]
      refine andV_of (cB_of (f := len? 1 (runP 2 gLNm)) (aC1 (slS_of (a := none) (b := some (k : Int)) rfl rfl (by
        unfold PD.part
        rw [show PD.b2 (gv 1) (kI 0) ixD [.dat (.str s), .dat (.lst ([k].map fun k : Nat => .int (0 + (k : Int)))), .unk] = some (.int (k : Int)) from g1]) (by omega))) c1) fun _ => ?_
      exact cB_of (f := len? 1 (runP 2 gLNm)) (aC1 (slS_of (a := some ((k + 1 : Nat) : Int)) (b := none) rfl (by
        have g2 : PD.b2 (PD.b2 (gv 1) (kI 0) ixD) (kI 1) addA [.dat (.str s), .dat (.lst ([k].map fun k : Nat => .int (0 + (k : Int)))), .unk] = some (.int ((k + 1 : Nat) : Int)) := by
          show (PD.b2 (gv 1) (kI 0) ixD [.dat (.str s), .dat (.lst ([k].map fun k : Nat => .int (0 + (k : Int)))), .unk]).bind (fun x => (kI 1 _).bind fun y => addA x y) = _
          rw [show PD.b2 (gv 1) (kI 0) ixD [.dat (.str s), .dat (.lst ([k].map fun k : Nat => .int (0 + (k : Int)))), .unk] = some (.int (k : Int)) from g1]; rfl
        unfold PD.part
        rw [g2]) rfl (by omega))) c2
end GA

/-! is_need at every need -/
namespace GA
open PySem PySem.Spec L2 PD
def limB (a : Lim) : Bool := match a with
  | none => true
  | some i => decide (0 ≤ i)
def ndB (n : Nd) : Bool := (labB n.1.cps.toList && !(n.2.1.isNone && n.2.2.isNone)) && (limB n.2.1 && limB n.2.2)
theorem lim_run (a : Lim) {ρ : Ev} {f : Ev → Option D} (hf : f ρ = some (oD a)) : orV (PD.b2 f kN isN) (PD.b2 f (kI 0) geI) ρ = some (.bl (limB a)) := by
  have e1 : PD.b2 f kN isN ρ = some (.bl a.isNone) := by
    unfold PD.b2
    rw [hf, Option.bind_some]
    exact isN_oD a
  cases a with
  | none => exact orV_of (a := true) (b := true) e1 fun h => nomatch h
  | some i =>
    refine (orV_of (a := false) (b := decide (0 ≤ i)) e1 fun _ => ?_).trans rfl
    unfold PD.b2
    rw [hf, Option.bind_some]
    rfl
theorem need_run {n : Nd} (h : n.1.length ≤ 900) : runP 4 gNeed [ndD n] = some (.bl (ndB n)) := by
  obtain ⟨c, lo, hi⟩ := n
  refine runP_eq ?_
  unfold gNeed
  show Rn _ [.dat (ndD (c, lo, hi)), .unk, .unk, .unk] _
  refine Rn.sq ⟨_, rfl, ?_⟩
  show Rn _ [.dat (ndD (c, lo, hi)), .dat (.str c), .dat (oD lo), .dat (oD hi)] _
  have e1 : asB (PD.b2 (gv 2) kN isN) [.dat (ndD (c, lo, hi)), .dat (.str c), .dat (oD lo), .dat (oD hi)] = some lo.isNone := by
    unfold asB
    rw [show PD.b2 (gv 2) kN isN [.dat (ndD (c, lo, hi)), .dat (.str c), .dat (oD lo), .dat (oD hi)] = isN (oD lo) .non from rfl, isN_oD]
  have e2 : asB (PD.b2 (gv 3) kN isN) [.dat (ndD (c, lo, hi)), .dat (.str c), .dat (oD lo), .dat (oD hi)] = some hi.isNone := by
    unfold asB
    rw [show PD.b2 (gv 3) kN isN [.dat (ndD (c, lo, hi)), .dat (.str c), .dat (oD lo), .dat (oD hi)] = isN (oD hi) .non from rfl, isN_oD]
  have e3 : notT (asB (cB (aCons (gv 1) aNil) (len? 1 (runP 3 gLabel)))) [.dat (ndD (c, lo, hi)), .dat (.str c), .dat (oD lo), .dat (oD hi)] = some (!labB c.cps.toList) := by
    unfold notT asB
    rw [cB_of (f := len? 1 (runP 3 gLabel)) (aC1 rfl) (label_run h)]; rfl
  have e4 := orT_of (a := !labB c.cps.toList) (b := lo.isNone && hi.isNone) e3 fun _ => andT_of e1 fun _ => e2
  cases hb : (!labB c.cps.toList || (lo.isNone && hi.isNone)) with
  | true =>
    rw [hb] at e4
    refine Rn.sqifT e4 ?_
    have e5 : ndB (c, lo, hi) = false := by
      unfold ndB
      show ((labB c.cps.toList && !(lo.isNone && hi.isNone)) && _) = false
      rw [show (labB c.cps.toList && !(lo.isNone && hi.isNone)) = !(!labB c.cps.toList || (lo.isNone && hi.isNone)) by cases labB c.cps.toList <;> simp, hb]; rfl
    rw [e5]
    exact Rn.sqret (d := .bl false) rfl ⟨_, rfl, rfl⟩
  | false =>
    rw [hb] at e4
    refine Rn.chk e4 ?_
    have e5 : ndB (c, lo, hi) = (limB lo && limB hi) := by
      unfold ndB
      show ((labB c.cps.toList && !(lo.isNone && hi.isNone)) && _) = _
      rw [show (labB c.cps.toList && !(lo.isNone && hi.isNone)) = !(!labB c.cps.toList || (lo.isNone && hi.isNone)) by cases labB c.cps.toList <;> simp, hb]; rfl
    rw [e5]
    exact Rn.ret (d := .bl (limB lo && limB hi)) (andV_of (a := limB lo) (b := limB hi) (lim_run lo rfl) fun _ => lim_run hi rfl) ⟨_, rfl, rfl⟩
end GA

namespace GA
open PySem PySem.Spec L2 PD
/-! ### Move(..) -/
theorem Rn.put {C : Addr} {i : Nat} {f : Str} {g : Ev → Option O} {ρ : Ev} {Q : Fl → Prop} {y : O} {ks ks' : List Str} {os os' : List O} (h0 : ρ[i]? = some (.obj C ks os)) (hy : g ρ = some y) (hl : os.length < 1000) (hp : putO f y ks os = (ks', os'))
    (q : Q (.nx (ρ.set i (.obj C ks' os')))) : Rn (put C i f g) ρ Q := by
  refine ⟨_, ?_, q⟩
  unfold PD.put
  rw [hy, Option.bind_some, h0]
  show (if C = C ∧ os.length < 1000 then some (Fl.nx (ρ.set i (.obj C (putO f y ks os).1 (putO f y ks os).2))) else none) = _
  rw [if_pos ⟨rfl, hl⟩, hp]
noncomputable def gMove (C : Addr) : Ev → Option Fl := (sq (ifS (notT (asB (cB (aCons (gv 1) aNil) (len? 1 (runP 3 gLabel))))) (fun _ => none) skip)
    (sq (ifS (notT (asB (cB (aCons (gv 2) aNil) (len? 1 (runP 3 gLabel))))) (fun _ => none) skip)
    (sq (ifS (notT (asB (cB (aCons (lcD (iOf (gv 3)) (gN 7) yes (cB (aCons (gv 7) aNil) (len? 1 (runP 4 gNeed))) [7]) aNil) allD))) (fun _ => none) skip)
    (sq (ifS (notT (asB (cB (aCons (lcD (iOf (gv 4)) (gT 2 (gsC (gN 8) (gsC (gN 9) gsN))) yes (cB (aCons (gv 8) aNil) (len? 1 (runP 3 gLabel))) [8, 9]) aNil) allD))) (fun _ => none) skip)
    (sq (ifS (andT (asB (b2 (gv 5) kN notN)) (notT (asB (cB (aCons (gv 5) aNil) (len? 1 (runP 3 gLabel)))))) (fun _ => none) skip)
    (sq (put C 0 "name" (thaw (gv 1)))
    (sq (put C 0 "player" (thaw (gv 2)))
    (sq (put C 0 "needs" (thaw (cB (aCons (gv 3) aNil) (len? 1 (runP 7 gMergedN)))))
    (sq (put C 0 "changes" (thaw (cB (aCons (gv 4) aNil) (len? 1 (runP 4 gMergedC)))))
    (sq (put C 0 "sign" (thaw (gv 5)))
    (put C 0 "foul" (thaw (gv 6)))))))))))))
def sgD : Option Str → D
  | none => .non
  | some s => .str s
/-- a move as it is asked for -/
structure Mv where
  name : Str
  player : Str
  needs : List Nd
  changes : List Ch
  sign : Option Str
  foul : Bool
structure MvOk (m : Mv) : Prop where
  name : Lab m.name
  player : Lab m.player
  needs : ∀ n ∈ m.needs, NdOk n
  changes : ∀ n ∈ m.changes, Lab n.1
  sign : ∀ s, m.sign = some s → Lab s
  fewN : m.needs.length ≤ 500
  fewC : m.changes.length ≤ 500
abbrev mvK : List Str := ["name", "player", "needs", "changes", "sign", "foul"]
def mvV (m : Mv) : List D := [.str m.name, .str m.player, .tup ((mns m.needs).map ndD), .tup ((mcs m.changes).map chD), sgD m.sign, .bl m.foul]
def mvD (C : Addr) (m : Mv) : D := .obj C mvK (mvV m)
theorem asB_of {f : Ev → Option D} {ρ : Ev} {b : Bool} (h : f ρ = some (.bl b)) : asB f ρ = some b := by
  unfold asB
  rw [h]
theorem notT_of {f : Ev → Option Bool} {ρ : Ev} {b : Bool} (h : f ρ = some b) : notT f ρ = some (!b) := by
  unfold notT
  rw [h]; rfl
end GA

/-! Move.__init__ at everything: which check falls first -/
namespace GA
open PySem PySem.Spec L2 PD
theorem runIX_of {C : Addr} {n : Nat} {b : Ev → Option Fl} {ds : List D} {z : Rz} (h : Rn b (envI C n ds) fun r => outIX r = some z) : runIX C n b ds = some z := by
  obtain ⟨r, e, q⟩ := h
  unfold runIX
  rw [e, Option.bind_some]; exact q
def fallM (m : Mv) : Option Str :=
  if labB m.name.cps.toList = false then some "name" else if labB m.player.cps.toList = false then some "player" else if m.needs.all ndB = false then some "needs"
  else if (m.changes.all fun c => labB c.1.cps.toList) = false then some "changes" else match m.sign with
    | some s => if labB s.cps.toList = false then some "sign" else none
    | none => none
structure MvFew (m : Mv) : Prop where
  name : m.name.length ≤ 900
  player : m.player.length ≤ 900
  fewN : m.needs.length ≤ 500
  fewC : m.changes.length ≤ 500
  needs : ∀ n ∈ m.needs, n.1.length ≤ 900
  changes : ∀ c ∈ m.changes, c.1.length ≤ 900
  sign : ∀ s, m.sign = some s → s.length ≤ 900
theorem Rn.fall {c : Ev → Option Bool} {BM : Addr} {p : Str} {g : Ev → Option Fl} {ρ : Ev} {z : Rz} {b : Bool} (hc : c ρ = some (!b)) (hr : b = false → z = .ex ⟨.ref BM, some (["part"], [.str p])⟩) (hk : b = true → Rn g ρ fun r => outIX r = some z) : Rn (PD.sq (ifS c (raiS BM ["part"] (aCons (kS p) aNil)) skip) g) ρ fun r => outIX r = some z := by
  cases b with
  | false => exact Rn.sqifT hc (Rn.sq ⟨_, rfl, by rw [hr rfl]; rfl⟩)
  | true => exact Rn.chk hc (hk rfl)
theorem mvI_run (C BM : Addr) {m : Mv} {dn dc : D} (hn : seqD dn = some (m.needs.map ndD)) (hc : seqD dc = some (m.changes.map chD)) (F : MvFew m) :
    runIX C 10 (gMvI C BM) [.str m.name, .str m.player, dn, dc, sgD m.sign, .bl m.foul] = some (match fallM m with
      | some p => .ex ⟨.ref BM, some (["part"], [.str p])⟩
      | none => .ok (.obj C mvK ((mvV m).map .dat))) := by
  obtain ⟨name, player, needs, changes, sign, foul⟩ := m
  refine runIX_of ?_
  unfold gMvI
  show Rn _ [.obj C [] [], .dat (.str name), .dat (.str player), .dat dn, .dat dc, .dat (sgD sign), .dat (.bl foul), .unk, .unk, .unk] _
  have lab : ∀ {s : Str} {ρ : Ev} {k : Nat}, s.length ≤ 900 → gv k ρ = some (.str s) → notT (asB (cB (aCons (gv k) aNil) (len? 1 (runP 3 gLabel)))) ρ = some (!labB s.cps.toList) := fun hs hk => notT_of (asB_of (cB_of (f := len? 1 (runP 3 gLabel)) (aC1 hk) (label_run hs)))
  refine Rn.fall (lab F.name rfl) (fun e => by simp [fallM, e]) fun b1 => ?_
  refine Rn.fall (lab F.player rfl) (fun e => by simp [fallM, b1, e]) fun b2 => ?_
  refine Rn.fall (b := needs.all ndB) (notT_of (asB_of (cB_of (f := allD) (aC1 (lc_map (gt := gN 7) (vs := [7]) (φ := ndD) (fun n => .bl (ndB n)) (xs := needs) rfl (by
    show (some dn).bind seqD = _
    exact hn) (by have := F.fewN; simp only at this; omega) fun n hn => ⟨_, rfl, cB_of (f := len? 1 (runP 4 gNeed)) (aC1 rfl) (need_run (F.needs n hn))⟩)) (all_map_bl needs ndB)))) (fun e => by simp only [fallM, b1, b2, e]; simp) fun b3 => ?_
  refine Rn.fall (b := changes.all fun c => labB c.1.cps.toList) (notT_of (asB_of (cB_of (f := allD) (aC1 (lc_map (gt := gT 2 (gsC (gN 8) (gsC (gN 9) gsN))) (vs := [8, 9]) (φ := chD) (fun c => .bl (labB c.1.cps.toList)) (xs := changes) rfl (by
    show (some dc).bind seqD = _
    exact hc) (by have := F.fewC; simp only at this; omega) fun n hn => ⟨_, rfl, cB_of (f := len? 1 (runP 3 gLabel)) (aC1 rfl) (label_run (F.changes n hn))⟩)) (all_map_bl changes fun c => labB c.1.cps.toList)))) (fun e => by simp only [fallM, b1, b2, b3, e]; simp) fun b4 => ?_
  refine Rn.fall (b := match sign with | some s => labB s.cps.toList | none => true) (by
    cases sign with
    | none => exact andT_of (a := false) (b := false) rfl fun e => nomatch e
    | some s => exact andT_of (a := true) (b := !labB s.cps.toList) rfl fun _ => lab (F.sign s rfl) rfl) (fun e => by
    cases sign with
    | none => cases e
    | some s => simp only [fallM, b1, b2, b3, b4]; simp only at e; rw [e]; simp) fun b5 => ?_
  have hf : fallM ⟨name, player, needs, changes, sign, foul⟩ = none := by
    simp only [fallM, b1, b2, b3, b4]
    cases sign with
    | none => simp
    | some s => simp only at b5; simp [b5]
  rw [hf]
  have en := merged_eq (d := dn) (ns := needs) hn F.fewN
  have ec := mergedC_eq (d := dc) (ns := changes) hc F.fewC
  refine Rn.sq (Rn.put (y := .dat (.str name)) (ks := []) (os := []) (ks' := ["name"]) (os' := [.dat (.str name)]) rfl rfl (by simp) rfl ?_)
  refine Rn.sq (Rn.put (y := .dat (.str player)) (ks := ["name"]) (os := [.dat (.str name)]) (ks' := ["name", "player"]) (os' := [.dat (.str name), .dat (.str player)]) rfl rfl (by simp) rfl ?_)
  refine Rn.sq (Rn.put (y := .dat (.tup ((mns needs).map ndD))) (ks := ["name", "player"]) (os := [.dat (.str name), .dat (.str player)]) (ks' := ["name", "player", "needs"]) (os' := [.dat (.str name), .dat (.str player), .dat (.tup ((mns needs).map ndD))]) rfl (by
    unfold thaw
    rw [cB_of (f := len? 1 (runP 7 gMergedN)) (aC1 (f := gv 3) rfl) en]; rfl) (by simp) rfl ?_)
  refine Rn.sq (Rn.put (y := .dat (.tup ((mcs changes).map chD))) (ks := ["name", "player", "needs"]) (os := [.dat (.str name), .dat (.str player), .dat (.tup ((mns needs).map ndD))]) (ks' := ["name", "player", "needs", "changes"]) (os' := [.dat (.str name), .dat (.str player), .dat (.tup ((mns needs).map ndD)), .dat (.tup ((mcs changes).map chD))]) rfl (by
    unfold thaw
    rw [cB_of (f := len? 1 (runP 4 gMergedC)) (aC1 (f := gv 4) rfl) ec]; rfl) (by simp) rfl ?_)
  refine Rn.sq (Rn.put (y := .dat (sgD sign)) (ks := ["name", "player", "needs", "changes"]) (os := [.dat (.str name), .dat (.str player), .dat (.tup ((mns needs).map ndD)), .dat (.tup ((mcs changes).map chD))]) (ks' := ["name", "player", "needs", "changes", "sign"]) (os' := [.dat (.str name), .dat (.str player), .dat (.tup ((mns needs).map ndD)), .dat (.tup ((mcs changes).map chD)), .dat (sgD sign)]) rfl rfl (by simp) rfl ?_)
  exact Rn.put (y := .dat (.bl foul)) (ks := ["name", "player", "needs", "changes", "sign"]) (os := [.dat (.str name), .dat (.str player), .dat (.tup ((mns needs).map ndD)), .dat (.tup ((mcs changes).map chD)), .dat (sgD sign)]) (ks' := ["name", "player", "needs", "changes", "sign", "foul"]) (os' := [.dat (.str name), .dat (.str player), .dat (.tup ((mns needs).map ndD)), .dat (.tup ((mcs changes).map chD)), .dat (sgD sign), .dat (.bl foul)]) rfl rfl (by simp) rfl rfl
end GA

/-! what the law says is refused -/
namespace GA
open PySem PySem.Spec L2 PD
def fallD (o : Option Str) : D := match o with
  | some p => .str p
  | none => .non
theorem neg_run (a : Lim) {ρ : Ev} {f : Ev → Option D} (hf : f ρ = some (oD a)) : andT (asB (PD.b2 f kN notN)) (asB (PD.b2 f (kI 0) ltI)) ρ = some (!limB a) := by
  cases a with
  | none =>
    refine (andT_of (a := false) (b := false) (asB_of ?_) fun e => nomatch e).trans rfl
    unfold PD.b2
    rw [hf]; rfl
  | some i =>
    refine (andT_of (a := true) (b := decide (i < 0)) (asB_of ?_) fun _ => asB_of ?_).trans ?_
    · unfold PD.b2
      rw [hf]; rfl
    · unfold PD.b2
      rw [hf]; rfl
    · show some (decide (i < 0)) = some (!decide (0 ≤ i))
      rw [← decide_not]
      exact congrArg some (decide_eq_decide.mpr (by omega))
theorem lref_run {m : Mv} {dn dc w : D} (hn : seqD dn = some (m.needs.map ndD)) (hc : seqD dc = some (m.changes.map chD)) (F : MvFew m) :
    runP 11 gLRef [.lst [.str m.name, .str m.player, dn, dc, sgD m.sign, w]] = some (fallD (fallM m)) := by
  obtain ⟨name, player, needs, changes, sign, foul⟩ := m
  refine runP_eq ?_
  unfold gLRef
  generalize hd : D.lst [.str name, .str player, dn, dc, sgD sign, w] = dd
  show Rn _ [.dat dd, .unk, .unk, .unk, .unk, .unk, .unk, .unk, .unk, .unk, .unk] _
  refine Rn.sq ⟨.nx [.dat dd, .dat (.str name), .dat (.str player), .dat dn, .dat dc, .dat (sgD sign), .dat w, .unk, .unk, .unk, .unk], by subst hd; rfl, ?_⟩
  have lab : ∀ {s : Str} {ρ : Ev} {k : Nat}, s.length ≤ 900 → gv k ρ = some (.str s) → notT (asB (cB (aCons (gv k) aNil) (len? 1 (runP 3 gLLab)))) ρ = some (!labB s.cps.toList) := fun hs hk => notT_of (asB_of (cB_of (f := len? 1 (runP 3 gLLab)) (aC1 hk) (llab_run hs)))
  cases b1 : labB name.cps.toList with
  | false =>
    refine Rn.sqifT (by rw [lab F.name rfl, b1]; rfl) (Rn.sqret (d := .str "name") rfl ⟨_, rfl, ?_⟩)
    simp [fallM, b1, fallD]; rfl
  | true =>
  refine Rn.chk (by rw [lab F.name rfl, b1]; rfl) ?_
  cases b2 : labB player.cps.toList with
  | false =>
    refine Rn.sqifT (by rw [lab F.player rfl, b2]; rfl) (Rn.sqret (d := .str "player") rfl ⟨_, rfl, ?_⟩)
    simp [fallM, b1, b2, fallD]; rfl
  | true =>
  refine Rn.chk (by rw [lab F.player rfl, b2]; rfl) ?_
  refine Rn.sqfor (xs := needs) (φ := ndD) (by show (some dn).bind seqD = _; exact hn) (fun j ρ => (∃ x7 x8 x9, ρ = [.dat dd, .dat (.str name), .dat (.str player), .dat dn, .dat dc, .dat (sgD sign), .dat w, x7, x8, x9, .unk]) ∧ ∀ n ∈ needs.take j, ndB n = true) ⟨⟨_, _, _, rfl⟩, fun n hn => by simp at hn⟩ (fun j hj ρ hI => ?_) (fun ρ hI => ?_)
  · obtain ⟨⟨x7, x8, x9, rfl⟩, ha⟩ := hI
    obtain ⟨⟨c, lo, hi⟩, hnj⟩ : ∃ n, needs[j] = n := ⟨_, rfl⟩
    rw [hnj]
    have hlen : c.length ≤ 900 := by
      have := F.needs needs[j] (List.getElem_mem hj)
      rw [hnj] at this; exact this
    refine ⟨[.dat dd, .dat (.str name), .dat (.str player), .dat dn, .dat dc, .dat (sgD sign), .dat w, .dat (.str c), .dat (oD lo), .dat (oD hi), .unk], rfl, ?_⟩
    have bad : ndB (c, lo, hi) = false → outO (.rt (.dat (.str "needs")) [.dat dd, .dat (.str name), .dat (.str player), .dat dn, .dat dc, .dat (sgD sign), .dat w, .dat (.str c), .dat (oD lo), .dat (oD hi), .unk]) = some (.dat (fallD (fallM ⟨name, player, needs, changes, sign, foul⟩))) := fun e => by
      have hall : needs.all ndB = false := by
        rw [List.all_eq_false]
        exact ⟨_, List.getElem_mem hj, by rw [hnj, e]; simp⟩
      simp only [fallM, b1, b2, hall]
      rfl
    have e1 : asB (PD.b2 (gv 8) kN isN) [.dat dd, .dat (.str name), .dat (.str player), .dat dn, .dat dc, .dat (sgD sign), .dat w, .dat (.str c), .dat (oD lo), .dat (oD hi), .unk] = some lo.isNone := asB_of (isN_oD lo)
    have e2 : asB (PD.b2 (gv 9) kN isN) [.dat dd, .dat (.str name), .dat (.str player), .dat dn, .dat dc, .dat (sgD sign), .dat w, .dat (.str c), .dat (oD lo), .dat (oD hi), .unk] = some hi.isNone := asB_of (isN_oD hi)
    have e4 := orT_of (a := !labB c.cps.toList) (b := lo.isNone && hi.isNone) (lab (k := 7) (ρ := [.dat dd, .dat (.str name), .dat (.str player), .dat dn, .dat dc, .dat (sgD sign), .dat w, .dat (.str c), .dat (oD lo), .dat (oD hi), .unk]) hlen rfl) fun _ => andT_of e1 fun _ => e2
    have e5 := orT_of (a := !limB lo) (b := !limB hi) (neg_run lo (f := gv 8) (ρ := [.dat dd, .dat (.str name), .dat (.str player), .dat dn, .dat dc, .dat (sgD sign), .dat w, .dat (.str c), .dat (oD lo), .dat (oD hi), .unk]) rfl) fun _ => neg_run hi (f := gv 9) rfl
    cases hb : (!labB c.cps.toList || (lo.isNone && hi.isNone)) with
    | true =>
      rw [hb] at e4
      refine Rn.sqifT e4 (Rn.sqret (d := .str "needs") rfl ⟨_, bad ?_, rfl⟩)
      unfold ndB
      show ((labB c.cps.toList && !(lo.isNone && hi.isNone)) && _) = false
      rw [show (labB c.cps.toList && !(lo.isNone && hi.isNone)) = !(!labB c.cps.toList || (lo.isNone && hi.isNone)) by cases labB c.cps.toList <;> simp, hb]; rfl
    | false =>
      rw [hb] at e4
      refine Rn.chk e4 ?_
      have e6 : ndB (c, lo, hi) = (limB lo && limB hi) := by
        unfold ndB
        show ((labB c.cps.toList && !(lo.isNone && hi.isNone)) && _) = _
        rw [show (labB c.cps.toList && !(lo.isNone && hi.isNone)) = !(!labB c.cps.toList || (lo.isNone && hi.isNone)) by cases labB c.cps.toList <;> simp, hb]; rfl
      cases hb2 : (!limB lo || !limB hi) with
      | true =>
        rw [hb2] at e5
        refine Rn.ite e5 (fun _ => Rn.ret (d := .str "needs") rfl ⟨_, bad ?_, rfl⟩) fun z => nomatch z
        rw [e6]
        revert hb2; cases limB lo <;> cases limB hi <;> simp
      | false =>
        rw [hb2] at e5
        refine Rn.ite e5 (fun z => nomatch z) fun _ => ⟨_, rfl, ⟨⟨_, _, _, rfl⟩, fun n hn => ?_⟩⟩
        rw [List.take_add_one, List.getElem?_eq_getElem hj, hnj] at hn
        rcases List.mem_append.mp hn with hn | hn
        · exact ha n hn
        · rw [List.mem_singleton.mp hn, e6]
          revert hb2; cases limB lo <;> cases limB hi <;> simp
  · obtain ⟨⟨x7, x8, x9, rfl⟩, ha⟩ := hI
    rw [List.take_length] at ha
    have b3 : needs.all ndB = true := List.all_eq_true.mpr ha
    refine Rn.sqfor (xs := changes) (φ := chD) (by show (some dc).bind seqD = _; exact hc) (fun j ρ => (∃ y7 y10, ρ = [.dat dd, .dat (.str name), .dat (.str player), .dat dn, .dat dc, .dat (sgD sign), .dat w, y7, x8, x9, y10]) ∧ ∀ c ∈ changes.take j, labB c.1.cps.toList = true) ⟨⟨_, _, rfl⟩, fun n hn => by simp at hn⟩ (fun j hj ρ hI => ?_) (fun ρ hI => ?_)
    · obtain ⟨⟨y7, y10, rfl⟩, hb⟩ := hI
      obtain ⟨⟨c, k⟩, hcj⟩ : ∃ n, changes[j] = n := ⟨_, rfl⟩
      rw [hcj]
      have hlen : c.length ≤ 900 := by
        have := F.changes changes[j] (List.getElem_mem hj)
        rw [hcj] at this; exact this
      refine ⟨[.dat dd, .dat (.str name), .dat (.str player), .dat dn, .dat dc, .dat (sgD sign), .dat w, .dat (.str c), x8, x9, .dat (.int k)], rfl, ?_⟩
      have ht := lab (k := 7) (ρ := [.dat dd, .dat (.str name), .dat (.str player), .dat dn, .dat dc, .dat (sgD sign), .dat w, .dat (.str c), x8, x9, .dat (.int k)]) hlen rfl
      cases hl : labB c.cps.toList with
      | false =>
        rw [hl] at ht
        refine Rn.ite ht (fun _ => Rn.ret (d := .str "changes") rfl ⟨_, rfl, ?_⟩) fun z => nomatch z
        have hall : (changes.all fun c => labB c.1.cps.toList) = false := by
          rw [List.all_eq_false]
          exact ⟨_, List.getElem_mem hj, by rw [hcj]; simp [hl]⟩
        simp only [fallM, b1, b2, b3, hall]
        rfl
      | true =>
        rw [hl] at ht
        refine Rn.ite ht (fun z => nomatch z) fun _ => ⟨_, rfl, ⟨⟨_, _, rfl⟩, fun n hn => ?_⟩⟩
        rw [List.take_add_one, List.getElem?_eq_getElem hj, hcj] at hn
        rcases List.mem_append.mp hn with hn | hn
        · exact hb n hn
        · rw [List.mem_singleton.mp hn]; exact hl
    · obtain ⟨⟨y7, y10, rfl⟩, hb⟩ := hI
      rw [List.take_length] at hb
      have b4 : (changes.all fun c => labB c.1.cps.toList) = true := List.all_eq_true.mpr hb
      cases sign with
      | none =>
        refine Rn.chk (andT_of (a := false) (b := false) rfl fun e => nomatch e) (Rn.ret (d := .non) rfl ⟨_, rfl, ?_⟩)
        simp only [fallM, b1, b2, b3, b4]
        rfl
      | some s =>
        have ht := andT_of (f := asB (PD.b2 (gv 5) kN notN)) (ρ := [.dat dd, .dat (.str name), .dat (.str player), .dat dn, .dat dc, .dat (sgD (some s)), .dat w, y7, x8, x9, y10]) (a := true) (b := !labB s.cps.toList) rfl fun _ => lab (k := 5) (F.sign s rfl) rfl
        cases hl : labB s.cps.toList with
        | false =>
          rw [hl] at ht
          refine Rn.sqifT ht (Rn.sqret (d := .str "sign") rfl ⟨_, rfl, ?_⟩)
          simp only [fallM, b1, b2, b3, b4, hl]
          rfl
        | true =>
          rw [hl] at ht
          refine Rn.chk ht (Rn.ret (d := .non) rfl ⟨_, rfl, ?_⟩)
          simp only [fallM, b1, b2, b3, b4, hl]
          rfl
end GA

/-! the order of texts; neighbours that are alike are left out -/
namespace GA
open PySem PySem.Spec L2 PD
theorem leS_eq (a b : Str) : leS a b = decide (a.cps.toList ≤ b.cps.toList) := by
  have := congrFun (congrFun (PySem.W.dataLe_str (β := Str) id) a) b
  exact this
theorem leS_total (a b : Str) : (leS a b || leS b a) = true := by
  rw [leS_eq, leS_eq, Bool.or_eq_true, decide_eq_true_iff, decide_eq_true_iff]
  exact List.le_total _ _
theorem leS_trans (a b c : Str) (h1 : leS a b = true) (h2 : leS b c = true) : leS a c = true := by
  rw [leS_eq, decide_eq_true_iff] at *
  exact List.le_trans h1 h2
theorem leS_anti {a b : Str} (h1 : leS a b = true) (h2 : leS b a = true) : a = b := by
  rw [leS_eq, decide_eq_true_iff] at *
  exact PySem.W.str_of_cps (List.le_antisymm h1 h2)
theorem srtS_sorted (l : List Str) : (srtS l).Pairwise fun a b => leS a b = true := List.pairwise_mergeSort leS_trans leS_total l
def adj : Option Str → List Str → List Str
  | _, [] => []
  | p, x :: xs => if p = some x then adj p xs else x :: adj (some x) xs
theorem adj_snoc (x : Str) : ∀ (xs : List Str) (p : Option Str), adj p (xs ++ [x]) = adj p xs ++ if xs.getLast?.or p = some x then [] else [x]
  | [], p => by
    show adj p [x] = [] ++ if (none : Option Str).or p = some x then [] else [x]
    rw [Option.none_or, List.nil_append]
    unfold adj
    by_cases h : p = some x
    · rw [if_pos h, if_pos h]; rfl
    · rw [if_neg h, if_neg h]; rfl
  | y :: ys, p => by
    have hg : ∀ q : Option Str, (y :: ys).getLast?.or p = ys.getLast?.or (some y) := fun q => by
      cases ys with
      | nil => rfl
      | cons z zs =>
        rw [List.getLast?_cons_cons]
        cases e : (z :: zs).getLast? with
        | none => simp at e
        | some w => rfl
    show adj p (y :: (ys ++ [x])) = _
    rw [hg none]
    unfold adj
    by_cases h : p = some y
    · rw [if_pos h, if_pos h, adj_snoc x ys p, h]
    · rw [if_neg h, if_neg h, adj_snoc x ys (some y)]; rfl
theorem adj_sub : ∀ (l : List Str) (p : Option Str), ∀ x ∈ adj p l, x ∈ l
  | [], _, _, h => h
  | y :: ys, p, x, h => by
    unfold adj at h
    split at h
    · exact List.mem_cons_of_mem _ (adj_sub ys p x h)
    · rcases List.mem_cons.mp h with rfl | h
      · exact List.mem_cons_self
      · exact List.mem_cons_of_mem _ (adj_sub ys _ x h)
theorem adj_mem : ∀ (l : List Str) (p : Option Str), ∀ x ∈ l, x ∈ adj p l ∨ p = some x
  | y :: ys, p, x, h => by
    unfold adj
    split
    · rename_i hp
      rcases List.mem_cons.mp h with rfl | h
      · exact .inr hp
      · exact adj_mem ys p x h
    · rcases List.mem_cons.mp h with rfl | h
      · exact .inl List.mem_cons_self
      · rcases adj_mem ys (some y) x h with h | h
        · exact .inl (List.mem_cons_of_mem _ h)
        · cases h
          exact .inl List.mem_cons_self
theorem adj_strict : ∀ (l : List Str) (p : Option Str), l.Pairwise (fun a b => leS a b = true) → (∀ q, p = some q → ∀ x ∈ l, leS q x = true) → (adj p l).Pairwise (fun a b => leS a b = true ∧ a ≠ b) ∧ ∀ q, p = some q → ∀ x ∈ adj p l, x ≠ q
  | [], p, _, _ => ⟨List.Pairwise.nil, fun _ _ _ h => nomatch h⟩
  | y :: ys, p, hs, hp => by
    obtain ⟨h1, h2⟩ := List.pairwise_cons.mp hs
    unfold adj
    split
    · exact adj_strict ys p h2 fun q e x hx => hp q e x (List.mem_cons_of_mem _ hx)
    · rename_i hne
      obtain ⟨h3, h4⟩ := adj_strict ys (some y) h2 fun q e x hx => by cases e; exact h1 x hx
      refine ⟨List.pairwise_cons.mpr ⟨fun z hz => ⟨h1 z (adj_sub ys _ z hz), fun e => h4 y rfl z hz e.symm⟩, h3⟩, fun q e x hx => ?_⟩
      rcases List.mem_cons.mp hx with rfl | hx
      · exact fun e2 => hne (by rw [e, e2])
      · intro e2
        subst e2
        have a1 := hp _ e y List.mem_cons_self
        have a2 := h1 _ (adj_sub ys _ _ hx)
        exact hne (by rw [e, leS_anti a1 a2])
theorem strict_uniq : ∀ {l m : List Str}, l.Pairwise (fun a b => leS a b = true ∧ a ≠ b) → m.Pairwise (fun a b => leS a b = true ∧ a ≠ b) → (∀ x, x ∈ l ↔ x ∈ m) → l = m
  | [], [], _, _, _ => rfl
  | [], y :: _, _, _, h => nomatch (h y).mpr List.mem_cons_self
  | x :: _, [], _, _, h => nomatch (h x).mp List.mem_cons_self
  | x :: xs, y :: ys, hl, hm, h => by
    obtain ⟨l1, l2⟩ := List.pairwise_cons.mp hl
    obtain ⟨m1, m2⟩ := List.pairwise_cons.mp hm
    have e : x = y := by
      rcases List.mem_cons.mp ((h x).mp List.mem_cons_self) with e | hx
      · exact e
      · rcases List.mem_cons.mp ((h y).mpr List.mem_cons_self) with e | hy
        · exact e.symm
        · exact leS_anti (l1 y hy).1 (m1 x hx).1
    subst e
    rw [strict_uniq l2 m2 fun z => ⟨fun hz => ?_, fun hz => ?_⟩]
    · rcases List.mem_cons.mp ((h z).mp (List.mem_cons_of_mem _ hz)) with e | hz2
      · exact absurd e.symm (l1 z hz).2
      · exact hz2
    · rcases List.mem_cons.mp ((h z).mpr (List.mem_cons_of_mem _ hz)) with e | hz2
      · exact absurd e.symm (m1 z hz).2
      · exact hz2
theorem srtS_strict {l : List Str} (nd : l.Nodup) : (srtS l).Pairwise fun a b => leS a b = true ∧ a ≠ b :=
  (srtS_sorted l).imp₂ (fun _ _ h1 h2 => ⟨h1, h2⟩) ((srtS_perm l).nodup_iff.mpr nd)
/-- sorted, alike neighbours left out: the sorted keys -/
theorem adj_keys {ss ks : List Str} (nd : ks.Nodup) (h : ∀ x, x ∈ ss ↔ x ∈ ks) : adj none (srtS ss) = srtS ks :=
  strict_uniq (adj_strict _ none (srtS_sorted ss) fun _ e => nomatch e).1 (srtS_strict nd) fun x => by
    rw [(srtS_perm ks).mem_iff, ← h, ← (srtS_perm ss).mem_iff]
    exact ⟨adj_sub _ _ x, fun hx => (adj_mem _ none x hx).elim id fun e => nomatch e⟩
end GA

namespace GA
open PySem PySem.Spec L2 PD
/-! ### what a move touches -/
theorem in_strs (x : Str) (ls : List Str) : inB (.str x) (.lst (ls.map .str)) = some (decide (x ∈ ls)) := by
  have hf : ((D.str x).flat && (ls.map D.str).all D.flat) = true := by
    rw [Bool.and_eq_true]
    refine ⟨rfl, List.all_eq_true.mpr fun d hd => ?_⟩
    obtain ⟨s, _, rfl⟩ := List.mem_map.mp hd
    rfl
  show (if ((D.str x).flat && (ls.map D.str).all D.flat) = true then some ((ls.map D.str).any fun z => z.same (.str x)) else none) = _
  rw [if_pos hf, List.any_map]
  congr 1
  rw [Bool.eq_iff_iff, List.any_eq_true, decide_eq_true_iff]
  constructor
  · rintro ⟨s, hs, e⟩
    have : s = x := of_decide_eq_true (show decide (s = x) = true from e)
    exact this ▸ hs
  · exact fun h => ⟨x, h, show decide (x = x) = true from decide_eq_true rfl⟩
theorem nin_strs (x : Str) (ls : List Str) : ninD (.str x) (.lst (ls.map .str)) = some (.bl (decide (x ∉ ls))) := by
  unfold ninD
  rw [in_strs]
  by_cases h : x ∈ ls <;> simp [h]
theorem mns_len (ns : List Nd) : (mns ns).length ≤ ns.length := by
  unfold mns
  rw [List.length_map, (srtS_perm _).length_eq, List.length_map]
  exact mN_len ns
theorem mcs_len (ns : List Ch) : (mcs ns).length ≤ ns.length := by
  unfold mcs
  rw [List.length_map]
  refine Nat.le_trans (List.length_filter_le _ _) ?_
  rw [(srtS_perm _).length_eq, List.length_map]
  exact mC_len ns
end GA

namespace GA
open PySem PySem.Spec L2 PD
/-! ### dict comprehensions run -/
/-! keys once -/
theorem mN_nodup (ns : List Nd) : ((mN ns).map (·.1)).Nodup := by
  have : ∀ (ns : List Nd) (M : List (Str × LL)), (M.map (·.1)).Nodup → ((ns.foldl stN M).map (·.1)).Nodup := fun ns => by
    induction ns with
    | nil => exact fun M h => h
    | cons n ns ih => exact fun M h => ih _ (pt_nodup h)
  exact this ns [] List.nodup_nil
theorem mC_nodup (ns : List Ch) : ((mC ns).map (·.1)).Nodup := by
  have : ∀ (ns : List Ch) (M : List (Str × Int)), (M.map (·.1)).Nodup → ((ns.foldl stC M).map (·.1)).Nodup := fun ns => by
    induction ns with
    | nil => exact fun M h => h
    | cons n ns ih => exact fun M h => ih _ (pt_nodup h)
  exact this ns [] List.nodup_nil
end GA

/-! merged needs and summed changes, counter by counter -/
namespace GA
open PySem PySem.Spec L2 PD
def lowsL (ns : List Nd) (c : Str) : List Int := (ns.filter fun n => decide (n.1 = c)).filterMap (·.2.1)
def highsL (ns : List Nd) (c : Str) : List Int := (ns.filter fun n => decide (n.1 = c)).filterMap (·.2.2)
def amtsL (cs : List Ch) (c : Str) : List Int := (cs.filter fun n => decide (n.1 = c)).map (·.2)
theorem max_snoc (l : List Int) (i : Int) : (l ++ [i]).max? = gmax l.max? (some i) := by
  cases l with
  | nil => rfl
  | cons x xs =>
    rw [List.cons_append, List.max?_cons', List.max?_cons', List.foldl_append]; rfl
theorem min_snoc (l : List Int) (i : Int) : (l ++ [i]).min? = lmin l.min? (some i) := by
  cases l with
  | nil => rfl
  | cons x xs =>
    rw [List.cons_append, List.min?_cons', List.min?_cons', List.foldl_append]; rfl
theorem gmax_none (a : Lim) : gmax a none = a := by cases a <;> rfl
theorem lmin_none (a : Lim) : lmin a none = a := by cases a <;> rfl
theorem lowsL_snoc (ns : List Nd) (n : Nd) (c : Str) : (lowsL (ns ++ [n]) c).max? = if n.1 = c then gmax (lowsL ns c).max? n.2.1 else (lowsL ns c).max? := by
  unfold lowsL
  rw [List.filter_append, List.filterMap_append]
  by_cases h : n.1 = c
  · rw [if_pos h, List.filter_cons_of_pos (by simpa using h)]
    cases e : n.2.1 with
    | none => simp [e, gmax_none]
    | some i =>
      rw [show List.filterMap (fun x : Nd => x.2.1) (n :: List.filter (fun n : Nd => decide (n.1 = c)) []) = [i] by simp [e]]
      exact max_snoc _ _
  · rw [if_neg h, List.filter_cons_of_neg (by simpa using h)]; simp
theorem highsL_snoc (ns : List Nd) (n : Nd) (c : Str) : (highsL (ns ++ [n]) c).min? = if n.1 = c then lmin (highsL ns c).min? n.2.2 else (highsL ns c).min? := by
  unfold highsL
  rw [List.filter_append, List.filterMap_append]
  by_cases h : n.1 = c
  · rw [if_pos h, List.filter_cons_of_pos (by simpa using h)]
    cases e : n.2.2 with
    | none => simp [e, lmin_none]
    | some i =>
      rw [show List.filterMap (fun x : Nd => x.2.2) (n :: List.filter (fun n : Nd => decide (n.1 = c)) []) = [i] by simp [e]]
      exact min_snoc _ _
  · rw [if_neg h, List.filter_cons_of_neg (by simpa using h)]; simp
theorem lk_vals (c : Str) (ns : List Nd) : (lk (mN ns) c).getD noL = ((lowsL ns c).max?, (highsL ns c).min?) := by
  suffices h : ∀ k, k ≤ ns.length → (lk (mN (ns.take k)) c).getD noL = ((lowsL (ns.take k) c).max?, (highsL (ns.take k) c).min?) by
    have := h ns.length (Nat.le_refl _)
    rwa [List.take_length] at this
  intro k
  induction k with
  | zero => intro _; rfl
  | succ k ih =>
    intro hk
    have ih := ih (by omega)
    rw [List.take_add_one, List.getElem?_eq_getElem (by omega : k < ns.length)]
    show (lk (mN (ns.take k ++ [ns[k]])) c).getD noL = _
    rw [mN_snoc, show (some ns[k]).toList = [ns[k]] from rfl, lowsL_snoc, highsL_snoc]
    unfold stN
    rw [lk_pt]
    by_cases h : c = ns[k].1
    · subst h
      rw [if_pos rfl, if_pos rfl, if_pos rfl, Option.getD_some, ih]
    · rw [if_neg h, if_neg fun e => h e.symm, if_neg fun e => h e.symm, ih]
theorem mN_mem (ns : List Nd) (c : Str) : c ∈ (mN ns).map (·.1) ↔ c ∈ ns.map (·.1) := by
  have : ∀ (ns : List Nd) (M : List (Str × LL)), c ∈ (ns.foldl stN M).map (·.1) ↔ c ∈ M.map (·.1) ∨ c ∈ ns.map (·.1) := fun ns => by
    induction ns with
    | nil => intro M; simp
    | cons n ns ih =>
      intro M
      rw [List.foldl_cons, ih]
      unfold stN
      rw [pt_keys]
      split
      · rename_i h
        have hm : n.1 ∈ M.map (·.1) := by
          refine Classical.byContradiction fun z => ?_
          rw [lk_none.mpr z] at h; cases h
        rw [List.map_cons, List.mem_cons]
        constructor
        · rintro (h1 | h1)
          · exact .inl h1
          · exact .inr (.inr h1)
        · rintro (h1 | rfl | h1)
          · exact .inl h1
          · exact .inl hm
          · exact .inr h1
      · rw [List.mem_append, List.mem_singleton, List.map_cons, List.mem_cons, or_assoc]
  have := this ns []
  simpa [mN] using this
theorem mC_mem (ns : List Ch) (c : Str) : c ∈ (mC ns).map (·.1) ↔ c ∈ ns.map (·.1) := by
  have : ∀ (ns : List Ch) (M : List (Str × Int)), c ∈ (ns.foldl stC M).map (·.1) ↔ c ∈ M.map (·.1) ∨ c ∈ ns.map (·.1) := fun ns => by
    induction ns with
    | nil => intro M; simp
    | cons n ns ih =>
      intro M
      rw [List.foldl_cons, ih]
      unfold stC
      rw [pt_keys]
      split
      · rename_i h
        have hm : n.1 ∈ M.map (·.1) := by
          refine Classical.byContradiction fun z => ?_
          rw [lk_none.mpr z] at h; cases h
        rw [List.map_cons, List.mem_cons]
        constructor
        · rintro (h1 | h1)
          · exact .inl h1
          · exact .inr (.inr h1)
        · rintro (h1 | rfl | h1)
          · exact .inl h1
          · exact .inl hm
          · exact .inr h1
      · rw [List.mem_append, List.mem_singleton, List.map_cons, List.mem_cons, or_assoc]
  have := this ns []
  simpa [mC] using this
theorem lk_sum (c : Str) (ns : List Ch) : (lk (mC ns) c).getD 0 = (amtsL ns c).sum := by
  have : ∀ (ns : List Ch) (M : List (Str × Int)), (lk (ns.foldl stC M) c).getD 0 = (lk M c).getD 0 + (amtsL ns c).sum := fun ns => by
    induction ns with
    | nil => intro M; simp [amtsL]
    | cons n ns ih =>
      intro M
      rw [List.foldl_cons, ih]
      unfold stC amtsL
      rw [lk_pt]
      by_cases h : c = n.1
      · subst h
        rw [if_pos rfl, List.filter_cons_of_pos (by simp)]
        simp only [Option.getD_some, List.map_cons, List.sum_cons]
        omega
      · rw [if_neg h, List.filter_cons_of_neg (by simpa using fun e => h e.symm)]
  have := this ns []
  simpa [mC, lk] using this
/-- the merged needs, said by the law's own road -/
theorem mns_adj (ns : List Nd) : mns ns = (adj none (srtS (ns.map (·.1)))).map fun c => (c, (lowsL ns c).max?, (highsL ns c).min?) := by
  rw [adj_keys (ks := (mN ns).map (·.1)) (mN_nodup ns) fun x => (mN_mem ns x).symm]
  unfold mns
  refine List.map_congr_left fun c _ => ?_
  rw [lk_vals]
theorem mcs_adj (ns : List Ch) : mcs ns = ((adj none (srtS (ns.map (·.1)))).filter fun c => decide ((amtsL ns c).sum ≠ 0)).map fun c => (c, (amtsL ns c).sum) := by
  rw [adj_keys (ks := (mC ns).map (·.1)) (mC_nodup ns) fun x => (mC_mem ns x).symm]
  unfold mcs
  have e : (fun c => decide ((lk (mC ns) c).getD 0 ≠ 0)) = fun c => decide ((amtsL ns c).sum ≠ 0) := by
    funext c
    rw [lk_sum]
  rw [e]
  refine List.map_congr_left fun c _ => ?_
  rw [lk_sum]
end GA

/-! the law's own merging -/
namespace GA
open PySem PySem.Spec L2 PD
theorem b2_of {f g : Ev → Option D} {op : D → D → Option D} {ρ : Ev} {x y z : D} (h1 : f ρ = some x) (h2 : g ρ = some y) (h3 : op x y = some z) : PD.b2 f g op ρ = some z := by
  unfold PD.b2
  rw [h1, Option.bind_some, h2]; exact h3
theorem ix_at {L : List Str} {j : Nat} (hj : j < L.length) : ixD (.lst (L.map .str)) (.int ((j : Nat) : Int)) = some (.str L[j]) := by
  show atI (L.map D.str) ((j : Nat) : Int) = _
  exact atI_nat (by rw [List.getElem?_map, List.getElem?_eq_getElem hj]; rfl)
theorem nb_run {L : List Str} {j : Nat} {ρ : Ev} (h2 : gv 2 ρ = some (.lst (L.map .str))) (h3 : gv 3 ρ = some (.int ((j : Nat) : Int))) (hj : j < L.length) :
    orT (asB (PD.b2 (gv 3) (kI 0) eqD)) (asB (PD.b2 (PD.b2 (gv 2) (gv 3) ixD) (PD.b2 (gv 2) (PD.b2 (gv 3) (kI 1) subI) ixD) neD)) ρ = some (decide ((L.take j).getLast? ≠ some L[j])) := by
  have e1 : asB (PD.b2 (gv 3) (kI 0) eqD) ρ = some (decide (j = 0)) := asB_of (b2_of h3 rfl (by
    show some (D.bl (decide ((j : Int) = 0))) = _
    rw [decide_eq_decide.mpr (show ((j : Int) = 0) ↔ j = 0 by omega)]))
  cases j with
  | zero => exact (orT_of (a := true) (b := true) e1 fun e => nomatch e).trans (by simp)
  | succ i =>
    have hl : (L.take (i + 1)).getLast? = some L[i] := by
      rw [List.getLast?_eq_getElem?, List.length_take, Nat.min_eq_left (by omega), List.getElem?_take, if_pos (by omega)]
      exact List.getElem?_eq_getElem (by omega)
    have e2 : asB (PD.b2 (PD.b2 (gv 2) (gv 3) ixD) (PD.b2 (gv 2) (PD.b2 (gv 3) (kI 1) subI) ixD) neD) ρ = some (!decide (L[i + 1] = L[i])) := by
      refine asB_of (b2_of (b2_of h2 h3 (ix_at hj)) (b2_of h2 (b2_of h3 rfl (z := .int ((i : Nat) : Int)) ?_) (ix_at (by omega))) (ne_str _ _))
      show subI (.int ((i + 1 : Nat) : Int)) (.int 1) = _
      show some (D.int (((i + 1 : Nat) : Int) - 1)) = _
      rw [show ((i + 1 : Nat) : Int) - 1 = ((i : Nat) : Int) by omega]
    refine (orT_of (a := false) (b := !decide (L[i + 1] = L[i])) e1 fun _ => e2).trans ?_
    rw [hl]
    refine congrArg some ?_
    rw [Bool.false_or, ← decide_not]
    refine decide_eq_decide.mpr ⟨fun h e => h (Option.some.inj e).symm, fun h e => h (by rw [e])⟩
theorem adj_take {L : List Str} {j : Nat} (hj : j < L.length) : adj none (L.take (j + 1)) = adj none (L.take j) ++ if decide ((L.take j).getLast? ≠ some L[j]) = true then [L[j]] else [] := by
  rw [List.take_add_one, List.getElem?_eq_getElem hj]
  show adj none (L.take j ++ [L[j]]) = _
  rw [adj_snoc, Option.or_none]
  by_cases h : (L.take j).getLast? = some L[j]
  · rw [if_pos h, if_neg (by simp [h])]
  · rw [if_neg h, if_pos (by simp [h])]
theorem adj_len : ∀ (l : List Str) (p : Option Str), (adj p l).length ≤ l.length
  | [], _ => Nat.le_refl _
  | y :: ys, p => by
    unfold adj
    split
    · exact Nat.le_succ_of_le (adj_len ys p)
    · exact Nat.succ_le_succ (adj_len ys _)
theorem lsum_run {d : D} {cs : List Ch} (hd : seqD d = some (cs.map chD)) (hl : cs.length ≤ 500) : runP 6 gLSum [d] = some (.tup ((mcs cs).map chD)) := by
  refine runP_eq ?_
  unfold gLSum
  show Rn _ [.dat d, .unk, .unk, .unk, .unk, .unk] _
  have it : ∀ ρ : Ev, gv 0 ρ = some d → iOf (gv 0) ρ = some (cs.map chD) := fun ρ h => by
    show (gv 0 ρ).bind seqD = _
    rw [h]; exact hd
  refine Rn.sqstO (o := O.dats []) rfl ?_
  show Rn _ [.dat d, O.dats [], .unk, .unk, .unk, .unk] _
  generalize hL : srtS (cs.map (·.1)) = L
  have hLl : L.length ≤ 500 := by rw [← hL, (srtS_perm _).length_eq, List.length_map]; exact hl
  have e2 : frz (cO (aCons (lcD (iOf (gv 0)) (gN 5) yes (PD.b2 (gv 5) (kI 0) ixD) [5]) aNil) srtO) [.dat d, O.dats [], .unk, .unk, .unk, .unk] = some (.lst (L.map .str)) := by
    rw [← hL]
    refine frz_srt ?_ (by rw [List.length_map]; omega)
    rw [lc_map (gt := gN 5) (vs := [5]) (φ := chD) (fun c => .str c.1) (xs := cs) rfl (it _ rfl) (by omega) fun c _ => ⟨_, rfl, rfl⟩, List.map_map]; rfl
  refine Rn.sqst e2 ?_
  show Rn _ [.dat d, O.dats [], .dat (.lst (L.map .str)), .unk, .unk, .unk] _
  refine Rn.sqforR (n := L.length) (rng1_of (cB_of (f := lenD) (aC1 rfl) (by rw [ev_lenL, List.length_map])) (by omega)) (fun j ρ => ∃ x3 x4, ρ = [.dat d, O.dats ((((adj none (L.take j)).filter fun c => decide ((amtsL cs c).sum ≠ 0)).map fun c => (c, (amtsL cs c).sum)).map chD), .dat (.lst (L.map .str)), x3, x4, .unk]) ⟨_, _, rfl⟩ (fun j hj ρ hI => ?_) (fun ρ hI => ?_)
  · obtain ⟨x3, x4, rfl⟩ := hI
    have hres : ((((adj none (L.take j)).filter fun c => decide ((amtsL cs c).sum ≠ 0)).map fun c => (c, (amtsL cs c).sum)).map chD).length ≤ 500 := by
      rw [List.length_map, List.length_map]
      have h1 := List.length_filter_le (fun c => decide ((amtsL cs c).sum ≠ 0)) (adj none (L.take j))
      have h2 := adj_len (L.take j) none
      rw [List.length_take] at h2
      omega
    have ha := adj_take hj
    generalize hR : (((adj none (L.take j)).filter fun c => decide ((amtsL cs c).sum ≠ 0)).map fun c => (c, (amtsL cs c).sum)).map chD = R at hres
    rw [Int.zero_add]
    refine ⟨[.dat d, O.dats R, .dat (.lst (L.map .str)), .dat (.int ((j : Nat) : Int)), x4, .unk], rfl, ?_⟩
    have hc := nb_run (ρ := [.dat d, O.dats R, .dat (.lst (L.map .str)), .dat (.int ((j : Nat) : Int)), x4, .unk]) (L := L) rfl rfl hj
    cases hb : decide ((L.take j).getLast? ≠ some L[j]) with
    | false =>
      rw [hb] at hc ha
      refine Rn.ite hc (fun z => nomatch z) fun _ => ⟨_, rfl, ⟨.dat (.int ((j : Nat) : Int)), x4, ?_⟩⟩
      rw [ha, if_neg (by simp), List.append_nil, hR]
    | true =>
      rw [hb] at hc ha
      rw [if_pos rfl] at ha
      refine Rn.ite hc (fun _ => ?_) fun z => nomatch z
      have e4 : cB (aCons (lcD (iOf (gv 0)) (gN 5) (asB (PD.b2 (PD.b2 (gv 5) (kI 0) ixD) (PD.b2 (gv 2) (gv 3) ixD) eqD)) (PD.b2 (gv 5) (kI 1) ixD) [5]) aNil) sumD [.dat d, O.dats R, .dat (.lst (L.map .str)), .dat (.int ((j : Nat) : Int)), x4, .unk] = some (.int (amtsL cs L[j]).sum) := by
        have el := lc_fil (gt := gN 5) (vs := [5]) (t := asB (PD.b2 (PD.b2 (gv 5) (kI 0) ixD) (PD.b2 (gv 2) (gv 3) ixD) eqD)) (f := PD.b2 (gv 5) (kI 1) ixD) (ρ := [.dat d, O.dats R, .dat (.lst (L.map .str)), .dat (.int ((j : Nat) : Int)), x4, .unk]) (φ := chD) (fun c => .int c.2) (fun c => decide (c.1 = L[j])) (xs := cs) rfl (it _ rfl) (by omega) fun c _ => ⟨_, rfl, asB_of (b2_of (x := .str c.1) rfl (b2_of rfl rfl (ix_at hj)) (eq_str _ _)), fun _ => rfl⟩
        refine cB_of (f := sumD) (aC1 el) ?_
        show (intsD ((cs.filter fun c => decide (c.1 = L[j])).map fun c => .int c.2)).map (fun ns => D.int ns.sum) = _
        rw [show ((cs.filter fun c => decide (c.1 = L[j])).map fun c => D.int c.2) = (amtsL cs L[j]).map .int by unfold amtsL; rw [List.map_map]; rfl, intsD_map]; rfl
      refine Rn.sqst e4 ?_
      show Rn _ [.dat d, O.dats R, .dat (.lst (L.map .str)), .dat (.int ((j : Nat) : Int)), .dat (.int (amtsL cs L[j]).sum), .unk] _
      have en : asB (PD.b2 (gv 4) (kI 0) neD) [.dat d, O.dats R, .dat (.lst (L.map .str)), .dat (.int ((j : Nat) : Int)), .dat (.int (amtsL cs L[j]).sum), .unk] = some (!decide ((amtsL cs L[j]).sum = 0)) := asB_of (b2_of rfl rfl (ne_int _ _))
      by_cases h0 : (amtsL cs L[j]).sum = 0
      · rw [decide_eq_true h0] at en
        refine Rn.ite en (fun z => nomatch z) fun _ => ⟨_, rfl, ⟨.dat (.int ((j : Nat) : Int)), .dat (.int (amtsL cs L[j]).sum), ?_⟩⟩
        rw [ha, List.filter_append, List.filter_cons_of_neg (by simp [h0]), List.filter_nil, List.append_nil, hR]
      · rw [decide_eq_false h0] at en
        refine Rn.ite en (fun _ => ?_) fun z => nomatch z
        refine Rn.appD (d := chD (L[j], (amtsL cs L[j]).sum)) (mkTup_of (aC2 (b2_of rfl rfl (ix_at hj)) rfl) (by simp)) rfl (by omega) ⟨.dat (.int ((j : Nat) : Int)), .dat (.int (amtsL cs L[j]).sum), ?_⟩
        rw [ha, List.filter_append, List.filter_cons_of_pos (by simp [h0]), List.filter_nil, List.map_append, List.map_append, hR]; rfl
  · obtain ⟨x3, x4, rfl⟩ := hI
    rw [List.take_length]
    refine Rn.fzD rfl ?_
    refine Rn.ret (d := .tup ((mcs cs).map chD)) ?_ ⟨_, rfl, rfl⟩
    refine cB_of (f := tupD) (aC1 rfl) ?_
    rw [mcs_adj, hL]; rfl
end GA

/-! the law's merged needs -/
namespace GA
open PySem PySem.Spec L2 PD
theorem fil_lows (ns : List Nd) (c : Str) (k : Nd → Lim) : (ns.filter fun n => decide (n.1 = c) && (k n).isSome).map (fun n => oD (k n)) = ((ns.filter fun n => decide (n.1 = c)).filterMap k).map .int := by
  induction ns with
  | nil => rfl
  | cons n ns ih =>
    by_cases h : n.1 = c
    · rw [List.filter_cons_of_pos (p := fun n : Nd => decide (n.1 = c)) (a := n) (by simpa using h)]
      cases e : k n with
      | none =>
        rw [List.filter_cons_of_neg (by simp [e]), ih, List.filterMap_cons_none e]
      | some i =>
        rw [List.filter_cons_of_pos (by simp [e, h]), List.filterMap_cons_some e, List.map_cons, List.map_cons, ih, e]; rfl
    · rw [List.filter_cons_of_neg (by simp [h]), ih, List.filter_cons_of_neg (p := fun n : Nd => decide (n.1 = c)) (a := n) (by simpa using h)]
theorem notN_oD (a : Lim) : notN (oD a) .non = some (.bl a.isSome) := by cases a <;> rfl
theorem max_run (l : List Int) : maxLD [.lst (l.map .int)] = l.max?.map .int := by
  show (intsD (l.map .int)).bind _ = _
  rw [intsD_map]; rfl
theorem min_run (l : List Int) : minLD [.lst (l.map .int)] = l.min?.map .int := by
  show (intsD (l.map .int)).bind _ = _
  rw [intsD_map]; rfl
theorem lmrg_run {d : D} {ns : List Nd} (hd : seqD d = some (ns.map ndD)) (hl : ns.length ≤ 500) : runP 9 gLMrg [d] = some (.tup ((mns ns).map ndD)) := by
  refine runP_eq ?_
  unfold gLMrg
  show Rn _ [.dat d, .unk, .unk, .unk, .unk, .unk, .unk, .unk, .unk] _
  have it : ∀ ρ : Ev, gv 0 ρ = some d → iOf (gv 0) ρ = some (ns.map ndD) := fun ρ h => by
    show (gv 0 ρ).bind seqD = _
    rw [h]; exact hd
  refine Rn.sqstO (o := O.dats []) rfl ?_
  show Rn _ [.dat d, O.dats [], .unk, .unk, .unk, .unk, .unk, .unk, .unk] _
  generalize hL : srtS (ns.map (·.1)) = L
  have hLl : L.length ≤ 500 := by rw [← hL, (srtS_perm _).length_eq, List.length_map]; exact hl
  have e2 : frz (cO (aCons (lcD (iOf (gv 0)) (gN 8) yes (PD.b2 (gv 8) (kI 0) ixD) [8]) aNil) srtO) [.dat d, O.dats [], .unk, .unk, .unk, .unk, .unk, .unk, .unk] = some (.lst (L.map .str)) := by
    rw [← hL]
    refine frz_srt ?_ (by rw [List.length_map]; omega)
    rw [lc_map (gt := gN 8) (vs := [8]) (φ := ndD) (fun c => .str c.1) (xs := ns) rfl (it _ rfl) (by omega) fun c _ => ⟨_, rfl, rfl⟩, List.map_map]; rfl
  refine Rn.sqst e2 ?_
  show Rn _ [.dat d, O.dats [], .dat (.lst (L.map .str)), .unk, .unk, .unk, .unk, .unk, .unk] _
  refine Rn.sqforR (n := L.length) (rng1_of (cB_of (f := lenD) (aC1 rfl) (by rw [ev_lenL, List.length_map])) (by omega)) (fun j ρ => ∃ x3 x4 x5 x6 x7, ρ = [.dat d, O.dats (((adj none (L.take j)).map fun c => (c, (lowsL ns c).max?, (highsL ns c).min?)).map ndD), .dat (.lst (L.map .str)), x3, x4, x5, x6, x7, .unk]) ⟨_, _, _, _, _, rfl⟩ (fun j hj ρ hI => ?_) (fun ρ hI => ?_)
  · obtain ⟨x3, x4, x5, x6, x7, rfl⟩ := hI
    have hres : (((adj none (L.take j)).map fun c => (c, (lowsL ns c).max?, (highsL ns c).min?)).map ndD).length ≤ 500 := by
      rw [List.length_map, List.length_map]
      have h2 := adj_len (L.take j) none
      rw [List.length_take] at h2
      omega
    have ha := adj_take hj
    generalize hR : ((adj none (L.take j)).map fun c => (c, (lowsL ns c).max?, (highsL ns c).min?)).map ndD = R at hres
    rw [Int.zero_add]
    refine ⟨[.dat d, O.dats R, .dat (.lst (L.map .str)), .dat (.int ((j : Nat) : Int)), x4, x5, x6, x7, .unk], rfl, ?_⟩
    have hc := nb_run (ρ := [.dat d, O.dats R, .dat (.lst (L.map .str)), .dat (.int ((j : Nat) : Int)), x4, x5, x6, x7, .unk]) (L := L) rfl rfl hj
    cases hb : decide ((L.take j).getLast? ≠ some L[j]) with
    | false =>
      rw [hb] at hc ha
      refine Rn.ite hc (fun z => nomatch z) fun _ => ⟨_, rfl, ⟨.dat (.int ((j : Nat) : Int)), x4, x5, x6, x7, ?_⟩⟩
      rw [ha, if_neg (by simp), List.append_nil, hR]
    | true =>
      rw [hb] at hc ha
      rw [if_pos rfl] at ha
      refine Rn.ite hc (fun _ => ?_) fun z => nomatch z
      have e4 : lcD (iOf (gv 0)) (gN 8) (andT (asB (PD.b2 (PD.b2 (gv 8) (kI 0) ixD) (PD.b2 (gv 2) (gv 3) ixD) eqD)) (asB (PD.b2 (PD.b2 (gv 8) (kI 1) ixD) kN notN))) (PD.b2 (gv 8) (kI 1) ixD) [8] [.dat d, O.dats R, .dat (.lst (L.map .str)), .dat (.int ((j : Nat) : Int)), x4, x5, x6, x7, .unk] = some (.lst ((lowsL ns L[j]).map .int)) := by
        rw [lc_fil (gt := gN 8) (vs := [8]) (φ := ndD) (fun n => oD n.2.1) (fun n => decide (n.1 = L[j]) && n.2.1.isSome) (xs := ns) rfl (it _ rfl) (by omega) fun n _ => ⟨_, rfl, andT_of (asB_of (b2_of (x := .str n.1) rfl (b2_of rfl rfl (ix_at hj)) (eq_str _ _))) fun _ => asB_of (b2_of (x := oD n.2.1) rfl rfl (notN_oD _)), fun _ => rfl⟩, fil_lows ns L[j] fun n => n.2.1]; rfl
      refine Rn.sqst e4 ?_
      show Rn _ [.dat d, O.dats R, .dat (.lst (L.map .str)), .dat (.int ((j : Nat) : Int)), .dat (.lst ((lowsL ns L[j]).map .int)), x5, x6, x7, .unk] _
      have e5 : lcD (iOf (gv 0)) (gN 8) (andT (asB (PD.b2 (PD.b2 (gv 8) (kI 0) ixD) (PD.b2 (gv 2) (gv 3) ixD) eqD)) (asB (PD.b2 (PD.b2 (gv 8) (kI 2) ixD) kN notN))) (PD.b2 (gv 8) (kI 2) ixD) [8] [.dat d, O.dats R, .dat (.lst (L.map .str)), .dat (.int ((j : Nat) : Int)), .dat (.lst ((lowsL ns L[j]).map .int)), x5, x6, x7, .unk] = some (.lst ((highsL ns L[j]).map .int)) := by
        rw [lc_fil (gt := gN 8) (vs := [8]) (φ := ndD) (fun n => oD n.2.2) (fun n => decide (n.1 = L[j]) && n.2.2.isSome) (xs := ns) rfl (it _ rfl) (by omega) fun n _ => ⟨_, rfl, andT_of (asB_of (b2_of (x := .str n.1) rfl (b2_of rfl rfl (ix_at hj)) (eq_str _ _))) fun _ => asB_of (b2_of (x := oD n.2.2) rfl rfl (notN_oD _)), fun _ => rfl⟩, fil_lows ns L[j] fun n => n.2.2]; rfl
      refine Rn.sqst e5 ?_
      show Rn _ [.dat d, O.dats R, .dat (.lst (L.map .str)), .dat (.int ((j : Nat) : Int)), .dat (.lst ((lowsL ns L[j]).map .int)), .dat (.lst ((highsL ns L[j]).map .int)), x6, x7, .unk] _
      refine Rn.sqst (d := .non) rfl ?_
      refine Rn.sqst (d := .non) rfl ?_
      show Rn _ [.dat d, O.dats R, .dat (.lst (L.map .str)), .dat (.int ((j : Nat) : Int)), .dat (.lst ((lowsL ns L[j]).map .int)), .dat (.lst ((highsL ns L[j]).map .int)), .dat .non, .dat .non, .unk] _
      generalize hlo : lowsL ns L[j] = lo
      generalize hhi : highsL ns L[j] = hi
      have fin : ∀ x6 x7 : Lim, x6 = lo.max? → x7 = hi.min? → Rn (PD.app 1 (mkTup (aCons (PD.b2 (gv 2) (gv 3) ixD) (aCons (gv 6) (aCons (gv 7) aNil))))) [.dat d, O.dats R, .dat (.lst (L.map .str)), .dat (.int ((j : Nat) : Int)), .dat (.lst (lo.map .int)), .dat (.lst (hi.map .int)), .dat (oD x6), .dat (oD x7), .unk] fun r => match r with
          | .nx ρ2 => ∃ x3 x4 x5 x6 x7, ρ2 = [.dat d, O.dats (((adj none (L.take (j + 1))).map fun c => (c, (lowsL ns c).max?, (highsL ns c).min?)).map ndD), .dat (.lst (L.map .str)), x3, x4, x5, x6, x7, .unk]
          | _ => False := fun x6 x7 h6 h7 => by
        refine Rn.appD (d := ndD (L[j], x6, x7)) (mkTup_of (aC3 (b2_of rfl rfl (ix_at hj)) rfl rfl) (by simp)) rfl (by omega) ⟨.dat (.int ((j : Nat) : Int)), .dat (.lst (lo.map .int)), .dat (.lst (hi.map .int)), .dat (oD x6), .dat (oD x7), ?_⟩
        rw [ha, List.map_append, List.map_append, hR, h6, h7, ← hlo, ← hhi]; rfl
      have gt0 : ∀ (l : List Int) (k : Nat) (ρ : Ev), gv k ρ = some (.lst (l.map .int)) → asB (PD.b2 (cB (aCons (gv k) aNil) lenD) (kI 0) gtI) ρ = some (decide (l ≠ [])) := fun l k ρ h => asB_of (b2_of (cB_of (f := lenD) (aC1 h) (ev_lenL _)) rfl (by
        rw [List.length_map]
        show some (D.bl (decide ((0 : Int) < (l.length : Int)))) = _
        rw [decide_eq_decide.mpr (show ((0 : Int) < (l.length : Int)) ↔ l ≠ [] by rw [← List.length_pos_iff]; omega)]))
      have st7 : ∀ x6 : Lim, x6 = lo.max? → Rn (PD.sq (ifS (asB (PD.b2 (cB (aCons (gv 5) aNil) lenD) (kI 0) gtI)) (stV 7 (cB (aCons (gv 5) aNil) minLD)) skip) (PD.app 1 (mkTup (aCons (PD.b2 (gv 2) (gv 3) ixD) (aCons (gv 6) (aCons (gv 7) aNil)))))) [.dat d, O.dats R, .dat (.lst (L.map .str)), .dat (.int ((j : Nat) : Int)), .dat (.lst (lo.map .int)), .dat (.lst (hi.map .int)), .dat (oD x6), .dat .non, .unk] fun r => match r with
          | .nx ρ2 => ∃ x3 x4 x5 x6 x7, ρ2 = [.dat d, O.dats (((adj none (L.take (j + 1))).map fun c => (c, (lowsL ns c).max?, (highsL ns c).min?)).map ndD), .dat (.lst (L.map .str)), x3, x4, x5, x6, x7, .unk]
          | _ => False := fun x6 h6 => by
        have hg := gt0 hi 5 [.dat d, O.dats R, .dat (.lst (L.map .str)), .dat (.int ((j : Nat) : Int)), .dat (.lst (lo.map .int)), .dat (.lst (hi.map .int)), .dat (oD x6), .dat .non, .unk] rfl
        cases hh : hi with
        | nil =>
          subst hh
          exact Rn.chk hg (fin x6 none h6 rfl)
        | cons y ys =>
          rw [← hh]
          rw [decide_eq_true (by rw [hh]; simp)] at hg
          have hm : hi.min? = some (hi.min?.getD 0) := by rw [hh]; rfl
          refine Rn.sqifT hg (Rn.sqst (d := oD hi.min?) (cB_of (f := minLD) (aC1 rfl) (by rw [min_run, hm]; rfl)) (fin x6 hi.min? h6 rfl))
      have hg := gt0 lo 4 [.dat d, O.dats R, .dat (.lst (L.map .str)), .dat (.int ((j : Nat) : Int)), .dat (.lst (lo.map .int)), .dat (.lst (hi.map .int)), .dat .non, .dat .non, .unk] rfl
      have go : Rn (PD.sq (ifS (asB (PD.b2 (cB (aCons (gv 4) aNil) lenD) (kI 0) gtI)) (stV 6 (cB (aCons (gv 4) aNil) maxLD)) skip) (PD.sq (ifS (asB (PD.b2 (cB (aCons (gv 5) aNil) lenD) (kI 0) gtI)) (stV 7 (cB (aCons (gv 5) aNil) minLD)) skip) (PD.app 1 (mkTup (aCons (PD.b2 (gv 2) (gv 3) ixD) (aCons (gv 6) (aCons (gv 7) aNil))))))) [.dat d, O.dats R, .dat (.lst (L.map .str)), .dat (.int ((j : Nat) : Int)), .dat (.lst (lo.map .int)), .dat (.lst (hi.map .int)), .dat .non, .dat .non, .unk] fun r => match r with
          | .nx ρ2 => ∃ x3 x4 x5 x6 x7, ρ2 = [.dat d, O.dats (((adj none (L.take (j + 1))).map fun c => (c, (lowsL ns c).max?, (highsL ns c).min?)).map ndD), .dat (.lst (L.map .str)), x3, x4, x5, x6, x7, .unk]
          | _ => False := by
        cases hh : lo with
        | nil =>
          subst hh
          exact Rn.chk hg (st7 none rfl)
        | cons y ys =>
          rw [← hh]
          rw [decide_eq_true (by rw [hh]; simp)] at hg
          have hm : lo.max? = some (lo.max?.getD 0) := by rw [hh]; rfl
          refine Rn.sqifT hg (Rn.sqst (d := oD lo.max?) (cB_of (f := maxLD) (aC1 rfl) (by rw [max_run, hm]; rfl)) (st7 lo.max? rfl))
      obtain ⟨r, er, q⟩ := go
      refine ⟨r, er, ?_⟩
      cases r with
      | nx ρ2 => exact q
      | _ => exact q.elim
  · obtain ⟨x3, x4, x5, x6, x7, rfl⟩ := hI
    rw [List.take_length]
    refine Rn.fzD rfl ?_
    refine Rn.ret (d := .tup ((mns ns).map ndD)) ?_ ⟨_, rfl, rfl⟩
    refine cB_of (f := tupD) (aC1 rfl) ?_
    rw [mns_adj, hL]; rfl
end GA

/-! _law_build, in each of its forms -/
namespace GA
open PySem PySem.Spec L2 PD
def mvZ (C BM : Addr) (m : Mv) : Rz := match fallM m with
  | some p => .ex ⟨.ref BM, some (["part"], [.str p])⟩
  | none => .ok (.obj C mvK ((mvV m).map .dat))
theorem Rn.rtXq {f : Ev → Option Rz} {ρ : Ev} {z : Rz} (h : f ρ = some z) : Rn (rtX f) ρ fun r => outX r = some z := by
  cases z with
  | ok o => exact ⟨.rt o ρ, by unfold rtX; rw [h]; rfl, rfl⟩
  | ex x => exact ⟨.ex x ρ, by unfold rtX; rw [h]; rfl, rfl⟩
theorem Rn.sqrtXq {f : Ev → Option Rz} {g : Ev → Option Fl} {ρ : Ev} {z : Rz} (h : f ρ = some z) : Rn (PD.sq (rtX f) g) ρ fun r => outX r = some z := by
  cases z with
  | ok o => exact Rn.sq ⟨.rt o ρ, by unfold rtX; rw [h]; rfl, rfl⟩
  | ex x => exact Rn.sq ⟨.ex x ρ, by unfold rtX; rw [h]; rfl, rfl⟩
theorem isN_sg (a : Option Str) : isN (sgD a) .non = some (.bl a.isNone) := by cases a <;> rfl
theorem bld_run (C BM : Addr) {m : Mv} {dn dc : D} (hn : seqD dn = some (m.needs.map ndD)) (hc : seqD dc = some (m.changes.map chD)) (F : MvFew m) (b : Bool) :
    runX 8 (gBld C BM) [.lst [.str m.name, .str m.player, dn, dc, sgD m.sign, .bl m.foul], .bl b] = some (mvZ C BM m) := by
  have hz := mvI_run C BM hn hc F
  obtain ⟨name, player, needs, changes, sign, foul⟩ := m
  refine runX_ok ?_
  unfold gBld
  generalize hd : D.lst [.str name, .str player, dn, dc, sgD sign, .bl foul] = dd
  show Rn _ [.dat dd, .dat (.bl b), .unk, .unk, .unk, .unk, .unk, .unk] _
  refine Rn.sq ⟨.nx [.dat dd, .dat (.bl b), .dat (.str name), .dat (.str player), .dat dn, .dat dc, .dat (sgD sign), .dat (.bl foul)], by subst hd; rfl, ?_⟩
  have e6 : asB (PD.b2 (gv 6) kN isN) [.dat dd, .dat (.bl b), .dat (.str name), .dat (.str player), .dat dn, .dat dc, .dat (sgD sign), .dat (.bl foul)] = some sign.isNone := asB_of (b2_of rfl rfl (isN_sg _))
  have e7 : notT (asB (gv 7)) [.dat dd, .dat (.bl b), .dat (.str name), .dat (.str player), .dat dn, .dat dc, .dat (sgD sign), .dat (.bl foul)] = some (!foul) := notT_of (b := foul) rfl
  have e1 : asB (gv 1) [.dat dd, .dat (.bl b), .dat (.str name), .dat (.str player), .dat dn, .dat dc, .dat (sgD sign), .dat (.bl foul)] = some b := rfl
  cases b with
  | false =>
    refine Rn.chk (andT_of (a := false) (b := false) e1 fun e => nomatch e) ?_
    refine Rn.chk (andT_of (a := false) (b := false) e1 fun e => nomatch e) ?_
    refine Rn.chk (andT_of (a := false) (b := false) e1 fun e => nomatch e) ?_
    exact Rn.rtXq hz
  | true =>
    cases sign with
    | none =>
      cases foul with
      | false =>
        refine Rn.sqifT (andT_of (a := true) (b := true) e1 fun _ => andT_of (a := true) (b := true) e6 fun _ => e7) ?_
        exact Rn.sqrtXq hz
      | true =>
        refine Rn.chk (andT_of (a := true) (b := false) e1 fun _ => andT_of (a := true) (b := false) e6 fun _ => e7) ?_
        refine Rn.sqifT (andT_of (a := true) (b := true) e1 fun _ => e6) ?_
        exact Rn.sqrtXq hz
    | some s =>
      refine Rn.chk (andT_of (a := true) (b := false) e1 fun _ => andT_of (a := false) (b := false) e6 fun e => nomatch e) ?_
      refine Rn.chk (andT_of (a := true) (b := false) e1 fun _ => e6) ?_
      cases foul with
      | false =>
        refine Rn.sqifT (andT_of (a := true) (b := true) e1 fun _ => e7) ?_
        exact Rn.sqrtXq hz
      | true =>
        refine Rn.chk (andT_of (a := true) (b := false) e1 fun _ => e7) ?_
        exact Rn.rtXq hz
end GA

/-! == of data with truth values in it -/
namespace PD
open PySem PySem.Spec L2
mutual
def D.nrm : D → D
  | .bl b => .int (if b then 1 else 0)
  | .lst ds => .lst (D.nrms ds)
  | .tup ds => .tup (D.nrms ds)
  | d => d
def D.nrms : List D → List D
  | [] => []
  | d :: ds => d.nrm :: D.nrms ds
end
theorem nrms_map : ∀ ds : List D, D.nrms ds = ds.map D.nrm
  | [] => rfl
  | d :: ds => by rw [D.nrms, nrms_map ds]; rfl
mutual
def nrmP : PyData → PyData
  | .bool b => .int (if b then 1 else 0)
  | .list ds => .list (nrmPs ds)
  | .tuple ds => .tuple (nrmPs ds)
  | d => d
def nrmPs : List PyData → List PyData
  | [] => []
  | d :: ds => nrmP d :: nrmPs ds
end
mutual
theorem nrm_py : ∀ (d : D) (p' : PyData), d.nrm.plain 60 = true → d.nrm.py = some p' → ∃ p, d.py = some p ∧ nrmP p = p'
  | .non, p', _, h => ⟨_, rfl, by cases h; rfl⟩
  | .bl b, p', _, h => ⟨_, rfl, by cases h; rfl⟩
  | .int i, p', _, h => ⟨_, rfl, by cases h; rfl⟩
  | .str x, p', _, h => ⟨_, rfl, by cases h; rfl⟩
  | .lst ds, p', hp, h => by
    have hp' := (Bool.and_eq_true_iff.mp hp).2
    unfold D.nrm D.py at h
    obtain ⟨ps', e, rfl⟩ := Option.map_eq_some_iff.mp h
    obtain ⟨ps, e1, e2⟩ := nrms_py ds ps' hp' e
    exact ⟨.list ps, by unfold D.py; rw [e1]; rfl, by unfold nrmP; rw [e2]⟩
  | .tup ds, p', hp, h => by
    have hp' := (Bool.and_eq_true_iff.mp hp).2
    unfold D.nrm D.py at h
    obtain ⟨ps', e, rfl⟩ := Option.map_eq_some_iff.mp h
    obtain ⟨ps, e1, e2⟩ := nrms_py ds ps' hp' e
    exact ⟨.tuple ps, by unfold D.py; rw [e1]; rfl, by unfold nrmP; rw [e2]⟩
  | .dic _ _, _, hp, _ => nomatch hp
  | .obj _ _ _, _, hp, _ => nomatch hp
  | .exn _ _ _ _ _, _, hp, _ => nomatch hp
  | .tagM _ _, _, hp, _ => nomatch hp
  | .tagP _ _, _, hp, _ => nomatch hp
  | .dicT _ _ _, _, hp, _ => nomatch hp
theorem nrms_py : ∀ (ds : List D) (ps' : List PyData), D.plains 60 (D.nrms ds) = true → D.pys (D.nrms ds) = some ps' → ∃ ps, D.pys ds = some ps ∧ nrmPs ps = ps'
  | [], ps', _, h => ⟨[], rfl, by cases h; rfl⟩
  | d :: ds, ps', hp, h => by
    unfold D.nrms D.plains at hp
    rw [Bool.and_eq_true] at hp
    unfold D.nrms D.pys at h
    split at h
    · rename_i p1 ps1 e1 e2
      cases h
      obtain ⟨p, a1, a2⟩ := nrm_py d p1 hp.1 e1
      obtain ⟨ps, b1, b2⟩ := nrms_py ds ps1 hp.2 e2
      exact ⟨p :: ps, by unfold D.pys; rw [a1, b1], by unfold nrmPs; rw [a2, b2]⟩
    · cases h
end
mutual
theorem nrm_lay : ∀ p : PyData, (nrmP p).canLay0 = p.canLay0 ∧ (nrmP p).depth = p.depth
  | .none => ⟨rfl, rfl⟩
  | .bool b => ⟨rfl, by simp [nrmP, PyData.depth]⟩
  | .int i => ⟨rfl, rfl⟩
  | .str x => ⟨rfl, rfl⟩
  | .list ds => by
    have := nrms_lay ds
    exact ⟨by simp only [nrmP, PyData.canLay0, this.1], by simp only [nrmP, PyData.depth, this.2]⟩
  | .tuple ds => by
    have := nrms_lay ds
    exact ⟨by simp only [nrmP, PyData.canLay0, this.1], by simp only [nrmP, PyData.depth, this.2]⟩
  | .dict _ => ⟨rfl, rfl⟩
theorem nrms_lay : ∀ ps : List PyData, PyData.canLayAll0 (nrmPs ps) = PyData.canLayAll0 ps ∧ PyData.depthAll (nrmPs ps) = PyData.depthAll ps
  | [] => ⟨rfl, rfl⟩
  | p :: ps => by
    have a := nrm_lay p
    have b := nrms_lay ps
    exact ⟨by simp only [nrmPs, PyData.canLayAll0, a.1, b.1], by simp only [nrmPs, PyData.depthAll, a.2, b.2]⟩
end
mutual
theorem eqv_nrm : ∀ p q : PyData, PyData.eqv (nrmP p) (nrmP q) = PyData.eqv p q
  | .list xs, .list ys => by simp only [nrmP, PyData.eqv]; exact eqvs_nrm xs ys
  | .tuple xs, .tuple ys => by simp only [nrmP, PyData.eqv]; exact eqvs_nrm xs ys
  | .bool a, .bool b => by cases a <;> cases b <;> rfl
  | .bool a, .int j => rfl
  | .int i, .bool b => rfl
  | .int i, .int j => rfl
  | .str x, .str y => rfl
  | .none, .none => rfl
  | .dict _, .dict _ => rfl
  | .none, .bool _ | .none, .int _ | .none, .str _ | .none, .list _ | .none, .tuple _ | .none, .dict _ => by simp [nrmP, PyData.eqv]
  | .bool _, .none | .bool _, .str _ | .bool _, .list _ | .bool _, .tuple _ | .bool _, .dict _ => by simp [nrmP, PyData.eqv]
  | .int _, .none | .int _, .str _ | .int _, .list _ | .int _, .tuple _ | .int _, .dict _ => by simp [nrmP, PyData.eqv]
  | .str _, .none | .str _, .bool _ | .str _, .int _ | .str _, .list _ | .str _, .tuple _ | .str _, .dict _ => by simp [nrmP, PyData.eqv]
  | .list _, .none | .list _, .bool _ | .list _, .int _ | .list _, .str _ | .list _, .tuple _ | .list _, .dict _ => by simp [nrmP, PyData.eqv]
  | .tuple _, .none | .tuple _, .bool _ | .tuple _, .int _ | .tuple _, .str _ | .tuple _, .list _ | .tuple _, .dict _ => by simp [nrmP, PyData.eqv]
  | .dict _, .none | .dict _, .bool _ | .dict _, .int _ | .dict _, .str _ | .dict _, .list _ | .dict _, .tuple _ => by simp [nrmP, PyData.eqv]
theorem eqvs_nrm : ∀ ps qs : List PyData, PyData.eqvAll (nrmPs ps) (nrmPs qs) = PyData.eqvAll ps qs
  | [], [] => rfl
  | [], _ :: _ => by simp [nrmPs, PyData.eqvAll]
  | _ :: _, [] => by simp [nrmPs, PyData.eqvAll]
  | p :: ps, q :: qs => by simp only [nrmPs, PyData.eqvAll, eqv_nrm p q, eqvs_nrm ps qs]
end
theorem eqvN_of {x y : D} (hx : x.nrm.plain 60 = true) (hy : y.nrm.plain 60 = true) : ∃ b, eqvD x y = some b ∧ (b = true ↔ x.nrm = y.nrm) := by
  obtain ⟨p', e1, a1, b1⟩ := plain_py 60 _ hx
  obtain ⟨q', e2, a2, b2⟩ := plain_py 60 _ hy
  obtain ⟨p, ep, rfl⟩ := nrm_py x p' hx e1
  obtain ⟨q, eq, rfl⟩ := nrm_py y q' hy e2
  refine ⟨PyData.eqv p q, ?_, by rw [← eqv_nrm]; exact eqv_plain hx hy e1 e2⟩
  unfold eqvD
  rw [ep, eq]
  have := nrm_lay p
  have := nrm_lay q
  have s1 : SeqAt.shaped p = true := by unfold SeqAt.shaped; rw [← (nrm_lay p).1, a1, decide_eq_true (by have := deep_plain hx; omega)]; rfl
  have s2 : SeqAt.shaped q = true := by unfold SeqAt.shaped; rw [← (nrm_lay q).1, a2, decide_eq_true (by have := deep_plain hy; omega)]; rfl
  exact if_pos ⟨s1, s2⟩
theorem eqBN_of {x y : D} (hx : x.nrm.plain 60 = true) (hy : y.nrm.plain 60 = true) : ∃ b, eqB x y = some b ∧ (b = true ↔ x.nrm = y.nrm) := by
  unfold eqB
  cases q : eqS x y with
  | none => exact eqvN_of hx hy
  | some b =>
    refine ⟨b, rfl, ?_⟩
    unfold eqS at q
    split at q
    · cases q; simp [D.nrm]
    · rename_i i j
      cases q
      cases i <;> cases j <;> simp [D.nrm]
    · cases q; simp [D.nrm]
    · cases q
end PD

/-! moves compared -/
namespace GA
open PySem PySem.Spec L2 PD
theorem eq_dec {x y : D} (hx : x.plain 60 = true) (hy : y.plain 60 = true) : ∃ b, eqD x y = some (.bl b) ∧ (b = true ↔ x = y) := by
  unfold eqD eqB
  cases h : eqS x y with
  | none =>
    obtain ⟨b, e, hb⟩ := eqv_of hx hy
    exact ⟨b, by simp only [e]; rfl, hb⟩
  | some b =>
    refine ⟨b, rfl, ?_⟩
    unfold eqS at h
    split at h
    · cases h; rw [decide_eq_true_iff]; exact ⟨fun e => by rw [e], fun e => by cases e; rfl⟩
    · cases h; rw [decide_eq_true_iff]; exact ⟨fun e => by rw [e], fun e => by cases e; rfl⟩
    · cases h; rw [decide_eq_true_iff]; exact ⟨fun e => by rw [e], fun e => by cases e; rfl⟩
    · cases h
structure MvPl (m : Mv) : Prop where
  name : (D.str m.name).plain 60 = true
  player : (D.str m.player).plain 60 = true
  needs : (D.tup ((mns m.needs).map ndD)).plain 60 = true
  changes : (D.tup ((mcs m.changes).map chD)).plain 60 = true
  sign : (sgD m.sign).plain 60 = true
theorem fld_at {C : Addr} {m : Mv} {k : Nat} {ρ : Ev} {f : Str} {d : D} (h : gv k ρ = some (mvD C m)) (hf : fldD C f (mvD C m) = some d) : PD.b1 (gv k) (fldD C f) ρ = some d := by
  unfold PD.b1
  rw [h]; exact hf
theorem mvEq_run (C : Addr) {m m' : Mv} (p : MvPl m) (p' : MvPl m') : ∃ b, runP 2 (gMvEq C) [mvD C m, mvD C m'] = some (.bl b) ∧ (b = true ↔ mvV m = mvV m') := by
  obtain ⟨b1, e1, q1⟩ := eq_dec p.name p'.name
  obtain ⟨b2, e2, q2⟩ := eq_dec p.player p'.player
  obtain ⟨b3, e3, q3⟩ := eq_dec p.needs p'.needs
  obtain ⟨b4, e4, q4⟩ := eq_dec p.changes p'.changes
  obtain ⟨b5, e5, q5⟩ := eq_dec p.sign p'.sign
  refine ⟨b1 && (b2 && (b3 && (b4 && (b5 && decide (m.foul = m'.foul))))), ?_, ?_⟩
  · refine runP_eq ?_
    unfold gMvEq
    show Rn _ [.dat (mvD C m), .dat (mvD C m')] _
    refine Rn.ret (d := .bl (true && (b1 && (b2 && (b3 && (b4 && (b5 && decide (m.foul = m'.foul)))))))) ?_ ⟨_, rfl, rfl⟩
    refine andV_of (by show isiC [(C, true)] (.obj C mvK (mvV m')) = _; simp [isiC]) fun _ => ?_
    refine andV_of (b2_of (fld_at rfl ((if_pos rfl).trans rfl)) (fld_at rfl ((if_pos rfl).trans rfl)) e1) fun _ => ?_
    refine andV_of (b2_of (fld_at rfl ((if_pos rfl).trans rfl)) (fld_at rfl ((if_pos rfl).trans rfl)) e2) fun _ => ?_
    refine andV_of (b2_of (fld_at rfl ((if_pos rfl).trans rfl)) (fld_at rfl ((if_pos rfl).trans rfl)) e3) fun _ => ?_
    refine andV_of (b2_of (fld_at rfl ((if_pos rfl).trans rfl)) (fld_at rfl ((if_pos rfl).trans rfl)) e4) fun _ => ?_
    refine andV_of (b2_of (fld_at rfl ((if_pos rfl).trans rfl)) (fld_at rfl ((if_pos rfl).trans rfl)) e5) fun _ => ?_
    exact b2_of (fld_at rfl ((if_pos rfl).trans rfl)) (fld_at rfl ((if_pos rfl).trans rfl)) (eq_bl _ _)
  · rw [Bool.and_eq_true, Bool.and_eq_true, Bool.and_eq_true, Bool.and_eq_true, Bool.and_eq_true, q1, q2, q3, q4, q5, decide_eq_true_iff]
    unfold mvV
    constructor
    · rintro ⟨h1, h2, h3, h4, h5, h6⟩
      rw [h1, h2, h3, h4, h5, h6]
    · intro h
      simp only [List.cons.injEq] at h
      obtain ⟨h1, h2, h3, h4, h5, h6, _⟩ := h
      exact ⟨h1, h2, h3, h4, h5, by injection h6⟩
end GA

/-! k03: more mirrors, for any class places -/
namespace GA
open PySem PySem.Spec L2 PD

noncomputable def gSame (self_ : List D → Option D) : Ev → Option Fl :=
    (sq (ifS (asB (PD.b2 (gv 1) kN isN)) (rtV (PD.b2 (gv 0) kN isN)) skip)
    (sq (ifS (asB (PD.b1 (gv 1) (isiD "bool"))) (rtV (andV (PD.b1 (gv 0) (isiD "bool")) (PD.b2 (gv 0) (gv 1) eqD))) skip)
    (sq (ifS (asB (PD.b1 (gv 1) (isiD "int"))) (rtV (andV (PD.b1 (gv 0) (isiD "int")) (andV (notV (PD.b1 (gv 0) (isiD "bool"))) (PD.b2 (gv 0) (gv 1) eqD)))) skip)
    (sq (ifS (asB (PD.b1 (gv 1) (isiD "str"))) (rtV (andV (PD.b1 (gv 0) (isiD "str")) (PD.b2 (gv 0) (gv 1) eqD))) skip)
    (sq (ifS (andT (asB (PD.b1 (gv 1) (isiD "tuple"))) (notT (asB (PD.b1 (gv 0) (isiD "tuple"))))) (rtV (kB false)) skip)
    (sq (ifS (orT (andT (asB (PD.b1 (gv 1) (isiD "list"))) (notT (asB (PD.b1 (gv 0) (isiD "list"))))) (asB (PD.b2 (cB (aCons (gv 0) aNil) lenD) (cB (aCons (gv 1) aNil) lenD) neD))) (rtV (kB false)) skip)
    (sq (forS (rng1 (cB (aCons (gv 1) aNil) lenD)) (gN 2) (ifS (notT (asB (cB (aCons (PD.b2 (gv 0) (gv 2) ixD) (aCons (PD.b2 (gv 1) (gv 2) ixD) aNil)) (len? 2 (self_))))) (rtV (kB false)) skip))
    (rtV (kB true)))))))))
noncomputable def same03 : Nat → List D → Option D
  | 0 => fun _ => none
  | n + 1 => runP 3 (gSame (same03 n))
noncomputable def gShn (CM : Addr) : Ev → Option Fl :=
    (rtV (cB (aCons (mkLst (aCons (PD.b1 (gv 0) (fldD CM "name")) (aCons (PD.b1 (gv 0) (fldD CM "player")) (aCons (PD.b1 (gv 0) (fldD CM "needs")) (aCons (PD.b1 (gv 0) (fldD CM "changes")) (aCons (PD.b1 (gv 0) (fldD CM "sign")) (aCons (PD.b1 (gv 0) (fldD CM "foul")) aNil))))))) (aCons (gv 1) aNil)) (len? 2 (same03 5))))
noncomputable def gBase (CM BM : Addr) : Ev → Option Fl :=
    (sq (tryS [(BM, true)] 1
    (drpX (xC (aCons (gv 0) (aCons (kB false) aNil)) 2 (runX 8 (gBld CM BM))))
    (fun a d cls => (sq (ifS (asB (PD.b1 (gv 1) (isX a d cls [(BM, false)]))) (rtV (kB false)) skip)
    (rtV (andV (PD.b1 (gv 1) (isX a d cls [(BM, true)])) (PD.b1 (gv 1) (isX a d cls [(BM, true)])))))))
    (rtV (kB false)))
noncomputable def gTold (CM BM : Addr) : Ev → Option Fl :=
    (sq (stV 2 kN)
    (sq (stV 3 kN)
    (sq (tryS [(BM, true)] 4
    (stXD 3 (xC (aCons (gv 0) (aCons (gv 1) aNil)) 2 (runX 8 (gBld CM BM))))
    (fun a d cls => (stV 2 (PD.b1 (gv 4) (fldE a d cls [BM] "part")))))
    (sq (stV 5 (cB (aCons (gv 0) aNil) (len? 1 (runP 11 gLRef))))
    (sq (ifS (asB (PD.b2 (gv 5) kN notN)) (rtV (andV (PD.b2 (gv 3) kN isN) (andV (cB (aCons (gv 2) (aCons (gv 5) aNil)) (len? 2 (same03 5))) (cB (aCons (gv 0) aNil) (len? 1 (runP 2 (gBase CM BM))))))) skip)
    (rtV (andV (PD.b2 (gv 2) kN isN) (cB (aCons (gv 3) (aCons (cB (aCons (gv 0) aNil) (len? 1 (runP 7 gLExp))) aNil)) (len? 2 (runP 2 (gShn CM)))))))))))
noncomputable def gWch : Ev → Option Fl :=
    (rtV (PD.b2 (mkLst (aCons (mkLst (aCons (mkTup (aCons (gv 0) (aCons (kI 1) aNil))) aNil)) (aCons (mkLst (aCons (mkTup (aCons (gv 0) (aCons (kI 0) aNil))) aNil)) (aCons (mkLst (aCons (mkTup (aCons (gv 0) (aCons (kI 2) aNil))) (aCons (mkTup (aCons (gv 0) (aCons (PD.b1 (kI 2) negI) aNil))) aNil))) aNil)))) (PD.b2 (cB (aCons (gv 1) aNil) intD) (kI 3) modI) ixD))
noncomputable def gSpo : Ev → Option Fl :=
    (sq (stO 3 (cO (aCons (gv 0) aNil) listO))
    (sq (stV 4 (PD.b2 (cB (aCons (PD.b2 (gv 1) (kI 0) ixD) aNil) intD) (kI 7) modI))
    (sq (stV 5 (mkLst (aCons (gv 4) aNil)))
    (sq (ifS (asB (PD.b2 (gv 4) (kI 5) eqD)) (stV 5 (mkLst (aCons (PD.b2 (cB (aCons (PD.b2 (gv 1) (kI 1) ixD) aNil) intD) (kI 5) modI) (aCons (PD.b2 (cB (aCons (PD.b2 (gv 1) (kI 2) ixD) aNil) intD) (kI 5) modI) aNil)))) skip)
    (sq (ifS (asB (PD.b2 (gv 4) (kI 6) eqD)) (stV 5 (mkLst (aCons (kI 0) (aCons (kI 1) (aCons (kI 2) (aCons (kI 3) (aCons (kI 4) aNil))))))) skip)
    (sq (stV 6 (PD.b2 (PD.b2 (kI 0) (kI 1) subI) (PD.b2 (cB (aCons (PD.b2 (gv 1) (kI 3) ixD) aNil) intD) (kI 3) modI) subI))
    (sq (stV 7 (PD.b2 (cB (aCons (PD.b2 (gv 1) (kI 4) ixD) aNil) intD) (PD.b2 (cB (aCons (PD.b2 (gv 0) (kI 2) ixD) aNil) lenD) (kI 1) addA) modI))
    (sq (stV 8 (kS "q"))
    (sq (ifS (andT (asB (PD.b2 (cB (aCons (PD.b2 (gv 0) (kI 2) ixD) aNil) lenD) (kI 0) gtI)) (asB (PD.b2 (PD.b2 (cB (aCons (PD.b2 (PD.b2 (gv 1) (kI 5) ixD) (kI 5) divI) aNil) intD) (kI 3) modI) (kI 0) gtI))) (stV 8 (PD.b2 (PD.b2 (PD.b2 (gv 0) (kI 2) ixD) (PD.b2 (cB (aCons (PD.b2 (PD.b2 (gv 1) (kI 5) ixD) (kI 15) divI) aNil) intD) (cB (aCons (PD.b2 (gv 0) (kI 2) ixD) aNil) lenD) modI) ixD) (kI 0) ixD)) skip)
    (sq (stV 9 (mkLst (aCons (mkTup (aCons (gv 2) (aCons (kI 0) (aCons kN aNil)))) (aCons (mkTup (aCons (gv 8) (aCons (gv 6) (aCons kN aNil)))) (aCons (mkTup (aCons (gv 8) (aCons kN (aCons (gv 6) aNil)))) aNil)))))
    (sq (stV 9 (PD.b2 (PD.b2 (gv 9) (mkLst (aCons (mkTup (aCons (gv 8) (aCons kN (aCons kN aNil)))) (aCons (mkTup (aCons (gv 8) (aCons (kI 3) (aCons (gv 6) aNil)))) aNil))) addA) (PD.b2 (cB (aCons (PD.b2 (gv 1) (kI 5) ixD) aNil) intD) (kI 5) modI) ixD))
    (sq (ifS (asB (PD.b2 (kI 0) (gv 5) inD)) (setP 3 plN (kI 0) (thaw (gv 2))) skip)
    (sq (ifS (asB (PD.b2 (kI 1) (gv 5) inD)) (setP 3 plN (kI 1) (thaw (gv 2))) skip)
    (sq (ifS (asB (PD.b2 (kI 2) (gv 5) inD)) (setP 3 plN (kI 2) (thaw (PD.b2 (PD.b2 (slc (PD.b2 (gv 0) (kI 2) ixD) noPart (part (gv 7))) (mkLst (aCons (gv 9) aNil)) addA) (slc (PD.b2 (gv 0) (kI 2) ixD) (part (gv 7)) noPart) addA))) skip)
    (sq (ifS (asB (PD.b2 (kI 3) (gv 5) inD)) (sq (stV 7 (PD.b2 (cB (aCons (PD.b2 (gv 1) (kI 6) ixD) aNil) intD) (PD.b2 (cB (aCons (PD.b2 (gv 0) (kI 3) ixD) aNil) lenD) (kI 1) addA) modI))
    (setP 3 plN (kI 3) (thaw (PD.b2 (PD.b2 (slc (PD.b2 (gv 0) (kI 3) ixD) noPart (part (gv 7))) (cB (aCons (gv 2) (aCons (PD.b2 (PD.b2 (gv 1) (kI 6) ixD) (kI 24) divI) aNil)) (len? 2 (runP 2 gWch))) addA) (slc (PD.b2 (gv 0) (kI 3) ixD) (part (gv 7)) noPart) addA)))) skip)
    (sq (ifS (asB (PD.b2 (kI 4) (gv 5) inD)) (setP 3 plN (kI 4) (thaw (gv 2))) skip)
    (fz 3 (rtV (gv 3)))))))))))))))))))
noncomputable def gChr : Ev → Option Fl :=
    (rtV (m1 (kS "") (lcD (rng1 (gv 2)) (gN 3) yes (PD.b2 (gv 0) (PD.b2 (cB (aCons (PD.b2 (gv 1) (gv 3) ixD) aNil) intD) (cB (aCons (gv 0) aNil) lenD) modI) ixD) [3]) joinD))
noncomputable def gTxt : Ev → Option Fl :=
    (sq (stV 1 (kS " !\"#$&'()*+,-./0123456789:;<=>?@ABCDEFGHIJKLMNOPQRSTUVWXYZ[\\]^_`"))
    (sq (stV 2 (kS "abcdefghijklmnopqrstuvwxyz"))
    (sq (stV 1 (PD.b2 (PD.b2 (gv 1) (gv 2) addA) (kS "{|}~\n") addA))
    (sq (stV 3 (mkLst (aCons (kI 0) (aCons (kI 1) (aCons (kI 2) (aCons (kI 7) (aCons (kI 11) (aCons (kI 12) (aCons (kI 13) (aCons (kI 14) aNil))))))))))
    (sq (stV 4 (PD.b2 (cB (aCons (PD.b2 (gv 0) (kI 0) ixD) aNil) intD) (kI 6) modI))
    (sq (stV 5 (cB (aCons (gv 1) (aCons (slc (gv 0) (part (kI 5)) noPart) (aCons (PD.b2 (cB (aCons (PD.b2 (gv 0) (kI 1) ixD) aNil) intD) (kI 40) modI) aNil))) (len? 3 (runP 4 gChr))))
    (sq (ifS (asB (PD.b2 (gv 4) (kI 1) eqD)) (stV 5 (cB (aCons (gv 2) (aCons (slc (gv 0) (part (kI 5)) noPart) (aCons (PD.b2 (gv 3) (PD.b2 (cB (aCons (PD.b2 (gv 0) (kI 1) ixD) aNil) intD) (kI 8) modI) ixD) aNil))) (len? 3 (runP 4 gChr)))) skip)
    (sq (ifS (asB (PD.b2 (gv 4) (kI 2) eqD)) (sq (stV 5 (PD.b2 (cB (aCons (gv 2) (aCons (slc (gv 0) (part (kI 5)) noPart) (aCons (PD.b2 (gv 3) (PD.b2 (cB (aCons (PD.b2 (gv 0) (kI 1) ixD) aNil) intD) (kI 8) modI) ixD) aNil))) (len? 3 (runP 4 gChr))) (kS ".") addA))
    (stV 5 (PD.b2 (gv 5) (cB (aCons (gv 2) (aCons (slc (gv 0) (part (kI 20)) noPart) (aCons (PD.b2 (gv 3) (PD.b2 (cB (aCons (PD.b2 (gv 0) (kI 2) ixD) aNil) intD) (kI 8) modI) ixD) aNil))) (len? 3 (runP 4 gChr))) addA))) skip)
    (sq (ifS (asB (PD.b2 (gv 4) (kI 3) eqD)) (stV 5 (cB (aCons (PD.b2 (gv 2) (kS "....") addA) (aCons (slc (gv 0) (part (kI 5)) noPart) (aCons (PD.b2 (cB (aCons (PD.b2 (gv 0) (kI 1) ixD) aNil) intD) (kI 30) modI) aNil))) (len? 3 (runP 4 gChr)))) skip)
    (sq (ifS (asB (PD.b2 (gv 4) (kI 4) eqD)) (stV 5 (cB (aCons (kS "0123456789") (aCons (slc (gv 0) (part (kI 5)) noPart) (aCons (PD.b2 (cB (aCons (PD.b2 (gv 0) (kI 1) ixD) aNil) intD) (kI 40) modI) aNil))) (len? 3 (runP 4 gChr)))) skip)
    (sq (ifS (asB (PD.b2 (gv 4) (kI 5) eqD)) (stV 5 (cB (aCons (kS "00123") (aCons (slc (gv 0) (part (kI 5)) noPart) (aCons (PD.b2 (cB (aCons (PD.b2 (gv 0) (kI 1) ixD) aNil) intD) (kI 4) modI) aNil))) (len? 3 (runP 4 gChr)))) skip)
    (sq (ifS (asB (PD.b2 (PD.b2 (cB (aCons (PD.b2 (PD.b2 (gv 0) (kI 0) ixD) (kI 6) divI) aNil) intD) (kI 3) modI) (kI 1) eqD)) (sq (stV 6 (PD.b2 (cB (aCons (PD.b2 (gv 0) (kI 3) ixD) aNil) intD) (PD.b2 (cB (aCons (gv 5) aNil) lenD) (kI 1) addA) modI))
    (stV 5 (PD.b2 (PD.b2 (slc (gv 5) noPart (part (gv 6))) (PD.b2 (gv 1) (PD.b2 (cB (aCons (PD.b2 (gv 0) (kI 4) ixD) aNil) intD) (cB (aCons (gv 1) aNil) lenD) modI) ixD) addA) (slc (gv 5) (part (gv 6)) noPart) addA))) skip)
    (rtV (gv 5))))))))))))))
noncomputable def gNear : Ev → Option Fl :=
    (sq (asg (gv 0) (gL 6 (gsC (gN 1) (gsC (gN 2) (gsC (gN 3) (gsC (gN 4) (gsC (gN 5) (gsC (gN 6) gsN))))))))
    (sq (stO 7 (mkLstO (aCons (mkLst (aCons (gv 1) (aCons (gv 2) (aCons (slc (PD.b2 (PD.b1 (gv 3) revD) (gv 3) addA) noPart (part (kI 24))) (aCons (PD.b1 (gv 4) revD) (aCons (gv 5) (aCons (gv 6) aNil))))))) aNil)))
    (sq (PD.app 7 (mkLst (aCons (gv 1) (aCons (gv 2) (aCons (cB (aCons (gv 3) aNil) tupD) (aCons (cB (aCons (PD.b2 (PD.b2 (mkLst (aCons (mkTup (aCons (kS "q") (aCons (kI 3) aNil))) aNil)) (gv 4) addA) (mkLst (aCons (mkTup (aCons (kS "q") (aCons (PD.b1 (kI 3) negI) aNil))) aNil)) addA) aNil) tupD) (aCons (gv 5) (aCons (gv 6) aNil))))))))
    (sq (forS (iOf (mkLst (aCons (kS "q") (aCons (kS "r") (aCons (kS "q.r") aNil))))) (gN 8) (sq (PD.app 7 (mkLst (aCons (gv 8) (aCons (gv 2) (aCons (gv 3) (aCons (gv 4) (aCons (gv 5) (aCons (gv 6) aNil))))))))
    (sq (PD.app 7 (mkLst (aCons (gv 1) (aCons (gv 8) (aCons (gv 3) (aCons (gv 4) (aCons (gv 5) (aCons (gv 6) aNil))))))))
    (sq (PD.app 7 (mkLst (aCons (gv 1) (aCons (gv 2) (aCons (PD.b2 (gv 3) (mkLst (aCons (mkTup (aCons (gv 8) (aCons (kI 0) (aCons kN aNil)))) aNil)) addA) (aCons (gv 4) (aCons (gv 5) (aCons (gv 6) aNil))))))))
    (sq (PD.app 7 (mkLst (aCons (gv 1) (aCons (gv 2) (aCons (PD.b2 (gv 3) (mkLst (aCons (mkTup (aCons (gv 8) (aCons kN (aCons (kI 5) aNil)))) aNil)) addA) (aCons (gv 4) (aCons (gv 5) (aCons (gv 6) aNil))))))))
    (sq (PD.app 7 (mkLst (aCons (gv 1) (aCons (gv 2) (aCons (gv 3) (aCons (PD.b2 (gv 4) (mkLst (aCons (mkTup (aCons (gv 8) (aCons (kI 1) aNil))) aNil)) addA) (aCons (gv 5) (aCons (gv 6) aNil))))))))
    (PD.app 7 (mkLst (aCons (gv 1) (aCons (gv 2) (aCons (gv 3) (aCons (gv 4) (aCons (gv 8) (aCons (gv 6) aNil))))))))))))))
    (sq (forS (rng1 (cB (aCons (kI 6) (aCons (cB (aCons (gv 3) aNil) lenD) aNil)) min2)) (gN 9) (sq (asg (PD.b2 (gv 3) (gv 9) ixD) (gT 3 (gsC (gN 10) (gsC (gN 11) (gsC (gN 12) gsN)))))
    (sq (PD.app 7 (mkLst (aCons (gv 1) (aCons (gv 2) (aCons (PD.b2 (gv 3) (mkLst (aCons (mkTup (aCons (gv 10) (aCons (kI 3) (aCons kN aNil)))) aNil)) addA) (aCons (gv 4) (aCons (gv 5) (aCons (gv 6) aNil))))))))
    (sq (PD.app 7 (mkLst (aCons (gv 1) (aCons (gv 2) (aCons (PD.b2 (gv 3) (mkLst (aCons (mkTup (aCons (gv 10) (aCons kN (aCons (kI 3) aNil)))) aNil)) addA) (aCons (gv 4) (aCons (gv 5) (aCons (gv 6) aNil))))))))
    (PD.app 7 (mkLst (aCons (gv 1) (aCons (gv 2) (aCons (PD.b2 (slc (gv 3) noPart (part (gv 9))) (slc (gv 3) (part (PD.b2 (gv 9) (kI 1) addA)) noPart) addA) (aCons (gv 4) (aCons (gv 5) (aCons (gv 6) aNil))))))))))))
    (sq (forS (rng1 (cB (aCons (kI 6) (aCons (cB (aCons (gv 4) aNil) lenD) aNil)) min2)) (gN 9) (sq (PD.app 7 (mkLst (aCons (gv 1) (aCons (gv 2) (aCons (gv 3) (aCons (PD.b2 (gv 4) (mkLst (aCons (mkTup (aCons (PD.b2 (PD.b2 (gv 4) (gv 9) ixD) (kI 0) ixD) (aCons (kI 1) aNil))) aNil)) addA) (aCons (gv 5) (aCons (gv 6) aNil))))))))
    (PD.app 7 (mkLst (aCons (gv 1) (aCons (gv 2) (aCons (gv 3) (aCons (PD.b2 (slc (gv 4) noPart (part (gv 9))) (slc (gv 4) (part (PD.b2 (gv 9) (kI 1) addA)) noPart) addA) (aCons (gv 5) (aCons (gv 6) aNil))))))))))
    (sq (PD.app 7 (mkLst (aCons (gv 1) (aCons (gv 2) (aCons (gv 3) (aCons (gv 4) (aCons kN (aCons (gv 6) aNil))))))))
    (sq (PD.app 7 (mkLst (aCons (gv 1) (aCons (gv 2) (aCons (gv 3) (aCons (gv 4) (aCons (gv 5) (aCons (notV (gv 6)) aNil))))))))
    (fz 7 (rtV (gv 7)))))))))))
noncomputable def gNum : Ev → Option Fl :=
    (sq (stV 2 (PD.b2 (kI 1) (PD.b2 (kI 2) (PD.b2 (cB (aCons (PD.b2 (PD.b2 (gv 0) (kI 0) ixD) (kI 4) divI) aNil) intD) (kI 2) modI) mulI) subI))
    (sq (stV 3 (PD.b2 (cB (aCons (PD.b2 (gv 0) (kI 0) ixD) aNil) intD) (kI 4) modI))
    (sq (ifS (orT (asB (PD.b2 (gv 1) (kI 0) eqD)) (asB (PD.b2 (gv 3) (kI 0) eqD))) (rtV (PD.b2 (PD.b2 (cB (aCons (PD.b2 (gv 0) (kI 1) ixD) aNil) intD) (kI 11) modI) (kI 5) subI)) skip)
    (sq (ifS (asB (PD.b2 (gv 3) (kI 1) eqD)) (rtV (PD.b2 (gv 2) (cB (aCons (PD.b2 (gv 0) (kI 1) ixD) aNil) intD) mulA)) skip)
    (sq (stV 4 (kI 0))
    (sq (forS (rng1 (kI 13)) (gN 5) (stV 4 (PD.b2 (PD.b2 (gv 4) (kI 1000) mulI) (cB (aCons (PD.b2 (gv 0) (PD.b2 (kI 1) (gv 5) addA) ixD) aNil) intD) addA)))
    (sq (ifS (orT (asB (PD.b2 (gv 1) (kI 1) eqD)) (asB (PD.b2 (gv 3) (kI 2) eqD))) (stV 4 (PD.b2 (cB (aCons (gv 4) aNil) intD) (PD.b2 (kI 10) (kI 18) powI) modI)) skip)
    (rtV (PD.b2 (gv 2) (gv 4) mulA)))))))))
noncomputable def gChs : Ev → Option Fl :=
    (sq (stO 2 (mkLstO aNil))
    (sq (forS (rng1 (PD.b2 (mkLst (aCons (kI 0) (aCons (kI 1) (aCons (kI 2) (aCons (kI 3) (aCons (kI 4) (aCons (kI 6) (aCons (kI 22) aNil)))))))) (PD.b2 (cB (aCons (PD.b2 (gv 0) (kI 0) ixD) aNil) intD) (kI 7) modI) ixD)) (gN 3) (sq (stV 4 (PD.b2 (kI 1) (PD.b2 (kI 15) (PD.b2 (gv 3) (kI 6) modI) mulI) addA))
    (sq (stV 5 (cB (aCons (slc (gv 0) (part (PD.b2 (gv 4) (kI 1) addA)) (part (PD.b2 (gv 4) (kI 15) addA))) (aCons (kI 2) aNil)) (len? 2 (runP 6 gNum))))
    (sq (ifS (orT (asB (PD.b2 (gv 5) (PD.b2 (kI 10) (kI 38) powI) gtI)) (asB (PD.b2 (gv 5) (PD.b2 (kI 0) (PD.b2 (kI 10) (kI 38) powI) subI) ltI))) (stV 5 (PD.b2 (gv 5) (kI 100) divI)) skip)
    (sq (stV 6 (PD.b2 (gv 1) (PD.b2 (cB (aCons (PD.b2 (PD.b2 (gv 0) (gv 4) ixD) (PD.b2 (gv 3) (kI 6) divI) addA) aNil) intD) (cB (aCons (gv 1) aNil) lenD) modI) ixD))
    (sq (ifS (andT (asB (PD.b2 (gv 3) (kI 0) gtI)) (asB (PD.b2 (PD.b2 (cB (aCons (PD.b2 (PD.b2 (gv 0) (gv 4) ixD) (kI 5) divI) aNil) intD) (kI 4) modI) (kI 1) eqD))) (sq (stV 6 (vwI (PD.b2 (PD.b2 (gv 2) (PD.b2 (gv 3) (kI 1) subI) ixD) (kI 0) ixD)))
    (stV 5 (vwI (PD.b2 (kI 0) (PD.b2 (PD.b2 (gv 2) (PD.b2 (gv 3) (kI 1) subI) ixD) (kI 1) ixD) subI)))) skip)
    (PD.app 2 (mkTup (aCons (gv 6) (aCons (gv 5) aNil))))))))))
    (fz 2 (rtV (gv 2)))))
noncomputable def gLim : Ev → Option Fl :=
    (sq (stV 1 (PD.b2 (cB (aCons (PD.b2 (gv 0) (kI 0) ixD) aNil) intD) (kI 5) modI))
    (sq (ifS (asB (PD.b2 (gv 1) (kI 0) eqD)) (rtV kN) skip)
    (sq (ifS (asB (PD.b2 (gv 1) (kI 4) ltI)) (rtV (PD.b2 (cB (aCons (PD.b2 (gv 0) (kI 1) ixD) aNil) intD) (kI 8) modI)) skip)
    (sq (stV 2 (kI 0))
    (sq (forS (rng1 (kI 13)) (gN 3) (stV 2 (PD.b2 (PD.b2 (gv 2) (kI 1000) mulI) (cB (aCons (PD.b2 (gv 0) (PD.b2 (kI 1) (gv 3) addA) ixD) aNil) intD) addA)))
    (rtV (gv 2)))))))
noncomputable def gNds : Ev → Option Fl :=
    (sq (stO 2 (mkLstO aNil))
    (sq (forS (rng1 (PD.b2 (mkLst (aCons (kI 0) (aCons (kI 1) (aCons (kI 2) (aCons (kI 3) (aCons (kI 4) (aCons (kI 6) (aCons (kI 23) aNil)))))))) (PD.b2 (cB (aCons (PD.b2 (gv 0) (kI 0) ixD) aNil) intD) (kI 7) modI) ixD)) (gN 3) (sq (stV 4 (PD.b2 (kI 1) (PD.b2 (kI 29) (PD.b2 (gv 3) (kI 6) modI) mulI) addA))
    (sq (stV 5 (cB (aCons (slc (gv 0) (part (PD.b2 (gv 4) (kI 1) addA)) (part (PD.b2 (gv 4) (kI 15) addA))) aNil) (len? 1 (runP 4 gLim))))
    (sq (stV 6 (cB (aCons (slc (gv 0) (part (PD.b2 (gv 4) (kI 15) addA)) (part (PD.b2 (gv 4) (kI 29) addA))) aNil) (len? 1 (runP 4 gLim))))
    (sq (ifS (asB (PD.b2 (gv 5) kN notN)) (stV 5 (PD.b2 (gv 5) (PD.b2 (gv 3) (kI 6) divI) addA)) skip)
    (sq (ifS (andT (asB (PD.b2 (gv 5) kN isN)) (asB (PD.b2 (gv 6) kN isN))) (stV 5 (PD.b2 (cB (aCons (PD.b2 (PD.b2 (gv 0) (gv 4) ixD) (kI 5) divI) aNil) intD) (kI 4) modI)) skip)
    (PD.app 2 (mkTup (aCons (PD.b2 (gv 1) (PD.b2 (cB (aCons (PD.b2 (PD.b2 (gv 0) (gv 4) ixD) (PD.b2 (gv 3) (kI 6) divI) addA) aNil) intD) (cB (aCons (gv 1) aNil) lenD) modI) ixD) (aCons (gv 5) (aCons (gv 6) aNil)))))))))))
    (fz 2 (rtV (gv 2)))))
noncomputable def gPool : Ev → Option Fl :=
    (sq (stV 1 (cB (aCons (PD.b2 (PD.b2 (gv 0) (kI 0) ixD) (PD.b2 (kI 1000) (PD.b2 (cB (aCons (PD.b2 (gv 0) (kI 1) ixD) aNil) intD) (kI 30) modI) mulI) addA) aNil) (len? 1 (runP 4 gWord))))
    (sq (stV 2 (cB (aCons (PD.b2 (gv 0) (kI 2) ixD) aNil) (len? 1 (runP 4 gWord))))
    (sq (ifS (asB (PD.b2 (PD.b2 (cB (aCons (PD.b2 (gv 0) (kI 3) ixD) aNil) intD) (kI 3) modI) (kI 1) eqD)) (stV 2 (slc (PD.b2 (gv 2) (kS "klmnopqrstuv") addA) noPart (part (kI 12)))) skip)
    (sq (stO 3 (mkLstO aNil))
    (sq (forS (iOf (mkLst (aCons (gv 1) (aCons (PD.b2 (PD.b2 (gv 1) (kS ".") addA) (gv 2) addA) (aCons (gv 2) (aCons (PD.b2 (PD.b2 (gv 2) (kS ".") addA) (gv 1) addA) (aCons (PD.b2 (gv 1) (kS "a") addA) aNil))))))) (gN 4) (ifS (vwT (asB (PD.b2 (gv 4) (gv 3) ninD))) (PD.app 3 (gv 4)) skip))
    (fz 3 (rtV (gv 3))))))))
noncomputable def gLaw03 (CM BM : Addr) : Ev → Option Fl :=
    (sq (stV 1 (cB (aCons (cB (aCons (gv 0) (aCons (kI 0) aNil)) (len? 2 (runP 2 gCell))) (aCons (kI 10) aNil)) (len? 2 (runP 7 gRow))))
    (sq (stV 2 (cB (aCons (gv 1) aNil) (len? 1 (runP 5 gPool))))
    (sq (stV 3 (cB (aCons (cB (aCons (cB (aCons (gv 0) (aCons (kI 1) aNil)) (len? 2 (runP 2 gCell))) (aCons (kI 175) aNil)) (len? 2 (runP 7 gRow))) (aCons (gv 2) aNil)) (len? 2 (runP 7 gNds))))
    (sq (stV 4 (cB (aCons (cB (aCons (cB (aCons (gv 0) (aCons (kI 2) aNil)) (len? 2 (runP 2 gCell))) (aCons (kI 91) aNil)) (len? 2 (runP 7 gRow))) (aCons (gv 2) aNil)) (len? 2 (runP 7 gChs))))
    (sq (stV 5 (PD.b2 (mkLst (aCons kN (aCons (PD.b2 (gv 2) (PD.b2 (cB (aCons (PD.b2 (gv 1) (kI 4) ixD) aNil) intD) (cB (aCons (gv 2) aNil) lenD) modI) ixD) aNil))) (PD.b2 (cB (aCons (PD.b2 (gv 1) (kI 5) ixD) aNil) intD) (kI 2) modI) ixD))
    (sq (stV 6 (mkLst (aCons (PD.b2 (gv 2) (PD.b2 (cB (aCons (PD.b2 (gv 1) (kI 6) ixD) aNil) intD) (cB (aCons (gv 2) aNil) lenD) modI) ixD) (aCons (PD.b2 (gv 2) (PD.b2 (cB (aCons (PD.b2 (gv 1) (kI 7) ixD) aNil) intD) (cB (aCons (gv 2) aNil) lenD) modI) ixD) (aCons (gv 3) (aCons (gv 4) (aCons (gv 5) (aCons (PD.b2 (PD.b2 (cB (aCons (PD.b2 (gv 1) (kI 8) ixD) aNil) intD) (kI 2) modI) (kI 1) (orD eqD (eqC CM [] (runP 2 (gMvEq CM))))) aNil))))))))
    (sq (stV 7 (cB (aCons (gv 6) aNil) (len? 1 (runP 7 gLExp))))
    (sq (stO 8 (lstOs (ooC (thaw (PD.b2 (gv 6) (kI 0) ixD)) (ooC (thaw (PD.b2 (gv 6) (kI 1) ixD)) (ooC (cO (aCons (gv 3) aNil) listO) (ooC (cO (aCons (gv 4) aNil) listO) (ooC (thaw (gv 5)) (ooC (thaw (PD.b2 (gv 6) (kI 5) ixD)) ooN))))))))
    (sq (stV 9 (frz (vwO (cX (aCons (gv 8) (aCons (PD.b2 (PD.b2 (cB (aCons (PD.b2 (gv 1) (kI 9) ixD) aNil) intD) (kI 2) modI) (kI 1) (orD eqD (eqC CM [] (runP 2 (gMvEq CM))))) aNil)) 2 (runX 8 (gBld CM BM))))))
    (sq (ifS (vwT (orT (notT (asB (cB (aCons (gv 8) (aCons (gv 6) aNil)) (len? 2 (same03 5))))) (notT (asB (cB (aCons (gv 9) (aCons (gv 7) aNil)) (len? 2 (runP 2 (gShn CM)))))))) (rtV (kB false)) skip)
    (sq (appP 8 (plI 8 plN (kI 2)) (thaw (mkTup (aCons (kS "q") (aCons (kI 1) (aCons (kI 1) aNil))))))
    (sq (appP 8 (plI 8 plN (kI 3)) (thaw (mkTup (aCons (kS "q") (aCons (kI 1) aNil)))))
    (sq (forS (iOf (cB (aCons (gv 6) aNil) (len? 1 (runP 13 gNear)))) (gN 10) (sq (stV 11 (frz (cX (aCons (gv 10) (aCons (PD.b2 (PD.b2 (cB (aCons (PD.b2 (gv 1) (kI 9) ixD) aNil) intD) (kI 2) modI) (kI 0) (orD eqD (eqC CM [] (runP 2 (gMvEq CM))))) aNil)) 2 (runX 8 (gBld CM BM)))))
    (ifS (orT (notT (asB (cB (aCons (PD.b2 (gv 9) (gv 11) (orD eqD (eqC CM [] (runP 2 (gMvEq CM))))) (aCons (PD.b2 (gv 7) (cB (aCons (gv 10) aNil) (len? 1 (runP 7 gLExp))) (orD eqD (eqC CM [] (runP 2 (gMvEq CM))))) aNil)) (len? 2 (same03 5))))) (notT (asB (cB (aCons (gv 11) (aCons (cB (aCons (gv 10) aNil) (len? 1 (runP 7 gLExp))) aNil)) (len? 2 (runP 2 (gShn CM))))))) (rtV (kB false)) skip)))
    (sq (forS (iOf (mkLst (aCons kN (aCons (cB (aCons (gv 7) aNil) tupD) (aCons (frz (cO (aCons (gv 7) aNil) listO)) (aCons (PD.b2 (gv 6) (kI 0) ixD) (aCons (kI 0) aNil))))))) (gN 12) (ifS (notT (asB (cB (aCons (PD.b2 (gv 9) (gv 12) (orD eqD (eqC CM [] (runP 2 (gMvEq CM))))) (aCons (kB false) aNil)) (len? 2 (same03 5))))) (rtV (kB false)) skip))
    (sq (forS (iOf (mkLst (aCons (kI 3) (aCons (kI 4) aNil)))) (gN 13) (sq (stV 14 (cB (aCons (cB (aCons (gv 0) (aCons (gv 13) aNil)) (len? 2 (runP 2 gCell))) (aCons (kI 52) aNil)) (len? 2 (runP 7 gRow))))
    (sq (stV 15 (cB (aCons (gv 6) (aCons (gv 14) (aCons (cB (aCons (slc (gv 14) (part (kI 7)) noPart) aNil) (len? 1 (runP 7 gTxt))) aNil))) (len? 3 (runP 10 gSpo))))
    (ifS (notT (asB (cB (aCons (gv 15) (aCons (PD.b2 (PD.b2 (cB (aCons (PD.b2 (gv 1) (kI 9) ixD) aNil) intD) (kI 2) modI) (kI 1) (orD eqD (eqC CM [] (runP 2 (gMvEq CM))))) aNil)) (len? 2 (runP 6 (gTold CM BM)))))) (rtV (kB false)) skip))))
    (rtV (andV (cB (aCons (gv 9) (aCons (gv 7) aNil)) (len? 2 (runP 2 (gShn CM)))) (andV (cB (aCons (gv 6) (aCons (kB true) aNil)) (len? 2 (runP 6 (gTold CM BM)))) (cB (aCons (gv 6) (aCons (kB false) aNil)) (len? 2 (runP 6 (gTold CM BM))))))))))))))))))))))

end GA

/-! k03: limits, numbers, needs and changes that are drawn -/
namespace GA
open PySem PySem.Spec L2 PD
instance instInhStr03 : Inhabited Str := ⟨"" ⟩
theorem lim03 {xs : List Int} (hl : xs.length = 14) (hr : ∀ r ∈ xs, 0 ≤ r ∧ r < 1000) : ∃ l : Lim, runP 4 gLim [.lst (xs.map .int)] = some (oD l) ∧ limB l = true := by
  obtain ⟨d, e, l, rfl, h⟩ : ∃ d, runP 4 gLim [.lst (xs.map .int)] = some d ∧ ∃ l, d = oD l ∧ limB l = true := by
    refine runP_of ?_
    unfold gLim
    show Rn _ [.dat (.lst (xs.map .int)), .unk, .unk, .unk] _
    refine Rn.sqst (d := .int (nth xs 0 % 5)) (by (simp (disch := first | assumption | omega) only [MV])) ?_
    have r0 := nth_rng hr 0
    have r1 := nth_rng hr 1
    show Rn _ [.dat (.lst (xs.map .int)), .dat (.int (nth xs 0 % 5)), .unk, .unk] _
    generalize nth xs 0 % 5 = kd
    refine Rn.sqif (p := kd = 0) (by (simp (disch := first | assumption | omega) only [MV])) (fun _ => Rn.sqret (d := .non) rfl ⟨_, _, rfl, rfl, none, rfl, rfl⟩) fun _ => Rn.sqskip ?_
    refine Rn.sqif (p := kd < 4) (by (simp (disch := first | assumption | omega) only [MV])) (fun _ => Rn.sqret (d := .int (nth xs 1 % 8)) (by (simp (disch := first | assumption | omega) only [MV])) ⟨_, _, rfl, rfl, some _, rfl, decide_eq_true (by omega)⟩) fun _ => Rn.sqskip ?_
    refine Rn.sqst (d := .int 0) rfl ?_
    refine Rn.sqforR (lo := 0) (n := 13) (by show rng1 _ [.dat _, .dat _, .dat _, .unk] = _; (simp (disch := first | assumption | omega) only [MV]); rfl) (fun i ρ => ∃ v x, ρ = [.dat (.lst (xs.map .int)), .dat (.int kd), .dat (.int v), x] ∧ 0 ≤ v) ⟨0, .unk, rfl, Int.le_refl _⟩ (fun i hi ρ hI => ?_) (fun ρ hI => ?_)
    · obtain ⟨v, x, rfl, hv⟩ := hI
      refine ⟨_, rfl, ?_⟩
      rw [Int.zero_add]
      have ri := nth_rng hr (1 + (i : Int))
      refine Rn.st (d := .int (v * 1000 + nth xs (1 + (i : Int)))) (by show PD.b2 _ _ _ [.dat _, .dat _, .dat _, .dat _] = _; (simp (disch := first | assumption | omega) only [MV])) ⟨_, _, rfl, by omega⟩
    · obtain ⟨v, x, rfl, hv⟩ := hI
      exact Rn.ret (d := .int v) rfl ⟨_, _, rfl, rfl, some v, rfl, decide_eq_true hv⟩
  exact ⟨l, e, h⟩
theorem num03 {xs : List Int} (hl : xs.length = 14) (hr : ∀ r ∈ xs, 0 ≤ r ∧ r < 1000) : ∃ v : Int, runP 6 gNum [.lst (xs.map .int), .int 2] = some (.int v) := by
  obtain ⟨d, e, v, rfl⟩ : ∃ d, runP 6 gNum [.lst (xs.map .int), .int 2] = some d ∧ ∃ v, d = .int v := by
    refine runP_of ?_
    unfold gNum
    show Rn _ [.dat (.lst (xs.map .int)), .dat (.int 2), .unk, .unk, .unk, .unk] _
    have r0 := nth_rng hr 0
    have r1 := nth_rng hr 1
    refine Rn.sqst (d := .int (1 - 2 * (nth xs 0 / 4 % 2))) (by (simp (disch := first | assumption | omega) only [MV])) ?_
    refine Rn.sqst (d := .int (nth xs 0 % 4)) (by show PD.b2 _ _ _ [.dat _, .dat _, .dat _, .unk, .unk, .unk] = _; (simp (disch := first | assumption | omega) only [MV])) ?_
    show Rn _ [.dat (.lst (xs.map .int)), .dat (.int 2), .dat (.int (1 - 2 * (nth xs 0 / 4 % 2))), .dat (.int (nth xs 0 % 4)), .unk, .unk] _
    have hs : -5 < 1 - 2 * (nth xs 0 / 4 % 2) ∧ 1 - 2 * (nth xs 0 / 4 % 2) < 5 := by omega
    generalize 1 - 2 * (nth xs 0 / 4 % 2) = sg at *
    generalize nth xs 0 % 4 = kd
    refine Rn.sqif (p := kd = 0) (by (simp (disch := first | assumption | omega) only [MV]) <;> simp) (fun _ => Rn.sqret (d := .int (nth xs 1 % 11 - 5)) (by (simp (disch := first | assumption | omega) only [MV])) ⟨_, _, rfl, rfl, _, rfl⟩) fun _ => Rn.sqskip ?_
    refine Rn.sqif (p := kd = 1) (by (simp (disch := first | assumption | omega) only [MV])) (fun _ => Rn.sqret (d := .int (sg * nth xs 1)) (by (simp (disch := first | assumption | omega) only [ew_mulL (i := sg) (j := nth xs 1) (by omega), MV])) ⟨_, _, rfl, rfl, _, rfl⟩) fun _ => Rn.sqskip ?_
    refine Rn.sqst (d := .int 0) rfl ?_
    show Rn _ [.dat (.lst (xs.map .int)), .dat (.int 2), .dat (.int sg), .dat (.int kd), .dat (.int 0), .unk] _
    refine Rn.sqforR (lo := 0) (n := 13) (by show rng1 _ [.dat _, .dat _, .dat _, .dat _, .dat _, .unk] = _; (simp (disch := first | assumption | omega) only [MV]); rfl) (fun i ρ => ∃ v x, ρ = [.dat (.lst (xs.map .int)), .dat (.int 2), .dat (.int sg), .dat (.int kd), .dat (.int v), x]) ⟨0, .unk, rfl⟩ (fun i hi ρ hI => ?_) (fun ρ hI => ?_)
    · obtain ⟨v, x, rfl⟩ := hI
      refine ⟨_, rfl, ?_⟩
      rw [Int.zero_add]
      refine Rn.st (d := .int (v * 1000 + nth xs (1 + (i : Int)))) (by show PD.b2 _ _ _ [.dat _, .dat _, .dat _, .dat _, .dat _, .dat _] = _; (simp (disch := first | assumption | omega) only [MV])) ⟨_, _, rfl⟩
    · obtain ⟨v, x, rfl⟩ := hI
      refine Rn.join (P := fun ρ => ∃ v, ρ = [.dat (.lst (xs.map .int)), .dat (.int 2), .dat (.int sg), .dat (.int kd), .dat (.int v), x]) ?_ ?_
      · refine Rn.iteP (p := kd = 2) (by (simp (disch := first | assumption | omega) only [MV]) <;> simp) (fun _ => ?_) fun _ => Rn.skip ⟨v, rfl⟩
        have ep : powI (.int 10) (.int 18) = some (.int ((10 : Int) ^ 18)) := rfl
        exact Rn.st (d := .int (v % (10 : Int) ^ 18)) (by (simp (disch := first | assumption | omega) only [ep, MV])) ⟨_, rfl⟩
      · rintro ρ ⟨v, rfl⟩
        exact Rn.ret (d := .int (sg * v)) (by (simp (disch := first | assumption | omega) only [ew_mulL (i := sg) (j := v) (by omega), MV])) ⟨_, _, rfl, rfl, _, rfl⟩
  exact ⟨v, e⟩
theorem cut_len14 {rs : List Int} {a b : Int} (ha : 0 ≤ a) (hab : b = a + 14) (hb : b ≤ rs.length) : (cutD rs (some a) (some b)).length = 14 := by
  have := cut_len (xs := rs) (a := a) (b := b) ha (by omega) (by omega)
  omega
theorem cut_rng {rs : List Int} (hr : ∀ r ∈ rs, 0 ≤ r ∧ r < 1000) (a b : Option Int) : ∀ r ∈ cutD rs a b, 0 ≤ r ∧ r < 1000 := fun r h => hr r (cut_sub h)
def ndL (n : Nd) : Bool := (n.2.1.isSome || n.2.2.isSome) && (limB n.2.1 && limB n.2.2)
theorem nds03 {rs : List Int} {ps : List Str} (hl : rs.length = 175) (hr : ∀ r ∈ rs, 0 ≤ r ∧ r < 1000) (hp : 0 < ps.length) :
    ∃ ns : List Nd, runP 7 gNds [.lst (rs.map .int), .lst (ps.map .str)] = some (.lst (ns.map ndD)) ∧ ns.length ≤ 23 ∧ ∀ n ∈ ns, n.1 ∈ ps ∧ ndL n = true := by
  obtain ⟨d, e, ns, rfl, h⟩ : ∃ d, runP 7 gNds [.lst (rs.map .int), .lst (ps.map .str)] = some d ∧ ∃ ns : List Nd, d = .lst (ns.map ndD) ∧ ns.length ≤ 23 ∧ ∀ n ∈ ns, n.1 ∈ ps ∧ ndL n = true := by
    refine runP_of ?_
    unfold gNds
    show Rn _ [.dat (.lst (rs.map .int)), .dat (.lst (ps.map .str)), .unk, .unk, .unk, .unk, .unk] _
    refine Rn.sqstO (o := .dats []) rfl ?_
    show Rn _ [.dat (.lst (rs.map .int)), .dat (.lst (ps.map .str)), .dats [], .unk, .unk, .unk, .unk] _
    have r0 := nth_rng hr 0
    have em : ixD (.lst [.int 0, .int 1, .int 2, .int 3, .int 4, .int 6, .int 23]) (.int (nth rs 0 % 7)) = some (.int (nth [0, 1, 2, 3, 4, 6, 23] (nth rs 0 % 7))) := ev_ixML (f := D.int) (xs := [0, 1, 2, 3, 4, 6, 23]) (by omega) (by simp; omega)
    have hN := nth_mem (xs := ([0, 1, 2, 3, 4, 6, 23] : List Int)) (k := nth rs 0 % 7) (by omega) (by simp; omega)
    obtain ⟨M, hM, hM2⟩ : ∃ M : Nat, nth ([0, 1, 2, 3, 4, 6, 23] : List Int) (nth rs 0 % 7) = (M : Int) ∧ M ≤ 23 := by
      generalize nth ([0, 1, 2, 3, 4, 6, 23] : List Int) (nth rs 0 % 7) = N at hN
      simp only [List.mem_cons, List.not_mem_nil, or_false] at hN
      exact ⟨N.toNat, by omega, by omega⟩
    rw [hM] at em
    refine Rn.sqforR (lo := 0) (n := M) (by
      show rng1 _ [.dat _, .dat _, _, .unk, .unk, .unk, .unk] = _
      (simp (disch := first | assumption | omega) only [em, Int.toNat_natCast, MV])) (fun i ρ => ∃ (ns : List Nd) (x3 x4 x5 x6 : O), ρ = [.dat (.lst (rs.map .int)), .dat (.lst (ps.map .str)), .dats (ns.map ndD), x3, x4, x5, x6] ∧ ns.length = i ∧ ∀ n ∈ ns, n.1 ∈ ps ∧ ndL n = true) ⟨[], _, _, _, _, rfl, rfl, fun n h => nomatch h⟩ (fun i hi ρ hI => ?_) (fun ρ hI => ?_)
    · obtain ⟨ns, x3, x4, x5, x6, rfl, hnl, hn⟩ := hI
      refine ⟨_, rfl, ?_⟩
      rw [Int.zero_add]
      refine Rn.sqst (d := .int (1 + 29 * ((i : Int) % 6))) (by show PD.b2 _ _ _ [.dat _, .dat _, _, .dat _, _, _, _] = _; (simp (disch := first | assumption | omega) only [MV])) ?_
      obtain ⟨a, ea⟩ : ∃ a, a = 1 + 29 * ((i : Int) % 6) := ⟨_, rfl⟩
      have hb : 1 ≤ a ∧ a ≤ 146 := by omega
      rw [← ea]
      clear ea
      obtain ⟨l5, e5, q5⟩ := lim03 (xs := cutD rs (some (a + 1)) (some (a + 15))) (cut_len14 (by omega) (by omega) (by omega)) (cut_rng hr _ _)
      obtain ⟨l6, e6, q6⟩ := lim03 (xs := cutD rs (some (a + 15)) (some (a + 29))) (cut_len14 (by omega) (by omega) (by omega)) (cut_rng hr _ _)
      refine Rn.sqst (d := oD l5) (by show cB _ _ [.dat _, .dat _, _, .dat _, .dat (.int a), _, _] = _; (simp (disch := first | assumption | omega) only [cut_map, e5, MV])) ?_
      refine Rn.sqst (d := oD l6) (by show cB _ _ [.dat _, .dat _, _, .dat _, .dat (.int a), .dat _, _] = _; (simp (disch := first | assumption | omega) only [cut_map, e6, MV])) ?_
      show Rn _ [.dat (.lst (rs.map .int)), .dat (.lst (ps.map .str)), .dats (ns.map ndD), .dat (.int (i : Int)), .dat (.int a), .dat (oD l5), .dat (oD l6)] _
      refine Rn.join (P := fun ρ => ∃ l : Lim, limB l = true ∧ ρ = [.dat (.lst (rs.map .int)), .dat (.lst (ps.map .str)), .dats (ns.map ndD), .dat (.int (i : Int)), .dat (.int a), .dat (oD l), .dat (oD l6)]) ?_ ?_
      · cases l5 with
        | none => exact Rn.ite (t := false) (by rfl) (fun h => nomatch h) fun _ => Rn.skip ⟨none, rfl, rfl⟩
        | some v =>
          refine Rn.ite (t := true) (by rfl) (fun _ => ?_) (fun h => nomatch h)
          have hv : 0 ≤ v := of_decide_eq_true q5
          exact Rn.st (d := .int (v + (i : Int) / 6)) (by show PD.b2 _ _ _ [.dat _, .dat _, _, .dat _, .dat _, .dat (.int v), .dat _] = _; (simp (disch := first | assumption | omega) only [MV])) ⟨some (v + (i : Int) / 6), decide_eq_true (by omega), rfl⟩
      · rintro ρ ⟨l, hlb, rfl⟩
        have ra := nth_rng hr a
        refine Rn.join (P := fun ρ => ∃ l : Lim, (limB l = true ∧ (l.isSome || l6.isSome) = true) ∧ ρ = [.dat (.lst (rs.map .int)), .dat (.lst (ps.map .str)), .dats (ns.map ndD), .dat (.int (i : Int)), .dat (.int a), .dat (oD l), .dat (oD l6)]) ?_ ?_
        · have hset : ∀ l l6 : Lim, Rn (stV 5 (PD.b2 (cB (aCons (PD.b2 (PD.b2 (gv 0) (gv 4) ixD) (kI 5) divI) aNil) intD) (kI 4) modI)) [.dat (.lst (rs.map .int)), .dat (.lst (ps.map .str)), .dats (ns.map ndD), .dat (.int (i : Int)), .dat (.int a), .dat (oD l), .dat (oD l6)] (Nx fun ρ => ∃ l : Lim, (limB l = true ∧ (l.isSome || l6.isSome) = true) ∧ ρ = [.dat (.lst (rs.map .int)), .dat (.lst (ps.map .str)), .dats (ns.map ndD), .dat (.int (i : Int)), .dat (.int a), .dat (oD l), .dat (oD l6)]) := fun l l6 =>
            Rn.st (d := .int (nth rs a / 5 % 4)) (by (simp (disch := first | assumption | omega) only [MV])) ⟨some (nth rs a / 5 % 4), ⟨decide_eq_true (by omega), rfl⟩, rfl⟩
          clear e6
          cases l with
          | some v => exact Rn.ite (t := false) (by rfl) (fun h => nomatch h) fun _ => Rn.skip ⟨some v, ⟨hlb, rfl⟩, rfl⟩
          | none =>
            cases l6 with
            | some w => exact Rn.ite (t := false) (by rfl) (fun h => nomatch h) fun _ => Rn.skip ⟨none, ⟨rfl, rfl⟩, rfl⟩
            | none => exact Rn.ite (t := true) (by rfl) (fun _ => hset none none) (fun h => nomatch h)
        · rintro ρ ⟨l, ⟨hlb, hlo⟩, rfl⟩
          have hk : 0 ≤ (nth rs a + (i : Int) / 6) % (ps.length : Int) ∧ (nth rs a + (i : Int) / 6) % (ps.length : Int) < ps.length := ⟨Int.emod_nonneg _ (by omega), Int.emod_lt_of_pos _ (by omega)⟩
          have hm := nth_mem hk.1 hk.2
          have ek : ixD (.lst (ps.map D.str)) (.int ((nth rs a + (i : Int) / 6) % (ps.length : Int))) = some (.str (nth ps ((nth rs a + (i : Int) / 6) % (ps.length : Int)))) := ev_ixML hk.1 hk.2
          refine Rn.appD (d := ndD (nth ps ((nth rs a + (i : Int) / 6) % (ps.length : Int)), l, l6)) (ds := ns.map ndD) ?_ rfl (by rw [List.length_map]; omega) ⟨ns ++ [(nth ps ((nth rs a + (i : Int) / 6) % (ps.length : Int)), l, l6)], .dat (.int (i : Int)), .dat (.int a), .dat (oD l), .dat (oD l6), ?_, by rw [List.length_append, hnl]; rfl, fun n hm2 => ?_⟩
          · (simp (disch := first | assumption | omega) only [ek, List.length_map, MV])
            rfl
          · show [_, _, O.dats _, _, _, _, _] = _
            rw [List.map_append]; rfl
          · rcases List.mem_append.mp hm2 with h | h
            · exact hn n h
            · rw [List.mem_singleton.mp h]
              exact ⟨hm, by unfold ndL; rw [hlo, hlb, q6]; rfl⟩
    · obtain ⟨ns, x3, x4, x5, x6, rfl, hnl, hn⟩ := hI
      refine Rn.fzD rfl ?_
      exact Rn.ret (d := .lst (ns.map ndD)) rfl ⟨_, _, rfl, rfl, ns, rfl, by omega, hn⟩
  exact ⟨ns, e, h⟩
theorem chs03 {rs : List Int} {ps : List Str} (hl : rs.length = 91) (hr : ∀ r ∈ rs, 0 ≤ r ∧ r < 1000) (hp : 0 < ps.length) :
    ∃ ns : List Ch, runP 7 gChs [.lst (rs.map .int), .lst (ps.map .str)] = some (.lst (ns.map chD)) ∧ ns.length ≤ 22 ∧ ∀ n ∈ ns, n.1 ∈ ps := by
  obtain ⟨d, e, ns, rfl, h⟩ : ∃ d, runP 7 gChs [.lst (rs.map .int), .lst (ps.map .str)] = some d ∧ ∃ ns : List Ch, d = .lst (ns.map chD) ∧ ns.length ≤ 22 ∧ ∀ n ∈ ns, n.1 ∈ ps := by
    refine runP_of ?_
    unfold gChs
    show Rn _ [.dat (.lst (rs.map .int)), .dat (.lst (ps.map .str)), .unk, .unk, .unk, .unk, .unk] _
    refine Rn.sqstO (o := .dats []) rfl ?_
    show Rn _ [.dat (.lst (rs.map .int)), .dat (.lst (ps.map .str)), .dats [], .unk, .unk, .unk, .unk] _
    have r0 := nth_rng hr 0
    have em : ixD (.lst [.int 0, .int 1, .int 2, .int 3, .int 4, .int 6, .int 22]) (.int (nth rs 0 % 7)) = some (.int (nth [0, 1, 2, 3, 4, 6, 22] (nth rs 0 % 7))) := ev_ixML (f := D.int) (xs := [0, 1, 2, 3, 4, 6, 22]) (by omega) (by simp; omega)
    have hN := nth_mem (xs := ([0, 1, 2, 3, 4, 6, 22] : List Int)) (k := nth rs 0 % 7) (by omega) (by simp; omega)
    obtain ⟨M, hM, hM2⟩ : ∃ M : Nat, nth ([0, 1, 2, 3, 4, 6, 22] : List Int) (nth rs 0 % 7) = (M : Int) ∧ M ≤ 22 := by
      generalize nth ([0, 1, 2, 3, 4, 6, 22] : List Int) (nth rs 0 % 7) = N at hN
      simp only [List.mem_cons, List.not_mem_nil, or_false] at hN
      exact ⟨N.toNat, by omega, by omega⟩
    rw [hM] at em
    refine Rn.sqforR (lo := 0) (n := M) (by
      show rng1 _ [.dat _, .dat _, _, .unk, .unk, .unk, .unk] = _
      (simp (disch := first | assumption | omega) only [em, Int.toNat_natCast, MV])) (fun i ρ => ∃ (ns : List Ch) (x3 x4 x5 x6 : O), ρ = [.dat (.lst (rs.map .int)), .dat (.lst (ps.map .str)), .dats (ns.map chD), x3, x4, x5, x6] ∧ ns.length = i ∧ ∀ n ∈ ns, n.1 ∈ ps) ⟨[], _, _, _, _, rfl, rfl, fun n h => nomatch h⟩ (fun i hi ρ hI => ?_) (fun ρ hI => ?_)
    · obtain ⟨ns, x3, x4, x5, x6, rfl, hnl, hn⟩ := hI
      refine ⟨_, rfl, ?_⟩
      rw [Int.zero_add]
      refine Rn.sqst (d := .int (1 + 15 * ((i : Int) % 6))) (by show PD.b2 _ _ _ [.dat _, .dat _, _, .dat _, _, _, _] = _; (simp (disch := first | assumption | omega) only [MV])) ?_
      obtain ⟨a, ea⟩ : ∃ a, a = 1 + 15 * ((i : Int) % 6) := ⟨_, rfl⟩
      have hb : 1 ≤ a ∧ a ≤ 76 := by omega
      rw [← ea]
      clear ea
      obtain ⟨v0, e5⟩ := num03 (xs := cutD rs (some (a + 1)) (some (a + 15))) (cut_len14 (by omega) (by omega) (by omega)) (cut_rng hr _ _)
      refine Rn.sqst (d := .int v0) (by show cB _ _ [.dat _, .dat _, _, .dat _, .dat (.int a), _, _] = _; (simp (disch := first | assumption | omega) only [cut_map, e5, MV])) ?_
      show Rn _ [.dat (.lst (rs.map .int)), .dat (.lst (ps.map .str)), .dats (ns.map chD), .dat (.int (i : Int)), .dat (.int a), .dat (.int v0), x6] _
      have ep : powI (.int 10) (.int 38) = some (.int ((10 : Int) ^ 38)) := rfl
      generalize (10 : Int) ^ 38 = B at ep
      refine Rn.join (P := fun ρ => ∃ v : Int, ρ = [.dat (.lst (rs.map .int)), .dat (.lst (ps.map .str)), .dats (ns.map chD), .dat (.int (i : Int)), .dat (.int a), .dat (.int v), x6]) ?_ ?_
      · refine Rn.iteP (p := B < v0 ∨ v0 < 0 - B) (by (simp (disch := first | assumption | omega) only [ep, MV])) (fun _ => Rn.st (d := .int (v0 / 100)) (by (simp (disch := first | assumption | omega) only [MV])) ⟨_, rfl⟩) fun _ => Rn.skip ⟨_, rfl⟩
      · rintro ρ ⟨v, rfl⟩
        have ra := nth_rng hr a
        have hk : 0 ≤ (nth rs a + (i : Int) / 6) % (ps.length : Int) ∧ (nth rs a + (i : Int) / 6) % (ps.length : Int) < ps.length := ⟨Int.emod_nonneg _ (by omega), Int.emod_lt_of_pos _ (by omega)⟩
        have hm := nth_mem hk.1 hk.2
        have ek : ixD (.lst (ps.map D.str)) (.int ((nth rs a + (i : Int) / 6) % (ps.length : Int))) = some (.str (nth ps ((nth rs a + (i : Int) / 6) % (ps.length : Int)))) := ev_ixML hk.1 hk.2
        refine Rn.sqst (d := .str (nth ps ((nth rs a + (i : Int) / 6) % (ps.length : Int)))) (by (simp (disch := first | assumption | omega) only [ek, List.length_map, MV])) ?_
        generalize nth ps ((nth rs a + (i : Int) / 6) % (ps.length : Int)) = s0 at hm
        clear ek hk
        show Rn _ [.dat (.lst (rs.map .int)), .dat (.lst (ps.map .str)), .dats (ns.map chD), .dat (.int (i : Int)), .dat (.int a), .dat (.int v), .dat (.str s0)] _
        refine Rn.join (P := fun ρ => ∃ (s : Str) (v : Int), s ∈ ps ∧ ρ = [.dat (.lst (rs.map .int)), .dat (.lst (ps.map .str)), .dats (ns.map chD), .dat (.int (i : Int)), .dat (.int a), .dat (.int v), .dat (.str s)]) ?_ ?_
        · refine Rn.iteP (p := (0 : Int) < (i : Int) ∧ nth rs a / 5 % 4 = 1) (by (simp (disch := first | assumption | omega) only [MV])) (fun hq => ?_) fun _ => Rn.skip ⟨_, _, hm, rfl⟩
          obtain ⟨⟨c0, w0⟩, hc⟩ : ∃ c, ns[i - 1]'(by omega) = c := ⟨_, rfl⟩
          have hcm : c0 ∈ ps := by
            have := hn _ (List.getElem_mem (show i - 1 < ns.length by omega))
            rw [hc] at this; exact this
          have ec : ixD (.lst (ns.map chD)) (.int ((i : Int) - 1)) = some (.tup [.str c0, .int w0]) := by
            show atI (ns.map chD) ((i : Int) - 1) = _
            rw [show (i : Int) - 1 = ((i - 1 : Nat) : Int) by omega]
            refine atI_nat ?_
            rw [List.getElem?_map, List.getElem?_eq_getElem (by omega), hc]; rfl
          refine Rn.sqst (d := .str c0) (by (simp (disch := first | assumption | omega) only [ec, MV, MW])) ?_
          exact Rn.st (d := .int (0 - w0)) (by show vwI _ [.dat _, .dat _, _, .dat _, .dat _, .dat _, .dat _] = _; (simp (disch := first | assumption | omega) only [ec, MV, MW])) ⟨_, _, hcm, rfl⟩
        · rintro ρ ⟨s, w, hs, rfl⟩
          refine Rn.appD (d := chD (s, w)) (ds := ns.map chD) (by (simp (disch := first | assumption | omega) only [MV]); rfl) rfl (by rw [List.length_map]; omega) ⟨ns ++ [(s, w)], .dat (.int (i : Int)), .dat (.int a), .dat (.int w), .dat (.str s), ?_, by rw [List.length_append, hnl]; rfl, fun n hm2 => ?_⟩
          · show [_, _, O.dats _, _, _, _, _] = _
            rw [List.map_append]; rfl
          · rcases List.mem_append.mp hm2 with h | h
            · exact hn n h
            · rw [List.mem_singleton.mp h]; exact hs
    · obtain ⟨ns, x3, x4, x5, x6, rfl, hnl, hn⟩ := hI
      refine Rn.fzD rfl ?_
      exact Rn.ret (d := .lst (ns.map chD)) rfl ⟨_, _, rfl, rfl, ns, rfl, by omega, hn⟩
  exact ⟨ns, e, h⟩
end GA

/-! k03: _law_same of a thing and itself; what is expected; what is shown; expected lists compared -/
namespace GA
open PySem PySem.Spec L2 PD
def smD : Nat → D → Prop
  | 0, _ => False
  | n + 1, d => match d with
    | .lst xs => xs.length ≤ 1000000 ∧ ∀ x ∈ xs, smD n x
    | .tup xs => xs.length ≤ 1000000 ∧ ∀ x ∈ xs, smD n x
    | .non => True
    | .bl _ => True
    | .int _ => True
    | .str _ => True
    | _ => False
theorem sameL_loop (n : Nat) (x : D) (xs : List D) (fi : Ev → Option (List D)) (hf : fi [.dat x, .dat x, .unk] = some (rangeD 0 xs.length)) (ih : ∀ d ∈ xs, same03 n [d, d] = some (.bl true)) (hx : ∀ i : Nat, (h : i < xs.length) → ixD x (.int i) = some xs[i]) :
    Rn (PD.sq (forS fi (gN 2) (ifS (notT (asB (cB (aCons (PD.b2 (gv 0) (gv 2) ixD) (aCons (PD.b2 (gv 1) (gv 2) ixD) aNil)) (len? 2 (same03 n))))) (rtV (kB false)) skip)) (rtV (kB true))) [.dat x, .dat x, .unk] fun r => ∃ o, outO r = some o ∧ o.toD = some (.bl true) := by
  refine Rn.sqforR (lo := 0) (n := xs.length) hf (fun i ρ => ∃ o, ρ = [.dat x, .dat x, o]) ⟨_, rfl⟩ (fun i hi ρ hI => ?_) (fun ρ hI => ?_)
  · obtain ⟨o, rfl⟩ := hI
    refine ⟨_, rfl, ?_⟩
    have e := hx i hi
    have e2 := ih xs[i] (List.getElem_mem hi)
    refine Rn.ite (t := false) ?_ (fun h => nomatch h) fun _ => Rn.skip ⟨_, rfl⟩
    show notT _ [.dat x, .dat x, .dat (.int (0 + (i : Int)))] = _
    rw [Int.zero_add]
    (simp (disch := first | assumption | omega) only [e, e2, MV])
  · obtain ⟨o, rfl⟩ := hI
    exact Rn.ret rfl ⟨_, rfl, rfl⟩
theorem sameL_none (n : Nat) : same03 (n + 1) [.non, .non] = some (.bl true) := by
  rw [same03]
  refine runP_eq ?_
  exact Rn.sqifT (ρ := [.dat .non, .dat .non, .unk]) (by (simp (disch := first | assumption | omega) only [MV])) (Rn.sqret (d := .bl true) (by (simp (disch := first | assumption | omega) only [MV])) ⟨_, rfl, rfl⟩)
theorem sameL_bl (n : Nat) (b : Bool) : same03 (n + 1) [.bl b, .bl b] = some (.bl true) := by
  rw [same03]
  refine runP_eq ?_
  exact Rn.chk (ρ := [.dat (.bl b), .dat (.bl b), .unk]) (by (simp (disch := first | assumption | omega) only [MV])) (Rn.sqifT (by (simp (disch := first | assumption | omega) only [MV])) (Rn.sqret (d := .bl true) (by (simp (disch := first | assumption | omega) only [MV]) <;> simp) ⟨_, rfl, rfl⟩))
theorem sameL_int (n : Nat) (b : Int) : same03 (n + 1) [.int b, .int b] = some (.bl true) := by
  rw [same03]
  refine runP_eq ?_
  exact Rn.chk (ρ := [.dat (.int b), .dat (.int b), .unk]) (by (simp (disch := first | assumption | omega) only [MV])) (Rn.chk (by (simp (disch := first | assumption | omega) only [MV])) (Rn.sqifT (by (simp (disch := first | assumption | omega) only [MV])) (Rn.sqret (d := .bl true) (by (simp (disch := first | assumption | omega) only [MV]) <;> simp) ⟨_, rfl, rfl⟩)))
theorem sameL_s (n : Nat) (b : Str) : same03 (n + 1) [.str b, .str b] = some (.bl true) := by
  rw [same03]
  refine runP_eq ?_
  exact Rn.chk (ρ := [.dat (.str b), .dat (.str b), .unk]) (by (simp (disch := first | assumption | omega) only [MV])) (Rn.chk (by (simp (disch := first | assumption | omega) only [MV])) (Rn.chk (by (simp (disch := first | assumption | omega) only [MV])) (Rn.sqifT (by (simp (disch := first | assumption | omega) only [MV])) (Rn.sqret (d := .bl true) (by (simp (disch := first | assumption | omega) only [MV]) <;> simp) ⟨_, rfl, rfl⟩))))
theorem sameL_lst (n : Nat) (xs : List D) (hh : xs.length ≤ 1000000) (ih : ∀ d ∈ xs, same03 n [d, d] = some (.bl true)) : same03 (n + 1) [.lst xs, .lst xs] = some (.bl true) := by
  rw [same03]
  refine runP_eq ?_
  refine Rn.chk (ρ := [.dat (.lst xs), .dat (.lst xs), .unk]) (by (simp (disch := first | assumption | omega) only [MV])) (Rn.chk (by (simp (disch := first | assumption | omega) only [MV])) (Rn.chk (by (simp (disch := first | assumption | omega) only [MV])) (Rn.chk (by (simp (disch := first | assumption | omega) only [MV])) (Rn.chk (by (simp (disch := first | assumption | omega) only [MV])) (Rn.chk (by (simp (disch := first | assumption | omega) only [MV]) <;> simp) ?_)))))
  exact sameL_loop n (.lst xs) xs _ (by (simp (disch := first | assumption | omega) only [MV]) <;> rfl) ih (fun i hi => by show atI xs (i : Int) = _; exact at_get hi)
theorem sameL_tup (n : Nat) (xs : List D) (hh : xs.length ≤ 1000000) (ih : ∀ d ∈ xs, same03 n [d, d] = some (.bl true)) : same03 (n + 1) [.tup xs, .tup xs] = some (.bl true) := by
  rw [same03]
  refine runP_eq ?_
  refine Rn.chk (ρ := [.dat (.tup xs), .dat (.tup xs), .unk]) (by (simp (disch := first | assumption | omega) only [MV])) (Rn.chk (by (simp (disch := first | assumption | omega) only [MV])) (Rn.chk (by (simp (disch := first | assumption | omega) only [MV])) (Rn.chk (by (simp (disch := first | assumption | omega) only [MV])) (Rn.chk (by (simp (disch := first | assumption | omega) only [MV])) (Rn.chk (by (simp (disch := first | assumption | omega) only [MV]) <;> simp) ?_)))))
  exact sameL_loop n (.tup xs) xs _ (by (simp (disch := first | assumption | omega) only [MV]) <;> rfl) ih (fun i hi => by show atI xs (i : Int) = _; exact at_get hi)
theorem sameL_self (n : Nat) : ∀ d : D, smD n d → same03 n [d, d] = some (.bl true) := by
  induction n with
  | zero => intro d h; exact h.elim
  | succ n ih =>
    intro d h
    cases d with
    | non => exact sameL_none n
    | bl b => exact sameL_bl n b
    | int b => exact sameL_int n b
    | str b => exact sameL_s n b
    | lst xs => exact sameL_lst n xs h.1 fun d hd => ih d (h.2 d hd)
    | tup xs => exact sameL_tup n xs h.1 fun d hd => ih d (h.2 d hd)
    | _ => exact h.elim
/-! ### moves as they are asked for -/
/-- texts that are short and may be laid -/
def Tx3 (s : Str) : Prop := s.length ≤ 900 ∧ ∀ c ∈ s.cps.toList, c < 1000
structure MvR (P : Str → Prop) (m : Mv) : Prop where
  name : P m.name
  player : P m.player
  needs : ∀ n ∈ m.needs, P n.1
  changes : ∀ n ∈ m.changes, P n.1
  sign : ∀ s, m.sign = some s → P s
  fewN : m.needs.length ≤ 500
  fewC : m.changes.length ≤ 500
theorem MvR.imp {P R : Str → Prop} {m : Mv} (h : MvR P m) (i : ∀ s, P s → R s) : MvR R m :=
  ⟨i _ h.name, i _ h.player, fun n hn => i _ (h.needs n hn), fun n hn => i _ (h.changes n hn), fun s e => i _ (h.sign s e), h.fewN, h.fewC⟩
theorem MvR.few {m : Mv} (h : MvR Tx3 m) : MvFew m := ⟨h.name.1, h.player.1, h.fewN, h.fewC, fun n hn => (h.needs n hn).1, fun n hn => (h.changes n hn).1, fun s e => (h.sign s e).1⟩
/-- the parts of a move, as the law passes them -/
def PtD (d : D) (m : Mv) : Prop := ∃ dn dc, d = .lst [.str m.name, .str m.player, dn, dc, sgD m.sign, .bl m.foul] ∧ seqD dn = some (m.needs.map ndD) ∧ seqD dc = some (m.changes.map chD)
abbrev expD (m : Mv) : D := .lst (mvV m)
theorem mns_names {ns : List Nd} {n : Nd} (h : n ∈ mns ns) : ∃ k ∈ ns, k.1 = n.1 := by
  rw [mns_adj] at h
  obtain ⟨c, hc, rfl⟩ := List.mem_map.mp h
  obtain ⟨k, hk, e⟩ := List.mem_map.mp ((srtS_perm _).mem_iff.mp (adj_sub _ _ _ hc))
  exact ⟨k, hk, e⟩
theorem mcs_names {ns : List Ch} {n : Ch} (h : n ∈ mcs ns) : ∃ k ∈ ns, k.1 = n.1 := by
  rw [mcs_adj] at h
  obtain ⟨c, hc, rfl⟩ := List.mem_map.mp h
  obtain ⟨k, hk, e⟩ := List.mem_map.mp ((srtS_perm _).mem_iff.mp (adj_sub _ _ _ (List.mem_filter.mp hc).1))
  exact ⟨k, hk, e⟩
theorem exp_run {d : D} {m : Mv} (h : PtD d m) (F : MvR Tx3 m) : runP 7 gLExp [d] = some (expD m) := by
  obtain ⟨dn, dc, rfl, hn, hc⟩ := h
  have e1 := lmrg_run hn F.fewN
  have e2 := lsum_run hc F.fewC
  obtain ⟨name, player, needs, changes, sign, foul⟩ := m
  refine runP_eq ?_
  unfold gLExp
  generalize hd : D.lst [.str name, .str player, dn, dc, sgD sign, .bl foul] = dd
  show Rn _ [.dat dd, .unk, .unk, .unk, .unk, .unk, .unk] _
  refine Rn.sq ⟨.nx [.dat dd, .dat (.str name), .dat (.str player), .dat dn, .dat dc, .dat (sgD sign), .dat (.bl foul)], by subst hd; rfl, ?_⟩
  refine Rn.ret (d := expD ⟨name, player, needs, changes, sign, foul⟩) ?_ ⟨_, rfl, rfl⟩
  unfold expD mvV
  (simp (disch := first | assumption | omega) only [e1, e2, MV])
theorem smD_exp {m : Mv} (F : MvR Tx3 m) : smD 5 (expD m) := by
  have h1 := mns_len m.needs
  have h2 := mcs_len m.changes
  have f1 := F.fewN
  have f2 := F.fewC
  refine ⟨by unfold mvV; simp, fun x hx => ?_⟩
  unfold mvV at hx
  simp only [List.mem_cons, List.not_mem_nil, or_false] at hx
  rcases hx with rfl | rfl | rfl | rfl | rfl | rfl
  · trivial
  · trivial
  · refine ⟨by rw [List.length_map]; omega, fun x hx => ?_⟩
    obtain ⟨n, _, rfl⟩ := List.mem_map.mp hx
    obtain ⟨c, lo, hi⟩ := n
    refine ⟨by simp [ndD], fun x hx => ?_⟩
    simp only [ndD, List.mem_cons, List.not_mem_nil, or_false] at hx
    rcases hx with rfl | rfl | rfl
    · trivial
    · cases lo <;> trivial
    · cases hi <;> trivial
  · refine ⟨by rw [List.length_map]; omega, fun x hx => ?_⟩
    obtain ⟨n, _, rfl⟩ := List.mem_map.mp hx
    obtain ⟨c, k⟩ := n
    refine ⟨by simp [chD], fun x hx => ?_⟩
    simp only [chD, List.mem_cons, List.not_mem_nil, or_false] at hx
    rcases hx with rfl | rfl <;> trivial
  · cases m.sign <;> trivial
  · trivial
theorem b1_at {f : Ev → Option D} {op : D → Option D} {ρ : Ev} {x z : D} (h1 : f ρ = some x) (h3 : op x = some z) : PD.b1 f op ρ = some z := by
  unfold PD.b1
  rw [h1, Option.bind_some]; exact h3
theorem shn_run (C : Addr) {m : Mv} (F : MvR Tx3 m) : runP 2 (gShn C) [mvD C m, expD m] = some (.bl true) := by
  have hs := sameL_self 5 _ (smD_exp F)
  refine runP_eq ?_
  unfold gShn
  show Rn _ [.dat (mvD C m), .dat (expD m)] _
  refine Rn.ret (d := .bl true) ?_ ⟨_, rfl, rfl⟩
  have f1 : PD.b1 (gv 0) (fldD C "name") [.dat (mvD C m), .dat (expD m)] = some (.str m.name) := b1_at rfl ((if_pos rfl).trans rfl)
  have f2 : PD.b1 (gv 0) (fldD C "player") [.dat (mvD C m), .dat (expD m)] = some (.str m.player) := b1_at rfl ((if_pos rfl).trans rfl)
  have f3 : PD.b1 (gv 0) (fldD C "needs") [.dat (mvD C m), .dat (expD m)] = some (.tup ((mns m.needs).map ndD)) := b1_at rfl ((if_pos rfl).trans rfl)
  have f4 : PD.b1 (gv 0) (fldD C "changes") [.dat (mvD C m), .dat (expD m)] = some (.tup ((mcs m.changes).map chD)) := b1_at rfl ((if_pos rfl).trans rfl)
  have f5 : PD.b1 (gv 0) (fldD C "sign") [.dat (mvD C m), .dat (expD m)] = some (sgD m.sign) := b1_at rfl ((if_pos rfl).trans rfl)
  have f6 : PD.b1 (gv 0) (fldD C "foul") [.dat (mvD C m), .dat (expD m)] = some (.bl m.foul) := b1_at rfl ((if_pos rfl).trans rfl)
  unfold expD mvV at *
  (simp (disch := first | assumption | omega) only [f1, f2, f3, f4, f5, f6, hs, MV])
end GA

/-! k03: texts that are drawn -/
namespace GA
open PySem PySem.Spec L2 PD
def Tk (n : Nat) (s : Str) : Prop := s.length ≤ n ∧ ∀ c ∈ s.cps.toList, c < 1000
theorem Tk.mono {n m : Nat} {s : Str} (h : Tk n s) (hm : n ≤ m) : Tk m s := ⟨Nat.le_trans h.1 hm, h.2⟩
theorem str_app3 (a b : Str) : (a ++ b).cps.toList = a.cps.toList ++ b.cps.toList := by
  show (a.cps ++ b.cps).toList = _
  simp
theorem Tk.cat {n m : Nat} {s t : Str} (h : Tk n s) (h2 : Tk m t) : Tk (n + m) (s ++ t) := by
  have := h.1
  have := h2.1
  refine ⟨by rw [ev_strlen]; omega, fun c hc => ?_⟩
  rw [str_app3] at hc
  exact (List.mem_append.mp hc).elim (h.2 c) (h2.2 c)
theorem Tk.cut {n : Nat} {s : Str} (h : Tk n s) (lo hi : Option Int) : Tk n (cutS s lo hi) := by
  have e := cutS_codes s lo hi
  refine ⟨?_, fun c hc => ?_⟩
  · rw [← str_len, e]
    refine Nat.le_trans ?_ h.1
    rw [← str_len]
    unfold cutD
    rw [List.length_take, List.length_drop]; omega
  · rw [e] at hc
    exact h.2 c (cut_sub hc)
theorem join_mem3 (ts : List Str) : ∀ c ∈ (Txt.join "" ts).cps.toList, ∃ t ∈ ts, c ∈ t.cps.toList := by
  have hf : ∀ (ps : List Str) (a : Array Nat), ∀ c ∈ (ps.foldl (fun acc p => acc ++ (Str.ofString "").cps ++ p.cps) a).toList, c ∈ a.toList ∨ ∃ t ∈ ps, c ∈ t.cps.toList := fun ps => by
    induction ps with
    | nil => exact fun a c hc => .inl hc
    | cons p ps ih =>
      intro a c hc
      rcases ih _ c hc with h | ⟨t, ht, h⟩
      · simp only [Array.toList_append, List.mem_append] at h
        rcases h with (h | h) | h
        · exact .inl h
        · exact nomatch (show c ∈ ([] : List Nat) from h)
        · exact .inr ⟨p, List.mem_cons_self, h⟩
      · exact .inr ⟨t, List.mem_cons_of_mem _ ht, h⟩
  intro c hc
  cases ts with
  | nil => exact nomatch (show c ∈ ([] : List Nat) from hc)
  | cons p ps =>
    rcases hf ps p.cps c hc with h | ⟨t, ht, h⟩
    · exact ⟨p, List.mem_cons_self, h⟩
    · exact ⟨t, List.mem_cons_of_mem _ ht, h⟩
theorem join_len3 : ∀ (ts : List Str), (∀ t ∈ ts, t.length = 1) → (Txt.join "" ts).length ≤ ts.length := fun ts h => by
  show (Builtin.Str.glued "" ts).length ≤ _
  rw [StrLaws.glued_eq_join]
  refine Nat.le_trans (StrLaws.join_length_le "" ts) ?_
  have e : ∀ us : List Str, (∀ t ∈ us, t.length = 1) → (us.map (·.length)).sum = us.length := fun us => by
    induction us with
    | nil => intro _; rfl
    | cons u us ih => intro h; rw [List.map_cons, List.sum_cons, ih fun t ht => h t (List.mem_cons_of_mem _ ht), h u List.mem_cons_self, List.length_cons]; omega
  rw [e ts h, show (Str.ofString "").length = 0 from rfl]
  omega
theorem ixS3 {n : Nat} {z : Str} (h : Tk n z) (hn : n ≤ 1000) {k : Int} (h0 : 0 ≤ k) (h1 : k < z.length) : ∃ t, ixD (.str z) (.int k) = some (.str t) ∧ Tk 1 t ∧ t.length = 1 := by
  have hl := h.1
  have e := str_len z
  refine ⟨⟨#[nth z.cps.toList k]⟩, ?_, ⟨Nat.le_refl _, fun c hc => ?_⟩, rfl⟩
  · show (if z.length ≤ sizeLine then (atI z.cps.toList k).map _ else none) = _
    rw [if_pos (len_le (by omega)), at_nth h0 (by omega)]; rfl
  · have : c = nth z.cps.toList k := by simpa using hc
    rw [this]
    exact h.2 _ (nth_mem h0 (by omega))
theorem range03 (n : Nat) : rangeD 0 n = (List.range n).map fun i : Nat => .int (i : Int) := by
  rw [rangeD_map]
  simp
theorem m1S_of {f g : Ev → Option D} {h : D → List D → Option D} {ρ : Ev} {z : Str} {y d : D} (h1 : f ρ = some (.str z)) (h2 : g ρ = some y) (h3 : h (.str z) [y] = some d) : m1 f g h ρ = some d := by
  unfold m1
  rw [h1]
  show (g ρ).bind _ = _
  rw [h2]; exact h3
theorem chr03 {menu : Str} {q : Nat} (hm : Tk q menu) (hq : q ≤ 1000) (hm0 : 0 < menu.length) {rs : List Int} {n : Nat} (hn : n ≤ rs.length) (hn2 : n ≤ 1000) (hr : ∀ r ∈ rs, 0 ≤ r ∧ r < 1000) :
    ∃ t, runP 4 gChr [.str menu, .lst (rs.map .int), .int (n : Int)] = some (.str t) ∧ Tk n t := by
  have hml := hm.1
  have hit : ∀ i : Nat, ∃ t : Str, i < n → (PD.b2 (gv 0) (PD.b2 (cB (aCons (PD.b2 (gv 1) (gv 3) ixD) aNil) intD) (cB (aCons (gv 0) aNil) lenD) modI) ixD) [.dat (.str menu), .dat (.lst (rs.map .int)), .dat (.int (n : Int)), .dat (.int (i : Int))] = some (.str t) ∧ Tk 1 t ∧ t.length = 1 := fun i => by
    by_cases hi : i < n
    · have hk : 0 ≤ nth rs (i : Int) % (menu.length : Int) ∧ nth rs (i : Int) % (menu.length : Int) < menu.length := ⟨Int.emod_nonneg _ (by omega), Int.emod_lt_of_pos _ (by omega)⟩
      obtain ⟨t, e, h1, h2⟩ := ixS3 hm hq hk.1 hk.2
      refine ⟨t, fun _ => ⟨?_, h1, h2⟩⟩
      have hl : lenD [.str menu] = some (.int menu.length) := ev_lenS (by omega)
      (simp (disch := first | assumption | omega) only [e, hl, MV])
    · exact ⟨"", fun h => absurd h hi⟩
  obtain ⟨f, hf⟩ := Classical.axiomOfChoice hit
  have hrange : rng1 (gv 2) [.dat (.str menu), .dat (.lst (rs.map .int)), .dat (.int (n : Int)), .unk] = some ((List.range n).map fun i : Nat => .int (i : Int)) := by
    rw [← range03]
    exact rng1_of rfl (by omega)
  have hlc := lc_map (fi := rng1 (gv 2)) (gt := gN 3) (vs := [3]) (f := PD.b2 (gv 0) (PD.b2 (cB (aCons (PD.b2 (gv 1) (gv 3) ixD) aNil) intD) (cB (aCons (gv 0) aNil) lenD) modI) ixD) (ρ := [.dat (.str menu), .dat (.lst (rs.map .int)), .dat (.int (n : Int)), .unk]) (φ := fun i : Nat => D.int (i : Int)) (fun i => .str (f i)) (xs := List.range n) rfl hrange (by rw [List.length_range]; omega) fun i hi => ⟨_, rfl, (hf i (List.mem_range.mp hi)).1⟩
  have hts : (List.range n).map (fun i => D.str (f i)) = ((List.range n).map f).map .str := by rw [List.map_map]; rfl
  have h1 : ∀ t ∈ (List.range n).map f, t.length = 1 := fun t ht => by
    obtain ⟨i, hi, rfl⟩ := List.mem_map.mp ht
    exact (hf i (List.mem_range.mp hi)).2.2
  have hb : (((List.range n).map f).map (·.length)).sum + ((List.range n).map f).length * (Str.ofString "").length ≤ 16777216 := by
    have e : ∀ us : List Str, (∀ t ∈ us, t.length = 1) → (us.map (·.length)).sum = us.length := fun us => by
      induction us with
      | nil => intro _; rfl
      | cons u us ih => intro h; rw [List.map_cons, List.sum_cons, ih fun t ht => h t (List.mem_cons_of_mem _ ht), h u List.mem_cons_self, List.length_cons]; omega
    rw [e _ h1, show (Str.ofString "").length = 0 from rfl, List.length_map, List.length_range]
    omega
  refine ⟨Txt.join "" ((List.range n).map f), ?_, ?_, fun c hc => ?_⟩
  · refine runP_eq ?_
    unfold gChr
    refine Rn.ret (d := .str (Txt.join "" ((List.range n).map f))) ?_ ⟨_, rfl, rfl⟩
    refine m1S_of rfl hlc ?_
    rw [hts]
    show (strsD (((List.range n).map f).map .str)).bind _ = _
    rw [strs_map, Option.bind_some, if_pos hb]
  · have := join_len3 _ h1
    rw [List.length_map, List.length_range] at this
    exact this
  · obtain ⟨t, ht, h⟩ := join_mem3 _ c hc
    obtain ⟨i, hi, rfl⟩ := List.mem_map.mp ht
    exact (hf i (List.mem_range.mp hi)).2.1.2 c h
end GA

/-! k03: the text that spoils a move -/
namespace GA
open PySem PySem.Spec L2 PD
abbrev SGa : Str := Str.ofString " !\"#$&'()*+,-./0123456789:;<=>?@ABCDEFGHIJKLMNOPQRSTUVWXYZ[\\]^_`"
abbrev SGc : Str := Str.ofString "{|}~\n"
theorem tk_of {n : Nat} {s : Str} (h : (decide (s.length ≤ n) && s.cps.toList.all fun c => decide (c < 1000)) = true) : Tk n s := by
  rw [Bool.and_eq_true, decide_eq_true_iff, List.all_eq_true] at h
  exact ⟨h.1, fun c hc => of_decide_eq_true (h.2 c hc)⟩
theorem tk_SGa : Tk 80 SGa := tk_of (by decide +kernel)
theorem tk_SGc : Tk 10 SGc := tk_of (by decide +kernel)
theorem tk_ABC : Tk 30 ABC := tk_of (by decide +kernel)
theorem txt03 {rs : List Int} (hl : rs.length = 45) (hr : ∀ r ∈ rs, 0 ≤ r ∧ r < 1000) : ∃ t, runP 7 gTxt [.lst (rs.map .int)] = some (.str t) ∧ Tk 300 t := by
  obtain ⟨d, e, t, rfl, h⟩ : ∃ d, runP 7 gTxt [.lst (rs.map .int)] = some d ∧ ∃ t, d = .str t ∧ Tk 300 t := by
    refine runP_of ?_
    unfold gTxt
    show Rn _ [.dat (.lst (rs.map .int)), .unk, .unk, .unk, .unk, .unk, .unk] _
    refine Rn.sqst (d := .str SGa) rfl ?_
    refine Rn.sqst (d := .str ABC) rfl ?_
    obtain ⟨SG, hSG⟩ : ∃ s, s = SGa ++ ABC ++ SGc := ⟨_, rfl⟩
    have kSG : Tk 120 SG := by rw [hSG]; exact (tk_SGa.cat tk_ABC).cat tk_SGc
    have lSG : 0 < SG.length := by
      rw [hSG, ev_strlen, ev_strlen]
      have : 0 < SGa.length := by decide +kernel
      omega
    have lSG2 := kSG.1
    have c1 : addA (.str SGa) (.str ABC) = some (.str (SGa ++ ABC)) := ev_catS (by have := tk_SGa.1; have := tk_ABC.1; omega)
    have c2 : addA (.str (SGa ++ ABC)) (.str SGc) = some (.str SG) := by
      rw [hSG]
      exact ev_catS (by have := (tk_SGa.cat tk_ABC).1; have := tk_SGc.1; omega)
    refine Rn.sqst (d := .str SG) (by
      show PD.b2 (PD.b2 (gv 1) (gv 2) addA) (kS "{|}~\n") addA [.dat _, .dat (.str SGa), .dat (.str ABC), _, _, _, _] = _
      (simp (disch := first | assumption | omega) only [c1, c2, MV])) ?_
    clear c1 c2 hSG
    refine Rn.sqst (d := .lst [.int 0, .int 1, .int 2, .int 7, .int 11, .int 12, .int 13, .int 14]) (by rfl) ?_
    show Rn _ [.dat (.lst (rs.map .int)), .dat (.str SG), .dat (.str ABC), .dat (.lst [.int 0, .int 1, .int 2, .int 7, .int 11, .int 12, .int 13, .int 14]), .unk, .unk, .unk] _
    have r0 := nth_rng hr 0
    have r1 := nth_rng hr 1
    have r2 := nth_rng hr 2
    have r3 := nth_rng hr 3
    have r4 := nth_rng hr 4
    have siz : ∀ k : Int, 0 ≤ k → ∃ n : Nat, ixD (.lst [.int 0, .int 1, .int 2, .int 7, .int 11, .int 12, .int 13, .int 14]) (.int (k % 8)) = some (.int (n : Int)) ∧ n ≤ 14 := fun k hk => by
      have e : ixD (.lst [.int 0, .int 1, .int 2, .int 7, .int 11, .int 12, .int 13, .int 14]) (.int (k % 8)) = some (.int (nth ([0, 1, 2, 7, 11, 12, 13, 14] : List Int) (k % 8))) := ev_ixML (f := D.int) (xs := [0, 1, 2, 7, 11, 12, 13, 14]) (by omega) (by simp; omega)
      have hN := nth_mem (xs := ([0, 1, 2, 7, 11, 12, 13, 14] : List Int)) (k := k % 8) (by omega) (by simp; omega)
      generalize nth ([0, 1, 2, 7, 11, 12, 13, 14] : List Int) (k % 8) = N at hN e
      simp only [List.mem_cons, List.not_mem_nil, or_false] at hN
      refine ⟨N.toNat, ?_, by omega⟩
      rw [e, show ((N.toNat : Nat) : Int) = N by omega]
    obtain ⟨n1, en1, hn1⟩ := siz (nth rs 1) r1.1
    obtain ⟨n2, en2, hn2⟩ := siz (nth rs 2) r2.1
    have d5 : ∀ k : Nat, k ≤ 40 → k ≤ (cutD rs (some 5) none).length := fun k hk => by
      rw [show (5 : Int) = ((5 : Nat) : Int) from rfl, PD.cut_from, List.length_drop]; omega
    have d20 : ∀ k : Nat, k ≤ 25 → k ≤ (cutD rs (some 20) none).length := fun k hk => by
      rw [show (20 : Int) = ((20 : Nat) : Int) from rfl, PD.cut_from, List.length_drop]; omega
    generalize D.lst [.int 0, .int 1, .int 2, .int 7, .int 11, .int 12, .int 13, .int 14] = SZ at *
    refine Rn.sqst (d := .int (nth rs 0 % 6)) (by (simp (disch := first | assumption | omega) only [MV])) ?_
    show Rn _ [.dat (.lst (rs.map .int)), .dat (.str SG), .dat (.str ABC), .dat SZ, .dat (.int (nth rs 0 % 6)), .unk, .unk] _
    generalize nth rs 0 % 6 = kd
    obtain ⟨q1, hq1⟩ : ∃ n : Nat, nth rs 1 % 40 = (n : Int) := ⟨(nth rs 1 % 40).toNat, by omega⟩
    obtain ⟨t1, et1, ht1⟩ := chr03 kSG (by decide) lSG (n := q1) (d5 q1 (by omega)) (by omega) (cut_rng hr (some 5) none)
    refine Rn.sqst (d := .str t1) (by
      show cB _ _ [.dat _, .dat _, .dat _, .dat _, .dat _, .unk, .unk] = _
      (simp (disch := first | assumption | omega) only [cut_map, hq1, et1, MV])) ?_
    show Rn _ [.dat (.lst (rs.map .int)), .dat (.str SG), .dat (.str ABC), .dat SZ, .dat (.int kd), .dat (.str t1), .unk] _
    have ht1' : Tk 100 t1 := ht1.mono (by omega)
    clear et1 ht1
    generalize t1 = t0 at ht1'
    have lABC : 0 < ABC.length := by decide +kernel
    -- kind 1
    obtain ⟨ta, eta, hta⟩ := chr03 tk_ABC (by decide) lABC (n := n1) (d5 n1 (by omega)) (by omega) (cut_rng hr (some 5) none)
    obtain ⟨tb, etb, htb⟩ := chr03 tk_ABC (by decide) lABC (n := n2) (d20 n2 (by omega)) (by omega) (cut_rng hr (some 20) none)
    refine Rn.join (P := fun ρ => ∃ t, Tk 100 t ∧ ρ = [.dat (.lst (rs.map .int)), .dat (.str SG), .dat (.str ABC), .dat SZ, .dat (.int kd), .dat (.str t), .unk]) ?_ ?_
    · refine Rn.iteP (p := kd = 1) (by (simp (disch := first | assumption | omega) only [MV])) (fun _ => ?_) fun _ => Rn.skip ⟨_, ht1', rfl⟩
      exact Rn.st (d := .str ta) (by (simp (disch := first | assumption | omega) only [cut_map, en1, eta, MV])) ⟨_, hta.mono (by omega), rfl⟩
    rintro _ ⟨t, ht, rfl⟩
    refine Rn.join (P := fun ρ => ∃ t, Tk 100 t ∧ ρ = [.dat (.lst (rs.map .int)), .dat (.str SG), .dat (.str ABC), .dat SZ, .dat (.int kd), .dat (.str t), .unk]) ?_ ?_
    · refine Rn.iteP (p := kd = 2) (by (simp (disch := first | assumption | omega) only [MV])) (fun _ => ?_) fun _ => Rn.skip ⟨_, ht, rfl⟩
      have kd1 : Tk 15 (ta ++ (Str.ofString ".")) := (hta.cat (tk_of (n := 1) (s := Str.ofString ".") (by decide +kernel))).mono (by omega)
      have c1 : addA (.str ta) (.str (Str.ofString ".")) = some (.str (ta ++ Str.ofString ".")) := ev_catS (by have := hta.1; have : (Str.ofString ".").length = 1 := rfl; omega)
      have c2 : addA (.str (ta ++ Str.ofString ".")) (.str tb) = some (.str (ta ++ Str.ofString "." ++ tb)) := ev_catS (by have := kd1.1; have := htb.1; omega)
      refine Rn.sqst (d := .str (ta ++ Str.ofString ".")) (by (simp (disch := first | assumption | omega) only [cut_map, en1, eta, c1, MV])) ?_
      refine Rn.st (d := .str (ta ++ Str.ofString "." ++ tb)) (by
        show PD.b2 _ _ _ [.dat _, .dat _, .dat _, .dat _, .dat _, .dat _, .unk] = _
        (simp (disch := first | assumption | omega) only [cut_map, en2, etb, c2, MV])) ⟨_, (kd1.cat htb).mono (by omega), rfl⟩
    rintro _ ⟨t, ht, rfl⟩
    refine Rn.join (P := fun ρ => ∃ t, Tk 100 t ∧ ρ = [.dat (.lst (rs.map .int)), .dat (.str SG), .dat (.str ABC), .dat SZ, .dat (.int kd), .dat (.str t), .unk]) ?_ ?_
    · refine Rn.iteP (p := kd = 3) (by (simp (disch := first | assumption | omega) only [MV])) (fun _ => ?_) fun _ => Rn.skip ⟨_, ht, rfl⟩
      have c1 : addA (.str ABC) (.str (Str.ofString "....")) = some (.str (ABC ++ Str.ofString "....")) := ev_catS (by decide +kernel)
      obtain ⟨q3, hq3⟩ : ∃ n : Nat, nth rs 1 % 30 = (n : Int) := ⟨(nth rs 1 % 30).toNat, by omega⟩
      obtain ⟨tc, etc, htc⟩ := chr03 (tk_ABC.cat (tk_of (n := 4) (s := Str.ofString "....") (by decide +kernel))) (by decide) (by rw [ev_strlen]; omega) (n := q3) (d5 q3 (by omega)) (by omega) (cut_rng hr (some 5) none)
      exact Rn.st (d := .str tc) (by (simp (disch := first | assumption | omega) only [cut_map, c1, hq3, etc, MV])) ⟨_, htc.mono (by omega), rfl⟩
    rintro _ ⟨t, ht, rfl⟩
    refine Rn.join (P := fun ρ => ∃ t, Tk 100 t ∧ ρ = [.dat (.lst (rs.map .int)), .dat (.str SG), .dat (.str ABC), .dat SZ, .dat (.int kd), .dat (.str t), .unk]) ?_ ?_
    · refine Rn.iteP (p := kd = 4) (by (simp (disch := first | assumption | omega) only [MV])) (fun _ => ?_) fun _ => Rn.skip ⟨_, ht, rfl⟩
      obtain ⟨tc, etc, htc⟩ := chr03 (tk_of (n := 10) (s := Str.ofString "0123456789") (by decide +kernel)) (by decide) (by decide +kernel) (n := q1) (d5 q1 (by omega)) (by omega) (cut_rng hr (some 5) none)
      exact Rn.st (d := .str tc) (by (simp (disch := first | assumption | omega) only [cut_map, hq1, etc, MV])) ⟨_, htc.mono (by omega), rfl⟩
    rintro _ ⟨t, ht, rfl⟩
    refine Rn.join (P := fun ρ => ∃ t, Tk 100 t ∧ ρ = [.dat (.lst (rs.map .int)), .dat (.str SG), .dat (.str ABC), .dat SZ, .dat (.int kd), .dat (.str t), .unk]) ?_ ?_
    · refine Rn.iteP (p := kd = 5) (by (simp (disch := first | assumption | omega) only [MV])) (fun _ => ?_) fun _ => Rn.skip ⟨_, ht, rfl⟩
      obtain ⟨q5, hq5⟩ : ∃ n : Nat, nth rs 1 % 4 = (n : Int) := ⟨(nth rs 1 % 4).toNat, by omega⟩
      obtain ⟨tc, etc, htc⟩ := chr03 (tk_of (n := 10) (s := Str.ofString "00123") (by decide +kernel)) (by decide) (by decide +kernel) (n := q5) (d5 q5 (by omega)) (by omega) (cut_rng hr (some 5) none)
      exact Rn.st (d := .str tc) (by (simp (disch := first | assumption | omega) only [cut_map, hq5, etc, MV])) ⟨_, htc.mono (by omega), rfl⟩
    rintro _ ⟨t, ht, rfl⟩
    refine Rn.join (P := fun ρ => ∃ t x, Tk 300 t ∧ ρ = [.dat (.lst (rs.map .int)), .dat (.str SG), .dat (.str ABC), .dat SZ, .dat (.int kd), .dat (.str t), x]) ?_ ?_
    · refine Rn.iteP (p := nth rs 0 / 6 % 3 = 1) (by (simp (disch := first | assumption | omega) only [MV])) (fun _ => ?_) fun _ => Rn.skip ⟨_, _, ht.mono (by omega), rfl⟩
      have htl := ht.1
      have hpl : lenD [.str t] = some (.int t.length) := ev_lenS (by omega)
      have hpS : lenD [.str SG] = some (.int SG.length) := ev_lenS (by omega)
      have hk : 0 ≤ nth rs 4 % (SG.length : Int) ∧ nth rs 4 % (SG.length : Int) < SG.length := ⟨Int.emod_nonneg _ (by omega), Int.emod_lt_of_pos _ (by omega)⟩
      obtain ⟨u, eu, hu, hu1⟩ := ixS3 kSG (by decide) hk.1 hk.2
      refine Rn.sqst (d := .int (nth rs 3 % ((t.length : Int) + 1))) (by (simp (disch := first | assumption | omega) only [hpl, MV])) ?_
      show Rn _ [.dat (.lst (rs.map .int)), .dat (.str SG), .dat (.str ABC), .dat SZ, .dat (.int kd), .dat (.str t), .dat (.int (nth rs 3 % ((t.length : Int) + 1)))] _
      generalize nth rs 3 % ((t.length : Int) + 1) = p
      have k1 := ht.cut none (some p)
      have k2 := ht.cut (some p) none
      have l1 := k1.1
      have l2 := k2.1
      have c1 : addA (.str (cutS t none (some p))) (.str u) = some (.str (cutS t none (some p) ++ u)) := ev_catS (by omega)
      have c2 : addA (.str (cutS t none (some p) ++ u)) (.str (cutS t (some p) none)) = some (.str (cutS t none (some p) ++ u ++ cutS t (some p) none)) := ev_catS (by rw [ev_strlen]; omega)
      exact Rn.st (d := .str (cutS t none (some p) ++ u ++ cutS t (some p) none)) (by (simp (disch := first | assumption | omega) only [hpS, eu, c1, c2, MV])) ⟨_, _, ((k1.cat hu).cat k2).mono (by omega), rfl⟩
    rintro _ ⟨t, x, ht, rfl⟩
    exact Rn.ret (d := .str t) rfl ⟨_, _, rfl, rfl, t, rfl, ht⟩
  exact ⟨t, e, h⟩
end GA

/-! k03: the labels that are drawn -/
namespace GA
open PySem PySem.Spec L2 PD
def Lb3 (s : Str) : Prop := labB s.cps.toList = true ∧ Tx3 s
theorem nmB_nm {l : List Nat} (h : nm l) : nmB l = true := by
  unfold nmB
  rw [decide_eq_true h.1.1, decide_eq_true h.1.2, List.all_eq_true.mpr fun c hc => decide_eq_true (abc_mem (h.2 c hc))]
  rfl
theorem labB_lab {s : Str} (h : Lab s) : labB s.cps.toList = true := by
  obtain ⟨ps, e, h1, h2, _⟩ := label_parts h
  unfold labB
  rw [e, decide_eq_true h2, List.all_eq_true.mpr fun p hp => nmB_nm (h1 p hp)]
  rfl
theorem lab_tx {s : Str} (h : Lab s) : Tx3 s := by
  obtain ⟨ps, e, h1, h2, h3⟩ := label_parts h
  refine ⟨by omega, ?_⟩
  rcases h with h | ⟨a, b, ha, hb, e⟩
  · intro c hc
    have := h.2 c hc
    omega
  · rw [e]
    intro c hc
    rcases List.mem_append.mp hc with q | q
    · have := ha.2 c q; omega
    · rcases List.mem_cons.mp q with rfl | q
      · decide
      · have := hb.2 c q; omega
theorem lab_lb {s : Str} (h : Lab s) : Lb3 s := ⟨labB_lab h, lab_tx h⟩
theorem nm_len {s : Str} (h : nm s.cps.toList) : s.length ≤ 12 := by
  rw [← str_len]; exact h.1.2
theorem nm_cat {a b : Str} (ha : nm a.cps.toList) (hb : nm b.cps.toList) : Lab (a ++ Str.ofString "." ++ b) := .inr ⟨_, _, ha, hb, by
  rw [str_app3, str_app3, List.append_assoc]; rfl⟩
theorem pool03 {rs : List Int} (hl : rs.length = 10) (hr : ∀ r ∈ rs, 0 ≤ r ∧ r < 1000) : ∃ ps : List Str, runP 5 gPool [.lst (rs.map .int)] = some (.lst (ps.map .str)) ∧ 0 < ps.length ∧ ps.length ≤ 5 ∧ ∀ p ∈ ps, Lb3 p := by
  obtain ⟨d, e, ps, rfl, h⟩ : ∃ d, runP 5 gPool [.lst (rs.map .int)] = some d ∧ ∃ ps : List Str, d = .lst (ps.map .str) ∧ 0 < ps.length ∧ ps.length ≤ 5 ∧ ∀ p ∈ ps, Lb3 p := by
    refine runP_of ?_
    unfold gPool
    show Rn _ [.dat (.lst (rs.map .int)), .unk, .unk, .unk, .unk] _
    have r0 := nth_rng hr 0
    have r1 := nth_rng hr 1
    have r2 := nth_rng hr 2
    have r3 := nth_rng hr 3
    obtain ⟨n1, e1, h1⟩ : ∃ n : Nat, nth rs 0 + 1000 * (nth rs 1 % 30) = (n : Int) ∧ n < 30000 := ⟨(nth rs 0 + 1000 * (nth rs 1 % 30)).toNat, by omega, by omega⟩
    obtain ⟨n2, e2, h2⟩ : ∃ n : Nat, nth rs 2 = (n : Int) ∧ n < 1000 := ⟨(nth rs 2).toNat, by omega, by omega⟩
    have w1 := word_eq n1 (by omega)
    have w2 := word_eq n2 (by omega)
    have l1 : (wd (n1 + 1)).length ≤ 5 := wd_len 4 (n1 + 1) (by omega)
    have l2 : (wd (n2 + 1)).length ≤ 4 := wd_len 3 (n2 + 1) (by omega)
    have m1 : nm (wS n1).cps.toList := nm_wd (n := n1) (by omega)
    have m2 : nm (wS n2).cps.toList := nm_wd (n := n2) (by omega)
    have L1 : (wS n1).length ≤ 5 := by rw [← str_len]; exact l1
    have L2 : (wS n2).length ≤ 4 := by rw [← str_len]; exact l2
    refine Rn.sqst (d := .str (wS n1)) (by (simp (disch := first | assumption | omega) only [e1, w1, MV])) ?_
    refine Rn.sqst (d := .str (wS n2)) (by show cB _ _ [.dat _, .dat _, .unk, .unk, .unk] = _; (simp (disch := first | assumption | omega) only [e2, w2, MV])) ?_
    show Rn _ [.dat (.lst (rs.map .int)), .dat (.str (wS n1)), .dat (.str (wS n2)), .unk, .unk] _
    generalize wS n2 = s2 at *
    refine Rn.join (P := fun ρ => ∃ s : Str, nm s.cps.toList ∧ ρ = [.dat (.lst (rs.map .int)), .dat (.str (wS n1)), .dat (.str s), .unk, .unk]) ?_ ?_
    · refine Rn.iteP (p := nth rs 3 % 3 = 1) (by (simp (disch := first | assumption | omega) only [MV])) (fun _ => ?_) fun _ => Rn.skip ⟨s2, m2, rfl⟩
      have c1 : addA (.str s2) (.str (Str.ofString "klmnopqrstuv")) = some (.str (s2 ++ Str.ofString "klmnopqrstuv")) := ev_catS (by have : (Str.ofString "klmnopqrstuv").length = 12 := rfl; omega)
      have c2 : slD (.str (s2 ++ Str.ofString "klmnopqrstuv")) none (some 12) = some (.str (cutS (s2 ++ Str.ofString "klmnopqrstuv") none (some 12))) := ev_slS (by rw [ev_strlen]; have : (Str.ofString "klmnopqrstuv").length = 12 := rfl; omega) _ _
      refine Rn.st (d := .str (cutS (s2 ++ Str.ofString "klmnopqrstuv") none (some 12))) (by (simp (disch := first | assumption | omega) only [c1, c2, MV])) ⟨_, ?_, rfl⟩
      rw [cutS_codes, show (12 : Int) = ((12 : Nat) : Int) from rfl, PD.cut_to, str_app3]
      refine ⟨⟨?_, ?_⟩, fun c hc => ?_⟩
      · have := m2.1.1
        rw [List.length_take, List.length_append]
        omega
      · rw [List.length_take]; omega
      · rcases List.mem_append.mp (List.mem_of_mem_take hc) with q | q
        · exact m2.2 c q
        · have : ∀ c ∈ (Str.ofString "klmnopqrstuv").cps.toList, 97 ≤ c ∧ c < 123 := by decide +kernel
          exact this c q
    rintro _ ⟨s, hs, rfl⟩
    generalize wS n1 = f at *
    clear w1 w2
    have ls := nm_len hs
    have ld : (Str.ofString ".").length = 1 := rfl
    have la : (Str.ofString "a").length = 1 := rfl
    have c1 : addA (.str f) (.str (Str.ofString ".")) = some (.str (f ++ Str.ofString ".")) := ev_catS (by omega)
    have c2 : addA (.str (f ++ Str.ofString ".")) (.str s) = some (.str (f ++ Str.ofString "." ++ s)) := ev_catS (by rw [ev_strlen]; omega)
    have c3 : addA (.str s) (.str (Str.ofString ".")) = some (.str (s ++ Str.ofString ".")) := ev_catS (by omega)
    have c4 : addA (.str (s ++ Str.ofString ".")) (.str f) = some (.str (s ++ Str.ofString "." ++ f)) := ev_catS (by rw [ev_strlen]; omega)
    have c5 : addA (.str f) (.str (Str.ofString "a")) = some (.str (f ++ Str.ofString "a")) := ev_catS (by omega)
    refine Rn.sqstO (o := .dats []) rfl ?_
    show Rn _ [.dat (.lst (rs.map .int)), .dat (.str f), .dat (.str s), .dats [], .unk] _
    have hL : ∀ p ∈ [f, f ++ Str.ofString "." ++ s, s, s ++ Str.ofString "." ++ f, f ++ Str.ofString "a"], Lb3 p := fun p hp => by
      simp only [List.mem_cons, List.not_mem_nil, or_false] at hp
      rcases hp with rfl | rfl | rfl | rfl | rfl
      · exact lab_lb (.inl m1)
      · exact lab_lb (nm_cat m1 hs)
      · exact lab_lb (.inl hs)
      · exact lab_lb (nm_cat hs m1)
      · refine lab_lb (.inl ?_)
        rw [str_app3]
        refine ⟨⟨?_, ?_⟩, fun c hc => ?_⟩
        · rw [List.length_append]
          have := m1.1.1
          omega
        · rw [List.length_append, str_len, str_len]; omega
        · rcases List.mem_append.mp hc with q | q
          · exact m1.2 c q
          · have : c = 97 := by simpa using (show c ∈ [97] from q)
            omega
    refine Rn.sqfor (xs := [f, f ++ Str.ofString "." ++ s, s, s ++ Str.ofString "." ++ f, f ++ Str.ofString "a"]) (φ := .str) (by
      show iOf _ [.dat _, .dat (.str f), .dat (.str s), .dats [], .unk] = some [.str f, .str (f ++ Str.ofString "." ++ s), .str s, .str (s ++ Str.ofString "." ++ f), .str (f ++ Str.ofString "a")]
      (simp (disch := first | assumption | omega) only [c1, c2, c3, c4, c5, MV])) (fun i ρ => ∃ (ps : List Str) (x : O), ρ = [.dat (.lst (rs.map .int)), .dat (.str f), .dat (.str s), .dats (ps.map .str), x] ∧ ps.length ≤ i ∧ (i = 0 ∨ 0 < ps.length) ∧ ∀ p ∈ ps, Lb3 p) ⟨[], _, rfl, Nat.le_refl _, .inl rfl, fun p h => nomatch h⟩ (fun i hi ρ hI => ?_) (fun ρ hI => ?_)
    · obtain ⟨ps, x, rfl, h1, h2, h3⟩ := hI
      have hb := hL _ (List.getElem_mem hi)
      generalize [f, f ++ Str.ofString "." ++ s, s, s ++ Str.ofString "." ++ f, f ++ Str.ofString "a"][i] = p at hb
      have hi5 : i < 5 := hi
      refine ⟨[.dat (.lst (rs.map .int)), .dat (.str f), .dat (.str s), .dats (ps.map .str), .dat (.str p)], rfl, ?_⟩
      have en := nin_strs p ps
      refine Rn.iteP (p := p ∉ ps) (by
        show vwT _ [.dat _, .dat _, .dat _, .dats _, .dat _] = _
        (simp (disch := first | assumption | omega) only [en, MV, MW])) (fun _ => ?_) fun hn => ?_
      · refine Rn.appD (d := .str p) (ds := ps.map .str) rfl rfl (by rw [List.length_map]; omega) ⟨ps ++ [p], .dat (.str p), ?_, by rw [List.length_append]; simp; omega, .inr (by simp), fun q hq => ?_⟩
        · show [_, _, _, O.dats _, _] = _
          rw [List.map_append]; rfl
        · rcases List.mem_append.mp hq with h | h
          · exact h3 q h
          · rw [List.mem_singleton.mp h]; exact hb
      · refine Rn.skip ⟨ps, _, rfl, by omega, .inr ?_, h3⟩
        have : p ∈ ps := Classical.not_not.mp hn
        exact List.length_pos_of_mem this
    · obtain ⟨ps, x, rfl, h1, h2, h3⟩ := hI
      refine Rn.fzD rfl ?_
      exact Rn.ret (d := .lst (ps.map .str)) rfl ⟨_, _, rfl, rfl, ps, rfl, h2.resolve_left (by simp), h1, h3⟩
  exact ⟨ps, e, h⟩
end GA

/-! k03: the move that is spoilt -/
namespace GA
open PySem PySem.Spec L2 PD
theorem in_intsD (k : Int) (cs : List Int) : inD (.int k) (.lst (cs.map .int)) = some (.bl (decide (k ∈ cs))) := by
  unfold inD
  rw [in_ints]; rfl
theorem Rn.set03 {ρ : Ev} {i k : Nat} {Q : Fl → Prop} {fb : Ev → Option D} {fe : Ev → Option O} {ds : List D} {d : D} (h0 : ρ[i]? = some (O.dats ds)) (hf : fe ρ = some (.dat d)) (hb : fb (ρ.map O.vw) = some (.int (k : Nat))) (hk : k < ds.length)
    (q : Q (.nx (ρ.set i (O.dats (ds.set k d))))) : Rn (setP i plN fb fe) ρ Q := by
  refine Rn.setP0 (os := ds.map .dat) h0 hf hb (by rw [List.length_map]; exact hk) ?_
  unfold O.dats at q
  rw [List.map_set] at q
  exact q
/-- the parts of a move, needs and changes as lists -/
def ptL (m : Mv) : List D := [.str m.name, .str m.player, .lst (m.needs.map ndD), .lst (m.changes.map chD), sgD m.sign, .bl m.foul]
theorem ptL_pt (m : Mv) : PtD (.lst (ptL m)) m := ⟨_, _, rfl, rfl, rfl⟩
theorem Tk.tx {n : Nat} {s : Str} (h : Tk n s) (hn : n ≤ 900) : Tx3 s := ⟨Nat.le_trans h.1 hn, h.2⟩
theorem wch03 (t : Str) (v : Int) : ∃ cs : List Ch, runP 2 gWch [.str t, .int v] = some (.lst (cs.map chD)) ∧ cs.length ≤ 2 ∧ ∀ c ∈ cs, c.1 = t := by
  have hk : 0 ≤ v % 3 ∧ v % 3 < 3 := ⟨Int.emod_nonneg _ (by decide), Int.emod_lt_of_pos _ (by decide)⟩
  have e : ixD (.lst [.lst [.tup [.str t, .int 1]], .lst [.tup [.str t, .int 0]], .lst [.tup [.str t, .int 2], .tup [.str t, .int (-2)]]]) (.int (v % 3)) = some (.lst ((nth [[(t, 1)], [(t, 0)], [(t, 2), (t, -2)]] (v % 3)).map chD)) := ev_ixML (f := fun cs : List Ch => D.lst (cs.map chD)) (xs := [[(t, 1)], [(t, 0)], [(t, 2), (t, -2)]]) hk.1 (by simp; omega)
  have hm := nth_mem (xs := ([[(t, 1)], [(t, 0)], [(t, 2), (t, -2)]] : List (List Ch))) hk.1 (by simp; omega)
  refine ⟨nth [[(t, 1)], [(t, 0)], [(t, 2), (t, -2)]] (v % 3), ?_, ?_, ?_⟩
  · refine runP_eq ?_
    unfold gWch
    refine Rn.ret ?_ ⟨_, rfl, rfl⟩
    show PD.b2 _ _ _ [.dat (.str t), .dat (.int v)] = _
    (simp (disch := first | assumption | omega) only [e, MV])
  · generalize nth [[(t, 1)], [(t, 0)], [(t, 2), (t, -2)]] (v % 3) = L at hm
    simp only [List.mem_cons, List.not_mem_nil, or_false] at hm
    rcases hm with rfl | rfl | rfl <;> simp
  · generalize nth [[(t, 1)], [(t, 0)], [(t, 2), (t, -2)]] (v % 3) = L at hm
    simp only [List.mem_cons, List.not_mem_nil, or_false] at hm
    rcases hm with rfl | rfl | rfl <;> simp
theorem cut_le {α : Type} (xs : List α) (a b : Option Int) : (cutD xs a b).length ≤ xs.length := by
  unfold cutD
  rw [List.length_take, List.length_drop]; omega
theorem spo03 {rs : List Int} (hl : rs.length = 52) (hr : ∀ r ∈ rs, 0 ≤ r ∧ r < 1000) {t : Str} (ht : Tx3 t) {m : Mv} (F : MvR Tx3 m) (hN : m.needs.length ≤ 23) (hC : m.changes.length ≤ 22) :
    ∃ m', runP 10 gSpo [.lst (ptL m), .lst (rs.map .int), .str t] = some (.lst (ptL m')) ∧ MvR Tx3 m' := by
  obtain ⟨d, e, m', rfl, h⟩ : ∃ d, runP 10 gSpo [.lst (ptL m), .lst (rs.map .int), .str t] = some d ∧ ∃ m', d = .lst (ptL m') ∧ MvR Tx3 m' := by
    refine runP_of ?_
    unfold gSpo
    have i2 : ixD (.lst (ptL m)) (.int 2) = some (.lst (m.needs.map ndD)) := rfl
    have i3 : ixD (.lst (ptL m)) (.int 3) = some (.lst (m.changes.map chD)) := rfl
    show Rn _ [.dat (.lst (ptL m)), .dat (.lst (rs.map .int)), .dat (.str t), .unk, .unk, .unk, .unk, .unk, .unk, .unk] _
    refine Rn.sqstO (o := .dats (ptL m)) rfl ?_
    show Rn _ [.dat (.lst (ptL m)), .dat (.lst (rs.map .int)), .dat (.str t), .dats (ptL m), .unk, .unk, .unk, .unk, .unk, .unk] _
    have hm0 : ∃ m' : Mv, ptL m' = ptL m ∧ MvR Tx3 m' := ⟨m, rfl, F⟩
    generalize hP : D.lst (ptL m) = P at *
    have r0 := nth_rng hr 0
    have r1 := nth_rng hr 1
    have r2 := nth_rng hr 2
    have r3 := nth_rng hr 3
    have r4 := nth_rng hr 4
    have r5 := nth_rng hr 5
    have r6 := nth_rng hr 6
    refine Rn.sqst (d := .int (nth rs 0 % 7)) (by (simp (disch := first | assumption | omega) only [MV])) ?_
    refine Rn.sqst (d := .lst ([nth rs 0 % 7].map .int)) (by show mkLst _ [_, _, _, _, .dat (.int (nth rs 0 % 7)), _, _, _, _, _] = _; (simp (disch := first | assumption | omega) only [MV])) ?_
    show Rn _ [.dat P, .dat (.lst (rs.map .int)), .dat (.str t), .dats (ptL m), .dat (.int (nth rs 0 % 7)), .dat (.lst ([nth rs 0 % 7].map .int)), .unk, .unk, .unk, .unk] _
    generalize nth rs 0 % 7 = kd
    refine Rn.join (P := fun ρ => ∃ cs : List Int, ρ = [.dat P, .dat (.lst (rs.map .int)), .dat (.str t), .dats (ptL m), .dat (.int kd), .dat (.lst (cs.map .int)), .unk, .unk, .unk, .unk]) ?_ ?_
    · refine Rn.iteP (p := kd = 5) (by (simp (disch := first | assumption | omega) only [MV])) (fun _ => ?_) fun _ => Rn.skip ⟨_, rfl⟩
      exact Rn.st (d := .lst ([nth rs 1 % 5, nth rs 2 % 5].map .int)) (by (simp (disch := first | assumption | omega) only [MV])) ⟨_, rfl⟩
    rintro _ ⟨cs, rfl⟩
    refine Rn.join (P := fun ρ => ∃ cs : List Int, ρ = [.dat P, .dat (.lst (rs.map .int)), .dat (.str t), .dats (ptL m), .dat (.int kd), .dat (.lst (cs.map .int)), .unk, .unk, .unk, .unk]) ?_ ?_
    · refine Rn.iteP (p := kd = 6) (by (simp (disch := first | assumption | omega) only [MV])) (fun _ => ?_) fun _ => Rn.skip ⟨_, rfl⟩
      exact Rn.st (d := .lst ([0, 1, 2, 3, 4].map .int)) (by rfl) ⟨_, rfl⟩
    rintro _ ⟨cs, rfl⟩
    refine Rn.sqst (d := .int (0 - 1 - nth rs 3 % 3)) (by (simp (disch := first | assumption | omega) only [MV])) ?_
    refine Rn.sqst (d := .int (nth rs 4 % ((m.needs.length : Int) + 1))) (by show PD.b2 _ _ _ [.dat P, .dat _, .dat _, _, .dat _, .dat _, .dat _, _, _, _] = _; (simp (disch := first | assumption | omega) only [i2, List.length_map, MV])) ?_
    refine Rn.sqst (d := .str (Str.ofString "q")) rfl ?_
    show Rn _ [.dat P, .dat (.lst (rs.map .int)), .dat (.str t), .dats (ptL m), .dat (.int kd), .dat (.lst (cs.map .int)), .dat (.int (0 - 1 - nth rs 3 % 3)), .dat (.int (nth rs 4 % ((m.needs.length : Int) + 1))), .dat (.str (Str.ofString "q")), .unk] _
    generalize 0 - 1 - nth rs 3 % 3 = bl
    generalize nth rs 4 % ((m.needs.length : Int) + 1) = pl
    refine Rn.join (P := fun ρ => ∃ s : Str, Tx3 s ∧ ρ = [.dat P, .dat (.lst (rs.map .int)), .dat (.str t), .dats (ptL m), .dat (.int kd), .dat (.lst (cs.map .int)), .dat (.int bl), .dat (.int pl), .dat (.str s), .unk]) ?_ ?_
    · refine Rn.iteP (p := (0 : Int) < (m.needs.length : Int) ∧ 0 < nth rs 5 / 5 % 3) (by (simp (disch := first | assumption | omega) only [i2, List.length_map, MV])) (fun hq => ?_) fun _ => Rn.skip ⟨_, (tk_of (n := 1) (by decide +kernel)).tx (by decide), rfl⟩
      have hk : 0 ≤ nth rs 5 / 15 % (m.needs.length : Int) ∧ nth rs 5 / 15 % (m.needs.length : Int) < m.needs.length := ⟨Int.emod_nonneg _ (by omega), Int.emod_lt_of_pos _ (by omega)⟩
      have hm := nth_mem (xs := m.needs) hk.1 hk.2
      have ek : ixD (.lst (m.needs.map ndD)) (.int (nth rs 5 / 15 % (m.needs.length : Int))) = some (ndD (nth m.needs (nth rs 5 / 15 % (m.needs.length : Int)))) := ev_ixML hk.1 hk.2
      obtain ⟨⟨s, lo, hi⟩, hs⟩ : ∃ n, nth m.needs (nth rs 5 / 15 % (m.needs.length : Int)) = n := ⟨_, rfl⟩
      rw [hs] at hm ek
      exact Rn.st (d := .str s) (by (simp (disch := first | assumption | omega) only [i2, List.length_map, ek, MV]); rfl) ⟨s, F.needs _ hm, rfl⟩
    rintro _ ⟨s, hs, rfl⟩
    have hbads : ∀ n ∈ ([(t, some 0, none), (s, some bl, none), (s, none, some bl), (s, none, none), (s, some 3, some bl)] : List Nd), Tx3 n.1 := fun n hn => by
      simp only [List.mem_cons, List.not_mem_nil, or_false] at hn
      rcases hn with rfl | rfl | rfl | rfl | rfl <;> assumption
    have hk5 : 0 ≤ nth rs 5 % 5 ∧ nth rs 5 % 5 < 5 := by omega
    have eb : ixD (.lst [.tup [.str t, .int 0, .non], .tup [.str s, .int bl, .non], .tup [.str s, .non, .int bl], .tup [.str s, .non, .non], .tup [.str s, .int 3, .int bl]]) (.int (nth rs 5 % 5)) = some (ndD (nth [(t, some 0, none), (s, some bl, none), (s, none, some bl), (s, none, none), (s, some 3, some bl)] (nth rs 5 % 5))) :=
      ev_ixML (f := ndD) (xs := [(t, some 0, none), (s, some bl, none), (s, none, some bl), (s, none, none), (s, some 3, some bl)]) hk5.1 (by simp; omega)
    have hbm := hbads _ (nth_mem hk5.1 (by simp; omega))
    generalize nth [(t, some (0 : Int), none), (s, some bl, none), (s, none, some bl), (s, none, none), (s, some 3, some bl)] (nth rs 5 % 5) = bad at eb hbm
    refine Rn.sqst (d := .lst [.tup [.str t, .int 0, .non], .tup [.str s, .int bl, .non], .tup [.str s, .non, .int bl]]) (by (simp (disch := first | assumption | omega) only [MV])) ?_
    have ec : addA (.lst [.tup [.str t, .int 0, .non], .tup [.str s, .int bl, .non], .tup [.str s, .non, .int bl]]) (.lst [.tup [.str s, .non, .non], .tup [.str s, .int 3, .int bl]]) = some (.lst [.tup [.str t, .int 0, .non], .tup [.str s, .int bl, .non], .tup [.str s, .non, .int bl], .tup [.str s, .non, .non], .tup [.str s, .int 3, .int bl]]) := ev_catL (by simp)
    refine Rn.sqst (d := ndD bad) (by
      show PD.b2 _ _ _ [.dat P, .dat _, .dat _, _, .dat _, .dat _, .dat (.int bl), .dat _, .dat (.str s), .dat _] = _
      (simp (disch := first | assumption | omega) only [ec, eb, MV])) ?_
    show Rn _ [.dat P, .dat (.lst (rs.map .int)), .dat (.str t), .dats (ptL m), .dat (.int kd), .dat (.lst (cs.map .int)), .dat (.int bl), .dat (.int pl), .dat (.str s), .dat (ndD bad)] _
    clear eb ec hbads hk5
    obtain ⟨m1, hm1, F1⟩ := hm0
    rw [← hm1]
    clear hm1
    have ins : ∀ k : Int, inD (.int k) (.lst (cs.map .int)) = some (.bl (decide (k ∈ cs))) := fun k => in_intsD k cs
    refine Rn.join (P := fun ρ => ∃ m' : Mv, MvR Tx3 m' ∧ ρ = [.dat P, .dat (.lst (rs.map .int)), .dat (.str t), .dats (ptL m'), .dat (.int kd), .dat (.lst (cs.map .int)), .dat (.int bl), .dat (.int pl), .dat (.str s), .dat (ndD bad)]) ?_ ?_
    · refine Rn.iteP (p := (0 : Int) ∈ cs) (by (simp (disch := first | assumption | omega) only [ins, MV])) (fun _ => ?_) fun _ => Rn.skip ⟨_, F1, rfl⟩
      exact Rn.set03 (k := 0) rfl rfl rfl (by simp [ptL]) ⟨{ m1 with name := t }, { F1 with name := ht }, rfl⟩
    rintro _ ⟨m2, F2, rfl⟩
    refine Rn.join (P := fun ρ => ∃ m' : Mv, MvR Tx3 m' ∧ ρ = [.dat P, .dat (.lst (rs.map .int)), .dat (.str t), .dats (ptL m'), .dat (.int kd), .dat (.lst (cs.map .int)), .dat (.int bl), .dat (.int pl), .dat (.str s), .dat (ndD bad)]) ?_ ?_
    · refine Rn.iteP (p := (1 : Int) ∈ cs) (by (simp (disch := first | assumption | omega) only [ins, MV])) (fun _ => ?_) fun _ => Rn.skip ⟨_, F2, rfl⟩
      exact Rn.set03 (k := 1) rfl rfl rfl (by simp [ptL]) ⟨{ m2 with player := t }, { F2 with player := ht }, rfl⟩
    rintro _ ⟨m3, F3, rfl⟩
    refine Rn.join (P := fun ρ => ∃ m' : Mv, MvR Tx3 m' ∧ ρ = [.dat P, .dat (.lst (rs.map .int)), .dat (.str t), .dats (ptL m'), .dat (.int kd), .dat (.lst (cs.map .int)), .dat (.int bl), .dat (.int pl), .dat (.str s), .dat (ndD bad)]) ?_ ?_
    · refine Rn.iteP (p := (2 : Int) ∈ cs) (by (simp (disch := first | assumption | omega) only [ins, MV])) (fun _ => ?_) fun _ => Rn.skip ⟨_, F3, rfl⟩
      have la := cut_le m.needs none (some pl)
      have lb := cut_le m.needs (some pl) none
      have c1 : addA (.lst ((cutD m.needs none (some pl)).map ndD)) (.lst [ndD bad]) = some (.lst ((cutD m.needs none (some pl)).map ndD ++ [ndD bad])) := ev_catL (by rw [List.length_map]; simp; omega)
      have c2 : addA (.lst ((cutD m.needs none (some pl)).map ndD ++ [ndD bad])) (.lst ((cutD m.needs (some pl) none).map ndD)) = some (.lst ((cutD m.needs none (some pl) ++ [bad] ++ cutD m.needs (some pl) none).map ndD)) := by
        rw [List.map_append, List.map_append]
        exact ev_catL (by rw [List.length_append, List.length_map, List.length_map]; simp; omega)
      refine Rn.set03 (k := 2) (d := .lst ((cutD m.needs none (some pl) ++ [bad] ++ cutD m.needs (some pl) none).map ndD)) rfl (by
        (simp (disch := first | assumption | omega) only [i2, cut_map, c1, c2, MV])) rfl (by simp [ptL]) ⟨{ m3 with needs := cutD m.needs none (some pl) ++ [bad] ++ cutD m.needs (some pl) none }, { F3 with needs := fun n hn => ?_, fewN := by simp only [List.length_append, List.length_singleton]; omega }, rfl⟩
      rcases List.mem_append.mp hn with h | h
      · rcases List.mem_append.mp h with h | h
        · exact F.needs n (cut_sub h)
        · rw [List.mem_singleton.mp h]; exact hbm
      · exact F.needs n (cut_sub h)
    rintro _ ⟨m4, F4, rfl⟩
    refine Rn.join (P := fun ρ => ∃ (m' : Mv) (x : O), MvR Tx3 m' ∧ ρ = [.dat P, .dat (.lst (rs.map .int)), .dat (.str t), .dats (ptL m'), .dat (.int kd), .dat (.lst (cs.map .int)), .dat (.int bl), x, .dat (.str s), .dat (ndD bad)]) ?_ ?_
    · refine Rn.iteP (p := (3 : Int) ∈ cs) (by (simp (disch := first | assumption | omega) only [ins, MV])) (fun _ => ?_) fun _ => Rn.skip ⟨_, _, F4, rfl⟩
      refine Rn.sqst (d := .int (nth rs 6 % ((m.changes.length : Int) + 1))) (by (simp (disch := first | assumption | omega) only [i3, List.length_map, MV])) ?_
      show Rn _ [.dat P, .dat (.lst (rs.map .int)), .dat (.str t), .dats (ptL m4), .dat (.int kd), .dat (.lst (cs.map .int)), .dat (.int bl), .dat (.int (nth rs 6 % ((m.changes.length : Int) + 1))), .dat (.str s), .dat (ndD bad)] _
      generalize nth rs 6 % ((m.changes.length : Int) + 1) = p2
      obtain ⟨ws, ew, lw, hw⟩ := wch03 t (nth rs 6 / 24)
      have la := cut_le m.changes none (some p2)
      have lb := cut_le m.changes (some p2) none
      have c1 : addA (.lst ((cutD m.changes none (some p2)).map chD)) (.lst (ws.map chD)) = some (.lst ((cutD m.changes none (some p2)).map chD ++ ws.map chD)) := ev_catL (by rw [List.length_map, List.length_map]; omega)
      have c2 : addA (.lst ((cutD m.changes none (some p2)).map chD ++ ws.map chD)) (.lst ((cutD m.changes (some p2) none).map chD)) = some (.lst ((cutD m.changes none (some p2) ++ ws ++ cutD m.changes (some p2) none).map chD)) := by
        rw [List.map_append, List.map_append]
        exact ev_catL (by rw [List.length_append, List.length_map, List.length_map, List.length_map]; omega)
      refine Rn.set03 (k := 3) (d := .lst ((cutD m.changes none (some p2) ++ ws ++ cutD m.changes (some p2) none).map chD)) rfl (by
        (simp (disch := first | assumption | omega) only [i3, cut_map, ew, c1, c2, MV])) rfl (by simp [ptL]) ⟨{ m4 with changes := cutD m.changes none (some p2) ++ ws ++ cutD m.changes (some p2) none }, _, { F4 with changes := fun n hn => ?_, fewC := by simp only [List.length_append]; omega }, rfl⟩
      rcases List.mem_append.mp hn with h | h
      · rcases List.mem_append.mp h with h | h
        · exact F.changes n (cut_sub h)
        · rw [hw n h]; exact ht
      · exact F.changes n (cut_sub h)
    rintro _ ⟨m5, x, F5, rfl⟩
    refine Rn.join (P := fun ρ => ∃ (m' : Mv) (x : O), MvR Tx3 m' ∧ ρ = [.dat P, .dat (.lst (rs.map .int)), .dat (.str t), .dats (ptL m'), .dat (.int kd), .dat (.lst (cs.map .int)), .dat (.int bl), x, .dat (.str s), .dat (ndD bad)]) ?_ ?_
    · refine Rn.iteP (p := (4 : Int) ∈ cs) (by (simp (disch := first | assumption | omega) only [ins, MV])) (fun _ => ?_) fun _ => Rn.skip ⟨_, _, F5, rfl⟩
      exact Rn.set03 (k := 4) rfl rfl rfl (by simp [ptL]) ⟨{ m5 with sign := some t }, _, { F5 with sign := fun s e => by cases e; exact ht }, rfl⟩
    rintro _ ⟨m6, x, F6, rfl⟩
    refine Rn.fzD rfl ?_
    exact Rn.ret (d := .lst (ptL m6)) rfl ⟨_, _, rfl, rfl, m6, rfl, F6⟩
  exact ⟨m', e, h⟩
end GA

/-! k03: the moves that stand near -/
namespace GA
open PySem PySem.Spec L2 PD
structure MvG (m : Mv) : Prop where
  r : MvR Lb3 m
  nd : ∀ n ∈ m.needs, ndL n = true
theorem MvG.tx {m : Mv} (h : MvG m) : MvR Tx3 m := h.r.imp fun _ q => q.2
theorem ndB_of {n : Nd} (h : Lb3 n.1) (h2 : ndL n = true) : ndB n = true := by
  unfold ndL at h2
  unfold ndB
  rw [h.1]
  obtain ⟨c, lo, hi⟩ := n
  cases lo <;> cases hi <;> simp_all
theorem MvG.fall {m : Mv} (h : MvG m) : fallM m = none := by
  unfold fallM
  have h1 : m.needs.all ndB = true := List.all_eq_true.mpr fun n hn => ndB_of (h.r.needs n hn) (h.nd n hn)
  have h2 : (m.changes.all fun c => labB c.1.cps.toList) = true := List.all_eq_true.mpr fun n hn => (h.r.changes n hn).1
  rw [h.r.name.1, h.r.player.1, h1, h2]
  simp only [Bool.true_eq_false, if_false]
  cases e : m.sign with
  | none => rfl
  | some s =>
    have := (h.r.sign s e).1
    simp [this]
theorem MvG.name' {m : Mv} (h : MvG m) {s : Str} (q : Lb3 s) : MvG { m with name := s } := ⟨{ h.r with name := q }, h.nd⟩
theorem MvG.player' {m : Mv} (h : MvG m) {s : Str} (q : Lb3 s) : MvG { m with player := s } := ⟨{ h.r with player := q }, h.nd⟩
theorem MvG.sign' {m : Mv} (h : MvG m) {s : Option Str} (q : ∀ x, s = some x → Lb3 x) : MvG { m with sign := s } := ⟨{ h.r with sign := q }, h.nd⟩
theorem MvG.foul' {m : Mv} (h : MvG m) (b : Bool) : MvG { m with foul := b } := ⟨⟨h.r.name, h.r.player, h.r.needs, h.r.changes, h.r.sign, h.r.fewN, h.r.fewC⟩, h.nd⟩
theorem MvG.needs' {m : Mv} (h : MvG m) {ns : List Nd} (q : ∀ n ∈ ns, Lb3 n.1 ∧ ndL n = true) (l : ns.length ≤ 500) : MvG { m with needs := ns } := ⟨{ h.r with needs := fun n hn => (q n hn).1, fewN := l }, fun n hn => (q n hn).2⟩
theorem MvG.changes' {m : Mv} (h : MvG m) {ns : List Ch} (q : ∀ n ∈ ns, Lb3 n.1) (l : ns.length ≤ 500) : MvG { m with changes := ns } := ⟨{ h.r with changes := q, fewC := l }, h.nd⟩
def GD (d : D) : Prop := ∃ m', PtD d m' ∧ MvG m'
theorem gdL {m : Mv} (h : MvG m) : GD (.lst (ptL m)) := ⟨m, ptL_pt m, h⟩
def NG (n : Nat) (L : List D) : Prop := L.length ≤ n ∧ ∀ d ∈ L, GD d
theorem NG.app {n : Nat} {L : List D} {d : D} (h : NG n L) (hd : GD d) : NG (n + 1) (L ++ [d]) := ⟨by rw [List.length_append]; exact Nat.succ_le_succ h.1, fun x hx => (List.mem_append.mp hx).elim (h.2 x) fun e => by rw [List.mem_singleton.mp e]; exact hd⟩
theorem Rn.sqapG {ρ : Ev} {e : Ev → Option D} {g : Ev → Option Fl} {Q : Fl → Prop} {d : D} {L : List D} {n : Nat} (hG : NG n L) (hd : GD d) (h : e ρ = some d) (ho : ρ[7]? = some (O.dats L)) (hn : n < 1000) (k : ∀ L', NG (n + 1) L' → Rn g (ρ.set 7 (O.dats L')) Q) : Rn (PD.sq (PD.app 7 e) g) ρ Q :=
  Rn.sqapp h ho (by have := hG.1; omega) (k _ (hG.app hd))
theorem Rn.apG {ρ : Ev} {e : Ev → Option D} {Q : Fl → Prop} {d : D} {L : List D} {n : Nat} (hG : NG n L) (hd : GD d) (h : e ρ = some d) (ho : ρ[7]? = some (O.dats L)) (hn : n < 1000) (k : ∀ L', NG (n + 1) L' → Q (.nx (ρ.set 7 (O.dats L')))) : Rn (PD.app 7 e) ρ Q :=
  Rn.appD h ho (by have := hG.1; omega) (k _ (hG.app hd))
theorem addN {N : List Nd} (h : N.length ≤ 500) (n : Nd) : addA (.lst (N.map ndD)) (.lst [ndD n]) = some (.lst ((N ++ [n]).map ndD)) := by
  rw [List.map_append]
  exact ev_catL (by rw [List.length_map]; simp; omega)
theorem addC {N : List Ch} (h : N.length ≤ 500) (n : Ch) : addA (.lst (N.map chD)) (.lst [chD n]) = some (.lst ((N ++ [n]).map chD)) := by
  rw [List.map_append]
  exact ev_catL (by rw [List.length_map]; simp; omega)
theorem lb_q : Lb3 (Str.ofString "q") := ⟨by decide +kernel, (tk_of (n := 5) (by decide +kernel)).tx (by decide)⟩
theorem lb_r : Lb3 (Str.ofString "r") := ⟨by decide +kernel, (tk_of (n := 5) (by decide +kernel)).tx (by decide)⟩
theorem lb_qr : Lb3 (Str.ofString "q.r") := ⟨by decide +kernel, (tk_of (n := 5) (by decide +kernel)).tx (by decide)⟩
theorem near03 {m : Mv} (G : MvG m) (hN : m.needs.length ≤ 23) (hC : m.changes.length ≤ 22) : ∃ L, runP 13 gNear [.lst (ptL m)] = some (.lst L) ∧ L.length ≤ 500 ∧ ∀ d ∈ L, GD d := by
  obtain ⟨nm, pl, N, C, sg, fo⟩ := m
  have qN : ∀ n ∈ N, Lb3 n.1 ∧ ndL n = true := fun n hn => ⟨G.r.needs n hn, G.nd n hn⟩
  have qC : ∀ n ∈ C, Lb3 n.1 := G.r.changes
  simp only at hN hC
  obtain ⟨d, e, L, rfl, h⟩ : ∃ d, runP 13 gNear [.lst (ptL ⟨nm, pl, N, C, sg, fo⟩)] = some d ∧ ∃ L, d = .lst L ∧ L.length ≤ 500 ∧ ∀ d ∈ L, GD d := by
    refine runP_of ?_
    unfold gNear
    generalize hP : D.lst (ptL ⟨nm, pl, N, C, sg, fo⟩) = P
    show Rn _ [.dat P, .unk, .unk, .unk, .unk, .unk, .unk, .unk, .unk, .unk, .unk, .unk, .unk] _
    refine Rn.sq ⟨.nx [.dat P, .dat (.str nm), .dat (.str pl), .dat (.lst (N.map ndD)), .dat (.lst (C.map chD)), .dat (sgD sg), .dat (.bl fo), .unk, .unk, .unk, .unk, .unk, .unk], by subst hP; rfl, ?_⟩
    clear hP
    -- the needs twice, the changes backwards
    have qN2 : ∀ n ∈ cutD (N.reverse ++ N) none (some (24 : Int)), Lb3 n.1 ∧ ndL n = true := fun n hn => (List.mem_append.mp (cut_sub hn)).elim (fun h => qN n (List.mem_reverse.mp h)) (qN n)
    have lN2 : (cutD (N.reverse ++ N) none (some (24 : Int))).length ≤ 500 := Nat.le_trans (cut_le _ _ _) (by rw [List.length_append, List.length_reverse]; omega)
    have c0 : addA (.lst (N.map ndD).reverse) (.lst (N.map ndD)) = some (.lst ((N.reverse ++ N).map ndD)) := by
      rw [List.map_append, List.map_reverse]
      exact ev_catL (by rw [List.length_reverse, List.length_map]; omega)
    have c00 : (C.map chD).reverse = C.reverse.map chD := List.map_reverse.symm
    refine Rn.sqstO (o := .dats [.lst (ptL ⟨nm, pl, cutD (N.reverse ++ N) none (some (24 : Int)), C.reverse, sg, fo⟩)]) (by
      show mkLstO _ [.dat P, .dat (.str nm), .dat (.str pl), .dat (.lst (N.map ndD)), .dat (.lst (C.map chD)), .dat (sgD sg), .dat (.bl fo), .unk, .unk, .unk, .unk, .unk, .unk] = _
      (simp (disch := first | assumption | omega) only [c0, c00, MV])
      rw [← List.map_append, cut_map]
      rfl) ?_
    have g0 : NG 1 [.lst (ptL ⟨nm, pl, cutD (N.reverse ++ N) none (some (24 : Int)), C.reverse, sg, fo⟩)] := ⟨by simp, fun d hd => by
      rw [List.mem_singleton.mp hd]
      exact gdL ((G.needs' qN2 lN2).changes' (fun n hn => qC n (List.mem_reverse.mp hn)) (by rw [List.length_reverse]; omega))⟩
    generalize [D.lst (ptL ⟨nm, pl, cutD (N.reverse ++ N) none (some (24 : Int)), C.reverse, sg, fo⟩)] = L0 at g0
    clear c0 c00 qN2 lN2
    show Rn _ [.dat P, .dat (.str nm), .dat (.str pl), .dat (.lst (N.map ndD)), .dat (.lst (C.map chD)), .dat (sgD sg), .dat (.bl fo), .dats L0, .unk, .unk, .unk, .unk, .unk] _
    obtain ⟨C1, hC1⟩ : ∃ l : List Ch, l = (Str.ofString "q", 3) :: C := ⟨_, rfl⟩
    have lC1 : C1.length ≤ 30 := by rw [hC1, List.length_cons]; omega
    have qC1 : ∀ n ∈ C1, Lb3 n.1 := fun n hn => by
      rw [hC1] at hn
      rcases List.mem_cons.mp hn with rfl | h
      · exact lb_q
      · exact qC n h
    have c1 : addA (.lst [.tup [.str (Str.ofString "q"), .int 3]]) (.lst (C.map chD)) = some (.lst (C1.map chD)) := by
      rw [hC1]
      exact ev_catL (by rw [List.length_map]; simp; omega)
    have c2 : addA (.lst (C1.map chD)) (.lst [.tup [.str (Str.ofString "q"), .int (-3)]]) = some (.lst ((C1 ++ [(Str.ofString "q", -3)]).map chD)) := addC (N := C1) (by omega) (Str.ofString "q", -3)
    have lC2 : (C1 ++ [(Str.ofString "q", (-3 : Int))]).length ≤ 500 := by simp; omega
    clear hC1
    refine Rn.sqapG (d := .lst [.str nm, .str pl, .tup (N.map ndD), .tup ((C1 ++ [(Str.ofString "q", -3)]).map chD), sgD sg, .bl fo]) g0 ⟨⟨nm, pl, N, C1 ++ [(Str.ofString "q", -3)], sg, fo⟩, ⟨_, _, rfl, rfl, rfl⟩, G.changes' (ns := C1 ++ [(Str.ofString "q", -3)]) (fun n hn => ?_) lC2⟩ (by
      (simp (disch := first | assumption | omega) only [c1, c2, MV])) rfl (by decide) fun L1 g1 => ?_
    · rcases List.mem_append.mp hn with h | h
      · exact qC1 n h
      · rw [List.mem_singleton.mp h]; exact lb_q
    clear c1 c2 g0
    show Rn _ [.dat P, .dat (.str nm), .dat (.str pl), .dat (.lst (N.map ndD)), .dat (.lst (C.map chD)), .dat (sgD sg), .dat (.bl fo), .dats L1, .unk, .unk, .unk, .unk, .unk] _
    refine Rn.sqfor (xs := [Str.ofString "q", Str.ofString "r", Str.ofString "q.r"]) (φ := .str) (by rfl) (fun i ρ => ∃ (L : List D) (x : O), NG (2 + 6 * i) L ∧ ρ = [.dat P, .dat (.str nm), .dat (.str pl), .dat (.lst (N.map ndD)), .dat (.lst (C.map chD)), .dat (sgD sg), .dat (.bl fo), .dats L, x, .unk, .unk, .unk, .unk]) ⟨L1, _, g1, rfl⟩ (fun i hi ρ hI => ?_) (fun ρ hI => ?_)
    · obtain ⟨L, x, gL, rfl⟩ := hI
      have hi3 : i < 3 := hi
      have hq : Lb3 [Str.ofString "q", Str.ofString "r", Str.ofString "q.r"][i] := by
        have := List.getElem_mem hi
        generalize [Str.ofString "q", Str.ofString "r", Str.ofString "q.r"][i] = s at this
        simp only [List.mem_cons, List.not_mem_nil, or_false] at this
        rcases this with rfl | rfl | rfl
        · exact lb_q
        · exact lb_r
        · exact lb_qr
      generalize [Str.ofString "q", Str.ofString "r", Str.ofString "q.r"][i] = w at hq
      refine ⟨[.dat P, .dat (.str nm), .dat (.str pl), .dat (.lst (N.map ndD)), .dat (.lst (C.map chD)), .dat (sgD sg), .dat (.bl fo), .dats L, .dat (.str w), .unk, .unk, .unk, .unk], rfl, ?_⟩
      have a1 : addA (.lst (N.map ndD)) (.lst [.tup [.str w, .int 0, .non]]) = some (.lst ((N ++ [(w, some 0, none)]).map ndD)) := addN (N := N) (by omega) (w, some 0, none)
      have a2 : addA (.lst (N.map ndD)) (.lst [.tup [.str w, .non, .int 5]]) = some (.lst ((N ++ [(w, none, some 5)]).map ndD)) := addN (N := N) (by omega) (w, none, some 5)
      have a3 : addA (.lst (C.map chD)) (.lst [.tup [.str w, .int 1]]) = some (.lst ((C ++ [(w, 1)]).map chD)) := addC (N := C) (by omega) (w, 1)
      have b1 : ∀ n ∈ N ++ [(w, some 0, none)], Lb3 n.1 ∧ ndL n = true := fun n hn => (List.mem_append.mp hn).elim (qN n) fun h => by rw [List.mem_singleton.mp h]; exact ⟨hq, rfl⟩
      have b2 : ∀ n ∈ N ++ [(w, none, some 5)], Lb3 n.1 ∧ ndL n = true := fun n hn => (List.mem_append.mp hn).elim (qN n) fun h => by rw [List.mem_singleton.mp h]; exact ⟨hq, rfl⟩
      have b3 : ∀ n ∈ C ++ [(w, (1 : Int))], Lb3 n.1 := fun n hn => (List.mem_append.mp hn).elim (qC n) fun h => by rw [List.mem_singleton.mp h]; exact hq
      refine Rn.sqapG (d := .lst (ptL ⟨w, pl, N, C, sg, fo⟩)) gL (gdL (G.name' hq)) (by
        show mkLst _ [.dat P, .dat (.str nm), .dat (.str pl), .dat (.lst (N.map ndD)), .dat (.lst (C.map chD)), .dat (sgD sg), .dat (.bl fo), .dats L, .dat (.str w), .unk, .unk, .unk, .unk] = _
        (simp (disch := first | assumption | omega) only [MV])
        unfold ptL
        first | rfl | (simp only [List.map_append]; done) | (simp only [List.map_append]; rfl)) rfl (by omega) fun M0 hM0 => ?_
      show Rn _ [.dat P, .dat (.str nm), .dat (.str pl), .dat (.lst (N.map ndD)), .dat (.lst (C.map chD)), .dat (sgD sg), .dat (.bl fo), .dats M0, .dat (.str w), .unk, .unk, .unk, .unk] _
      refine Rn.sqapG (d := .lst (ptL ⟨nm, w, N, C, sg, fo⟩)) hM0 (gdL (G.player' hq)) (by
        show mkLst _ [.dat P, .dat (.str nm), .dat (.str pl), .dat (.lst (N.map ndD)), .dat (.lst (C.map chD)), .dat (sgD sg), .dat (.bl fo), .dats M0, .dat (.str w), .unk, .unk, .unk, .unk] = _
        (simp (disch := first | assumption | omega) only [MV])
        unfold ptL
        first | rfl | (simp only [List.map_append]; done) | (simp only [List.map_append]; rfl)) rfl (by omega) fun M1 hM1 => ?_
      show Rn _ [.dat P, .dat (.str nm), .dat (.str pl), .dat (.lst (N.map ndD)), .dat (.lst (C.map chD)), .dat (sgD sg), .dat (.bl fo), .dats M1, .dat (.str w), .unk, .unk, .unk, .unk] _
      refine Rn.sqapG (d := .lst (ptL ⟨nm, pl, N ++ [(w, some 0, none)], C, sg, fo⟩)) hM1 (gdL (G.needs' b1 (by rw [List.length_append]; simp; omega))) (by
        show mkLst _ [.dat P, .dat (.str nm), .dat (.str pl), .dat (.lst (N.map ndD)), .dat (.lst (C.map chD)), .dat (sgD sg), .dat (.bl fo), .dats M1, .dat (.str w), .unk, .unk, .unk, .unk] = _
        (simp (disch := first | assumption | omega) only [a1, MV])
        unfold ptL
        first | rfl | (simp only [List.map_append]; done) | (simp only [List.map_append]; rfl)) rfl (by omega) fun M2 hM2 => ?_
      show Rn _ [.dat P, .dat (.str nm), .dat (.str pl), .dat (.lst (N.map ndD)), .dat (.lst (C.map chD)), .dat (sgD sg), .dat (.bl fo), .dats M2, .dat (.str w), .unk, .unk, .unk, .unk] _
      refine Rn.sqapG (d := .lst (ptL ⟨nm, pl, N ++ [(w, none, some 5)], C, sg, fo⟩)) hM2 (gdL (G.needs' b2 (by rw [List.length_append]; simp; omega))) (by
        show mkLst _ [.dat P, .dat (.str nm), .dat (.str pl), .dat (.lst (N.map ndD)), .dat (.lst (C.map chD)), .dat (sgD sg), .dat (.bl fo), .dats M2, .dat (.str w), .unk, .unk, .unk, .unk] = _
        (simp (disch := first | assumption | omega) only [a2, MV])
        unfold ptL
        first | rfl | (simp only [List.map_append]; done) | (simp only [List.map_append]; rfl)) rfl (by omega) fun M3 hM3 => ?_
      show Rn _ [.dat P, .dat (.str nm), .dat (.str pl), .dat (.lst (N.map ndD)), .dat (.lst (C.map chD)), .dat (sgD sg), .dat (.bl fo), .dats M3, .dat (.str w), .unk, .unk, .unk, .unk] _
      refine Rn.sqapG (d := .lst (ptL ⟨nm, pl, N, C ++ [(w, 1)], sg, fo⟩)) hM3 (gdL (G.changes' b3 (by rw [List.length_append]; simp; omega))) (by
        show mkLst _ [.dat P, .dat (.str nm), .dat (.str pl), .dat (.lst (N.map ndD)), .dat (.lst (C.map chD)), .dat (sgD sg), .dat (.bl fo), .dats M3, .dat (.str w), .unk, .unk, .unk, .unk] = _
        (simp (disch := first | assumption | omega) only [a3, MV])
        unfold ptL
        first | rfl | (simp only [List.map_append]; done) | (simp only [List.map_append]; rfl)) rfl (by omega) fun M4 hM4 => ?_
      show Rn _ [.dat P, .dat (.str nm), .dat (.str pl), .dat (.lst (N.map ndD)), .dat (.lst (C.map chD)), .dat (sgD sg), .dat (.bl fo), .dats M4, .dat (.str w), .unk, .unk, .unk, .unk] _
      refine Rn.apG (d := .lst (ptL ⟨nm, pl, N, C, some w, fo⟩)) hM4 (gdL (G.sign' fun x e => by cases e; exact hq)) (by
        show mkLst _ [.dat P, .dat (.str nm), .dat (.str pl), .dat (.lst (N.map ndD)), .dat (.lst (C.map chD)), .dat (sgD sg), .dat (.bl fo), .dats M4, .dat (.str w), .unk, .unk, .unk, .unk] = _
        (simp (disch := first | assumption | omega) only [MV])
        unfold ptL
        first | rfl | (simp only [List.map_append]; done) | (simp only [List.map_append]; rfl)) rfl (by omega) fun M5 hM5 => ⟨_, _, by rw [Nat.mul_add, ← Nat.add_assoc]; exact hM5, rfl⟩
    obtain ⟨L2, x8, g2, rfl⟩ := hI
    clear g1
    have g2 : NG 20 L2 := g2
    have hln : lenD [.lst (N.map ndD)] = some (.int (N.length : Int)) := by rw [ev_lenL, List.length_map]
    have hlc : lenD [.lst (C.map chD)] = some (.int (C.length : Int)) := by rw [ev_lenL, List.length_map]
    obtain ⟨n6, hn6, hn6b⟩ : ∃ n : Nat, min (6 : Int) (N.length : Int) = (n : Int) ∧ n ≤ 6 ∧ n ≤ N.length := ⟨min 6 N.length, by omega, by omega, by omega⟩
    obtain ⟨c6, hc6, hc6b⟩ : ∃ n : Nat, min (6 : Int) (C.length : Int) = (n : Int) ∧ n ≤ 6 ∧ n ≤ C.length := ⟨min 6 C.length, by omega, by omega, by omega⟩
    refine Rn.sqforR (lo := 0) (n := n6) (by
      show rng1 _ [.dat P, .dat (.str nm), .dat (.str pl), .dat (.lst (N.map ndD)), .dat (.lst (C.map chD)), .dat (sgD sg), .dat (.bl fo), .dats L2, x8, .unk, .unk, .unk, .unk] = _
      (simp (disch := first | assumption | omega) only [hln, hn6, Int.toNat_natCast, MV])) (fun i ρ => ∃ (L : List D) (x y z v : O), NG (20 + 3 * i) L ∧ ρ = [.dat P, .dat (.str nm), .dat (.str pl), .dat (.lst (N.map ndD)), .dat (.lst (C.map chD)), .dat (sgD sg), .dat (.bl fo), .dats L, x8, x, y, z, v]) ⟨L2, _, _, _, _, g2, rfl⟩ (fun i hi ρ hI => ?_) (fun ρ hI => ?_)
    · obtain ⟨L, x, y, z, v, gL, rfl⟩ := hI
      obtain ⟨⟨c, lo, hi⟩, hc⟩ : ∃ n, N[i]'(by omega) = n := ⟨_, rfl⟩
      have hq : Lb3 c := by
        have := (qN _ (List.getElem_mem (show i < N.length by omega))).1
        rw [hc] at this; exact this
      refine ⟨_, rfl, ?_⟩
      rw [Int.zero_add]
      have ek : ixD (.lst (N.map ndD)) (.int (i : Int)) = some (ndD (c, lo, hi)) := by
        show atI (N.map ndD) (i : Int) = _
        exact atI_nat (by rw [List.getElem?_map, List.getElem?_eq_getElem (by omega), hc]; rfl)
      refine Rn.sqasg (d := ndD (c, lo, hi)) (ρ' := [.dat P, .dat (.str nm), .dat (.str pl), .dat (.lst (N.map ndD)), .dat (.lst (C.map chD)), .dat (sgD sg), .dat (.bl fo), .dats L, x8, .dat (.int (i : Int)), .dat (.str c), .dat (oD lo), .dat (oD hi)]) (by
        show PD.b2 _ _ _ [.dat P, .dat (.str nm), .dat (.str pl), .dat (.lst (N.map ndD)), .dat (.lst (C.map chD)), .dat (sgD sg), .dat (.bl fo), .dats L, x8, .dat (.int (i : Int)), _, _, _] = _
        (simp (disch := first | assumption | omega) only [ek, MV])) rfl ?_
      have a1 : addA (.lst (N.map ndD)) (.lst [.tup [.str c, .int 3, .non]]) = some (.lst ((N ++ [(c, some 3, none)]).map ndD)) := addN (N := N) (by omega) (c, some 3, none)
      have a2 : addA (.lst (N.map ndD)) (.lst [.tup [.str c, .non, .int 3]]) = some (.lst ((N ++ [(c, none, some 3)]).map ndD)) := addN (N := N) (by omega) (c, none, some 3)
      have a3 : addA (.lst ((cutD N none (some (i : Int))).map ndD)) (.lst ((cutD N (some ((i : Int) + 1)) none).map ndD)) = some (.lst ((cutD N none (some (i : Int)) ++ cutD N (some ((i : Int) + 1)) none).map ndD)) := by
        rw [List.map_append]
        exact ev_catL (by rw [List.length_map, List.length_map]; have := cut_le N none (some (i : Int)); have := cut_le N (some ((i : Int) + 1)) none; omega)
      have b1 : ∀ n ∈ N ++ [(c, some 3, none)], Lb3 n.1 ∧ ndL n = true := fun n hn => (List.mem_append.mp hn).elim (qN n) fun h => by rw [List.mem_singleton.mp h]; exact ⟨hq, rfl⟩
      have b2 : ∀ n ∈ N ++ [(c, none, some 3)], Lb3 n.1 ∧ ndL n = true := fun n hn => (List.mem_append.mp hn).elim (qN n) fun h => by rw [List.mem_singleton.mp h]; exact ⟨hq, rfl⟩
      have b3 : ∀ n ∈ cutD N none (some (i : Int)) ++ cutD N (some ((i : Int) + 1)) none, Lb3 n.1 ∧ ndL n = true := fun n hn => (List.mem_append.mp hn).elim (fun h => qN n (cut_sub h)) fun h => qN n (cut_sub h)
      show Rn _ [.dat P, .dat (.str nm), .dat (.str pl), .dat (.lst (N.map ndD)), .dat (.lst (C.map chD)), .dat (sgD sg), .dat (.bl fo), .dats L, x8, .dat (.int (i : Int)), .dat (.str c), .dat (oD lo), .dat (oD hi)] _
      refine Rn.sqapG (d := .lst (ptL ⟨nm, pl, N ++ [(c, some 3, none)], C, sg, fo⟩)) gL (gdL (G.needs' b1 (by rw [List.length_append]; simp; omega))) (by
        show mkLst _ [.dat P, .dat (.str nm), .dat (.str pl), .dat (.lst (N.map ndD)), .dat (.lst (C.map chD)), .dat (sgD sg), .dat (.bl fo), .dats L, x8, .dat (.int (i : Int)), .dat (.str c), .dat (oD lo), .dat (oD hi)] = _
        (simp (disch := first | assumption | omega) only [a1, MV])
        unfold ptL
        first | rfl | (simp only [List.map_append]; done) | (simp only [List.map_append]; rfl)) rfl (by omega) fun M0 hM0 => ?_
      show Rn _ [.dat P, .dat (.str nm), .dat (.str pl), .dat (.lst (N.map ndD)), .dat (.lst (C.map chD)), .dat (sgD sg), .dat (.bl fo), .dats M0, x8, .dat (.int (i : Int)), .dat (.str c), .dat (oD lo), .dat (oD hi)] _
      refine Rn.sqapG (d := .lst (ptL ⟨nm, pl, N ++ [(c, none, some 3)], C, sg, fo⟩)) hM0 (gdL (G.needs' b2 (by rw [List.length_append]; simp; omega))) (by
        show mkLst _ [.dat P, .dat (.str nm), .dat (.str pl), .dat (.lst (N.map ndD)), .dat (.lst (C.map chD)), .dat (sgD sg), .dat (.bl fo), .dats M0, x8, .dat (.int (i : Int)), .dat (.str c), .dat (oD lo), .dat (oD hi)] = _
        (simp (disch := first | assumption | omega) only [a2, MV])
        unfold ptL
        first | rfl | (simp only [List.map_append]; done) | (simp only [List.map_append]; rfl)) rfl (by omega) fun M1 hM1 => ?_
      show Rn _ [.dat P, .dat (.str nm), .dat (.str pl), .dat (.lst (N.map ndD)), .dat (.lst (C.map chD)), .dat (sgD sg), .dat (.bl fo), .dats M1, x8, .dat (.int (i : Int)), .dat (.str c), .dat (oD lo), .dat (oD hi)] _
      refine Rn.apG (d := .lst (ptL ⟨nm, pl, cutD N none (some (i : Int)) ++ cutD N (some ((i : Int) + 1)) none, C, sg, fo⟩)) hM1 (gdL (G.needs' b3 (by rw [List.length_append]; have := cut_le N none (some (i : Int)); have := cut_le N (some ((i : Int) + 1)) none; omega))) (by
        show mkLst _ [.dat P, .dat (.str nm), .dat (.str pl), .dat (.lst (N.map ndD)), .dat (.lst (C.map chD)), .dat (sgD sg), .dat (.bl fo), .dats M1, x8, .dat (.int (i : Int)), .dat (.str c), .dat (oD lo), .dat (oD hi)] = _
        (simp (disch := first | assumption | omega) only [cut_map, a3, MV])
        unfold ptL
        first | rfl | (simp only [List.map_append]; done) | (simp only [List.map_append]; rfl)) rfl (by omega) fun M2 hM2 => ⟨_, _, _, _, _, by rw [Nat.mul_add, ← Nat.add_assoc]; exact hM2, rfl⟩
    obtain ⟨L3, x9, x10, x11, x12, g3, rfl⟩ := hI
    have g3 : NG 38 L3 := ⟨by have := g3.1; omega, g3.2⟩
    refine Rn.sqforR (lo := 0) (n := c6) (by
      show rng1 _ [.dat P, .dat (.str nm), .dat (.str pl), .dat (.lst (N.map ndD)), .dat (.lst (C.map chD)), .dat (sgD sg), .dat (.bl fo), .dats L3, x8, x9, x10, x11, x12] = _
      (simp (disch := first | assumption | omega) only [hlc, hc6, Int.toNat_natCast, MV])) (fun i ρ => ∃ (L : List D) (x : O), NG (38 + 2 * i) L ∧ ρ = [.dat P, .dat (.str nm), .dat (.str pl), .dat (.lst (N.map ndD)), .dat (.lst (C.map chD)), .dat (sgD sg), .dat (.bl fo), .dats L, x8, x, x10, x11, x12]) ⟨L3, _, g3, rfl⟩ (fun i hi ρ hI => ?_) (fun ρ hI => ?_)
    · obtain ⟨L, x, gL, rfl⟩ := hI
      obtain ⟨⟨c, k⟩, hc⟩ : ∃ n, C[i]'(by omega) = n := ⟨_, rfl⟩
      have hq : Lb3 c := by
        have := qC _ (List.getElem_mem (show i < C.length by omega))
        rw [hc] at this; exact this
      refine ⟨_, rfl, ?_⟩
      rw [Int.zero_add]
      have ek : ixD (.lst (C.map chD)) (.int (i : Int)) = some (.tup [.str c, .int k]) := by
        show atI (C.map chD) (i : Int) = _
        exact atI_nat (by rw [List.getElem?_map, List.getElem?_eq_getElem (by omega), hc]; rfl)
      have a1 : addA (.lst (C.map chD)) (.lst [.tup [.str c, .int 1]]) = some (.lst ((C ++ [(c, 1)]).map chD)) := addC (N := C) (by omega) (c, 1)
      have a3 : addA (.lst ((cutD C none (some (i : Int))).map chD)) (.lst ((cutD C (some ((i : Int) + 1)) none).map chD)) = some (.lst ((cutD C none (some (i : Int)) ++ cutD C (some ((i : Int) + 1)) none).map chD)) := by
        rw [List.map_append]
        exact ev_catL (by rw [List.length_map, List.length_map]; have := cut_le C none (some (i : Int)); have := cut_le C (some ((i : Int) + 1)) none; omega)
      have b1 : ∀ n ∈ C ++ [(c, (1 : Int))], Lb3 n.1 := fun n hn => (List.mem_append.mp hn).elim (qC n) fun h => by rw [List.mem_singleton.mp h]; exact hq
      have b3 : ∀ n ∈ cutD C none (some (i : Int)) ++ cutD C (some ((i : Int) + 1)) none, Lb3 n.1 := fun n hn => (List.mem_append.mp hn).elim (fun h => qC n (cut_sub h)) fun h => qC n (cut_sub h)
      show Rn _ [.dat P, .dat (.str nm), .dat (.str pl), .dat (.lst (N.map ndD)), .dat (.lst (C.map chD)), .dat (sgD sg), .dat (.bl fo), .dats L, x8, .dat (.int (i : Int)), x10, x11, x12] _
      refine Rn.sqapG (d := .lst (ptL ⟨nm, pl, N, C ++ [(c, 1)], sg, fo⟩)) gL (gdL (G.changes' b1 (by rw [List.length_append]; simp; omega))) (by
        show mkLst _ [.dat P, .dat (.str nm), .dat (.str pl), .dat (.lst (N.map ndD)), .dat (.lst (C.map chD)), .dat (sgD sg), .dat (.bl fo), .dats L, x8, .dat (.int (i : Int)), x10, x11, x12] = _
        (simp (disch := first | assumption | omega) only [ek, a1, MV])
        unfold ptL
        first | rfl | (simp only [List.map_append]; done) | (simp only [List.map_append]; rfl)) rfl (by omega) fun M0 hM0 => ?_
      show Rn _ [.dat P, .dat (.str nm), .dat (.str pl), .dat (.lst (N.map ndD)), .dat (.lst (C.map chD)), .dat (sgD sg), .dat (.bl fo), .dats M0, x8, .dat (.int (i : Int)), x10, x11, x12] _
      refine Rn.apG (d := .lst (ptL ⟨nm, pl, N, cutD C none (some (i : Int)) ++ cutD C (some ((i : Int) + 1)) none, sg, fo⟩)) hM0 (gdL (G.changes' b3 (by rw [List.length_append]; have := cut_le C none (some (i : Int)); have := cut_le C (some ((i : Int) + 1)) none; omega))) (by
        show mkLst _ [.dat P, .dat (.str nm), .dat (.str pl), .dat (.lst (N.map ndD)), .dat (.lst (C.map chD)), .dat (sgD sg), .dat (.bl fo), .dats M0, x8, .dat (.int (i : Int)), x10, x11, x12] = _
        (simp (disch := first | assumption | omega) only [cut_map, a3, MV])
        unfold ptL
        first | rfl | (simp only [List.map_append]; done) | (simp only [List.map_append]; rfl)) rfl (by omega) fun M1 hM1 => ⟨_, _, by rw [Nat.mul_add, ← Nat.add_assoc]; exact hM1, rfl⟩
    obtain ⟨L4, y9, g4, rfl⟩ := hI
    have g4 : NG 50 L4 := ⟨by have := g4.1; omega, g4.2⟩
    refine Rn.sqapG (d := .lst (ptL ⟨nm, pl, N, C, none, fo⟩)) g4 (gdL (G.sign' fun x e => nomatch e)) (by
      show mkLst _ [.dat P, .dat (.str nm), .dat (.str pl), .dat (.lst (N.map ndD)), .dat (.lst (C.map chD)), .dat (sgD sg), .dat (.bl fo), .dats L4, x8, y9, x10, x11, x12] = _
      (simp (disch := first | assumption | omega) only [MV])
      rfl) rfl (by omega) fun L5 g5 => ?_
    show Rn _ [.dat P, .dat (.str nm), .dat (.str pl), .dat (.lst (N.map ndD)), .dat (.lst (C.map chD)), .dat (sgD sg), .dat (.bl fo), .dats L5, x8, y9, x10, x11, x12] _
    refine Rn.sqapG (d := .lst (ptL ⟨nm, pl, N, C, sg, !fo⟩)) g5 (gdL (G.foul' _)) (by
      show mkLst _ [.dat P, .dat (.str nm), .dat (.str pl), .dat (.lst (N.map ndD)), .dat (.lst (C.map chD)), .dat (sgD sg), .dat (.bl fo), .dats L5, x8, y9, x10, x11, x12] = _
      (simp (disch := first | assumption | omega) only [MV])
      rfl) rfl (by omega) fun L6 g6 => ?_
    show Rn _ [.dat P, .dat (.str nm), .dat (.str pl), .dat (.lst (N.map ndD)), .dat (.lst (C.map chD)), .dat (sgD sg), .dat (.bl fo), .dats L6, x8, y9, x10, x11, x12] _
    refine Rn.fzD rfl ?_
    exact Rn.ret (d := .lst L6) rfl ⟨_, _, rfl, rfl, L6, rfl, by have := g6.1; omega, g6.2⟩
  exact ⟨L, e, h⟩
end GA

/-! k03: expected lists and moves compared; refusals told -/
namespace GA
open PySem PySem.Spec L2 PD
theorem Tx3.pl {s : Str} (h : Tx3 s) : (D.str s).plain 60 = true := by
  show PyData.canLay0 (.str s) = true
  simp only [PyData.canLay0]
  unfold PyData.strOk
  rw [← Array.all_toList, List.all_eq_true]
  intro c hc
  have := h.2 c hc
  exact decide_eq_true (by omega)
theorem oD_pl (a : Lim) : (oD a).plain 60 = true ∧ (oD a).deep ≤ 0 := by cases a <;> exact ⟨rfl, Nat.le_refl _⟩
theorem sgD_pl {a : Option Str} (h : ∀ s, a = some s → Tx3 s) : (sgD a).plain 60 = true ∧ (sgD a).deep ≤ 0 := by
  cases a with
  | none => exact ⟨rfl, Nat.le_refl _⟩
  | some s => exact ⟨(h s rfl).pl, Nat.le_refl _⟩
theorem nds_pl {ns : List Nd} (h : ∀ n ∈ ns, Tx3 n.1) : (D.tup (ns.map ndD)).plain 60 = true ∧ (D.tup (ns.map ndD)).deep ≤ 2 := plain_tup 1 (by decide) fun d hd => by
  obtain ⟨⟨c, lo, hi⟩, hn, rfl⟩ := List.mem_map.mp hd
  refine plain_tup 0 (by decide) fun x hx => ?_
  simp only [List.mem_cons, List.not_mem_nil, or_false] at hx
  rcases hx with rfl | rfl | rfl
  · exact ⟨(h _ hn).pl, Nat.le_refl _⟩
  · exact oD_pl lo
  · exact oD_pl hi
theorem chs_pl {ns : List Ch} (h : ∀ n ∈ ns, Tx3 n.1) : (D.tup (ns.map chD)).plain 60 = true ∧ (D.tup (ns.map chD)).deep ≤ 2 := plain_tup 1 (by decide) fun d hd => by
  obtain ⟨⟨c, k⟩, hn, rfl⟩ := List.mem_map.mp hd
  refine plain_tup 0 (by decide) fun x hx => ?_
  simp only [List.mem_cons, List.not_mem_nil, or_false] at hx
  rcases hx with rfl | rfl
  · exact ⟨(h _ hn).pl, Nat.le_refl _⟩
  · exact ⟨rfl, Nat.le_refl _⟩
theorem mns_tx {m : Mv} (F : MvR Tx3 m) : ∀ n ∈ mns m.needs, Tx3 n.1 := fun n hn => by
  obtain ⟨k, hk, e⟩ := mns_names hn
  rw [← e]; exact F.needs k hk
theorem mcs_tx {m : Mv} (F : MvR Tx3 m) : ∀ n ∈ mcs m.changes, Tx3 n.1 := fun n hn => by
  obtain ⟨k, hk, e⟩ := mcs_names hn
  rw [← e]; exact F.changes k hk
theorem mv_pl {m : Mv} (F : MvR Tx3 m) : MvPl m := ⟨F.name.pl, F.player.pl, (nds_pl (mns_tx F)).1, (chs_pl (mcs_tx F)).1, (sgD_pl F.sign).1⟩
theorem nds_nrm (ns : List Nd) : (D.tup (ns.map ndD)).nrm = D.tup (ns.map ndD) := by
  show D.tup (D.nrms (ns.map ndD)) = _
  rw [nrms_map, List.map_map]
  congr 1
  refine List.map_congr_left fun n _ => ?_
  obtain ⟨c, lo, hi⟩ := n
  cases lo <;> cases hi <;> rfl
theorem chs_nrm (ns : List Ch) : (D.tup (ns.map chD)).nrm = D.tup (ns.map chD) := by
  show D.tup (D.nrms (ns.map chD)) = _
  rw [nrms_map, List.map_map]
  congr 1
theorem sgD_nrm (a : Option Str) : (sgD a).nrm = sgD a := by cases a <;> rfl
theorem exp_nrm (m : Mv) : (expD m).nrm = .lst [.str m.name, .str m.player, .tup ((mns m.needs).map ndD), .tup ((mcs m.changes).map chD), sgD m.sign, .int (if m.foul then 1 else 0)] := by
  show D.lst [D.str m.name, D.str m.player, (D.tup ((mns m.needs).map ndD)).nrm, (D.tup ((mcs m.changes).map chD)).nrm, (sgD m.sign).nrm, .int (if m.foul then 1 else 0)] = _
  rw [nds_nrm, chs_nrm, sgD_nrm]
theorem exp_pl {m : Mv} (F : MvR Tx3 m) : (expD m).nrm.plain 60 = true := by
  rw [exp_nrm]
  refine (plain_lst 2 (by decide) fun x hx => ?_).1
  simp only [List.mem_cons, List.not_mem_nil, or_false] at hx
  rcases hx with rfl | rfl | rfl | rfl | rfl | rfl
  · exact ⟨F.name.pl, Nat.zero_le _⟩
  · exact ⟨F.player.pl, Nat.zero_le _⟩
  · exact nds_pl (mns_tx F)
  · exact chs_pl (mcs_tx F)
  · exact ⟨(sgD_pl F.sign).1, Nat.le_trans (sgD_pl F.sign).2 (by decide)⟩
  · exact ⟨rfl, Nat.zero_le _⟩
theorem orD_l {f g : D → D → Option D} {x y d : D} (h : f x y = some d) : orD f g x y = some d := by
  unfold orD
  rw [h]
theorem orD_r {f g : D → D → Option D} {x y : D} (h : f x y = none) : orD f g x y = g x y := by
  unfold orD
  rw [h]
theorem expEq {g : D → D → Option D} {m m' : Mv} (F : MvR Tx3 m) (F' : MvR Tx3 m') : ∃ b, orD eqD g (expD m) (expD m') = some (.bl b) ∧ (b = true ↔ mvV m = mvV m') := by
  obtain ⟨b, e, q⟩ := eqBN_of (exp_pl F) (exp_pl F')
  refine ⟨b, orD_l (by unfold eqD; rw [e]; rfl), ?_⟩
  rw [q, exp_nrm, exp_nrm]
  unfold mvV
  constructor
  · intro h
    injection h with h
    simp only [List.cons.injEq, and_true] at h
    obtain ⟨h1, h2, h3, h4, h5, h6⟩ := h
    rw [h1, h2, h3, h4, h5]
    congr 6
    revert h6
    cases m.foul <;> cases m'.foul <;> simp
  · intro h
    simp only [List.cons.injEq, and_true] at h
    obtain ⟨h1, h2, h3, h4, h5, h6⟩ := h
    rw [h1, h2, h3, h4, h5]
    injection h6 with h6
    rw [h6]
theorem mvD_toD (C : Addr) (m : Mv) : (O.obj C mvK ((mvV m).map .dat)).toD = some (mvD C m) := by
  unfold O.toD
  rw [toDs_dat]; rfl
/-- == of two moves -/
theorem mvEqO (C : Addr) {m m' : Mv} (F : MvR Tx3 m) (F' : MvR Tx3 m') : ∃ b, orD eqD (eqC C [] (runP 2 (gMvEq C))) (mvD C m) (mvD C m') = some (.bl b) ∧ (b = true ↔ mvV m = mvV m') := by
  obtain ⟨b, e, q⟩ := mvEq_run C (mv_pl F) (mv_pl F')
  refine ⟨b, ?_, q⟩
  rw [orD_r (by rfl)]
  unfold eqC
  rw [if_pos (by show selfC C (.obj C mvK (mvV m)) = true; simp [selfC])]
  show (if C = C ∨ C ∈ [] then _ else none) = _
  rw [if_pos (.inl rfl)]
  exact e
/-- a move is no other thing -/
theorem mvNeO (C : Addr) (m : Mv) {y : D} (ht : ∃ t, tyD y = some t) (hy : ∀ C' ks ds, y ≠ .obj C' ks ds) (he : eqD (mvD C m) y = none) : orD eqD (eqC C [] (runP 2 (gMvEq C))) (mvD C m) y = some (.bl false) := by
  rw [orD_r he]
  obtain ⟨t, ht⟩ := ht
  have e : runP 2 (gMvEq C) [mvD C m, y] = some (.bl false) := by
    refine runP_eq ?_
    unfold gMvEq
    show Rn _ [.dat (mvD C m), .dat y] _
    refine Rn.ret (d := .bl false) ?_ ⟨_, rfl, rfl⟩
    refine andV_of (a := false) (b := false) (b1_at rfl ?_) fun e => nomatch e
    cases y <;> first | rfl | exact absurd rfl (hy _ _ _) | cases ht
  unfold eqC
  rw [if_pos (by show selfC C (.obj C mvK (mvV m)) = true; simp [selfC])]
  cases y <;> first | exact absurd rfl (hy _ _ _) | (show (tyD _).bind _ = _; rw [ht]; exact e)
end GA

/-! k03: what is refused, as the law tells it -/
namespace GA
open PySem PySem.Spec L2 PD
theorem isXb (a da B : Addr) (t : Bool) (ks : List Str) (vs : List D) : isX a (some da) (.ref B) [(B, t)] (.exn a (some da) (.ref B) ks vs) = some (.bl t) := by
  show (if some da = some da then isiE a (.ref B) [(B, t)] (.exn a (some da) (.ref B) ks vs) else none) = _
  rw [if_pos rfl]
  show (if a = a then (List.lookup B [(B, t)]).map D.bl else none) = _
  rw [if_pos rfl, List.lookup_cons]; simp
theorem fldXb (a da B : Addr) (f : Str) (l : Str) (hf : ([f].zip [D.str l]).lookup f = some (.str l)) : fldE a (some da) (.ref B) [B] f (.exn a (some da) (.ref B) [f] [.str l]) = some (.str l) := by
  show (if a = a ∧ some da = some da ∧ B ∈ [B] then _ else none) = _
  rw [if_pos ⟨rfl, rfl, List.mem_singleton.mpr rfl⟩]; exact hf
abbrev bmX (BM : Addr) (p : Str) : Exn := ⟨.ref BM, some (["part"], [.str p])⟩
theorem PtD.bld {d : D} {m : Mv} (h : PtD d m) (C BM : Addr) (F : MvR Tx3 m) (b : Bool) : runX 8 (gBld C BM) [d, .bl b] = some (mvZ C BM m) := by
  obtain ⟨dn, dc, rfl, hn, hc⟩ := h
  exact bld_run C BM hn hc F.few b
theorem PtD.ref {d : D} {m : Mv} (h : PtD d m) (F : MvR Tx3 m) : runP 11 gLRef [d] = some (fallD (fallM m)) := by
  obtain ⟨dn, dc, rfl, hn, hc⟩ := h
  exact lref_run hn hc F.few
theorem base_run (C BM : Addr) {d : D} {m : Mv} {p : Str} (h : PtD d m) (F : MvR Tx3 m) (hp : fallM m = some p) : runP 2 (gBase C BM) [d] = some (.bl true) := by
  have hb := h.bld C BM F false
  unfold mvZ at hb
  rw [hp] at hb
  refine runP_eq ?_
  unfold gBase
  show Rn _ [.dat d, .unk] _
  clear h
  refine Rn.sq (Rn.tryX (x := bmX BM p) (ρ1 := [.dat d, .unk]) (r2 := .rt (.dat (.bl true)) [.dat d, .unk]) ?_ (mtc1 _ _) (fun ad da => ?_) ⟨_, rfl, rfl⟩)
  · unfold drpX
    rw [show xC (aCons (gv 0) (aCons (kB false) aNil)) 2 (runX 8 (gBld C BM)) [.dat d, .unk] = _ from (ew_xC (n := 2) (ds := [d, .bl false]) rfl rfl).trans hb]; rfl
  · have e1 := isXb ad da BM true ["part"] [.str p]
    have e2 := isXb ad da BM false ["part"] [.str p]
    have hx : exnA da (bmX BM p) = some da := rfl
    show Rn _ [.dat d, .dat (.exn ad (some da) (.ref BM) ["part"] [.str p])] _
    rw [hx]
    show Rn (PD.sq (ifS (asB (PD.b1 (gv 1) (isX ad (some da) (.ref BM) [(BM, false)]))) (rtV (kB false)) skip) (rtV (andV (PD.b1 (gv 1) (isX ad (some da) (.ref BM) [(BM, true)])) (PD.b1 (gv 1) (isX ad (some da) (.ref BM) [(BM, true)]))))) [.dat d, .dat (.exn ad (some da) (.ref BM) ["part"] [.str p])] _
    generalize D.exn ad (some da) (.ref BM) ["part"] [.str p] = E at *
    refine Rn.chk (by (simp (disch := first | assumption | omega) only [e2, MV])) ?_
    exact Rn.ret (d := .bl true) (by (simp (disch := first | assumption | omega) only [e1, MV])) rfl
theorem told_run03 (C BM : Addr) {d : D} {m : Mv} (h : PtD d m) (F : MvR Tx3 m) (b : Bool) : runP 6 (gTold C BM) [d, .bl b] = some (.bl true) := by
  have hb := h.bld C BM F b
  have hr := h.ref F
  have he := exp_run h F
  have hs := shn_run C F
  refine runP_eq ?_
  unfold gTold
  show Rn _ [.dat d, .dat (.bl b), .unk, .unk, .unk, .unk] _
  refine Rn.sqst (d := .non) rfl ?_
  refine Rn.sqst (d := .non) rfl ?_
  show Rn _ [.dat d, .dat (.bl b), .dat .non, .dat .non, .unk, .unk] _
  unfold mvZ at hb
  cases hp : fallM m with
  | some p =>
    have hbase := base_run C BM h F hp
    rw [hp] at hb hr
    have hsm := sameL_s 4 p
    clear h he hs
    refine Rn.sq (Rn.tryX (x := bmX BM p) (ρ1 := [.dat d, .dat (.bl b), .dat .non, .dat .non, .unk, .unk]) (r2 := .nx [.dat d, .dat (.bl b), .dat (.str p), .dat .non, .unk, .unk]) ?_ (mtc1 _ _) (fun ad da => ?_) ?_)
    · unfold stXD
      rw [show xC (aCons (gv 0) (aCons (gv 1) aNil)) 2 (runX 8 (gBld C BM)) [.dat d, .dat (.bl b), .dat .non, .dat .non, .unk, .unk] = _ from (ew_xC (n := 2) (ds := [d, .bl b]) rfl rfl).trans hb]; rfl
    · refine Rn.st (d := .str p) ?_ rfl
      show PD.b1 (gv 4) (fldE ad (some da) (.ref BM) [BM] "part") [.dat d, .dat (.bl b), .dat .non, .dat .non, .dat (.exn ad (some da) (.ref BM) ["part"] [.str p]), .unk] = _
      exact b1_at rfl (fldXb ad da BM "part" p rfl)
    · show Rn _ [.dat d, .dat (.bl b), .dat (.str p), .dat .non, .unk, .unk] _
      refine Rn.sqst (d := .str p) (cB_of (f := len? 1 (runP 11 gLRef)) (aC1 rfl) hr) ?_
      show Rn _ [.dat d, .dat (.bl b), .dat (.str p), .dat .non, .unk, .dat (.str p)] _
      refine Rn.sqifT (by (simp (disch := first | assumption | omega) only [MV])) ?_
      exact Rn.sqret (d := .bl true) (by (simp (disch := first | assumption | omega) only [hsm, hbase, MV])) ⟨_, rfl, rfl⟩
  | none =>
    rw [hp] at hb hr
    clear h
    refine Rn.sq (Rn.tryN (ρ1 := [.dat d, .dat (.bl b), .dat .non, .dat (mvD C m), .unk, .unk]) ?_ ?_)
    · unfold stXD
      rw [show xC (aCons (gv 0) (aCons (gv 1) aNil)) 2 (runX 8 (gBld C BM)) [.dat d, .dat (.bl b), .dat .non, .dat .non, .unk, .unk] = _ from (ew_xC (n := 2) (ds := [d, .bl b]) rfl rfl).trans hb, Option.bind_some]
      show (O.toD _).map _ = _
      rw [mvD_toD]; rfl
    · show Rn _ [.dat d, .dat (.bl b), .dat .non, .dat (mvD C m), .unk, .unk] _
      refine Rn.sqst (d := .non) (cB_of (f := len? 1 (runP 11 gLRef)) (aC1 rfl) hr) ?_
      show Rn _ [.dat d, .dat (.bl b), .dat .non, .dat (mvD C m), .unk, .dat .non] _
      refine Rn.chk (by (simp (disch := first | assumption | omega) only [MV])) ?_
      generalize mvD C m = M at *
      exact Rn.ret (d := .bl true) (by (simp (disch := first | assumption | omega) only [he, hs, MV])) ⟨_, rfl, rfl⟩
end GA

/-! k03: the law -/
namespace GA
open PySem PySem.Spec L2 PD
theorem immDs_all : ∀ {ds : List D}, (∀ d ∈ ds, immD d = true) → immDs ds = true
  | [], _ => rfl
  | d :: ds, h => by
    unfold immDs
    rw [h d List.mem_cons_self, immDs_all fun x hx => h x (List.mem_cons_of_mem _ hx)]; rfl
theorem imm_mv (C : Addr) (m : Mv) : immO (.obj C mvK ((mvV m).map .dat)) = true := by
  have h1 : immD (.tup ((mns m.needs).map ndD)) = true := by
    unfold immD
    refine immDs_all fun d hd => ?_
    obtain ⟨⟨c, lo, hi⟩, _, rfl⟩ := List.mem_map.mp hd
    cases lo <;> cases hi <;> rfl
  have h2 : immD (.tup ((mcs m.changes).map chD)) = true := by
    unfold immD
    refine immDs_all fun d hd => ?_
    obtain ⟨⟨c, k⟩, _, rfl⟩ := List.mem_map.mp hd
    rfl
  have h3 : immD (sgD m.sign) = true := by cases m.sign <;> rfl
  show (immD (.str m.name) && (immD (.str m.player) && (immD (.tup ((mns m.needs).map ndD)) && (immD (.tup ((mcs m.changes).map chD)) && (immD (sgD m.sign) && (immD (.bl m.foul) && true)))))) = true
  rw [h1, h2, h3]; rfl
theorem GD.bld {d : D} {m : Mv} (h : PtD d m) (G : MvG m) (C BM : Addr) (b : Bool) : runX 8 (gBld C BM) [d, .bl b] = some (.ok (.obj C mvK ((mvV m).map .dat))) := by
  rw [h.bld C BM G.tx b]
  unfold mvZ
  rw [G.fall]
theorem smD_pt {m : Mv} (hN : m.needs.length ≤ 500) (hC : m.changes.length ≤ 500) : smD 5 (.lst (ptL m)) := by
  refine ⟨by simp [ptL], fun x hx => ?_⟩
  unfold ptL at hx
  simp only [List.mem_cons, List.not_mem_nil, or_false] at hx
  rcases hx with rfl | rfl | rfl | rfl | rfl | rfl
  · trivial
  · trivial
  · refine ⟨by rw [List.length_map]; omega, fun x hx => ?_⟩
    obtain ⟨⟨c, lo, hi⟩, _, rfl⟩ := List.mem_map.mp hx
    refine ⟨by simp [ndD], fun x hx => ?_⟩
    simp only [ndD, List.mem_cons, List.not_mem_nil, or_false] at hx
    rcases hx with rfl | rfl | rfl
    · trivial
    · cases lo <;> trivial
    · cases hi <;> trivial
  · refine ⟨by rw [List.length_map]; omega, fun x hx => ?_⟩
    obtain ⟨⟨c, k⟩, _, rfl⟩ := List.mem_map.mp hx
    refine ⟨by simp [chD], fun x hx => ?_⟩
    simp only [chD, List.mem_cons, List.not_mem_nil, or_false] at hx
    rcases hx with rfl | rfl <;> trivial
  · cases m.sign <;> trivial
  · trivial
theorem ownL (m : Mv) : (O.lst [.dat (.str m.name), .dat (.str m.player), .dats (m.needs.map ndD), .dats (m.changes.map chD), .dat (sgD m.sign), .dat (.bl m.foul)]).toD = some (.lst (ptL m)) := by
  simp only [O.toD, O.toDs, toD_dats]
  rfl
theorem vw_of {o : O} {d : D} (h : o.toD = some d) : O.vw o = .dat d := by
  unfold O.vw
  rw [h]
theorem frz_of3 {f : Ev → Option O} {ρ : Ev} {o : O} {d : D} (h : f ρ = some o) (h2 : o.toD = some d) : frz f ρ = some d := by
  unfold frz
  rw [h]; exact h2
theorem law03 (C BM : Addr) (ns : List Int) : runP 16 (gLaw03 C BM) [.lst (ns.map .int)] = some (.bl true) := by
  refine runP_eq ?_
  unfold gLaw03
  obtain ⟨rs, er, lr, hr⟩ := row_ex (ns.getD 0 0) 10 (by decide)
  obtain ⟨ra, ea, la, hra⟩ := row_ex (ns.getD 1 0) 175 (by decide)
  obtain ⟨rb, eb, lb, hrb⟩ := row_ex (ns.getD 2 0) 91 (by decide)
  obtain ⟨ps, ep, hp0, hp5, hps⟩ := pool03 lr hr
  obtain ⟨N, eN, lN, hN⟩ := nds03 (ps := ps) la hra hp0
  obtain ⟨K, eK, lK, hK⟩ := chs03 (ps := ps) lb hrb hp0
  have cell := cell_eq ns
  have c0 := cell 0
  have c1 := cell 1
  have c2 := cell 2
  have c3 := cell 3
  have c4 := cell 4
  have r4 := nth_rng hr 4
  have r5 := nth_rng hr 5
  have r6 := nth_rng hr 6
  have r7 := nth_rng hr 7
  have pk : ∀ k : Int, ∃ s, s ∈ ps ∧ ixD (.lst (ps.map D.str)) (.int (k % (ps.length : Int))) = some (.str s) := fun k => by
    have hk : 0 ≤ k % (ps.length : Int) ∧ k % (ps.length : Int) < ps.length := ⟨Int.emod_nonneg _ (by omega), Int.emod_lt_of_pos _ (by omega)⟩
    exact ⟨_, nth_mem hk.1 hk.2, ev_ixML hk.1 hk.2⟩
  obtain ⟨s4, m4, e4⟩ := pk (nth rs 4)
  obtain ⟨s6, m6, e6⟩ := pk (nth rs 6)
  obtain ⟨s7, m7, e7⟩ := pk (nth rs 7)
  have hlp : lenD [.lst (ps.map D.str)] = some (.int (ps.length : Int)) := by rw [ev_lenL, List.length_map]
  show Rn _ [.dat (.lst (ns.map .int)), .unk, .unk, .unk, .unk, .unk, .unk, .unk, .unk, .unk, .unk, .unk, .unk, .unk, .unk, .unk] _
  generalize D.lst (ns.map .int) = S at *
  have c0 : runP 2 gCell [S, .int 0] = some (.int (ns.getD 0 0)) := c0
  have c1 : runP 2 gCell [S, .int 1] = some (.int (ns.getD 1 0)) := c1
  have c2 : runP 2 gCell [S, .int 2] = some (.int (ns.getD 2 0)) := c2
  have c3 : runP 2 gCell [S, .int 3] = some (.int (ns.getD 3 0)) := c3
  have c4 : runP 2 gCell [S, .int 4] = some (.int (ns.getD 4 0)) := c4
  have er : runP 7 gRow [.int (ns.getD 0 0), .int 10] = some (.lst (rs.map .int)) := er
  have ea : runP 7 gRow [.int (ns.getD 1 0), .int 175] = some (.lst (ra.map .int)) := ea
  have eb : runP 7 gRow [.int (ns.getD 2 0), .int 91] = some (.lst (rb.map .int)) := eb
  refine Rn.sqst (d := .lst (rs.map .int)) (by (simp (disch := first | assumption | omega) only [c0, er, MV])) ?_
  refine Rn.sqst (d := .lst (ps.map .str)) (by show cB _ _ [.dat S, .dat _, _, _, _, _, _, _, _, _, _, _, _, _, _, _] = _; (simp (disch := first | assumption | omega) only [ep, MV])) ?_
  refine Rn.sqst (d := .lst (N.map ndD)) (by show cB _ _ [.dat S, .dat _, .dat _, _, _, _, _, _, _, _, _, _, _, _, _, _] = _; (simp (disch := first | assumption | omega) only [c1, ea, eN, MV])) ?_
  refine Rn.sqst (d := .lst (K.map chD)) (by show cB _ _ [.dat S, .dat _, .dat _, .dat _, _, _, _, _, _, _, _, _, _, _, _, _] = _; (simp (disch := first | assumption | omega) only [c2, eb, eK, MV])) ?_
  clear ea eb eN eK c1 c2 ep
  obtain ⟨sg, e5, hsg⟩ : ∃ sg : Option Str, ixD (.lst [.non, .str s4]) (.int (nth rs 5 % 2)) = some (sgD sg) ∧ ∀ x, sg = some x → Lb3 x := by
    by_cases h : nth rs 5 % 2 = 0
    · rw [h]; exact ⟨none, rfl, fun x e => nomatch e⟩
    · rw [show nth rs 5 % 2 = 1 by omega]; exact ⟨some s4, rfl, fun x e => by cases e; exact hps _ m4⟩
  refine Rn.sqst (d := sgD sg) (by
    show PD.b2 _ _ _ [.dat S, .dat (.lst (rs.map .int)), .dat (.lst (ps.map .str)), .dat _, .dat _, _, _, _, _, _, _, _, _, _, _, _] = _
    (simp (disch := first | assumption | omega) only [e4, hlp, e5, MV])) ?_
  obtain ⟨m0, hm0⟩ : ∃ m : Mv, m = ⟨s6, s7, N, K, sg, decide (nth rs 8 % 2 = 1)⟩ := ⟨_, rfl⟩
  have eqb : ∀ (k : Int) (v : Int), orD eqD (eqC C [] (runP 2 (gMvEq C))) (.int k) (.int v) = some (.bl (decide (k = v))) := fun k v => orD_l (ev_eqI k v)
  have G0 : MvG m0 := by
    rw [hm0]
    refine ⟨⟨hps _ m6, hps _ m7, fun n hn => hps _ (hN n hn).1, fun n hn => hps _ (hK n hn), hsg, ?_, ?_⟩, fun n hn => (hN n hn).2⟩
    · show N.length ≤ 500
      omega
    · show K.length ≤ 500
      omega
  have l0N : m0.needs.length ≤ 23 := by rw [hm0]; exact lN
  have l0K : m0.changes.length ≤ 22 := by rw [hm0]; exact lK
  refine Rn.sqst (d := .lst (ptL m0)) (by
    show mkLst _ [.dat S, .dat (.lst (rs.map .int)), .dat (.lst (ps.map .str)), .dat (.lst (N.map ndD)), .dat (.lst (K.map chD)), .dat (sgD sg), _, _, _, _, _, _, _, _, _, _] = _
    (simp (disch := first | assumption | omega) only [e6, e7, hlp, eqb, MV])
    rw [hm0]; rfl) ?_
  have PT0 := ptL_pt m0
  have ex0 := exp_run PT0 G0.tx
  have o6 : O.lst [.dat (.str s6), .dat (.str s7), .dats (N.map ndD), .dats (K.map chD), .dat (sgD sg), .dat (.bl (decide (nth rs 8 % 2 = 1)))] = .lst [.dat (.str m0.name), .dat (.str m0.player), .dats (m0.needs.map ndD), .dats (m0.changes.map chD), .dat (sgD m0.sign), .dat (.bl m0.foul)] := by rw [hm0]
  have i60 : ixD (.lst (ptL m0)) (.int 0) = some (.str m0.name) := rfl
  have i65 : ixD (.lst (ptL m0)) (.int 5) = some (.bl m0.foul) := rfl
  have a3 : D.lst (N.map ndD) = .lst (m0.needs.map ndD) := by rw [hm0]
  have a4 : D.lst (K.map chD) = .lst (m0.changes.map chD) := by rw [hm0]
  have a5 : sgD sg = sgD m0.sign := by rw [hm0]
  show Rn _ [.dat S, .dat (.lst (rs.map .int)), .dat (.lst (ps.map .str)), .dat (.lst (N.map ndD)), .dat (.lst (K.map chD)), .dat (sgD sg), .dat (.lst (ptL m0)), .unk, .unk, .unk, .unk, .unk, .unk, .unk, .unk, .unk] _
  rw [a3, a4, a5]
  clear a3 a4 a5 o6 e5 hsg e4 e6 e7 pk m4 m6 m7 hN hK lN lK hm0
  refine Rn.sqst (d := expD m0) (by (simp (disch := first | assumption | omega) only [ex0, MV])) ?_
  have own := ownL m0
  have sm0 := sameL_self 5 _ (smD_pt G0.r.fewN G0.r.fewC)
  have sh0 := shn_run C G0.tx
  have near := near03 G0 l0N l0K
  have imm := imm_mv C m0
  have td := mvD_toD C m0
  have bld0 : ∀ b, runX 8 (gBld C BM) [.lst (ptL m0), .bl b] = some (.ok (.obj C mvK ((mvV m0).map .dat))) := GD.bld PT0 G0 C BM
  have told0 := told_run03 C BM PT0 G0.tx
  have spo := fun {xs : List Int} (hl : xs.length = 52) (hr : ∀ r ∈ xs, 0 ≤ r ∧ r < 1000) {t : Str} (ht : Tx3 t) => spo03 hl hr ht G0.tx l0N l0K
  refine Rn.sqstO (o := .lst [.dat (.str m0.name), .dat (.str m0.player), .dats (m0.needs.map ndD), .dats (m0.changes.map chD), .dat (sgD m0.sign), .dat (.bl m0.foul)]) (by rfl) ?_
  show Rn _ [.dat S, .dat (.lst (rs.map .int)), .dat (.lst (ps.map .str)), .dat (.lst (m0.needs.map ndD)), .dat (.lst (m0.changes.map chD)), .dat (sgD m0.sign), .dat (.lst (ptL m0)), .dat (expD m0), .lst [.dat (.str m0.name), .dat (.str m0.player), .dats (m0.needs.map ndD), .dats (m0.changes.map chD), .dat (sgD m0.sign), .dat (.bl m0.foul)], .unk, .unk, .unk, .unk, .unk, .unk, .unk] _
  have vo := vw_of own
  have r9 : ∀ v : Int, v = nth rs 9 % 2 → (9 : Int) < rs.length := fun _ _ => by omega
  refine Rn.sqst (d := mvD C m0) (by
    show frz (vwO (cX (aCons (gv 8) (aCons (PD.b2 (PD.b2 (cB (aCons (PD.b2 (gv 1) (kI 9) ixD) aNil) intD) (kI 2) modI) (kI 1) (orD eqD (eqC C [] (runP 2 (gMvEq C))))) aNil)) 2 (runX 8 (gBld C BM)))) _ = _
    have e : cX (aCons (gv 8) (aCons (PD.b2 (PD.b2 (cB (aCons (PD.b2 (gv 1) (kI 9) ixD) aNil) intD) (kI 2) modI) (kI 1) (orD eqD (eqC C [] (runP 2 (gMvEq C))))) aNil)) 2 (runX 8 (gBld C BM)) (List.map O.vw [.dat S, .dat (.lst (rs.map .int)), .dat (.lst (ps.map .str)), .dat (.lst (m0.needs.map ndD)), .dat (.lst (m0.changes.map chD)), .dat (sgD m0.sign), .dat (.lst (ptL m0)), .dat (expD m0), .lst [.dat (.str m0.name), .dat (.str m0.player), .dats (m0.needs.map ndD), .dats (m0.changes.map chD), .dat (sgD m0.sign), .dat (.bl m0.foul)], .unk, .unk, .unk, .unk, .unk, .unk, .unk]) = some (.obj C mvK ((mvV m0).map .dat)) := by
      refine ew_cX (ds := [.lst (ptL m0), .bl (decide (nth rs 9 % 2 = 1))]) ?_ rfl (bld0 _)
      show aCons _ _ [.dat S, .dat (.lst (rs.map .int)), .dat _, .dat _, .dat _, .dat _, .dat _, .dat _, O.vw (.lst _), O.vw .unk, _, _, _, _, _, _] = _
      rw [vo]
      (simp (disch := first | assumption | omega) only [eqb, MV])
    unfold frz vwO
    rw [e, Option.bind_some, if_pos imm, Option.bind_some, td]) ?_
  clear td imm
  show Rn _ [.dat S, .dat (.lst (rs.map .int)), .dat (.lst (ps.map .str)), .dat (.lst (m0.needs.map ndD)), .dat (.lst (m0.changes.map chD)), .dat (sgD m0.sign), .dat (.lst (ptL m0)), .dat (expD m0), .lst [.dat (.str m0.name), .dat (.str m0.player), .dats (m0.needs.map ndD), .dats (m0.changes.map chD), .dat (sgD m0.sign), .dat (.bl m0.foul)], .dat (mvD C m0), .unk, .unk, .unk, .unk, .unk, .unk] _
  refine Rn.chk (by
    show vwT _ _ = _
    rw [ew_vwT]
    show orT _ _ [.dat S, .dat _, .dat _, .dat _, .dat _, .dat _, .dat (.lst (ptL m0)), .dat (expD m0), O.vw (.lst _), .dat (mvD C m0), O.vw .unk, _, _, _, _, _] = _
    rw [vo]
    generalize hM : mvD C m0 = M at *
    generalize expD m0 = X at *
    (simp (disch := first | assumption | omega) only [sm0, sh0, MV])) ?_
  refine Rn.sq (Rn.appP1 (k := 2) (os := (m0.needs.map ndD).map .dat) (y := .dat (.tup [.str (Str.ofString "q"), .int 1, .int 1])) rfl rfl rfl rfl rfl (by have := l0N; rw [List.length_map, List.length_map]; omega) ?_)
  refine Rn.sq (Rn.appP1 (k := 3) (os := (m0.changes.map chD).map .dat) (y := .dat (.tup [.str (Str.ofString "q"), .int 1])) rfl rfl rfl rfl rfl (by have := l0K; rw [List.length_map, List.length_map]; omega) ?_)
  show Rn _ [.dat S, .dat (.lst (rs.map .int)), .dat (.lst (ps.map .str)), .dat (.lst (m0.needs.map ndD)), .dat (.lst (m0.changes.map chD)), .dat (sgD m0.sign), .dat (.lst (ptL m0)), .dat (expD m0), .lst [.dat (.str m0.name), .dat (.str m0.player), .lst _, .lst _, .dat (sgD m0.sign), .dat (.bl m0.foul)], .dat (mvD C m0), .unk, .unk, .unk, .unk, .unk, .unk] _
  generalize O.lst [.dat (.str m0.name), .dat (.str m0.player), .lst _, .lst _, .dat (sgD m0.sign), .dat (.bl m0.foul)] = x8
  obtain ⟨L, eL, _, hL⟩ := near
  refine Rn.sqfor (xs := L) (φ := id) (by
    rw [List.map_id]
    show iOf _ [.dat S, .dat _, .dat _, .dat _, .dat _, .dat _, .dat (.lst (ptL m0)), .dat _, _, .dat _, _, _, _, _, _, _] = _
    (simp (disch := first | assumption | omega) only [eL, MV])) (fun i ρ => ∃ x10 x11, ρ = [.dat S, .dat (.lst (rs.map .int)), .dat (.lst (ps.map .str)), .dat (.lst (m0.needs.map ndD)), .dat (.lst (m0.changes.map chD)), .dat (sgD m0.sign), .dat (.lst (ptL m0)), .dat (expD m0), x8, .dat (mvD C m0), x10, x11, .unk, .unk, .unk, .unk]) ⟨_, _, rfl⟩ (fun i hi ρ hI => ?_) (fun ρ hI => ?_)
  · obtain ⟨x10, x11, rfl⟩ := hI
    obtain ⟨m', PT', G'⟩ := hL _ (List.getElem_mem hi)
    generalize L[i] = d' at PT'
    have ex' := exp_run PT' G'.tx
    have sh' := shn_run C G'.tx
    have bl' := GD.bld PT' G' C BM (decide (nth rs 9 % 2 = 0))
    obtain ⟨b1, q1, h1⟩ := mvEqO C G0.tx G'.tx
    obtain ⟨b2, q2, h2⟩ := expEq (g := eqC C [] (runP 2 (gMvEq C))) G0.tx G'.tx
    have hb : b1 = b2 := by
      cases b1 <;> cases b2 <;> simp_all
    have ss := sameL_bl 4 b2
    rw [hb] at q1
    clear h1 h2 hb
    refine ⟨[.dat S, .dat (.lst (rs.map .int)), .dat (.lst (ps.map .str)), .dat (.lst (m0.needs.map ndD)), .dat (.lst (m0.changes.map chD)), .dat (sgD m0.sign), .dat (.lst (ptL m0)), .dat (expD m0), x8, .dat (mvD C m0), .dat d', x11, .unk, .unk, .unk, .unk], rfl, ?_⟩
    refine Rn.sqst (d := mvD C m') (by
      refine frz_of3 (ew_cX (n := 2) (ds := [d', .bl (decide (nth rs 9 % 2 = 0))]) ?_ rfl bl') (mvD_toD C m')
      (simp (disch := first | assumption | omega) only [eqb, MV])) ?_
    show Rn _ [.dat S, .dat (.lst (rs.map .int)), .dat (.lst (ps.map .str)), .dat (.lst (m0.needs.map ndD)), .dat (.lst (m0.changes.map chD)), .dat (sgD m0.sign), .dat (.lst (ptL m0)), .dat (expD m0), x8, .dat (mvD C m0), .dat d', .dat (mvD C m'), .unk, .unk, .unk, .unk] _
    refine Rn.ite (t := false) ?_ (fun h => nomatch h) fun _ => Rn.skip ⟨_, _, rfl⟩
    generalize mvD C m' = M' at *
    generalize mvD C m0 = M0 at *
    generalize expD m' = X' at *
    generalize expD m0 = X0 at *
    (simp (disch := first | assumption | omega) only [q1, ex', q2, ss, sh', MV])
  obtain ⟨x10, x11, rfl⟩ := hI
  refine Rn.sqfor (xs := [.non, .tup (mvV m0), .lst (mvV m0), .str m0.name, .int 0]) (φ := id) (by rfl) (fun i ρ => ∃ x12, ρ = [.dat S, .dat (.lst (rs.map .int)), .dat (.lst (ps.map .str)), .dat (.lst (m0.needs.map ndD)), .dat (.lst (m0.changes.map chD)), .dat (sgD m0.sign), .dat (.lst (ptL m0)), .dat (expD m0), x8, .dat (mvD C m0), x10, x11, x12, .unk, .unk, .unk]) ⟨_, rfl⟩ (fun i hi ρ hI => ?_) (fun ρ hI => ?_)
  · obtain ⟨x12, rfl⟩ := hI
    have hn : orD eqD (eqC C [] (runP 2 (gMvEq C))) (mvD C m0) ([D.non, .tup (mvV m0), .lst (mvV m0), .str m0.name, .int 0][i]) = some (.bl false) := by
      have := List.getElem_mem hi
      generalize [D.non, .tup (mvV m0), .lst (mvV m0), .str m0.name, .int 0][i] = y at this
      simp only [List.mem_cons, List.not_mem_nil, or_false] at this
      rcases this with rfl | rfl | rfl | rfl | rfl <;> exact mvNeO C m0 ⟨_, rfl⟩ (fun _ _ _ h => nomatch h) rfl
    generalize [D.non, .tup (mvV m0), .lst (mvV m0), .str m0.name, .int 0][i] = y at hn
    have ss := sameL_bl 4 false
    refine ⟨[.dat S, .dat (.lst (rs.map .int)), .dat (.lst (ps.map .str)), .dat (.lst (m0.needs.map ndD)), .dat (.lst (m0.changes.map chD)), .dat (sgD m0.sign), .dat (.lst (ptL m0)), .dat (expD m0), x8, .dat (mvD C m0), x10, x11, .dat y, .unk, .unk, .unk], rfl, ?_⟩
    refine Rn.ite (t := false) ?_ (fun h => nomatch h) fun _ => Rn.skip ⟨_, rfl⟩
    generalize mvD C m0 = M0 at *
    (simp (disch := first | assumption | omega) only [hn, ss, MV])
  obtain ⟨x12, rfl⟩ := hI
  refine Rn.sqfor (xs := [3, 4]) (φ := .int) (by rfl) (fun i ρ => ∃ x13 x14 x15, ρ = [.dat S, .dat (.lst (rs.map .int)), .dat (.lst (ps.map .str)), .dat (.lst (m0.needs.map ndD)), .dat (.lst (m0.changes.map chD)), .dat (sgD m0.sign), .dat (.lst (ptL m0)), .dat (expD m0), x8, .dat (mvD C m0), x10, x11, x12, x13, x14, x15]) ⟨_, _, _, rfl⟩ (fun i hi ρ hI => ?_) (fun ρ hI => ?_)
  · obtain ⟨x13, x14, x15, rfl⟩ := hI
    have hc : ∃ v : Int, runP 2 gCell [S, .int [3, 4][i]] = some (.int v) := by
      have := List.getElem_mem hi
      generalize ([3, 4] : List Int)[i] = k at this
      simp only [List.mem_cons, List.not_mem_nil, or_false] at this
      rcases this with rfl | rfl
      · exact ⟨_, c3⟩
      · exact ⟨_, c4⟩
    generalize ([3, 4] : List Int)[i] = k at hc
    obtain ⟨v, hv⟩ := hc
    obtain ⟨rt, et, lt, hrt⟩ := row_ex v 52 (by decide)
    have et : runP 7 gRow [.int v, .int 52] = some (.lst (rt.map .int)) := et
    obtain ⟨t, ett, ht⟩ := txt03 (rs := cutD rt (some 7) none) (by
      rw [show (7 : Int) = ((7 : Nat) : Int) from rfl, PD.cut_from, List.length_drop]; omega) (cut_rng hrt _ _)
    obtain ⟨m', esp, F'⟩ := spo lt hrt (ht.tx (by decide))
    have tl' := told_run03 C BM (ptL_pt m') F' (decide (nth rs 9 % 2 = 1))
    refine ⟨[.dat S, .dat (.lst (rs.map .int)), .dat (.lst (ps.map .str)), .dat (.lst (m0.needs.map ndD)), .dat (.lst (m0.changes.map chD)), .dat (sgD m0.sign), .dat (.lst (ptL m0)), .dat (expD m0), x8, .dat (mvD C m0), x10, x11, x12, .dat (.int k), x14, x15], rfl, ?_⟩
    generalize mvD C m0 = M0 at *
    generalize expD m0 = X0 at *
    refine Rn.sqst (d := .lst (rt.map .int)) (by (simp (disch := first | assumption | omega) only [hv, et, MV])) ?_
    refine Rn.sqst (d := .lst (ptL m')) (by
      show cB _ _ [.dat _, .dat _, .dat _, .dat _, .dat _, .dat _, .dat (.lst (ptL m0)), .dat _, _, .dat _, _, _, _, .dat _, .dat (.lst (rt.map .int)), _] = _
      (simp (disch := first | assumption | omega) only [cut_map, ett, esp, MV])) ?_
    refine Rn.ite (t := false) ?_ (fun h => nomatch h) fun _ => Rn.skip ⟨_, _, _, rfl⟩
    show notT _ [.dat _, .dat (.lst (rs.map .int)), .dat _, .dat _, .dat _, .dat _, .dat (.lst (ptL m0)), .dat _, _, .dat _, _, _, _, .dat _, .dat (.lst (rt.map .int)), .dat (.lst (ptL m'))] = _
    (simp (disch := first | assumption | omega) only [eqb, tl', MV])
  obtain ⟨x13, x14, x15, rfl⟩ := hI
  refine Rn.ret (d := .bl true) ?_ ⟨_, rfl, rfl⟩
  generalize mvD C m0 = M0 at *
  generalize expD m0 = X0 at *
  (simp (disch := first | assumption | omega) only [sh0, told0, MV])
end GA

/-! k03: the law over its own mirrors -/
namespace K03
open PySem PySem.Spec L2 PD
theorem mlaw_eq (c : Cs) : mlaw c = runP 16 (GA.gLaw03 c.Move c.BadMove) := rfl
theorem law_true (c : Cs) : ∀ ns : List Int, ns.length ≤ 63 → mlaw c [.lst (ns.map .int)] = some (.bl true) := fun ns _ => by
  rw [mlaw_eq]
  exact GA.law03 _ _ ns
end K03

namespace K03
open PySem PySem.Spec L2 PD
theorem all_mk {w : World} {fa : Addr} {K : PySem.W.Frag} {h : Heap} {mg : Str → Option Value} (X : K.In h) (G : h.Ns mainGlobals mg)
    (z0 : PySem.W.nsIn K mainGlobals "ValueError" = some none)
    (z1 : PySem.W.nsIn K mainGlobals "all" = some none)
    (z2 : PySem.W.nsIn K mainGlobals "bool" = some none)
    (z3 : PySem.W.nsIn K mainGlobals "int" = some none)
    (z4 : PySem.W.nsIn K mainGlobals "isinstance" = some none)
    (z5 : PySem.W.nsIn K mainGlobals "len" = some none)
    (z6 : PySem.W.nsIn K mainGlobals "list" = some none)
    (z7 : PySem.W.nsIn K mainGlobals "max" = some none)
    (z8 : PySem.W.nsIn K mainGlobals "min" = some none)
    (z9 : PySem.W.nsIn K mainGlobals "range" = some none)
    (z10 : PySem.W.nsIn K mainGlobals "sorted" = some none)
    (z11 : PySem.W.nsIn K mainGlobals "str" = some none)
    (z12 : PySem.W.nsIn K mainGlobals "sum" = some none)
    (z13 : PySem.W.nsIn K mainGlobals "tuple" = some none)
    {t0 : Tok}
    (y0 : PySem.W.nsIn K mainGlobals "LETTERS" = some (some (.str "abcdefghijklmnopqrstuvwxyz" t0)))
    {t1 : Tok}
    (y1 : PySem.W.nsIn K mainGlobals "LONGEST_NAME" = some (some (.int 12 t1)))
    {C0 : Addr} {cd0d : ClassData}
    (u0_g : PySem.W.nsIn K mainGlobals "Move" = some (some (.ref C0)))
    (u0_a : PySem.W.plainGet K C0 Str.empty = true)
    (u0_b : PySem.W.hasDictIn K C0 = true)
    (u0_c : PySem.W.plainOver K C0 = true)
    (u0_d : PySem.W.findIn K (.ref C0) "__setattr__" = some (some (.builtin "object.__setattr__")))
    (u0_e : PySem.W.findIn K (.ref C0) "__class__" = some (some (.builtin "object.__class__")))
    (u0_f : PySem.W.specialIn K (.builtin "object.__class__") "__get__" = some (some (.builtin "getset_descriptor.__get__")))
    (u0_h : PySem.W.takesIn K (.builtin "object.__class__") = some true)
    (u0_i : PySem.W.mroIn K C0 (.type "object") = some true)
    (u0_j : PySem.W.typeIn K (.ref C0) = some (.type "type"))
    (u0_k : PySem.W.clsIn K C0 = some cd0d)
    (u0_l : PySem.W.keepIn K (.ref C0) = true)
    (v0_0 : PySem.W.findIn K (.ref C0) "foul" = some none)
    (v0_1 : PySem.W.findIn K (.ref C0) "sign" = some none)
    (v0_2 : PySem.W.findIn K (.ref C0) "changes" = some none)
    (v0_3 : PySem.W.findIn K (.ref C0) "needs" = some none)
    (v0_4 : PySem.W.findIn K (.ref C0) "player" = some none)
    (v0_5 : PySem.W.findIn K (.ref C0) "name" = some none)
    (v0_6 : PySem.W.makesIn K C0 = true)
    {f0 : Addr} {oc0 kV0 dc0 pm0 cd0 ct0 : Value} {od0 an0 : Option Addr} {sl0 : Array (Option Value)}
    (a0 : PySem.W.nsIn K mainGlobals "_law_same" = some (some (.ref f0)))
    (l0 : K.lookup f0 = some ⟨oc0, od0, .func (PySem.W.fnOf "_law_same" "_law_same" (defArgs s_law_same) (defBody s_law_same) (defScope s_law_same) .none kV0 dc0 pm0 an0 cd0 ct0), sl0⟩)
    (c0 : PySem.W.codeIn K cd0 "_law_same" = true)
    (k0 : PySem.W.keepIn K (.ref f0) = true)
    {f1 : Addr} {oc1 kV1 dc1 pm1 cd1 ct1 : Value} {od1 an1 : Option Addr} {sl1 : Array (Option Value)}
    (a1 : PySem.W.nsIn K mainGlobals "_law_shown" = some (some (.ref f1)))
    (l1 : K.lookup f1 = some ⟨oc1, od1, .func (PySem.W.fnOf "_law_shown" "_law_shown" (defArgs s_law_shown) (defBody s_law_shown) (defScope s_law_shown) .none kV1 dc1 pm1 an1 cd1 ct1), sl1⟩)
    (c1 : PySem.W.codeIn K cd1 "_law_shown" = true)
    (k1 : PySem.W.keepIn K (.ref f1) = true)
    {f2 : Addr} {oc2 kV2 dc2 pm2 cd2 ct2 : Value} {od2 an2 : Option Addr} {sl2 : Array (Option Value)}
    (a2 : PySem.W.nsIn K mainGlobals "_law_summed" = some (some (.ref f2)))
    (l2 : K.lookup f2 = some ⟨oc2, od2, .func (PySem.W.fnOf "_law_summed" "_law_summed" (defArgs s_law_summed) (defBody s_law_summed) (defScope s_law_summed) .none kV2 dc2 pm2 an2 cd2 ct2), sl2⟩)
    (c2 : PySem.W.codeIn K cd2 "_law_summed" = true)
    (k2 : PySem.W.keepIn K (.ref f2) = true)
    {f3 : Addr} {oc3 kV3 dc3 pm3 cd3 ct3 : Value} {od3 an3 : Option Addr} {sl3 : Array (Option Value)}
    (a3 : PySem.W.nsIn K mainGlobals "_law_merged" = some (some (.ref f3)))
    (l3 : K.lookup f3 = some ⟨oc3, od3, .func (PySem.W.fnOf "_law_merged" "_law_merged" (defArgs s_law_merged) (defBody s_law_merged) (defScope s_law_merged) .none kV3 dc3 pm3 an3 cd3 ct3), sl3⟩)
    (c3 : PySem.W.codeIn K cd3 "_law_merged" = true)
    (k3 : PySem.W.keepIn K (.ref f3) = true)
    {f4 : Addr} {oc4 kV4 dc4 pm4 cd4 ct4 : Value} {od4 an4 : Option Addr} {sl4 : Array (Option Value)}
    (a4 : PySem.W.nsIn K mainGlobals "_law_expected" = some (some (.ref f4)))
    (l4 : K.lookup f4 = some ⟨oc4, od4, .func (PySem.W.fnOf "_law_expected" "_law_expected" (defArgs s_law_expected) (defBody s_law_expected) (defScope s_law_expected) .none kV4 dc4 pm4 an4 cd4 ct4), sl4⟩)
    (c4 : PySem.W.codeIn K cd4 "_law_expected" = true)
    (k4 : PySem.W.keepIn K (.ref f4) = true)
    {f5 : Addr} {oc5 kV5 dc5 pm5 cd5 ct5 : Value} {od5 an5 : Option Addr} {sl5 : Array (Option Value)}
    (a5 : PySem.W.nsIn K mainGlobals "merged_changes" = some (some (.ref f5)))
    (l5 : K.lookup f5 = some ⟨oc5, od5, .func (PySem.W.fnOf "merged_changes" "merged_changes" (defArgs smerged_changes) (defBody smerged_changes) (defScope smerged_changes) .none kV5 dc5 pm5 an5 cd5 ct5), sl5⟩)
    (c5 : PySem.W.codeIn K cd5 "merged_changes" = true)
    (k5 : PySem.W.keepIn K (.ref f5) = true)
    {f6 : Addr} {oc6 kV6 dc6 pm6 cd6 ct6 : Value} {od6 an6 : Option Addr} {sl6 : Array (Option Value)}
    (a6 : PySem.W.nsIn K mainGlobals "lesser_high" = some (some (.ref f6)))
    (l6 : K.lookup f6 = some ⟨oc6, od6, .func (PySem.W.fnOf "lesser_high" "lesser_high" (defArgs slesser_high) (defBody slesser_high) (defScope slesser_high) .none kV6 dc6 pm6 an6 cd6 ct6), sl6⟩)
    (c6 : PySem.W.codeIn K cd6 "lesser_high" = true)
    (k6 : PySem.W.keepIn K (.ref f6) = true)
    {f7 : Addr} {oc7 kV7 dc7 pm7 cd7 ct7 : Value} {od7 an7 : Option Addr} {sl7 : Array (Option Value)}
    (a7 : PySem.W.nsIn K mainGlobals "greater_low" = some (some (.ref f7)))
    (l7 : K.lookup f7 = some ⟨oc7, od7, .func (PySem.W.fnOf "greater_low" "greater_low" (defArgs sgreater_low) (defBody sgreater_low) (defScope sgreater_low) .none kV7 dc7 pm7 an7 cd7 ct7), sl7⟩)
    (c7 : PySem.W.codeIn K cd7 "greater_low" = true)
    (k7 : PySem.W.keepIn K (.ref f7) = true)
    {f8 : Addr} {oc8 kV8 dc8 pm8 cd8 ct8 : Value} {od8 an8 : Option Addr} {sl8 : Array (Option Value)}
    (a8 : PySem.W.nsIn K mainGlobals "merged_needs" = some (some (.ref f8)))
    (l8 : K.lookup f8 = some ⟨oc8, od8, .func (PySem.W.fnOf "merged_needs" "merged_needs" (defArgs smerged_needs) (defBody smerged_needs) (defScope smerged_needs) .none kV8 dc8 pm8 an8 cd8 ct8), sl8⟩)
    (c8 : PySem.W.codeIn K cd8 "merged_needs" = true)
    (k8 : PySem.W.keepIn K (.ref f8) = true)
    {f9 : Addr} {oc9 kV9 dc9 pm9 cd9 ct9 : Value} {od9 an9 : Option Addr} {sl9 : Array (Option Value)}
    (a9 : PySem.W.nsIn K mainGlobals "is_name" = some (some (.ref f9)))
    (l9 : K.lookup f9 = some ⟨oc9, od9, .func (PySem.W.fnOf "is_name" "is_name" (defArgs sis_name) (defBody sis_name) (defScope sis_name) .none kV9 dc9 pm9 an9 cd9 ct9), sl9⟩)
    (c9 : PySem.W.codeIn K cd9 "is_name" = true)
    (k9 : PySem.W.keepIn K (.ref f9) = true)
    {f10 : Addr} {oc10 kV10 dc10 pm10 cd10 ct10 : Value} {od10 an10 : Option Addr} {sl10 : Array (Option Value)}
    (a10 : PySem.W.nsIn K mainGlobals "is_label" = some (some (.ref f10)))
    (l10 : K.lookup f10 = some ⟨oc10, od10, .func (PySem.W.fnOf "is_label" "is_label" (defArgs sis_label) (defBody sis_label) (defScope sis_label) .none kV10 dc10 pm10 an10 cd10 ct10), sl10⟩)
    (c10 : PySem.W.codeIn K cd10 "is_label" = true)
    (k10 : PySem.W.keepIn K (.ref f10) = true)
    {f11 : Addr} {oc11 kV11 dc11 pm11 cd11 ct11 : Value} {od11 an11 : Option Addr} {sl11 : Array (Option Value)}
    (a11 : PySem.W.nsIn K mainGlobals "is_need" = some (some (.ref f11)))
    (l11 : K.lookup f11 = some ⟨oc11, od11, .func (PySem.W.fnOf "is_need" "is_need" (defArgs sis_need) (defBody sis_need) (defScope sis_need) .none kV11 dc11 pm11 an11 cd11 ct11), sl11⟩)
    (c11 : PySem.W.codeIn K cd11 "is_need" = true)
    (k11 : PySem.W.keepIn K (.ref f11) = true)
    {f12 : Addr} {oc12 dc12 pm12 cd12 ct12 : Value} {od12 an12 : Option Addr} {sl12 : Array (Option Value)}
    (a12 : PySem.W.findIn K (.ref C0) "__init__" = some (some (.ref f12)))
    (a12_1 : PySem.W.isFn K (.ref f12) = true)
    {kT12 : Addr}
    (l12 : K.lookup f12 = some ⟨oc12, od12, .func (PySem.W.fnOf "__init__" "Move.__init__" (defArgs sMove_init) (defBody sMove_init) (defScope sMove_init) .none (.ref kT12) dc12 pm12 an12 cd12 ct12), sl12⟩)
    (kd12_0 : PySem.W.nsIn K kT12 "sign" = some (some .none))
    (kd12_1 : PySem.W.nsIn K kT12 "foul" = some (some (.bool false)))
    (c12 : PySem.W.codeIn K cd12 "Move.__init__" = true)
    (k12 : PySem.W.keepIn K (.ref f12) = true)
    {f13 : Addr} {oc13 kV13 dc13 pm13 cd13 ct13 : Value} {od13 an13 : Option Addr} {sl13 : Array (Option Value)}
    (a13 : PySem.W.nsIn K mainGlobals "_law_build" = some (some (.ref f13)))
    (l13 : K.lookup f13 = some ⟨oc13, od13, .func (PySem.W.fnOf "_law_build" "_law_build" (defArgs s_law_build) (defBody s_law_build) (defScope s_law_build) .none kV13 dc13 pm13 an13 cd13 ct13), sl13⟩)
    (c13 : PySem.W.codeIn K cd13 "_law_build" = true)
    (k13 : PySem.W.keepIn K (.ref f13) = true)
    {f14 : Addr} {oc14 kV14 dc14 pm14 cd14 ct14 : Value} {od14 an14 : Option Addr} {sl14 : Array (Option Value)}
    (a14 : PySem.W.nsIn K mainGlobals "_law_base" = some (some (.ref f14)))
    (l14 : K.lookup f14 = some ⟨oc14, od14, .func (PySem.W.fnOf "_law_base" "_law_base" (defArgs s_law_base) (defBody s_law_base) (defScope s_law_base) .none kV14 dc14 pm14 an14 cd14 ct14), sl14⟩)
    (c14 : PySem.W.codeIn K cd14 "_law_base" = true)
    (k14 : PySem.W.keepIn K (.ref f14) = true)
    {f15 : Addr} {oc15 kV15 dc15 pm15 cd15 ct15 : Value} {od15 an15 : Option Addr} {sl15 : Array (Option Value)}
    (a15 : PySem.W.nsIn K mainGlobals "_law_is_name" = some (some (.ref f15)))
    (l15 : K.lookup f15 = some ⟨oc15, od15, .func (PySem.W.fnOf "_law_is_name" "_law_is_name" (defArgs s_law_is_name) (defBody s_law_is_name) (defScope s_law_is_name) .none kV15 dc15 pm15 an15 cd15 ct15), sl15⟩)
    (c15 : PySem.W.codeIn K cd15 "_law_is_name" = true)
    (k15 : PySem.W.keepIn K (.ref f15) = true)
    {f16 : Addr} {oc16 kV16 dc16 pm16 cd16 ct16 : Value} {od16 an16 : Option Addr} {sl16 : Array (Option Value)}
    (a16 : PySem.W.nsIn K mainGlobals "_law_is_label" = some (some (.ref f16)))
    (l16 : K.lookup f16 = some ⟨oc16, od16, .func (PySem.W.fnOf "_law_is_label" "_law_is_label" (defArgs s_law_is_label) (defBody s_law_is_label) (defScope s_law_is_label) .none kV16 dc16 pm16 an16 cd16 ct16), sl16⟩)
    (c16 : PySem.W.codeIn K cd16 "_law_is_label" = true)
    (k16 : PySem.W.keepIn K (.ref f16) = true)
    {f17 : Addr} {oc17 kV17 dc17 pm17 cd17 ct17 : Value} {od17 an17 : Option Addr} {sl17 : Array (Option Value)}
    (a17 : PySem.W.nsIn K mainGlobals "_law_refused" = some (some (.ref f17)))
    (l17 : K.lookup f17 = some ⟨oc17, od17, .func (PySem.W.fnOf "_law_refused" "_law_refused" (defArgs s_law_refused) (defBody s_law_refused) (defScope s_law_refused) .none kV17 dc17 pm17 an17 cd17 ct17), sl17⟩)
    (c17 : PySem.W.codeIn K cd17 "_law_refused" = true)
    (k17 : PySem.W.keepIn K (.ref f17) = true)
    {f18 : Addr} {oc18 kV18 dc18 pm18 cd18 ct18 : Value} {od18 an18 : Option Addr} {sl18 : Array (Option Value)}
    (a18 : PySem.W.nsIn K mainGlobals "_law_told" = some (some (.ref f18)))
    (l18 : K.lookup f18 = some ⟨oc18, od18, .func (PySem.W.fnOf "_law_told" "_law_told" (defArgs s_law_told) (defBody s_law_told) (defScope s_law_told) .none kV18 dc18 pm18 an18 cd18 ct18), sl18⟩)
    (c18 : PySem.W.codeIn K cd18 "_law_told" = true)
    (k18 : PySem.W.keepIn K (.ref f18) = true)
    {f19 : Addr} {oc19 kV19 dc19 pm19 cd19 ct19 : Value} {od19 an19 : Option Addr} {sl19 : Array (Option Value)}
    (a19 : PySem.W.findIn K (.ref C0) "__eq__" = some (some (.ref f19)))
    (a19_1 : PySem.W.isFn K (.ref f19) = true)
    (l19 : K.lookup f19 = some ⟨oc19, od19, .func (PySem.W.fnOf "__eq__" "Move.__eq__" (defArgs sMove_eq) (defBody sMove_eq) (defScope sMove_eq) .none kV19 dc19 pm19 an19 cd19 ct19), sl19⟩)
    (c19 : PySem.W.codeIn K cd19 "Move.__eq__" = true)
    (k19 : PySem.W.keepIn K (.ref f19) = true)
    {f20 : Addr} {oc20 kV20 dc20 pm20 cd20 ct20 : Value} {od20 an20 : Option Addr} {sl20 : Array (Option Value)}
    (a20 : PySem.W.nsIn K mainGlobals "_law_wrong_changes" = some (some (.ref f20)))
    (l20 : K.lookup f20 = some ⟨oc20, od20, .func (PySem.W.fnOf "_law_wrong_changes" "_law_wrong_changes" (defArgs s_law_wrong_changes) (defBody s_law_wrong_changes) (defScope s_law_wrong_changes) .none kV20 dc20 pm20 an20 cd20 ct20), sl20⟩)
    (c20 : PySem.W.codeIn K cd20 "_law_wrong_changes" = true)
    (k20 : PySem.W.keepIn K (.ref f20) = true)
    {f21 : Addr} {oc21 kV21 dc21 pm21 cd21 ct21 : Value} {od21 an21 : Option Addr} {sl21 : Array (Option Value)}
    (a21 : PySem.W.nsIn K mainGlobals "_law_spoilt" = some (some (.ref f21)))
    (l21 : K.lookup f21 = some ⟨oc21, od21, .func (PySem.W.fnOf "_law_spoilt" "_law_spoilt" (defArgs s_law_spoilt) (defBody s_law_spoilt) (defScope s_law_spoilt) .none kV21 dc21 pm21 an21 cd21 ct21), sl21⟩)
    (c21 : PySem.W.codeIn K cd21 "_law_spoilt" = true)
    (k21 : PySem.W.keepIn K (.ref f21) = true)
    {f22 : Addr} {oc22 kV22 dc22 pm22 cd22 ct22 : Value} {od22 an22 : Option Addr} {sl22 : Array (Option Value)}
    (a22 : PySem.W.nsIn K mainGlobals "_law_chars" = some (some (.ref f22)))
    (l22 : K.lookup f22 = some ⟨oc22, od22, .func (PySem.W.fnOf "_law_chars" "_law_chars" (defArgs s_law_chars) (defBody s_law_chars) (defScope s_law_chars) .none kV22 dc22 pm22 an22 cd22 ct22), sl22⟩)
    (c22 : PySem.W.codeIn K cd22 "_law_chars" = true)
    (k22 : PySem.W.keepIn K (.ref f22) = true)
    {f23 : Addr} {oc23 kV23 dc23 pm23 cd23 ct23 : Value} {od23 an23 : Option Addr} {sl23 : Array (Option Value)}
    (a23 : PySem.W.nsIn K mainGlobals "_law_text" = some (some (.ref f23)))
    (l23 : K.lookup f23 = some ⟨oc23, od23, .func (PySem.W.fnOf "_law_text" "_law_text" (defArgs s_law_text) (defBody s_law_text) (defScope s_law_text) .none kV23 dc23 pm23 an23 cd23 ct23), sl23⟩)
    (c23 : PySem.W.codeIn K cd23 "_law_text" = true)
    (k23 : PySem.W.keepIn K (.ref f23) = true)
    {f24 : Addr} {oc24 kV24 dc24 pm24 cd24 ct24 : Value} {od24 an24 : Option Addr} {sl24 : Array (Option Value)}
    (a24 : PySem.W.nsIn K mainGlobals "_law_row" = some (some (.ref f24)))
    (l24 : K.lookup f24 = some ⟨oc24, od24, .func (PySem.W.fnOf "_law_row" "_law_row" (defArgs s_law_row) (defBody s_law_row) (defScope s_law_row) .none kV24 dc24 pm24 an24 cd24 ct24), sl24⟩)
    (c24 : PySem.W.codeIn K cd24 "_law_row" = true)
    (k24 : PySem.W.keepIn K (.ref f24) = true)
    {f25 : Addr} {oc25 kV25 dc25 pm25 cd25 ct25 : Value} {od25 an25 : Option Addr} {sl25 : Array (Option Value)}
    (a25 : PySem.W.nsIn K mainGlobals "_law_cell" = some (some (.ref f25)))
    (l25 : K.lookup f25 = some ⟨oc25, od25, .func (PySem.W.fnOf "_law_cell" "_law_cell" (defArgs s_law_cell) (defBody s_law_cell) (defScope s_law_cell) .none kV25 dc25 pm25 an25 cd25 ct25), sl25⟩)
    (c25 : PySem.W.codeIn K cd25 "_law_cell" = true)
    (k25 : PySem.W.keepIn K (.ref f25) = true)
    {f26 : Addr} {oc26 kV26 dc26 pm26 cd26 ct26 : Value} {od26 an26 : Option Addr} {sl26 : Array (Option Value)}
    (a26 : PySem.W.nsIn K mainGlobals "_law_near" = some (some (.ref f26)))
    (l26 : K.lookup f26 = some ⟨oc26, od26, .func (PySem.W.fnOf "_law_near" "_law_near" (defArgs s_law_near) (defBody s_law_near) (defScope s_law_near) .none kV26 dc26 pm26 an26 cd26 ct26), sl26⟩)
    (c26 : PySem.W.codeIn K cd26 "_law_near" = true)
    (k26 : PySem.W.keepIn K (.ref f26) = true)
    {f27 : Addr} {oc27 kV27 dc27 pm27 cd27 ct27 : Value} {od27 an27 : Option Addr} {sl27 : Array (Option Value)}
    (a27 : PySem.W.nsIn K mainGlobals "_law_number" = some (some (.ref f27)))
    (l27 : K.lookup f27 = some ⟨oc27, od27, .func (PySem.W.fnOf "_law_number" "_law_number" (defArgs s_law_number) (defBody s_law_number) (defScope s_law_number) .none kV27 dc27 pm27 an27 cd27 ct27), sl27⟩)
    (c27 : PySem.W.codeIn K cd27 "_law_number" = true)
    (k27 : PySem.W.keepIn K (.ref f27) = true)
    {f28 : Addr} {oc28 kV28 dc28 pm28 cd28 ct28 : Value} {od28 an28 : Option Addr} {sl28 : Array (Option Value)}
    (a28 : PySem.W.nsIn K mainGlobals "_law_changes" = some (some (.ref f28)))
    (l28 : K.lookup f28 = some ⟨oc28, od28, .func (PySem.W.fnOf "_law_changes" "_law_changes" (defArgs s_law_changes) (defBody s_law_changes) (defScope s_law_changes) .none kV28 dc28 pm28 an28 cd28 ct28), sl28⟩)
    (c28 : PySem.W.codeIn K cd28 "_law_changes" = true)
    (k28 : PySem.W.keepIn K (.ref f28) = true)
    {f29 : Addr} {oc29 kV29 dc29 pm29 cd29 ct29 : Value} {od29 an29 : Option Addr} {sl29 : Array (Option Value)}
    (a29 : PySem.W.nsIn K mainGlobals "_law_limit" = some (some (.ref f29)))
    (l29 : K.lookup f29 = some ⟨oc29, od29, .func (PySem.W.fnOf "_law_limit" "_law_limit" (defArgs s_law_limit) (defBody s_law_limit) (defScope s_law_limit) .none kV29 dc29 pm29 an29 cd29 ct29), sl29⟩)
    (c29 : PySem.W.codeIn K cd29 "_law_limit" = true)
    (k29 : PySem.W.keepIn K (.ref f29) = true)
    {f30 : Addr} {oc30 kV30 dc30 pm30 cd30 ct30 : Value} {od30 an30 : Option Addr} {sl30 : Array (Option Value)}
    (a30 : PySem.W.nsIn K mainGlobals "_law_needs" = some (some (.ref f30)))
    (l30 : K.lookup f30 = some ⟨oc30, od30, .func (PySem.W.fnOf "_law_needs" "_law_needs" (defArgs s_law_needs) (defBody s_law_needs) (defScope s_law_needs) .none kV30 dc30 pm30 an30 cd30 ct30), sl30⟩)
    (c30 : PySem.W.codeIn K cd30 "_law_needs" = true)
    (k30 : PySem.W.keepIn K (.ref f30) = true)
    {f31 : Addr} {oc31 kV31 dc31 pm31 cd31 ct31 : Value} {od31 an31 : Option Addr} {sl31 : Array (Option Value)}
    (a31 : PySem.W.nsIn K mainGlobals "_law_word" = some (some (.ref f31)))
    (l31 : K.lookup f31 = some ⟨oc31, od31, .func (PySem.W.fnOf "_law_word" "_law_word" (defArgs s_law_word) (defBody s_law_word) (defScope s_law_word) .none kV31 dc31 pm31 an31 cd31 ct31), sl31⟩)
    (c31 : PySem.W.codeIn K cd31 "_law_word" = true)
    (k31 : PySem.W.keepIn K (.ref f31) = true)
    {f32 : Addr} {oc32 kV32 dc32 pm32 cd32 ct32 : Value} {od32 an32 : Option Addr} {sl32 : Array (Option Value)}
    (a32 : PySem.W.nsIn K mainGlobals "_law_pool" = some (some (.ref f32)))
    (l32 : K.lookup f32 = some ⟨oc32, od32, .func (PySem.W.fnOf "_law_pool" "_law_pool" (defArgs s_law_pool) (defBody s_law_pool) (defScope s_law_pool) .none kV32 dc32 pm32 an32 cd32 ct32), sl32⟩)
    (c32 : PySem.W.codeIn K cd32 "_law_pool" = true)
    (k32 : PySem.W.keepIn K (.ref f32) = true)
    {f33 : Addr} {oc33 kV33 dc33 pm33 cd33 ct33 : Value} {od33 an33 : Option Addr} {sl33 : Array (Option Value)}
    (a33 : PySem.W.nsIn K mainGlobals "law" = some (some (.ref f33)))
    (l33 : K.lookup f33 = some ⟨oc33, od33, .func (PySem.W.fnOf "law" "law" (defArgs slaw) (defBody slaw) (defScope slaw) .none kV33 dc33 pm33 an33 cd33 ct33), sl33⟩)
    (c33 : PySem.W.codeIn K cd33 "law" = true)
    (k33 : PySem.W.keepIn K (.ref f33) = true)
    {X0 : Addr}
    (e0_g : PySem.W.nsIn K mainGlobals "HallError" = some (some (.ref X0)))
    {X1 : Addr}
    (e1_g : PySem.W.nsIn K mainGlobals "BadMove" = some (some (.ref X1)))
    {X2 : Addr}
    (e2_g : PySem.W.nsIn K mainGlobals "BadSeason" = some (some (.ref X2)))
    {X3 : Addr}
    (e3_g : PySem.W.nsIn K mainGlobals "BadScoring" = some (some (.ref X3)))
    {X4 : Addr}
    (e4_g : PySem.W.nsIn K mainGlobals "BadHall" = some (some (.ref X4)))
    {X5 : Addr}
    (e5_g : PySem.W.nsIn K mainGlobals "BadGame" = some (some (.ref X5)))
    {xN1 xf1 xcc1 xcda1 xD1 : Addr} {xcn1 xcq1 xnm1 : Str} {xbs1 xbm1 xsub1 : List Value} {xsn1 : List Str} {xab1 : Bool} {xcol1 : Option Bool} {xdd1 xan1 xod1 xcdd1 xcld1 : Option Addr} {xk0_1 xk1_1 xk2_1 xk3_1 xk5_1 : Option Value} {xkV1 xdoc1 xpm1 xct1 xoc1 xccl1 xcl1 : Value} {xosl1 xccs1 xcsl1 : Array (Option Value)} {xvs1 : Array Value} {xfile1 : Str} {xtf1 : Tok} {xcdD1 : ClassData}
    (e1_a : K.lookup X1 = some (excClassObj xcn1 xcq1 X1 xN1 xbs1 xbm1 true xsn1 xsub1 xab1 xcol1 xdd1 xk0_1 xk1_1 xk2_1 xk3_1 xk5_1 "ValueError.__new__"))
    (e1_b : PySem.HandSPX.refsVE xbm1 = true)
    (e1_c : PySem.W.findIn K (.ref X1) "__setattr__" = some (some (.builtin "object.__setattr__")))
    (e1_d : PySem.W.subIn K (.ref X1) (.type "BaseException") = some true)
    (e1_e : PySem.W.typeIn K (.ref X1) = some (.type "type"))
    (e1_f : PySem.W.keepIn K (.ref X1) = true)
    (e1_h : PySem.W.subIn K (.ref X1) (.type "ValueError") = some true)
    (e1_i : PySem.W.findIn K (.ref X1) "__init__" = some (some (.ref xf1)))
    (e1_j : PySem.W.typeIn K (.ref xf1) = some (.type "function"))
    (e1_k : K.lookup xf1 = some ⟨xoc1, xod1, .func (PySem.W.fnX xnm1 "BadMove.__init__" (defArgs sBadMove_init) (defBody sBadMove_init) (defScope sBadMove_init) [("__class__", xcc1)] .none xkV1 xdoc1 xpm1 xan1 (.ref xcda1) xct1), xosl1⟩)
    (e1_l : PySem.W.codeIn K (.ref xcda1) "BadMove.__init__" = true)
    (e1_m : K.lookup xcda1 = some ⟨xccl1, xcdd1, .fields xvs1, xccs1⟩)
    (e1_n : xvs1[2]? = some (.str xfile1 xtf1))
    (e1_o : ((PySem.Challenge.pw_playhall_k03_moves_merge.main.file : Str) == xfile1) = true)
    (e1_p : K.lookup xcc1 = some ⟨xcl1, xcld1, .cell (some (.ref xD1)), xcsl1⟩)
    (e1_q : PySem.W.clsIn K xD1 = some xcdD1)
    (e1_r : PySem.W.mroIn K X1 (.ref xD1) = some true)
    (e1_s : PySem.W.nsIn K cStatics "thirdparty.any" = some none)
    (e1_t : PySem.W.ks_superIn K X1 xD1 "__init__" = some (some (.builtin "ValueError.__init__")))
    (e1_u0 : PySem.W.findIn K (.ref X1) "part" = some none)
    (e1_v : PySem.W.nsIn K mainGlobals "super" = some none)
    (e1_w : (PySem.Challenge.pw_playhall_k03_moves_merge.main.scope.names.lookup ("super" : Str)).isSome = false)
    (e1_ga : PySem.W.findIn K (.ref X1) "__getattribute__" = some (some (.builtin "BaseException.__getattribute__")))
    (e1_gg : PySem.W.findIn K (.ref X1) "__getattr__" = some none)
    (e1_hd : PySem.W.hasDictIn K X1 = true)
    (e1_xa : PySem.W.findIn K (.ref X1) "__class__" = some (some (.builtin "object.__class__")))
    (e1_xn : PySem.W.specialIn K (.builtin "object.__class__") "__get__" = some (some (.builtin "getset_descriptor.__get__")))
    (e1_xt : PySem.W.takesIn K (.builtin "object.__class__") = some true)
    (e1_xm : PySem.W.mroIn K X1 (.type "object") = some true)
    (ki1_BadMove : PySem.W.kitOne K (.ref X1) (.ref X1) = some true)
    (ki1_ValueError : PySem.W.kitOne K (.ref X1) (.type "ValueError") = some true)
    (ki1_BadGame : PySem.W.kitOne K (.ref X1) (.ref X5) = some false)
    (ki1_BadHall : PySem.W.kitOne K (.ref X1) (.ref X4) = some false)
    (ki1_BadScoring : PySem.W.kitOne K (.ref X1) (.ref X3) = some false)
    (ki1_BadSeason : PySem.W.kitOne K (.ref X1) (.ref X2) = some false)
    (em1_0 : PySem.W.exmOne K (.ref X1) (.ref X0) = some true)
    (em1_1 : PySem.W.exmOne K (.ref X1) (.ref X1) = some true)
    (hfa : mg "law" = some (.ref fa)) :
    ∃ fd : FuncData, (∀ (s : Shared) (v : Value), BindsTo s fd ⟨[v], []⟩ [("_law_script", v)]) ∧ ∀ base : Heap, K.In base → base.Ns mainGlobals mg → FnOk PySem.Challenge.pw_playhall_k03_moves_merge w K mg base CX0 9 fa fd ["_law_script"] (spT K) := by
  obtain ⟨c, T, hb⟩ := tx_mk X G z0 z1 z2 z3 z4 z5 z6 z7 z8 z9 z10 z11 z12 z13 y0 y1 u0_g u0_a u0_b u0_c u0_d u0_e u0_f u0_h u0_i u0_j u0_k u0_l v0_0 v0_1 v0_2 v0_3 v0_4 v0_5 v0_6 a0 l0 c0 k0 a1 l1 c1 k1 a2 l2 c2 k2 a3 l3 c3 k3 a4 l4 c4 k4 a5 l5 c5 k5 a6 l6 c6 k6 a7 l7 c7 k7 a8 l8 c8 k8 a9 l9 c9 k9 a10 l10 c10 k10 a11 l11 c11 k11 a12 a12_1 l12 kd12_0 kd12_1 c12 k12 a13 l13 c13 k13 a14 l14 c14 k14 a15 l15 c15 k15 a16 l16 c16 k16 a17 l17 c17 k17 a18 l18 c18 k18 a19 a19_1 l19 c19 k19 a20 l20 c20 k20 a21 l21 c21 k21 a22 l22 c22 k22 a23 l23 c23 k23 a24 l24 c24 k24 a25 l25 c25 k25 a26 l26 c26 k26 a27 l27 c27 k27 a28 l28 c28 k28 a29 l29 c29 k29 a30 l30 c30 k30 a31 l31 c31 k31 a32 l32 c32 k32 a33 l33 c33 k33 e0_g e1_g e2_g e3_g e4_g e5_g e1_a e1_b e1_c e1_d e1_e e1_f e1_h e1_i e1_j e1_k e1_l e1_m e1_n e1_o e1_p e1_q e1_r e1_s e1_t e1_u0 e1_v e1_w e1_ga e1_gg e1_hd e1_xa e1_xn e1_xt e1_xm ki1_BadMove ki1_ValueError ki1_BadGame ki1_BadHall ki1_BadScoring ki1_BadSeason em1_0 em1_1
  have e : fa = T.flaw := by
    have := hfa.symm.trans T.glaw
    cases this
    rfl
  subst e
  exact ⟨T.fdlaw, hb, fun base _ _ => T.oklaw.imp fun vs H Q E h => spT_of (law_true c) h⟩
end K03
open PySem PySem.W PyProof.Rows
set_option maxHeartbeats 0 in
theorem PySem.Challenge.cw_playhall_k03_moves_merge_holds : PySem.Challenge.rw_playhall_k03_moves_merge.Holds := by
  refine HD.top ?_
  k_fill
  refine PD.walk_ofD (l := PySem.Challenge.rw_playhall_k03_moves_merge) (n := 63) (k := 9) (x := "_law_script") (CX := fun _ => L2.CX0) rfl (by decide) rfl ⟨rfl, by decide, by decide⟩ (fun w h Y => PySem.W.kIn_of Y) ?F (fun _ _ _ _ _ h => h)
  case F =>
    intro w mg fa h KX G hmg
    refine' K03.all_mk KX G ?z0 ?z1 ?z2 ?z3 ?z4 ?z5 ?z6 ?z7 ?z8 ?z9 ?z10 ?z11 ?z12 ?z13 ?y0 ?y1 ?u0_g ?u0_a ?u0_b ?u0_c ?u0_d ?u0_e ?u0_f ?u0_h ?u0_i ?u0_j ?u0_k ?u0_l ?v0_0 ?v0_1 ?v0_2 ?v0_3 ?v0_4 ?v0_5 ?v0_6 ?a0 ?l0 ?c0 ?k0 ?a1 ?l1 ?c1 ?k1 ?a2 ?l2 ?c2 ?k2 ?a3 ?l3 ?c3 ?k3 ?a4 ?l4 ?c4 ?k4 ?a5 ?l5 ?c5 ?k5 ?a6 ?l6 ?c6 ?k6 ?a7 ?l7 ?c7 ?k7 ?a8 ?l8 ?c8 ?k8 ?a9 ?l9 ?c9 ?k9 ?a10 ?l10 ?c10 ?k10 ?a11 ?l11 ?c11 ?k11 ?a12 ?a12_1 ?l12 ?kd12_0 ?kd12_1 ?c12 ?k12 ?a13 ?l13 ?c13 ?k13 ?a14 ?l14 ?c14 ?k14 ?a15 ?l15 ?c15 ?k15 ?a16 ?l16 ?c16 ?k16 ?a17 ?l17 ?c17 ?k17 ?a18 ?l18 ?c18 ?k18 ?a19 ?a19_1 ?l19 ?c19 ?k19 ?a20 ?l20 ?c20 ?k20 ?a21 ?l21 ?c21 ?k21 ?a22 ?l22 ?c22 ?k22 ?a23 ?l23 ?c23 ?k23 ?a24 ?l24 ?c24 ?k24 ?a25 ?l25 ?c25 ?k25 ?a26 ?l26 ?c26 ?k26 ?a27 ?l27 ?c27 ?k27 ?a28 ?l28 ?c28 ?k28 ?a29 ?l29 ?c29 ?k29 ?a30 ?l30 ?c30 ?k30 ?a31 ?l31 ?c31 ?k31 ?a32 ?l32 ?c32 ?k32 ?a33 ?l33 ?c33 ?k33 ?e0_g ?e1_g ?e2_g ?e3_g ?e4_g ?e5_g ?e1_a ?e1_b ?e1_c ?e1_d ?e1_e ?e1_f ?e1_h ?e1_i ?e1_j ?e1_k ?e1_l ?e1_m ?e1_n ?e1_o ?e1_p ?e1_q ?e1_r ?e1_s ?e1_t ?e1_u0 ?e1_v ?e1_w ?e1_ga ?e1_gg ?e1_hd ?e1_xa ?e1_xn ?e1_xt ?e1_xm ?ki1_BadMove ?ki1_ValueError ?ki1_BadGame ?ki1_BadHall ?ki1_BadScoring ?ki1_BadSeason ?em1_0 ?em1_1 hmg
    (case z0 => first | k_is | rfl); (case z1 => first | k_is | rfl); (case z2 => first | k_is | rfl); (case z3 => first | k_is | rfl); (case z4 => first | k_is | rfl); (case z5 => first | k_is | rfl); (case z6 => first | k_is | rfl); (case z7 => first | k_is | rfl); (case z8 => first | k_is | rfl); (case z9 => first | k_is | rfl); (case z10 => first | k_is | rfl); (case z11 => first | k_is | rfl); (case z12 => first | k_is | rfl); (case z13 => first | k_is | rfl); (case y0 => first | k_is | rfl); (case y1 => first | k_is | rfl); (case u0_g => first | k_is | rfl); (case u0_a => first | k_is | rfl); (case u0_b => first | k_is | rfl); (case u0_c => first | k_is | rfl); (case u0_d => first | k_is | rfl); (case u0_e => first | k_is | rfl); (case u0_f => first | k_is | rfl); (case u0_h => first | k_is | rfl); (case u0_i => first | k_is | rfl); (case u0_j => first | k_is | rfl); (case u0_k => first | k_is | rfl); (case u0_l => first | k_is | rfl); (case v0_0 => first | k_is | rfl); (case v0_1 => first | k_is | rfl); (case v0_2 => first | k_is | rfl); (case v0_3 => first | k_is | rfl); (case v0_4 => first | k_is | rfl); (case v0_5 => first | k_is | rfl); (case v0_6 => first | k_is | rfl); (case a0 => first | k_is | rfl); (case l0 => first | k_is | rfl); (case c0 => first | k_is | rfl); (case k0 => first | k_is | rfl); (case a1 => first | k_is | rfl); (case l1 => first | k_is | rfl); (case c1 => first | k_is | rfl); (case k1 => first | k_is | rfl); (case a2 => first | k_is | rfl); (case l2 => first | k_is | rfl); (case c2 => first | k_is | rfl); (case k2 => first | k_is | rfl); (case a3 => first | k_is | rfl); (case l3 => first | k_is | rfl); (case c3 => first | k_is | rfl); (case k3 => first | k_is | rfl); (case a4 => first | k_is | rfl); (case l4 => first | k_is | rfl); (case c4 => first | k_is | rfl); (case k4 => first | k_is | rfl); (case a5 => first | k_is | rfl); (case l5 => first | k_is | rfl); (case c5 => first | k_is | rfl); (case k5 => first | k_is | rfl); (case a6 => first | k_is | rfl); (case l6 => first | k_is | rfl); (case c6 => first | k_is | rfl); (case k6 => first | k_is | rfl); (case a7 => first | k_is | rfl); (case l7 => first | k_is | rfl); (case c7 => first | k_is | rfl); (case k7 => first | k_is | rfl); (case a8 => first | k_is | rfl); (case l8 => first | k_is | rfl); (case c8 => first | k_is | rfl); (case k8 => first | k_is | rfl); (case a9 => first | k_is | rfl); (case l9 => first | k_is | rfl); (case c9 => first | k_is | rfl); (case k9 => first | k_is | rfl); (case a10 => first | k_is | rfl); (case l10 => first | k_is | rfl); (case c10 => first | k_is | rfl); (case k10 => first | k_is | rfl); (case a11 => first | k_is | rfl); (case l11 => first | k_is | rfl); (case c11 => first | k_is | rfl); (case k11 => first | k_is | rfl); (case a12 => first | k_is | rfl); (case a12_1 => first | k_is | rfl); (case l12 => first | k_is | rfl); (case kd12_0 => first | k_is | rfl); (case kd12_1 => first | k_is | rfl); (case c12 => first | k_is | rfl); (case k12 => first | k_is | rfl); (case a13 => first | k_is | rfl); (case l13 => first | k_is | rfl); (case c13 => first | k_is | rfl); (case k13 => first | k_is | rfl); (case a14 => first | k_is | rfl); (case l14 => first | k_is | rfl); (case c14 => first | k_is | rfl); (case k14 => first | k_is | rfl); (case a15 => first | k_is | rfl); (case l15 => first | k_is | rfl); (case c15 => first | k_is | rfl); (case k15 => first | k_is | rfl); (case a16 => first | k_is | rfl); (case l16 => first | k_is | rfl); (case c16 => first | k_is | rfl); (case k16 => first | k_is | rfl); (case a17 => first | k_is | rfl); (case l17 => first | k_is | rfl); (case c17 => first | k_is | rfl); (case k17 => first | k_is | rfl); (case a18 => first | k_is | rfl); (case l18 => first | k_is | rfl); (case c18 => first | k_is | rfl); (case k18 => first | k_is | rfl); (case a19 => first | k_is | rfl); (case a19_1 => first | k_is | rfl); (case l19 => first | k_is | rfl); (case c19 => first | k_is | rfl); (case k19 => first | k_is | rfl); (case a20 => first | k_is | rfl); (case l20 => first | k_is | rfl); (case c20 => first | k_is | rfl); (case k20 => first | k_is | rfl); (case a21 => first | k_is | rfl); (case l21 => first | k_is | rfl); (case c21 => first | k_is | rfl); (case k21 => first | k_is | rfl); (case a22 => first | k_is | rfl); (case l22 => first | k_is | rfl); (case c22 => first | k_is | rfl); (case k22 => first | k_is | rfl); (case a23 => first | k_is | rfl); (case l23 => first | k_is | rfl); (case c23 => first | k_is | rfl); (case k23 => first | k_is | rfl); (case a24 => first | k_is | rfl); (case l24 => first | k_is | rfl); (case c24 => first | k_is | rfl); (case k24 => first | k_is | rfl); (case a25 => first | k_is | rfl); (case l25 => first | k_is | rfl); (case c25 => first | k_is | rfl); (case k25 => first | k_is | rfl); (case a26 => first | k_is | rfl); (case l26 => first | k_is | rfl); (case c26 => first | k_is | rfl); (case k26 => first | k_is | rfl); (case a27 => first | k_is | rfl); (case l27 => first | k_is | rfl); (case c27 => first | k_is | rfl); (case k27 => first | k_is | rfl); (case a28 => first | k_is | rfl); (case l28 => first | k_is | rfl); (case c28 => first | k_is | rfl); (case k28 => first | k_is | rfl); (case a29 => first | k_is | rfl); (case l29 => first | k_is | rfl); (case c29 => first | k_is | rfl); (case k29 => first | k_is | rfl); (case a30 => first | k_is | rfl); (case l30 => first | k_is | rfl); (case c30 => first | k_is | rfl); (case k30 => first | k_is | rfl); (case a31 => first | k_is | rfl); (case l31 => first | k_is | rfl); (case c31 => first | k_is | rfl); (case k31 => first | k_is | rfl); (case a32 => first | k_is | rfl); (case l32 => first | k_is | rfl); (case c32 => first | k_is | rfl); (case k32 => first | k_is | rfl); (case a33 => first | k_is | rfl); (case l33 => first | k_is | rfl); (case c33 => first | k_is | rfl); (case k33 => first | k_is | rfl); (case e0_g => first | k_is | rfl); (case e1_g => first | k_is | rfl); (case e2_g => first | k_is | rfl); (case e3_g => first | k_is | rfl); (case e4_g => first | k_is | rfl); (case e5_g => first | k_is | rfl); (case e1_a => first | k_is | rfl); (case e1_b => first | rfl | decide +kernel); (case e1_c => first | k_is | rfl); (case e1_d => first | k_is | rfl); (case e1_e => first | k_is | rfl); (case e1_f => first | k_is | rfl); (case e1_h => first | k_is | rfl); (case e1_i => first | k_is | rfl); (case e1_j => first | k_is | rfl); (case e1_k => first | k_is | rfl); (case e1_l => first | k_is | rfl); (case e1_m => first | k_is | rfl); (case e1_n => first | rfl | decide +kernel); (case e1_o => first | rfl | decide +kernel); (case e1_p => first | k_is | rfl); (case e1_q => first | k_is | rfl); (case e1_r => first | k_is | rfl); (case e1_s => first | k_is | rfl); (case e1_t => first | k_is | rfl); (case e1_u0 => first | k_is | rfl); (case e1_v => first | k_is | rfl); (case e1_w => first | rfl | decide +kernel); (case e1_ga => first | k_is | rfl); (case e1_gg => first | k_is | rfl); (case e1_hd => first | k_is | rfl); (case e1_xa => first | k_is | rfl); (case e1_xn => first | k_is | rfl); (case e1_xt => first | k_is | rfl); (case e1_xm => first | k_is | rfl); (case ki1_BadMove => first | k_is | rfl); (case ki1_ValueError => first | k_is | rfl); (case ki1_BadGame => first | k_is | rfl); (case ki1_BadHall => first | k_is | rfl); (case ki1_BadScoring => first | k_is | rfl); (case ki1_BadSeason => first | k_is | rfl); (case em1_0 => first | k_is | rfl); (case em1_1 => first | k_is | rfl)
#print axioms PySem.Challenge.cw_playhall_k03_moves_merge_holds

