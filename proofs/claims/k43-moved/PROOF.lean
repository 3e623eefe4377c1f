import PyProof.Rows.All
import Wide.All
import OpenK.AllK
import Wide.FinOn
import PyProof.EqAt
import PyProof.EqKinds
import PyProof.TupleCall
import HandS.ForMost
import HandS.ForExc
import HandS.Evl
import HandS.Deep
import HandS.TupAny
import HandS.IsInst
import HandS.Replace
import HandS.ReplaceLit
import PyProof.ToksMono
import HandS.Dict
import HandS.More
import HandS.SortInts
import PyProof.StrOps2
import HandS.HotCalls
import HandS.ExcIs
import HandS.ExcField
import KE.KExcIs
import HandS.WordsExc
import HandS.Zip
import HandS.SetFor
import HandS.Conv
import HandS.SortKw
import PyProof.MinMaxWalk
import HandS.Style
import HandS.Defaults
import HandS.TryOnly
import HandS.Text
import KE.IntTextLaws
import HandS.CallLocal
import HandS.CallSlots
import HandS.ExcInit
import HandS.Keys
import HandS.SortRule
import PySem.Challenge.RW_mender_k43_moved_over_others
set_option Elab.async false
set_option linter.all false
set_option maxRecDepth 100000
set_option maxHeartbeats 4000000
namespace PW
open PySem L2

/-- an exception: its class, its fields -/
structure XV where
  C : Addr
  fs : Option (List (Str × PyData))
/-- a value of the plain machine: data, an owned thing, the script, a tuple with owned things in it, a thing of the top, an exception, an exception's dict -/
inductive PV where
  | d (x : PyData)
  | own (n : Nat)
  | scr (ns : List Int)
  | tp (vs : List PV)
  | gl (u : V)
  | exc (x : XV)
  | xd (fs : Option (List (Str × PyData)))
  | dk (kvs : List (Key × PyData))
/-- what an owned thing holds -/
inductive OC where
  | no
  | dl (xs : List PyData)
  | di (kvs : List (Key × PyData))
  | ml (vs : List PV)
  | ob (C : Addr) (fs : List (Str × PV))
  | dm (kvs : List (Key × PV))
  | dt (kvs : List (List Key × PV))
/-- locals by slot, owned lists -/
structure PSt where
  r : List (Option PV)
  o : List OC

theorem same_new {H : Hp} {p : Addr} {o : HO} (h : H p = none) : Same H (upd H p o) := fun a u e => by
  rw [upd_ne (ne_of_none e h)]
  exact e
theorem same_rd {H H' : Hp} {a : Addr} {u : HO} (e : Same H H') (h : Rd H a u) : Rd H' a u := by
  rcases h with h | ⟨o, h⟩
  · exact Or.inl (e a _ h)
  · exact Or.inr ⟨o, e a _ h⟩
theorem same_l {K : PySem.W.Frag} {H H' : Hp} {a : Addr} {xs : List V} (e : Same H H') (h : SqL K H a xs) : SqL K H' a xs := by
  rcases h with h | h
  · exact Or.inl (same_rd e h)
  · exact Or.inr h
theorem same_t {K : PySem.W.Frag} {H H' : Hp} {a : Addr} {xs : List V} (e : Same H H') (h : SqT K H a xs) : SqT K H' a xs := by
  rcases h with h | h
  · exact Or.inl (same_rd e h)
  · exact Or.inr h
mutual
/-- data in the heap: its lists are plain tracked ones -/
inductive Dq (K : PySem.W.Frag) (H : Hp) : V → PyData → Prop
  | non : Dq K H .non .none
  | bl (b : Bool) : Dq K H (.bl b) (.bool b)
  | int (i : Int) : Dq K H (.int i) (.int i)
  | str (x : Str) : Dq K H (.str x) (.str x)
  | lst {a : Addr} {xs : List V} {ds : List PyData} : H a = some (.lst xs) → DqAll K H xs ds → Dq K H (.ref a) (.list ds)
  | tup {a : Addr} {xs : List V} {ds : List PyData} : SqT K H a xs → DqAll K H xs ds → Dq K H (.ref a) (.tuple ds)
inductive DqAll (K : PySem.W.Frag) (H : Hp) : List V → List PyData → Prop
  | nil : DqAll K H [] []
  | cons {v : V} {vs : List V} {d : PyData} {ds : List PyData} : Dq K H v d → DqAll K H vs ds → DqAll K H (v :: vs) (d :: ds)
end
mutual
theorem dq_dp {K : PySem.W.Frag} {H : Hp} : ∀ {v : V} {d : PyData}, Dq K H v d → Dp K H v d
  | _, _, .non => .non
  | _, _, .bl b => .bl b
  | _, _, .int i => .int i
  | _, _, .str x => .str x
  | _, _, .lst h t => .lst (SqL.of h) (dqAll_dp t)
  | _, _, .tup h t => .tup h (dqAll_dp t)
theorem dqAll_dp {K : PySem.W.Frag} {H : Hp} : ∀ {vs : List V} {ds : List PyData}, DqAll K H vs ds → DpAll K H vs ds
  | _, _, .nil => .nil
  | _, _, .cons h t => .cons (dq_dp h) (dqAll_dp t)
end
mutual
theorem dq_same {K : PySem.W.Frag} {H H' : Hp} (e : Same H H') : ∀ {v : V} {d : PyData}, Dq K H v d → Dq K H' v d
  | _, _, .non => .non
  | _, _, .bl b => .bl b
  | _, _, .int i => .int i
  | _, _, .str x => .str x
  | _, _, .lst h t => .lst (e _ _ h) (dqAll_same e t)
  | _, _, .tup h t => .tup (same_t e h) (dqAll_same e t)
theorem dqAll_same {K : PySem.W.Frag} {H H' : Hp} (e : Same H H') : ∀ {vs : List V} {ds : List PyData}, DqAll K H vs ds → DqAll K H' vs ds
  | _, _, .nil => .nil
  | _, _, .cons h t => .cons (dq_same e h) (dqAll_same e t)
end
theorem DqAll.len {K : PySem.W.Frag} {H : Hp} : ∀ {vs : List V} {ds : List PyData}, DqAll K H vs ds → vs.length = ds.length
  | _, _, .nil => rfl
  | _, _, .cons _ t => by rw [List.length_cons, List.length_cons, DqAll.len t]
theorem DqAll.get {K : PySem.W.Frag} {H : Hp} : ∀ {vs : List V} {ds : List PyData}, DqAll K H vs ds → ∀ (i : Nat) v, vs[i]? = some v → ∃ d, ds[i]? = some d ∧ Dq K H v d
  | _, _, .nil, _, _, h => by simp at h
  | _, _, .cons h t, 0, v, e => by
    have e' : _ = v := Option.some.inj e
    subst e'
    exact ⟨_, rfl, h⟩
  | _, _, .cons h t, i + 1, v, e => DqAll.get t i v e
theorem DqAll.getd {K : PySem.W.Frag} {H : Hp} : ∀ {vs : List V} {ds : List PyData}, DqAll K H vs ds → ∀ (i : Nat) d, ds[i]? = some d → ∃ v, vs[i]? = some v ∧ Dq K H v d
  | _, _, .nil, _, _, h => by simp at h
  | _, _, .cons h t, 0, v, e => by
    have e' : _ = v := Option.some.inj e
    subst e'
    exact ⟨_, rfl, h⟩
  | _, _, .cons h t, i + 1, v, e => DqAll.getd t i v e
theorem DqAll.app {K : PySem.W.Frag} {H : Hp} : ∀ {vs ws : List V} {ds es : List PyData}, DqAll K H vs ds → DqAll K H ws es → DqAll K H (vs ++ ws) (ds ++ es)
  | _, _, _, _, .nil, h => h
  | _, _, _, _, .cons h t, q => .cons h (DqAll.app t q)
theorem DqAll.take {K : PySem.W.Frag} {H : Hp} : ∀ {vs : List V} {ds : List PyData} (n : Nat), DqAll K H vs ds → DqAll K H (vs.take n) (ds.take n)
  | _, _, 0, _ => by rw [List.take_zero, List.take_zero]; exact .nil
  | _, _, _ + 1, .nil => by rw [List.take_nil, List.take_nil]; exact .nil
  | _, _, n + 1, .cons h t => by rw [List.take_succ_cons, List.take_succ_cons]; exact .cons h (DqAll.take n t)
theorem DqAll.drop {K : PySem.W.Frag} {H : Hp} : ∀ {vs : List V} {ds : List PyData} (n : Nat), DqAll K H vs ds → DqAll K H (vs.drop n) (ds.drop n)
  | _, _, 0, h => h
  | _, _, _ + 1, .nil => .nil
  | _, _, n + 1, .cons h t => DqAll.drop n t
theorem DqAll.set {K : PySem.W.Frag} {H : Hp} : ∀ {vs : List V} {ds : List PyData} (n : Nat) {v : V} {d : PyData}, DqAll K H vs ds → Dq K H v d → DqAll K H (vs.set n v) (ds.set n d)
  | _, _, _, _, _, .nil, _ => .nil
  | _, _, 0, _, _, .cons h t, q => .cons q t
  | _, _, n + 1, _, _, .cons h t, q => .cons h (DqAll.set n t q)

/-- the frozen part F of the heap H -/
structure Fz (H0 F0 H F : Hp) : Prop where
  f : Same F0 F
  g : Same F H
  h : Same H0 H
  n : ∀ p, H0 p ≠ none → F0 p = none → F p = none

def dV : Option Addr → V
  | none => .non
  | some a => .ref a
/-- the fields of an exception -/
def XdOk (K : PySem.W.Frag) (H : Hp) (d : Option Addr) : Option (List (Str × PyData)) → Prop
  | none => d = none
  | some l => ∃ a vl, d = some a ∧ H a = some (.xd vl) ∧ vl.map (·.1) = l.map (·.1) ∧ DqAll K H (vl.map (·.2)) (l.map (·.2))
theorem XdOk.same {K : PySem.W.Frag} {H H' : Hp} (e : Same H H') {d : Option Addr} {l : Option (List (Str × PyData))} (h : XdOk K H d l) : XdOk K H' d l := by
  cases l with
  | none => exact h
  | some l =>
    obtain ⟨a, vl, h1, h2, h3, h4⟩ := h
    exact ⟨a, vl, h1, e _ _ h2, h3, dqAll_same e h4⟩
mutual
def PVOk (K : PySem.W.Frag) (F : Hp) (A : List Addr) : PV → V → Prop
  | .d x, v => Dq K F v x
  | .scr ns, v => ∃ a, v = .ref a ∧ SqL K F a (ns.map V.int)
  | .own n, v => ∃ p, A[n]? = some p ∧ v = .ref p
  | .tp ps, v => ∃ a us, v = .ref a ∧ SqT K F a us ∧ PVAll K F A ps us
  | .gl u, v => v = u
  | .exc x, v => ∃ a oe d, v = .ref a ∧ F a = some (.ext fun h => h.get? a = some oe) ∧ Zc (.ref x.C) d oe ∧ (∃ vs, oe.data = .fields vs) ∧ XdOk K F d x.fs
  | .xd fs, v => ∃ d, v = dV d ∧ XdOk K F d fs
  | .dk kvs, v => ∃ a vs, v = .ref a ∧ F a = some (.dK vs) ∧ vs.map (·.1) = kvs.map (·.1) ∧ DqAll K F (vs.map (·.2)) (kvs.map (·.2))
def PVAll (K : PySem.W.Frag) (F : Hp) (A : List Addr) : List PV → List V → Prop
  | [], [] => True
  | p :: ps, v :: vs => PVOk K F A p v ∧ PVAll K F A ps vs
  | [], _ :: _ => False
  | _ :: _, [] => False
end
def OCOk (K : PySem.W.Frag) (F H : Hp) (A : List Addr) (p : Addr) : OC → Prop
  | .no => True
  | .dl xs => F p = none ∧ ∃ vs, H p = some (.lst vs) ∧ DqAll K F vs xs
  | .di kvs => F p = none ∧ ∃ vs : List (Key × V), H p = some (.dK vs) ∧ vs.map (·.1) = kvs.map (·.1) ∧ DqAll K F (vs.map (·.2)) (kvs.map (·.2))
  | .ml ps => F p = none ∧ ∃ vs, H p = some (.lst vs) ∧ PVAll K F A ps vs
  | .ob C fs => F p = none ∧ ∃ dx vs, H p = some (.ins C dx vs) ∧ vs.map (·.1) = fs.map (·.1) ∧ PVAll K F A (fs.map (·.2)) (vs.map (·.2))
  | .dm kvs => F p = none ∧ ∃ vs, H p = some (.dK vs) ∧ vs.map (·.1) = kvs.map (·.1) ∧ PVAll K F A (kvs.map (·.2)) (vs.map (·.2))
  | .dt kvs => F p = none ∧ ∃ vs, H p = some (.dT vs) ∧ vs.map (·.1) = kvs.map (·.1) ∧ PVAll K F A (kvs.map (·.2)) (vs.map (·.2))

mutual
theorem PVOk.mono {K : PySem.W.Frag} {F F' : Hp} {A A' : List Addr} (e : Same F F') (a : A <+: A') : ∀ {v : PV} {u : V}, PVOk K F A v u → PVOk K F' A' v u
  | .d x, u, h => dq_same e h
  | .scr ns, u, ⟨p, h, q⟩ => ⟨p, h, same_l e q⟩
  | .own n, u, ⟨p, h, q⟩ => ⟨p, by
      obtain ⟨t, rfl⟩ := a
      rw [List.getElem?_append_left (List.getElem?_eq_some_iff.mp h).1]
      exact h, q⟩
  | .tp ps, u, ⟨p, us, h, q, r⟩ => ⟨p, us, h, same_t e q, PVAll.mono e a r⟩
  | .gl x, u, h => h
  | .exc x, u, ⟨p, oe, d, h1, h2, h3, h4, h5⟩ => ⟨p, oe, d, h1, e _ _ h2, h3, h4, h5.same e⟩
  | .xd fs, u, ⟨d, h1, h2⟩ => ⟨d, h1, h2.same e⟩
  | .dk _, u, ⟨p, vs, h1, h2, h3, h4⟩ => ⟨p, vs, h1, e _ _ h2, h3, dqAll_same e h4⟩
theorem PVAll.mono {K : PySem.W.Frag} {F F' : Hp} {A A' : List Addr} (e : Same F F') (a : A <+: A') : ∀ {ps : List PV} {us : List V}, PVAll K F A ps us → PVAll K F' A' ps us
  | [], [], h => h
  | _ :: _, _ :: _, ⟨h, r⟩ => ⟨PVOk.mono e a h, PVAll.mono e a r⟩
  | [], _ :: _, h => h.elim
  | _ :: _, [], h => h.elim
end
theorem OCOk.mono {K : PySem.W.Frag} {F F' H H' : Hp} {A A' : List Addr} {p : Addr} (e : Same F F') (a : A <+: A') (f : F p = none → F' p = none) (h : ∀ o, H p = some o → H' p = some o) : ∀ {c : OC}, OCOk K F H A p c → OCOk K F' H' A' p c
  | .no, _ => True.intro
  | .dl _, ⟨x, vs, y, z⟩ => ⟨f x, vs, h _ y, dqAll_same e z⟩
  | .di _, ⟨x, vs, y, k, z⟩ => ⟨f x, vs, h _ y, k, dqAll_same e z⟩
  | .ml _, ⟨x, vs, y, z⟩ => ⟨f x, vs, h _ y, PVAll.mono e a z⟩
  | .ob _ _, ⟨x, dx, vs, y, k, z⟩ => ⟨f x, dx, vs, h _ y, k, PVAll.mono e a z⟩
  | .dm _, ⟨x, vs, y, k, z⟩ => ⟨f x, vs, h _ y, k, PVAll.mono e a z⟩
  | .dt _, ⟨x, vs, y, k, z⟩ => ⟨f x, vs, h _ y, k, PVAll.mono e a z⟩
structure WdF (K : PySem.W.Frag) (H0 F0 : Hp) (A0 : List Addr) (s : PSt) (σ : St) (T : List (PV × V)) (H F : Hp) (A : List Addr) : Prop where
  fz : Fz H0 F0 H F
  pre : A0 <+: A
  len : A.length = s.o.length
  nd : A.Nodup
  ad : ∀ p ∈ A, H0 p = none ∧ H p ≠ none
  oc : ∀ (n : Nat) p c, A[n]? = some p → s.o[n]? = some c → OCOk K F H A p c
  sl : s.r.length = σ.length
  pv : ∀ (i : Nat) v, s.r[i]? = some (some v) → ∃ u, σ[i]? = some (some u) ∧ PVOk K F A v u
  tm : ∀ t ∈ T, PVOk K F A t.1 t.2
def Wd (K : PySem.W.Frag) (H0 F0 : Hp) (A0 : List Addr) (s : PSt) (σ : St) (T : List (PV × V)) (H : Hp) : Prop := ∃ F A, WdF K H0 F0 A0 s σ T H F A

section
variable {K : PySem.W.Frag} {H0 F0 : Hp} {A0 : List Addr} {s : PSt} {σ : St} {T : List (PV × V)} {H F : Hp} {A : List Addr}
theorem nodup_ne {A : List Addr} (h : A.Nodup) {m n : Nat} {p q : Addr} (h1 : A[m]? = some q) (h2 : A[n]? = some p) (hm : m ≠ n) : q ≠ p := fun e => by
  subst e
  obtain ⟨l1, e1⟩ := List.getElem?_eq_some_iff.mp h1
  obtain ⟨l2, e2⟩ := List.getElem?_eq_some_iff.mp h2
  exact hm ((List.getElem_inj h).mp (e1.trans e2.symm))
/-- more is frozen, at places that aren't owned or new -/
theorem WdF.more {F' H' : Hp} (w : WdF K H0 F0 A0 s σ T H F A) (e : Same F F') (g : Same F' H') (h : ∀ a, H0 a ≠ none → H' a = H a) (hA : ∀ p ∈ A, F' p = F p ∧ H' p = H p) (nF : ∀ p, H0 p ≠ none → F' p = F p) : WdF K H0 F0 A0 s σ T H' F' A where
  fz := ⟨w.fz.f.trans e, g, fun a u z => (h a (by rw [z]; exact fun z => nomatch z)).trans (w.fz.h a u z), fun p h1 h2 => (nF p h1).trans (w.fz.n p h1 h2)⟩
  pre := w.pre
  len := w.len
  nd := w.nd
  ad := fun q hq => ⟨(w.ad q hq).1, by rw [(hA q hq).2]; exact (w.ad q hq).2⟩
  oc := fun n q c h1 h2 => (w.oc n q c h1 h2).mono e (List.prefix_refl _) (fun z => (hA q (List.mem_of_getElem? h1)).1.trans z) fun o z => (hA q (List.mem_of_getElem? h1)).2.trans z
  sl := w.sl
  pv := fun i v h => by
    obtain ⟨u, a, b⟩ := w.pv i v h
    exact ⟨u, a, b.mono e (List.prefix_refl _)⟩
  tm := fun t ht => (w.tm t ht).mono e (List.prefix_refl _)
/-- a new object that is frozen at once: a tuple, a list -/
theorem WdF.newD {p : Addr} {o : HO} (w : WdF K H0 F0 A0 s σ T H F A) (hp : H p = none) : WdF K H0 F0 A0 s σ T (upd H p o) (upd F p o) A := by
  have fp : F p = none := w.fz.g.free hp
  have h0 : H0 p = none := w.fz.h.free hp
  refine w.more (same_new fp) (fun a u e => ?_) (fun a ha => upd_ne fun z => ha (z ▸ h0)) (fun q hq => ?_) (fun q hq => upd_ne fun z => hq (z ▸ h0))
  · by_cases h : a = p
    · subst h; rw [upd_same] at e ⊢; exact e
    · rw [upd_ne h] at e ⊢; exact w.fz.g a u e
  · have ne : q ≠ p := fun z => (w.ad q hq).2 (z ▸ hp)
    exact ⟨upd_ne ne, upd_ne ne⟩

theorem WdF.tms {T' : List (PV × V)} (w : WdF K H0 F0 A0 s σ T H F A) (h : ∀ t ∈ T', PVOk K F A t.1 t.2) : WdF K H0 F0 A0 s σ T' H F A := { w with tm := h }
theorem WdF.push {v : PV} {u : V} (w : WdF K H0 F0 A0 s σ T H F A) (h : PVOk K F A v u) : WdF K H0 F0 A0 s σ ((v, u) :: T) H F A := w.tms fun t ht => by
  rcases List.mem_cons.mp ht with e | ht
  · rw [e]; exact h
  · exact w.tm t ht
theorem WdF.sub {T' : List (PV × V)} (w : WdF K H0 F0 A0 s σ T H F A) (h : ∀ t ∈ T', t ∈ T) : WdF K H0 F0 A0 s σ T' H F A := { w with tm := fun t ht => w.tm t (h t ht) }

/-- a new thing that is owned -/
theorem WdF.newO {p : Addr} {o : HO} {c : OC} (w : WdF K H0 F0 A0 s σ T H F A) (hp : H p = none) (hv : F p = none → OCOk K F (upd H p o) (A ++ [p]) p c) : WdF K H0 F0 A0 ⟨s.r, s.o ++ [c]⟩ σ T (upd H p o) F (A ++ [p]) where
  fz := ⟨w.fz.f, w.fz.g.trans (same_new hp), w.fz.h.trans (same_new hp), w.fz.n⟩
  pre := w.pre.trans (List.prefix_append _ _)
  len := by rw [List.length_append, List.length_append, w.len]; rfl
  nd := by
    rw [List.nodup_append]
    refine ⟨w.nd, by simp, fun a ha b hb => ?_⟩
    have e : b = p := by simpa using hb
    subst e
    rintro rfl
    exact (w.ad _ ha).2 hp
  ad := fun q hq => by
    rcases List.mem_append.mp hq with h1 | h1
    · have hne : q ≠ p := fun e => (w.ad q h1).2 (e ▸ hp)
      exact ⟨(w.ad q h1).1, by rw [upd_ne hne]; exact (w.ad q h1).2⟩
    · have e : q = p := by simpa using h1
      rw [e]
      refine ⟨?_, by rw [upd_same]; exact fun z => nomatch z⟩
      exact w.fz.h.free hp
  oc := fun n q c' h1 h2 => by
    have fp : F p = none := w.fz.g.free hp
    rcases Nat.lt_trichotomy n A.length with hn | hn | hn
    · rw [List.getElem?_append_left hn] at h1
      rw [List.getElem?_append_left (by rw [← w.len]; exact hn)] at h2
      have hne : q ≠ p := fun e => by subst e; exact (w.ad q (List.mem_of_getElem? h1)).2 hp
      exact (w.oc n q c' h1 h2).mono (Same.refl _) (List.prefix_append _ _) id fun o z => (upd_ne hne).trans z
    · subst hn
      rw [List.getElem?_append_right (Nat.le_refl _), Nat.sub_self] at h1
      rw [List.getElem?_append_right (by rw [w.len]; exact Nat.le_refl _), w.len, Nat.sub_self] at h2
      cases h1
      cases h2
      exact hv fp
    · rw [List.getElem?_eq_none (by rw [List.length_append]; show A.length + 1 ≤ n; omega)] at h1
      cases h1
  sl := w.sl
  pv := fun i v h => by
    obtain ⟨u, a, b⟩ := w.pv i v h
    exact ⟨u, a, b.mono (Same.refl _) (List.prefix_append _ _)⟩
  tm := fun t ht => (w.tm t ht).mono (Same.refl _) (List.prefix_append _ _)
theorem WdF.newL {p : Addr} {vs : List V} {xs : List PyData} (w : WdF K H0 F0 A0 s σ T H F A) (hp : H p = none) (hv : DqAll K F vs xs) : WdF K H0 F0 A0 ⟨s.r, s.o ++ [.dl xs]⟩ σ T (upd H p (.lst vs)) F (A ++ [p]) :=
  w.newO hp fun fp => ⟨fp, vs, upd_same, hv⟩

/-- an owned thing is written -/
theorem WdF.wrO {n : Nat} {p : Addr} {o : HO} {c : OC} (w : WdF K H0 F0 A0 s σ T H F A) (hp : A[n]? = some p) (fp : F p = none) (hl : n < s.o.length) (hv : OCOk K F (upd H p o) A p c) : WdF K H0 F0 A0 ⟨s.r, s.o.set n c⟩ σ T (upd H p o) F A where
  fz := by
    refine ⟨w.fz.f, fun a u e => ?_, fun a u e => ?_, w.fz.n⟩
    · rw [upd_ne (ne_of_none e fp)]
      exact w.fz.g a u e
    · rw [upd_ne (ne_of_none e (w.ad p (List.mem_of_getElem? hp)).1)]
      exact w.fz.h a u e
  pre := w.pre
  len := by rw [List.length_set]; exact w.len
  nd := w.nd
  ad := fun q hq => ⟨(w.ad q hq).1, fun z => by
    by_cases e : q = p
    · subst e; rw [upd_same] at z; cases z
    · rw [upd_ne e] at z; exact (w.ad q hq).2 z⟩
  oc := fun m q c' h1 h2 => by
    by_cases hm : m = n
    · subst hm
      rw [hp] at h1
      cases h1
      rw [List.getElem?_set_self hl] at h2
      cases h2
      exact hv
    · rw [List.getElem?_set_ne (Ne.symm hm)] at h2
      have hne : q ≠ p := nodup_ne w.nd h1 hp hm
      exact (w.oc m q c' h1 h2).mono (Same.refl _) (List.prefix_refl _) id fun o z => (upd_ne hne).trans z
  sl := w.sl
  pv := w.pv
  tm := w.tm
theorem WdF.wr {n : Nat} {p : Addr} {vs : List V} {xs ys : List PyData} (w : WdF K H0 F0 A0 s σ T H F A) (hp : A[n]? = some p) (ho : s.o[n]? = some (.dl xs)) (hv : DqAll K F vs ys) : WdF K H0 F0 A0 ⟨s.r, s.o.set n (.dl ys)⟩ σ T (upd H p (.lst vs)) F A := by
  obtain ⟨fp, _⟩ := w.oc n p _ hp ho
  exact w.wrO hp fp (List.getElem?_eq_some_iff.mp ho).1 ⟨fp, vs, upd_same, hv⟩

/-- a slot is stored -/
theorem WdF.st {i : Nat} {v : PV} {u : V} (w : WdF K H0 F0 A0 s σ T H F A) (h : PVOk K F A v u) : WdF K H0 F0 A0 ⟨s.r.set i (some v), s.o⟩ (σ.set i (some u)) T H F A :=
  { w with
    len := w.len
    oc := w.oc
    sl := by rw [List.length_set, List.length_set]; exact w.sl
    pv := fun j x e => by
      by_cases hj : j = i
      · subst hj
        by_cases hl : j < s.r.length
        · rw [List.getElem?_set_self hl] at e
          cases e
          exact ⟨u, by rw [List.getElem?_set_self (by rw [← w.sl]; exact hl)], h⟩
        · rw [List.getElem?_eq_none (by rw [List.length_set]; omega)] at e
          cases e
      · rw [List.getElem?_set_ne (Ne.symm hj)] at e
        obtain ⟨y, a, b⟩ := w.pv j x e
        exact ⟨y, by rw [List.getElem?_set_ne (Ne.symm hj)]; exact a, b⟩ }
end
end PW
namespace PW
open PySem L2

/-! ### from the hand layer's readings to the plain machine's -/
theorem PE.imp {X : Cx} {e : Expr} {t t' : TE} (h : PE X e t) (i : ∀ σ H Q, t' σ H Q → t σ H Q) : PE X e t' := ⟨fun pins s σ H Q I q => h.run pins s σ H Q I (i σ H Q q)⟩
theorem PT.imp {X : Cx} {e : Expr} {t t' : TT} (h : PT X e t) (i : ∀ σ H Q, t' σ H Q → t σ H Q) : PT X e t' := ⟨fun pins s σ H Q I q => h.run pins s σ H Q I (i σ H Q q)⟩
theorem PTs.imp {X : Cx} {es : List Expr} {t t' : TT} (h : PTs X es t) (i : ∀ σ H Q, t' σ H Q → t σ H Q) : PTs X es t' := ⟨fun pins s σ H Q I q => h.run pins s σ H Q I (i σ H Q q)⟩
theorem PWi.imp {X : Cx} {e : Expr} {t t' : TT} (h : L2.PW X e t) (i : ∀ σ H Q, t' σ H Q → t σ H Q) : L2.PW X e t' := ⟨fun w pins s σ H Q I q => h.run w pins s σ H Q I (i σ H Q q)⟩
theorem PA.imp {X : Cx} {es : List Expr} {t t' : TA} (h : PA X es t) (i : ∀ σ H Q, t' σ H Q → t σ H Q) : PA X es t' := ⟨fun p pins s σ H Q I q => h.run p pins s σ H Q I (i σ H Q q)⟩
theorem PO.imp {X : Cx} {e : Option Expr} {t t' : TO} (h : PO X e t) (i : ∀ σ H Q, t' σ H Q → t σ H Q) : PO X e t' := ⟨fun pins s σ H Q I q => h.run pins s σ H Q I (i σ H Q q)⟩
theorem PS.imp {X : Cx} {st : Stmt} {t t' : TS} (h : PS X st t) (i : ∀ D σ H, t' D σ H → t D σ H) : PS X st t' := ⟨fun pins s σ H D I q => h.run pins s σ H D I (i D σ H q)⟩
theorem PSs.imp {X : Cx} {st : List Stmt} {t t' : TS} (h : PSs X st t) (i : ∀ D σ H, t' D σ H → t D σ H) : PSs X st t' := ⟨fun pins s σ H D I q => h.run pins s σ H D I (i D σ H q)⟩
theorem PG.imp {X : Cx} {e : Expr} {t t' : TG} (h : PG X e t) (i : ∀ v σ H Q, t' v σ H Q → t v σ H Q) : PG X e t' := ⟨fun pins s σ H v u Q I r q => h.run pins s σ H v u Q I r (i v σ H Q q)⟩
theorem PI.imp {X : Cx} {tg e : Expr} {t t' : TI} (h : PI X tg e t) (i : ∀ σ H R, t' σ H R → t σ H R) : PI X tg e t' := ⟨fun pins s σ H R I q => h.run pins s σ H R I (i σ H R q)⟩

abbrev KX := XV → PSt → Prop
abbrev EW := KX → PSt → (PV → PSt → Prop) → Prop
abbrev TW := KX → PSt → (Bool → PSt → Prop) → Prop
abbrev AW := KX → PSt → (List PV → PSt → Prop) → Prop
abbrev OW := KX → PSt → (Option Int → PSt → Prop) → Prop
/-- a list that is walked as it is owned: it has to stay -/
abbrev SrcO := Option (Nat × List PyData)
def Src (c : SrcO) (s : PSt) : Prop := match c with
  | none => True
  | some (n, xs) => s.o[n]? = some (.dl xs)
abbrev IW := KX → PSt → (List PyData → SrcO → PSt → Prop) → Prop
abbrev GW := PyData → PSt → (PSt → Prop) → Prop
structure PEnds where
  nx : PSt → Prop
  rt : PV → PSt → Prop
  bk : PSt → Prop := fun _ => False
  ct : PSt → Prop := fun _ => False
abbrev SW := KX → PSt → PEnds → Prop

/-- what is wanted of exceptions -/
def XL (K : PySem.W.Frag) (H0 F0 : Hp) (A0 : List Addr) (T : List (PV × V)) (W : WX) (kx : KX) : Prop :=
  ∀ x s', kx x s' → ∀ σ' H' d, Wd K H0 F0 A0 s' σ' ((.xd x.fs, dV d) :: T) H' → W (.ref x.C) d σ' H'
theorem Wd.sub {K : PySem.W.Frag} {H0 F0 : Hp} {A0 : List Addr} {s : PSt} {σ : St} {T T' : List (PV × V)} {H : Hp} (w : Wd K H0 F0 A0 s σ T H) (h : ∀ t ∈ T', t ∈ T) : Wd K H0 F0 A0 s σ T' H := by
  obtain ⟨F, A, w⟩ := w
  exact ⟨F, A, w.sub h⟩
theorem Wd.pop {K : PySem.W.Frag} {H0 F0 : Hp} {A0 : List Addr} {s : PSt} {σ : St} {t : PV × V} {T : List (PV × V)} {H : Hp} (w : Wd K H0 F0 A0 s σ (t :: T) H) : Wd K H0 F0 A0 s σ T H := w.sub fun _ h => List.mem_cons_of_mem _ h
theorem XL.more {K : PySem.W.Frag} {H0 F0 : Hp} {A0 : List Addr} {T T' : List (PV × V)} {W : WX} {kx : KX} (h : XL K H0 F0 A0 T W kx) (m : ∀ t ∈ T, t ∈ T') : XL K H0 F0 A0 T' W kx := fun x s' q σ' H' d w => h x s' q σ' H' d (w.sub fun t ht => by
  rcases List.mem_cons.mp ht with z | z
  · rw [z]; exact List.mem_cons_self
  · exact List.mem_cons_of_mem _ (m t z))
theorem XL.push {K : PySem.W.Frag} {H0 F0 : Hp} {A0 : List Addr} {T : List (PV × V)} {t : PV × V} {W : WX} {kx : KX} (h : XL K H0 F0 A0 T W kx) : XL K H0 F0 A0 (t :: T) W kx := h.more fun _ m => List.mem_cons_of_mem _ m

/-- an expression, a test, arguments, a slice's end, what is walked, a target, a statement -/
def tE (K : PySem.W.Frag) (W : WX) (w : EW) : TE := fun σ H Q => ∃ H0 F0 A0 s T kx k, Wd K H0 F0 A0 s σ T H ∧ XL K H0 F0 A0 T W kx ∧ w kx s k ∧ ∀ v s', k v s' → ∀ u H', Wd K H0 F0 A0 s' σ ((v, u) :: T) H' → Q u H'
def tT (K : PySem.W.Frag) (W : WX) (w : TW) : TT := fun σ H Q => ∃ H0 F0 A0 s T kx k, Wd K H0 F0 A0 s σ T H ∧ XL K H0 F0 A0 T W kx ∧ w kx s k ∧ ∀ b s', k b s' → ∀ H', Wd K H0 F0 A0 s' σ T H' → Q b H'
def tA (K : PySem.W.Frag) (W : WX) (w : AW) : TA := fun σ H Q => ∃ H0 F0 A0 s T kx k, Wd K H0 F0 A0 s σ T H ∧ XL K H0 F0 A0 T W kx ∧ w kx s k ∧ ∀ vs s', k vs s' → ∀ us H', us.length = vs.length → Wd K H0 F0 A0 s' σ (vs.zip us ++ T) H' → Q us H'
def tO (K : PySem.W.Frag) (W : WX) (w : OW) : TO := fun σ H Q => ∃ H0 F0 A0 s T kx k, Wd K H0 F0 A0 s σ T H ∧ XL K H0 F0 A0 T W kx ∧ w kx s k ∧ ∀ o s', k o s' → ∀ H', Wd K H0 F0 A0 s' σ T H' → Q o H'
/-- J yields these data as long as T1 stands -/
def ItOk (K : PySem.W.Frag) (J : It) (T1 : List (PV × V)) (c : SrcO) (xs : List PyData) : Prop :=
  ∀ (H0 F0 : Hp) (A0 : List Addr) (s : PSt) (σ : St) (T : List (PV × V)) (H F : Hp) (A : List Addr), WdF K H0 F0 A0 s σ T H F A → (∀ t ∈ T1, t ∈ T) → Src c s → ∀ i, (i < xs.length → J.go i H) ∧ (xs.length ≤ i → J.stop i H) ∧
    (i < xs.length → ∀ x H', J.yld i H x H' → ∃ d, xs[i]? = some d ∧ ∃ F', WdF K H0 F0 A0 s σ ((.d d, x) :: T) H' F' A)
def tI (K : PySem.W.Frag) (W : WX) (w : IW) : TI := fun σ H R => ∃ H0 F0 A0 s T kx k, Wd K H0 F0 A0 s σ T H ∧ XL K H0 F0 A0 T W kx ∧ w kx s k ∧ ∀ xs c s', k xs c s' → ∀ J T1 H', Wd K H0 F0 A0 s' σ (T1 ++ T) H' → ItOk K J T1 c xs → R J H'
def OutL (L : List Nat) (σ σ' : St) : Prop := σ'.length = σ.length ∧ ∀ j, j ∉ L → σ'[j]? = σ[j]?
def tG (K : PySem.W.Frag) (L : List Nat) (g : GW) : TG := fun v σ H Q => ∃ H0 F0 A0 s T x k, Wd K H0 F0 A0 s σ T H ∧ (PV.d x, v) ∈ T ∧ g x s k ∧ ∀ s', k s' → ∀ σ' H', OutL L σ σ' → Wd K H0 F0 A0 s' σ' T H' → Q σ' H'
def tS (K : PySem.W.Frag) (W : WX) (w : SW) : TS := fun D σ H => ∃ H0 F0 A0 s T kx k, Wd K H0 F0 A0 s σ T H ∧ XL K H0 F0 A0 T W kx ∧ w kx s k ∧ (∀ s', k.nx s' → ∀ σ' H', Wd K H0 F0 A0 s' σ' T H' → D.nx σ' H') ∧
  (∀ v s', k.rt v s' → ∀ u σ' H', Wd K H0 F0 A0 s' σ' ((v, u) :: T) H' → D.rt u H') ∧ (∀ s', k.bk s' → ∀ σ' H', Wd K H0 F0 A0 s' σ' T H' → D.bk σ' H') ∧ (∀ s', k.ct s' → ∀ σ' H', Wd K H0 F0 A0 s' σ' T H' → D.ct σ' H')

/-- the data that a value stands for now -/
def ocD : Option OC → Option PyData
  | some (.dl xs) => some (.list xs)
  | _ => none
def dat (s : PSt) : PV → Option PyData
  | .d x => some x
  | .own n => ocD s.o[n]?
  | .scr ns => some (.list (ns.map PyData.int))
  | _ => none
/-- .. where it isn't the script -/
def datq (s : PSt) : PV → Option PyData
  | .d x => some x
  | .own n => ocD s.o[n]?
  | _ => none
theorem datq_ok {K : PySem.W.Frag} {H0 F0 : Hp} {A0 : List Addr} {s : PSt} {σ : St} {T : List (PV × V)} {H F : Hp} {A : List Addr} {v : PV} {u : V} {x : PyData} (w : WdF K H0 F0 A0 s σ T H F A) (p : PVOk K F A v u) (e : datq s v = some x) : Dq K H u x := by
  cases v with
  | d y =>
    cases e
    exact dq_same w.fz.g p
  | scr ns => cases e
  | tp ps => cases e
  | gl g => cases e
  | exc y => cases e
  | xd y => cases e
  | dk y => cases e
  | own n =>
    obtain ⟨q, hq, rfl⟩ := p
    have e : ocD s.o[n]? = some x := e
    cases ho : s.o[n]? with
    | none => rw [ho] at e; cases e
    | some c =>
      rw [ho] at e
      cases c with
      | no => cases e
      | dl xs =>
        cases e
        obtain ⟨_, vs, h1, h2⟩ := w.oc n q _ hq ho
        exact .lst h1 (dqAll_same w.fz.g h2)
      | di kvs => cases e
      | ml ps => cases e
      | ob _ _ => cases e
      | dm _ => cases e
      | dt _ => cases e
theorem ints_dp {K : PySem.W.Frag} {H : Hp} : ∀ ns : List Int, DpAll K H (ns.map V.int) (ns.map PyData.int)
  | [] => .nil
  | n :: r => .cons (.int n) (ints_dp r)
theorem ints_dq {K : PySem.W.Frag} {H : Hp} : ∀ ns : List Int, DqAll K H (ns.map V.int) (ns.map PyData.int)
  | [] => .nil
  | n :: r => .cons (.int n) (ints_dq r)
theorem dat_ok {K : PySem.W.Frag} {H0 F0 : Hp} {A0 : List Addr} {s : PSt} {σ : St} {T : List (PV × V)} {H F : Hp} {A : List Addr} {v : PV} {u : V} {x : PyData} (w : WdF K H0 F0 A0 s σ T H F A) (p : PVOk K F A v u) (e : dat s v = some x) : Dp K H u x := by
  cases v with
  | d y => exact dq_dp (datq_ok w p e)
  | own n => exact dq_dp (datq_ok w p e)
  | tp ps => cases e
  | gl g => cases e
  | exc y => cases e
  | xd y => cases e
  | dk y => cases e
  | scr ns =>
    cases e
    obtain ⟨a, rfl, h⟩ := p
    exact .lst (same_l w.fz.g h) (ints_dp ns)
/-- what is in a list or tuple is frozen data -/
theorem items_ok {K : PySem.W.Frag} {H0 F0 : Hp} {A0 : List Addr} {s : PSt} {σ : St} {T : List (PV × V)} {H F : Hp} {A : List Addr} {v : PV} {u : V} {xs : List PyData} (w : WdF K H0 F0 A0 s σ T H F A) (p : PVOk K F A v u) (e : dat s v = some (.list xs)) :
    ∃ a vs, u = .ref a ∧ SqL K H a vs ∧ DqAll K F vs xs := by
  cases v with
  | d y =>
    cases e
    cases p with
    | lst h t => exact ⟨_, _, rfl, SqL.of (w.fz.g _ _ h), t⟩
  | scr ns =>
    have e : some (PyData.list (ns.map PyData.int)) = some (.list xs) := e
    injection e with e
    injection e with e
    subst e
    obtain ⟨a, rfl, h⟩ := p
    exact ⟨a, _, rfl, same_l w.fz.g h, ints_dq ns⟩
  | tp ps => cases e
  | gl g => cases e
  | exc y => cases e
  | xd y => cases e
  | dk y => cases e
  | own n =>
    obtain ⟨q, hq, rfl⟩ := p
    have e : ocD s.o[n]? = some (.list xs) := e
    cases ho : s.o[n]? with
    | none => rw [ho] at e; cases e
    | some c =>
      rw [ho] at e
      cases c with
      | no => cases e
      | dl ys =>
        cases e
        obtain ⟨_, vs, h1, h2⟩ := w.oc n q _ hq ho
        exact ⟨_, _, rfl, SqL.of h1, h2⟩
      | di kvs => cases e
      | ml ps => cases e
      | ob _ _ => cases e
      | dm _ => cases e
      | dt _ => cases e
theorem itemsT_ok {K : PySem.W.Frag} {H0 F0 : Hp} {A0 : List Addr} {s : PSt} {σ : St} {T : List (PV × V)} {H F : Hp} {A : List Addr} {v : PV} {u : V} {xs : List PyData} (w : WdF K H0 F0 A0 s σ T H F A) (p : PVOk K F A v u) (e : dat s v = some (.tuple xs)) :
    ∃ a vs, u = .ref a ∧ SqT K H a vs ∧ DqAll K F vs xs := by
  cases v with
  | d y =>
    cases e
    cases p with
    | tup h t => exact ⟨_, _, rfl, same_t w.fz.g h, t⟩
  | scr ns => cases e
  | tp ps => cases e
  | gl g => cases e
  | exc y => cases e
  | xd y => cases e
  | dk y => cases e
  | own n =>
    have e : ocD s.o[n]? = some (.tuple xs) := e
    cases ho : s.o[n]? with
    | none => rw [ho] at e; cases e
    | some c =>
      rw [ho] at e
      cases c <;> cases e

/-! ### freezing -/
def subO (n : Nat) (x : PV) : Option PV → Option PV
  | some (.own m) => if m = n then some x else some (.own m)
  | v => v
theorem subO_eq {n m : Nat} {x : PV} (h : m = n) : subO n x (some (.own m)) = some x := if_pos h
theorem subO_ne {n m : Nat} {x : PV} (h : ¬ m = n) : subO n x (some (.own m)) = some (.own m) := if_neg h
def PSt.frzV (s : PSt) (n : Nat) (x : PV) : PSt := ⟨s.r.map (subO n x), s.o.set n .no⟩
def PSt.frz (s : PSt) (n : Nat) (xs : List PyData) : PSt := s.frzV n (.d (.list xs))
/-- a value made data for good -/
def frz (v : PV) (s : PSt) (k : PyData → PSt → Prop) : Prop :=
  match v with
  | .d x => k x s
  | .own n => ∃ xs, s.o[n]? = some (.dl xs) ∧ k (.list xs) (s.frz n xs)
  | _ => False
section
variable {K : PySem.W.Frag} {H0 F0 : Hp} {A0 : List Addr} {s : PSt} {σ : St} {T : List (PV × V)} {H F : Hp} {A : List Addr}
theorem WdF.frzV {n : Nat} {p : Addr} {ho' : HO} {x : PV} (w : WdF K H0 F0 A0 s σ T H F A) (hp : A[n]? = some p) (ho : n < s.o.length) (fp : F p = none) (hv : H p = some ho') (dD : PVOk K (upd F p ho') A x (.ref p)) : ∃ F', WdF K H0 F0 A0 (s.frzV n x) σ ((x, .ref p) :: T) H F' A := by
  have pA := w.ad p (List.mem_of_getElem? hp)
  have sF : Same F (upd F p ho') := same_new fp
  refine ⟨upd F p ho', ⟨w.fz.f.trans sF, fun a u e => ?_, w.fz.h, fun q h1 h2 => ?_⟩, w.pre, ?_, w.nd, w.ad, fun m q c h1 h2 => ?_, ?_, fun i v e => ?_, fun t ht => ?_⟩
  · by_cases h : a = p
    · subst h; rw [upd_same] at e; rw [← e]; exact hv
    · rw [upd_ne h] at e; exact w.fz.g a u e
  · have hq : q ≠ p := fun z => h1 (z ▸ pA.1)
    rw [upd_ne hq]; exact w.fz.n q h1 h2
  · show A.length = (s.o.set n .no).length
    rw [List.length_set]; exact w.len
  · have h2 : (s.o.set n .no)[m]? = some c := h2
    by_cases hm : m = n
    · subst hm
      rw [List.getElem?_set_self ho] at h2
      cases h2
      trivial
    · rw [List.getElem?_set_ne (Ne.symm hm)] at h2
      have hne : q ≠ p := fun e => by
        subst e
        obtain ⟨l1, e1⟩ := List.getElem?_eq_some_iff.mp h1
        obtain ⟨l2, e2⟩ := List.getElem?_eq_some_iff.mp hp
        exact hm ((List.getElem_inj w.nd).mp (e1.trans e2.symm))
      exact (w.oc m q c h1 h2).mono sF (List.prefix_refl _) (fun z => (upd_ne hne).trans z) fun _ z => z
  · show (s.r.map _).length = _
    rw [List.length_map]; exact w.sl
  · have e : (s.r.map (subO n x))[i]? = some (some v) := e
    rw [List.getElem?_map] at e
    cases hr : s.r[i]? with
    | none => rw [hr] at e; cases e
    | some o =>
      rw [hr] at e
      have e : subO n x o = some v := Option.some.inj e
      cases o with
      | none => cases e
      | some y =>
        obtain ⟨u, a, b⟩ := w.pv i y hr
        cases y with
        | d z =>
          cases e
          exact ⟨u, a, b.mono sF (List.prefix_refl _)⟩
        | scr ns =>
          cases e
          exact ⟨u, a, b.mono sF (List.prefix_refl _)⟩
        | tp ps =>
          cases e
          exact ⟨u, a, b.mono sF (List.prefix_refl _)⟩
        | gl ns =>
          cases e
          exact ⟨u, a, b.mono sF (List.prefix_refl _)⟩
        | exc ns =>
          cases e
          exact ⟨u, a, b.mono sF (List.prefix_refl _)⟩
        | xd ns =>
          cases e
          exact ⟨u, a, b.mono sF (List.prefix_refl _)⟩
        | dk ns =>
          cases e
          exact ⟨u, a, b.mono sF (List.prefix_refl _)⟩
        | own m =>
          by_cases hm : m = n
          · rw [subO_eq hm] at e
            cases e
            subst hm
            obtain ⟨q, hq, rfl⟩ := b
            rw [hp] at hq
            cases hq
            exact ⟨_, a, dD⟩
          · rw [subO_ne hm] at e
            cases e
            exact ⟨u, a, b.mono sF (List.prefix_refl _)⟩
  · rcases List.mem_cons.mp ht with e | ht
    · rw [e]; exact dD
    · exact (w.tm t ht).mono sF (List.prefix_refl _)
theorem WdF.frz {n : Nat} {p : Addr} {xs : List PyData} (w : WdF K H0 F0 A0 s σ T H F A) (hp : A[n]? = some p) (ho : s.o[n]? = some (.dl xs)) : ∃ F', WdF K H0 F0 A0 (s.frz n xs) σ ((.d (.list xs), .ref p) :: T) H F' A := by
  obtain ⟨fp, vs, hv, hd⟩ := w.oc n p _ hp ho
  exact w.frzV hp (List.getElem?_eq_some_iff.mp ho).1 fp hv (show Dq K (upd F p (.lst vs)) (.ref p) (.list xs) from .lst upd_same (dqAll_same (same_new fp) hd))
theorem WdF.frzD {n : Nat} {p : Addr} {kvs : List (Key × PyData)} (w : WdF K H0 F0 A0 s σ T H F A) (hp : A[n]? = some p) (ho : s.o[n]? = some (.di kvs)) : ∃ F', WdF K H0 F0 A0 (s.frzV n (.dk kvs)) σ ((.dk kvs, .ref p) :: T) H F' A := by
  obtain ⟨fp, vs, hv, hk, hd⟩ := w.oc n p _ hp ho
  exact w.frzV hp (List.getElem?_eq_some_iff.mp ho).1 fp hv ⟨p, vs, rfl, upd_same, hk, dqAll_same (same_new fp) hd⟩
/-- the same for the value on the top of the temps -/
theorem frz_ok {v : PV} {u : V} {k : PyData → PSt → Prop} (w : Wd K H0 F0 A0 s σ ((v, u) :: T) H) (h : frz v s k) : ∃ x s', k x s' ∧ Wd K H0 F0 A0 s' σ ((.d x, u) :: T) H := by
  cases v with
  | d x => exact ⟨x, s, h, w⟩
  | scr ns => exact h.elim
  | tp ps => exact h.elim
  | gl g => exact h.elim
  | exc y => exact h.elim
  | xd y => exact h.elim
  | dk y => exact h.elim
  | own n =>
    obtain ⟨xs, ho, hk⟩ := h
    obtain ⟨F, A, w⟩ := w
    obtain ⟨p, hp, rfl⟩ := w.tm _ List.mem_cons_self
    obtain ⟨F', w'⟩ := w.frz hp ho
    refine ⟨_, _, hk, F', A, w'.sub fun t ht => ?_⟩
    rcases List.mem_cons.mp ht with e | ht
    · rw [e]; exact List.mem_cons_self
    · exact List.mem_cons_of_mem _ (List.mem_cons_of_mem _ ht)
end

/-! ### the plain machine's words -/
def wVar (i : Nat) : EW := fun _ s k => ∃ v, s.r[i]? = some (some v) ∧ k v s
def wC (x : PyData) : EW := fun _ s k => k (.d x) s
/-- a two-place operation on data that gives data -/
def wOp (R : PyData → PyData → (PyData → Prop) → Prop) (wa wb : EW) : EW := fun kx s k => wa kx s fun x s1 => wb kx s1 fun y s2 => ∃ a b, dat s2 x = some a ∧ dat s2 y = some b ∧ R a b fun z => k (.d z) s2
/-- .. that gives a new list -/
def wOpL (R : PyData → PyData → (List PyData → Prop) → Prop) (wa wb : EW) : EW := fun kx s k => wa kx s fun x s1 => wb kx s1 fun y s2 => ∃ a b, dat s2 x = some a ∧ dat s2 y = some b ∧ R a b fun zs => k (.own s2.o.length) ⟨s2.r, s2.o ++ [.dl zs]⟩
def wUn (R : PyData → (PyData → Prop) → Prop) (wa : EW) : EW := fun kx s k => wa kx s fun x s1 => ∃ a, dat s1 x = some a ∧ R a fun z => k (.d z) s1

section
variable {X : Cx} {W : WX} {a b : Expr} {wa wb : EW} {pos : Pos}
theorem e_var (i : Nat) {x : Str} (hN : X.N[i]? = some x := by rfl) (hv : Vis X.env.scope x := by first | exact Or.inl rfl | exact Or.inr (Or.inl rfl) | exact Or.inr (Or.inr rfl)) (hd : (x == ("__debug__" : Str)) = false := by decide)
    (hcd : (x == ("__classdict__" : Str)) = false := by decide) : PE X (.Name x pos) (tE X.K W (wVar i)) := by
  refine PE.imp (pe_var hN hv hd hcd) fun σ H Q ⟨H0, F0, A0, s, T, kx, k, w, xl, ⟨v, e, hk⟩, q⟩ => ?_
  obtain ⟨F, A, w⟩ := w
  obtain ⟨u, e2, p⟩ := w.pv i v e
  exact ⟨u, e2, q v s hk u H ⟨F, A, w.push p⟩⟩
theorem e_c {u : V} {x : PyData} (h : PE X a (tC u)) (d : ∀ K H, Dq K H u x) : PE X a (tE X.K W (wC x)) := by
  refine PE.imp h fun σ H Q ⟨H0, F0, A0, s, T, kx, k, w, xl, hk, q⟩ => ?_
  obtain ⟨F, A, w⟩ := w
  exact q _ s hk u H ⟨F, A, w.push (d _ _)⟩
theorem e_int {i : Int} {j : Nat} : PE X (.Constant (.int i) j pos) (tE X.K W (wC (.int i))) := e_c pe_int fun _ _ => .int i
theorem e_str {x : Str} {j : Nat} : PE X (.Constant (.str x) j pos) (tE X.K W (wC (.str x))) := e_c pe_str fun _ _ => .str x
theorem e_bl {b : Bool} {j : Nat} : PE X (.Constant (.bool b) j pos) (tE X.K W (wC (.bool b))) := e_c pe_bl fun _ _ => .bl b
theorem e_non {j : Nat} : PE X (.Constant .none j pos) (tE X.K W (wC .none)) := e_c pe_non fun _ _ => .non
/-- a constant of the module that is an int, a text -/
theorem e_gi {x : Str} {i : Int} (hg : Gl X x) (hm : ∃ t, X.mg x = some (.int i t)) (hd : (x == ("__debug__" : Str)) = false := by decide) : PE X (.Name x pos) (tE X.K W (wC (.int i))) := by
  obtain ⟨t, hm⟩ := hm
  exact e_c (u := .int i) (pe_glob hg hm ⟨t, rfl⟩ hd) fun _ _ => .int i
theorem e_gs {x : Str} {i : Str} (hg : Gl X x) (hm : ∃ t, X.mg x = some (.str i t)) (hd : (x == ("__debug__" : Str)) = false := by decide) : PE X (.Name x pos) (tE X.K W (wC (.str i))) := by
  obtain ⟨t, hm⟩ := hm
  exact e_c (u := .str i) (pe_glob hg hm ⟨t, rfl⟩ hd) fun _ _ => .str i

/-- two operands, then what the values' rule asks -/
theorem tOp_of {r : R2} {σ : St} {H : Hp} {Q : VK} {H0 F0 : Hp} {A0 : List Addr} {s : PSt} {T : List (PV × V)} {kx : KX} {R : PV → PV → PSt → Prop} (w : Wd X.K H0 F0 A0 s σ T H) (xl : XL X.K H0 F0 A0 T W kx)
    (h : wa kx s fun x s1 => wb kx s1 fun y s2 => R x y s2) (hr : ∀ x y s2 u v H2, R x y s2 → Wd X.K H0 F0 A0 s2 σ ((y, v) :: (x, u) :: T) H2 → r u v H2 Q) : tOp r (tE X.K W wa) (tE X.K W wb) σ H Q :=
  ⟨H0, F0, A0, s, T, kx, _, w, xl, h, fun x s1 h1 u H1 w1 => ⟨H0, F0, A0, s1, (x, u) :: T, kx, _, w1, xl.push, h1, fun y s2 h2 v H2 w2 => hr x y s2 u v H2 h2 w2⟩⟩
/-- data that is no object -/
def toV : PyData → Option V
  | .none => some .non
  | .bool b => some (.bl b)
  | .int i => some (.int i)
  | .str x => some (.str x)
  | _ => none
theorem toV_dp {K : PySem.W.Frag} {H : Hp} {z : PyData} {t : V} (h : toV z = some t) : Dq K H t z := by
  cases z with
  | none => cases h; exact .non
  | bool b => cases h; exact .bl b
  | int i => cases h; exact .int i
  | str x => cases h; exact .str x
  | list xs => cases h
  | tuple xs => cases h
  | dict xs => cases h
/-- by a rule on values that gives no object -/
def ROk (K : PySem.W.Frag) (r : R2) (R : PyData → PyData → (PyData → Prop) → Prop) : Prop :=
  ∀ (u v : V) (x y : PyData) (H : Hp) (Q : VK) (P : PyData → Prop), Dp K H u x → Dp K H v y → R x y P → (∀ z t, P z → toV z = some t → Q t H) → r u v H Q
theorem wOp_of {r : R2} {R : PyData → PyData → (PyData → Prop) → Prop} {σ : St} {H : Hp} {Q : VK} (ho : ROk X.K r R) (h : tE X.K W (wOp R wa wb) σ H Q) : tOp r (tE X.K W wa) (tE X.K W wb) σ H Q := by
  obtain ⟨H0, F0, A0, s, T, kx, k, w, xl, h, q⟩ := h
  refine tOp_of w xl h fun x y s2 u v H2 hR w2 => ?_
  obtain ⟨a, b, da, db, hR⟩ := hR
  obtain ⟨F, A, w2⟩ := w2
  refine ho u v a b H2 Q _ (dat_ok w2 (w2.tm _ (List.mem_cons_of_mem _ List.mem_cons_self)) da) (dat_ok w2 (w2.tm _ List.mem_cons_self) db) hR fun z t hz ht => ?_
  exact q _ _ hz t H2 ⟨F, A, (w2.sub fun t h => List.mem_cons_of_mem _ (List.mem_cons_of_mem _ h)).push (toV_dp ht)⟩
theorem e_op {op : Operator} {r : R2} {R : PyData → PyData → (PyData → Prop) → Prop} (hr : OpR X (binaryOp op) r) (ho : ROk X.K r R) (ha : PE X a (tE X.K W wa)) (hb : PE X b (tE X.K W wb)) : PE X (.BinOp a op b pos) (tE X.K W (wOp R wa wb)) :=
  PE.imp (pe_op hr ha hb) fun _ _ _ h => wOp_of ho h
theorem e_cmp {op : CmpOp} {r : R2} {R : PyData → PyData → (PyData → Prop) → Prop} (hr : OpR X (compareOp op) r) (ho : ROk X.K r R) (hm : behindInMarks op b = false) (ha : PE X a (tE X.K W wa)) (hb : PE X b (tE X.K W wb)) : PE X (.Compare a [op] [b] pos) (tE X.K W (wOp R wa wb)) :=
  PE.imp (pe_cmpR hr ha hb hm) fun _ _ _ h => wOp_of ho h

/-! ### the operations -/
def rAddD : PyData → PyData → (PyData → Prop) → Prop := fun a b q => match a, b with
  | .int i, .int j => q (.int (i + j))
  | .str x, .str y => x.length + y.length ≤ sizeLine ∧ q (.str (x ++ y))
  | _, _ => False
def rSubD : PyData → PyData → (PyData → Prop) → Prop := fun a b q => match a, b with
  | .int i, .int j => q (.int (i - j))
  | _, _ => False
def rMulD : PyData → PyData → (PyData → Prop) → Prop := fun a b q => match a, b with
  | .int i, .int j => CMul i j ∧ q (.int (i * j))
  | _, _ => False
def rModD : PyData → PyData → (PyData → Prop) → Prop := fun a b q => match a, b with
  | .int i, .int j => 0 < j ∧ q (.int (i % j))
  | _, _ => False
def rDivD : PyData → PyData → (PyData → Prop) → Prop := fun a b q => match a, b with
  | .int i, .int j => CDiv i j ∧ q (.int (i / j))
  | _, _ => False
theorem dp_int {K : PySem.W.Frag} {H : Hp} {u : V} {i : Int} (h : Dp K H u (.int i)) : u = .int i := by cases h; rfl
theorem dp_str {K : PySem.W.Frag} {H : Hp} {u : V} {i : Str} (h : Dp K H u (.str i)) : u = .str i := by cases h; rfl
theorem dp_bl {K : PySem.W.Frag} {H : Hp} {u : V} {i : Bool} (h : Dp K H u (.bool i)) : u = .bl i := by cases h; rfl
theorem dp_non {K : PySem.W.Frag} {H : Hp} {u : V} (h : Dp K H u .none) : u = .non := by cases h; rfl
theorem op_addD : OpR X (binaryOp .Add) (fun x y H Q => (rI0 fun i j => .int (i + j)) x y H Q ∨ ∃ i j, x = .str i ∧ y = .str j ∧ i.length + j.length ≤ sizeLine ∧ Q (.str (i ++ j)) H) := op_add.or op_add_str
theorem ok_addD {K : PySem.W.Frag} : ROk K (fun x y H Q => (rI0 fun i j => .int (i + j)) x y H Q ∨ ∃ i j, x = .str i ∧ y = .str j ∧ i.length + j.length ≤ sizeLine ∧ Q (.str (i ++ j)) H) rAddD := by
  intro u v x y H Q P hx hy h q
  cases x <;> cases y <;> try exact h.elim
  · cases dp_int hx; cases dp_int hy
    exact .inl ⟨_, _, rfl, rfl, q _ _ h rfl⟩
  · cases dp_str hx; cases dp_str hy
    exact .inr ⟨_, _, rfl, rfl, h.1, q _ _ h.2 rfl⟩
theorem ok_subD {K : PySem.W.Frag} : ROk K (rI0 fun i j => .int (i - j)) rSubD := by
  intro u v x y H Q P hx hy h q
  cases x <;> cases y <;> try exact h.elim
  cases dp_int hx; cases dp_int hy
  exact ⟨_, _, rfl, rfl, q _ _ h rfl⟩
theorem ok_mulD {K : PySem.W.Frag} : ROk K (rI CMul fun i j => .int (i * j)) rMulD := by
  intro u v x y H Q P hx hy h q
  cases x <;> cases y <;> try exact h.elim
  cases dp_int hx; cases dp_int hy
  exact ⟨_, _, rfl, rfl, h.1, q _ _ h.2 rfl⟩
theorem ok_modD {K : PySem.W.Frag} : ROk K (rI (fun _ j => 0 < j) fun i j => .int (i % j)) rModD := by
  intro u v x y H Q P hx hy h q
  cases x <;> cases y <;> try exact h.elim
  cases dp_int hx; cases dp_int hy
  exact ⟨_, _, rfl, rfl, h.1, q _ _ h.2 rfl⟩
theorem ok_divD {K : PySem.W.Frag} : ROk K (rI CDiv fun i j => .int (i / j)) rDivD := by
  intro u v x y H Q P hx hy h q
  cases x <;> cases y <;> try exact h.elim
  cases dp_int hx; cases dp_int hy
  exact ⟨_, _, rfl, rfl, h.1, q _ _ h.2 rfl⟩
abbrev wAdd := wOp rAddD
abbrev wSub := wOp rSubD
abbrev wMul := wOp rMulD
abbrev wMod := wOp rModD
abbrev wDiv := wOp rDivD
theorem e_add (ha : PE X a (tE X.K W wa)) (hb : PE X b (tE X.K W wb)) : PE X (.BinOp a .Add b pos) (tE X.K W (wAdd wa wb)) := e_op op_addD ok_addD ha hb
theorem e_sub (ha : PE X a (tE X.K W wa)) (hb : PE X b (tE X.K W wb)) : PE X (.BinOp a .Sub b pos) (tE X.K W (wSub wa wb)) := e_op op_sub ok_subD ha hb
theorem e_mul (ha : PE X a (tE X.K W wa)) (hb : PE X b (tE X.K W wb)) : PE X (.BinOp a .Mult b pos) (tE X.K W (wMul wa wb)) := e_op op_mul ok_mulD ha hb
theorem e_mod (ha : PE X a (tE X.K W wa)) (hb : PE X b (tE X.K W wb)) : PE X (.BinOp a .Mod b pos) (tE X.K W (wMod wa wb)) := e_op op_mod ok_modD ha hb
theorem e_div (ha : PE X a (tE X.K W wa)) (hb : PE X b (tE X.K W wb)) : PE X (.BinOp a .FloorDiv b pos) (tE X.K W (wDiv wa wb)) := e_op op_fdiv ok_divD ha hb

/-- comparisons of ints -/
def rCmpD (g : Int → Int → Bool) : PyData → PyData → (PyData → Prop) → Prop := fun a b q => match a, b with
  | .int i, .int j => q (.bool (g i j))
  | _, _ => False
theorem ok_cmpD {K : PySem.W.Frag} {g : Int → Int → Bool} : ROk K (rI0 fun i j => .bl (g i j)) (rCmpD g) := by
  intro u v x y H Q P hx hy h q
  cases x <;> cases y <;> try exact h.elim
  cases dp_int hx; cases dp_int hy
  exact ⟨_, _, rfl, rfl, q _ _ h rfl⟩
abbrev wLt := wOp (rCmpD fun i j => decide (i < j))
abbrev wLe := wOp (rCmpD fun i j => decide (i ≤ j))
abbrev wGt := wOp (rCmpD fun i j => decide (j < i))
abbrev wGe := wOp (rCmpD fun i j => decide (j ≤ i))
theorem e_lt (ha : PE X a (tE X.K W wa)) (hb : PE X b (tE X.K W wb)) : PE X (.Compare a [.Lt] [b] pos) (tE X.K W (wLt wa wb)) := e_cmp op_lt ok_cmpD (nomark _) ha hb
theorem e_le (ha : PE X a (tE X.K W wa)) (hb : PE X b (tE X.K W wb)) : PE X (.Compare a [.LtE] [b] pos) (tE X.K W (wLe wa wb)) := e_cmp op_le ok_cmpD (nomark _) ha hb
theorem e_gt (ha : PE X a (tE X.K W wa)) (hb : PE X b (tE X.K W wb)) : PE X (.Compare a [.Gt] [b] pos) (tE X.K W (wGt wa wb)) := e_cmp op_gt ok_cmpD (nomark _) ha hb
theorem e_ge (ha : PE X a (tE X.K W wa)) (hb : PE X b (tE X.K W wb)) : PE X (.Compare a [.GtE] [b] pos) (tE X.K W (wGe wa wb)) := e_cmp op_ge ok_cmpD (nomark _) ha hb

/-- == of data: flat ones, or any whose shape is known -/
def flatD : PyData → Bool
  | .none | .int _ | .str _ | .bool _ => true
  | _ => false
def eqOk (a b : PyData) : Bool := (match a, b with
  | .none, .none | .none, .int _ | .int _, .none | .none, .bool _ | .bool _, .none | .none, .str _ | .str _, .none
  | .int _, .int _ | .bool _, .bool _ | .str _, .str _ | .int _, .str _ | .str _, .int _ | .bool _, .str _ | .str _, .bool _ => true
  | _, _ => false) || (SeqAt.shaped a && SeqAt.shaped b)
def rEqP (n : Bool) : PyData → PyData → (PyData → Prop) → Prop := fun a b q => eqOk a b = true ∧ q (.bool (if n then !PyData.eqv a b else PyData.eqv a b))
theorem op_eqB (hu : X.A.units + 64 < cLine) : OpR X (compareOp .Eq) (fun x y H Q => rEq x y H Q ∨ rEqD X.K x y H Q) := op_eq.or (op_eqD hu)
theorem op_neB (hu : X.A.units + 64 < cLine) : OpR X (compareOp .NotEq) (fun x y H Q => rNe x y H Q ∨ rNeD X.K x y H Q) := op_ne.or (op_neD hu)
theorem eqv_flat {K : PySem.W.Frag} {H : Hp} {u v : V} {a b : PyData} (ha : Dp K H u a) (hb : Dp K H v b) (h : eqOk a b = true) (hn : ¬ (SeqAt.shaped a && SeqAt.shaped b) = true) : scal u v = true ∧ decide (u = v) = PyData.eqv a b := by
  unfold eqOk at h
  rw [Bool.or_eq_true] at h
  rcases h with h | h
  · cases a <;> cases b <;> first | cases h | skip
    all_goals (cases ha; cases hb)
    all_goals first | exact ⟨rfl, rfl⟩ | (refine ⟨rfl, ?_⟩; simp [PyData.eqv]; done) | (refine ⟨rfl, ?_⟩; simp [PyData.eqv]; rw [Bool.eq_iff_iff]; simp)
  · exact absurd h hn
theorem ok_eqP {K : PySem.W.Frag} : ROk K (fun x y H Q => rEq x y H Q ∨ rEqD K x y H Q) (rEqP false) := by
  intro u v x y H Q P hx hy h q
  by_cases hs : (SeqAt.shaped x && SeqAt.shaped y) = true
  · rw [Bool.and_eq_true] at hs
    exact .inr ⟨x, y, hx, hy, hs.1, hs.2, q _ _ h.2 rfl⟩
  · obtain ⟨h1, h2⟩ := eqv_flat hx hy h.1 hs
    exact .inl ⟨h1, by rw [h2]; exact q _ _ h.2 rfl⟩
theorem ok_neP {K : PySem.W.Frag} : ROk K (fun x y H Q => rNe x y H Q ∨ rNeD K x y H Q) (rEqP true) := by
  intro u v x y H Q P hx hy h q
  by_cases hs : (SeqAt.shaped x && SeqAt.shaped y) = true
  · rw [Bool.and_eq_true] at hs
    exact .inr ⟨x, y, hx, hy, hs.1, hs.2, q _ _ h.2 rfl⟩
  · obtain ⟨h1, h2⟩ := eqv_flat hx hy h.1 hs
    exact .inl ⟨h1, by rw [h2]; exact q _ _ h.2 rfl⟩
abbrev wEq := wOp (rEqP false)
abbrev wNe := wOp (rEqP true)
theorem e_eq (hu : X.A.units + 64 < cLine) (ha : PE X a (tE X.K W wa)) (hb : PE X b (tE X.K W wb)) : PE X (.Compare a [.Eq] [b] pos) (tE X.K W (wEq wa wb)) := e_cmp (op_eqB hu) ok_eqP (nomark _) ha hb
theorem e_ne (hu : X.A.units + 64 < cLine) (ha : PE X a (tE X.K W wa)) (hb : PE X b (tE X.K W wb)) : PE X (.Compare a [.NotEq] [b] pos) (tE X.K W (wNe wa wb)) := e_cmp (op_neB hu) ok_neP (nomark _) ha hb
end
end PW
namespace PW
open PySem L2
section
variable {X : Cx} {W : WX} {a b c : Expr} {wa wb : EW} {ta tb : TW} {pos : Pos} {rest : List Expr}
/-! ### is, in -/
def isNoneD : PyData → Bool
  | .none => true
  | _ => false
def wIsN (wa : EW) : EW := fun kx s k => wa kx s fun x s1 => ∃ d, dat s1 x = some d ∧ k (.d (.bool (isNoneD d))) s1
def wNotN (wa : EW) : EW := fun kx s k => wa kx s fun x s1 => ∃ d, dat s1 x = some d ∧ k (.d (.bool (!isNoneD d))) s1
theorem isN_dp {K : PySem.W.Frag} {H : Hp} {u : V} {d : PyData} (h : Dp K H u d) : decide (u = .non) = isNoneD d := by
  cases h <;> simp [isNoneD]
theorem notN_dp {K : PySem.W.Frag} {H : Hp} {u : V} {d : PyData} (h : Dp K H u d) : (!decide (u = .non)) = (!isNoneD d) := by
  cases h <;> simp [isNoneD]
theorem un_of {σ : St} {H : Hp} {H0 F0 : Hp} {A0 : List Addr} {s : PSt} {T : List (PV × V)} {kx : KX} {R : PV → PSt → Prop} {Q : VK} (w : Wd X.K H0 F0 A0 s σ T H) (xl : XL X.K H0 F0 A0 T W kx)
    (h : wa kx s R) (hr : ∀ x s1 u H1, R x s1 → Wd X.K H0 F0 A0 s1 σ ((x, u) :: T) H1 → Q u H1) : tE X.K W wa σ H Q := ⟨H0, F0, A0, s, T, kx, R, w, xl, h, fun x s1 h1 u H1 w1 => hr x s1 u H1 h1 w1⟩
theorem e_isN {j : Nat} {pos' : Pos} (ha : PE X a (tE X.K W wa)) : PE X (.Compare a [.Is] [.Constant .none j pos'] pos) (tE X.K W (wIsN wa)) := by
  refine PE.imp (pe_cmp (pc_isN ha)) fun σ H Q ⟨H0, F0, A0, s, T, kx, k, w, xl, h, q⟩ => un_of w xl h fun x s1 u H1 h1 w1 => ?_
  obtain ⟨d, hd, hk⟩ := h1
  obtain ⟨F, A, w1⟩ := w1
  rw [isN_dp (dat_ok w1 (w1.tm _ List.mem_cons_self) hd)]
  exact q _ _ hk _ H1 ⟨F, A, (w1.sub fun t h => List.mem_cons_of_mem _ h).push (.bl _)⟩
theorem e_notN {j : Nat} {pos' : Pos} (ha : PE X a (tE X.K W wa)) : PE X (.Compare a [.IsNot] [.Constant .none j pos'] pos) (tE X.K W (wNotN wa)) := by
  refine PE.imp (pe_cmp (pc_notN ha)) fun σ H Q ⟨H0, F0, A0, s, T, kx, k, w, xl, h, q⟩ => un_of w xl h fun x s1 u H1 h1 w1 => ?_
  obtain ⟨d, hd, hk⟩ := h1
  obtain ⟨F, A, w1⟩ := w1
  rw [notN_dp (dat_ok w1 (w1.tm _ List.mem_cons_self) hd)]
  exact q _ _ hk _ H1 ⟨F, A, (w1.sub fun t h => List.mem_cons_of_mem _ h).push (.bl _)⟩
/-- in a text, by one sign or any text; in a list or tuple -/
def inD (a : PyData) (xs : List PyData) : Bool := xs.any fun z => PyData.eqv z a
def rInP (n : Bool) : PyData → PyData → (PyData → Prop) → Prop := fun a b q => match a, b with
  | .str x, .str y => (∃ c, x = ⟨#[c]⟩ ∧ q (.bool (if n then !decide (c ∈ y.cps.toList) else decide (c ∈ y.cps.toList))))
  | a, .list ys => SeqAt.shaped a = true ∧ SeqAt.shaped (.list ys) = true ∧ q (.bool (if n then !inD a ys else inD a ys))
  | a, .tuple ys => flatD a = true ∧ ys.all flatD = true ∧ q (.bool (if n then !inD a ys else inD a ys))
  | _, _ => False
theorem flat_dp {K : PySem.W.Frag} {H : Hp} {u : V} {d : PyData} (h : Dp K H u d) (f : flatD d = true) : flatV u = true := by
  cases h <;> first | rfl | cases f
theorem flatAll_dp {K : PySem.W.Frag} {H : Hp} : ∀ {us : List V} {ds : List PyData}, DpAll K H us ds → ds.all flatD = true → us.all flatV = true
  | _, _, .nil, _ => rfl
  | _, _, .cons h t, f => by
    rw [List.all_cons, Bool.and_eq_true] at f
    rw [List.all_cons, flat_dp h f.1, flatAll_dp t f.2]
    rfl
theorem eqV_dp {K : PySem.W.Frag} {H : Hp} {u v : V} {a b : PyData} (ha : Dp K H u a) (hb : Dp K H v b) (fa : flatD a = true) (fb : flatD b = true) : eqV u v = PyData.eqv a b := by
  cases ha <;> cases hb <;> first | cases fa | cases fb | skip
  all_goals simp [eqV, PyData.eqv]
theorem inV_dp {K : PySem.W.Frag} {H : Hp} {u : V} {a : PyData} (ha : Dp K H u a) (fa : flatD a = true) : ∀ {us : List V} {ds : List PyData}, DpAll K H us ds → ds.all flatD = true → inV u us = inD a ds
  | _, _, .nil, _ => rfl
  | _, _, .cons h t, f => by
    rw [List.all_cons, Bool.and_eq_true] at f
    show (eqV _ u || inV u _) = (PyData.eqv _ a || inD a _)
    rw [eqV_dp h ha f.1 fa, inV_dp ha fa t f.2]
def rInR (K : PySem.W.Frag) : R2 := fun x y H Q => (∃ (c : Nat) (z : Str), x = .str ⟨#[c]⟩ ∧ y = .str z ∧ Q (.bl (decide (c ∈ z.cps.toList))) H) ∨ rInD K x y H Q ∨ rIn K false x y H Q
def rNotInR (K : PySem.W.Frag) : R2 := fun x y H Q => (∃ (c : Nat) (z : Str), x = .str ⟨#[c]⟩ ∧ y = .str z ∧ Q (.bl (!decide (c ∈ z.cps.toList))) H) ∨ rNotInD K x y H Q ∨ rIn K true x y H Q
theorem op_inR (hu : X.A.units + 65 < cLine) : OpR X (compareOp .In) (rInR X.K) := op_in_sign.or ((op_inD hu).or op_in_seq)
theorem op_notInR (hu : X.A.units + 65 < cLine) : OpR X (compareOp .NotIn) (rNotInR X.K) := op_notIn_sign.or ((op_notInD hu).or op_notIn_seq)
theorem ok_inP {K : PySem.W.Frag} : ROk K (rInR K) (rInP false) := by
  intro u v x y H Q P hx hy h q
  cases y with
  | str z =>
    cases x <;> try exact h.elim
    cases dp_str hx; cases dp_str hy
    obtain ⟨c, rfl, h⟩ := h
    exact .inl ⟨c, z, rfl, rfl, q _ _ h rfl⟩
  | list ys =>
    have h : SeqAt.shaped x = true ∧ SeqAt.shaped (.list ys) = true ∧ P (.bool (inD x ys)) := by
      cases x <;> exact h
    exact .inr (.inl ⟨x, ys, hx, hy, h.1, h.2.1, q _ _ h.2.2 rfl⟩)
  | tuple ys =>
    have h : flatD x = true ∧ ys.all flatD = true ∧ P (.bool (inD x ys)) := by
      cases x <;> exact h
    cases hy with
    | tup hs ht =>
      refine .inr (.inr ⟨_, _, rfl, .inr hs, flat_dp hx h.1, flatAll_dp ht h.2.1, ?_⟩)
      show Q (.bl (inV u _)) H
      rw [inV_dp hx h.1 ht h.2.1]
      exact q _ _ h.2.2 rfl
  | _ => cases x <;> exact h.elim
theorem ok_notInP {K : PySem.W.Frag} : ROk K (rNotInR K) (rInP true) := by
  intro u v x y H Q P hx hy h q
  cases y with
  | str z =>
    cases x <;> try exact h.elim
    cases dp_str hx; cases dp_str hy
    obtain ⟨c, rfl, h⟩ := h
    exact .inl ⟨c, z, rfl, rfl, q _ _ h rfl⟩
  | list ys =>
    have h : SeqAt.shaped x = true ∧ SeqAt.shaped (.list ys) = true ∧ P (.bool (!inD x ys)) := by
      cases x <;> exact h
    exact .inr (.inl ⟨x, ys, hx, hy, h.1, h.2.1, q _ _ h.2.2 rfl⟩)
  | tuple ys =>
    have h : flatD x = true ∧ ys.all flatD = true ∧ P (.bool (!inD x ys)) := by
      cases x <;> exact h
    cases hy with
    | tup hs ht =>
      refine .inr (.inr ⟨_, _, rfl, .inr hs, flat_dp hx h.1, flatAll_dp ht h.2.1, ?_⟩)
      show Q (.bl (!inV u _)) H
      rw [inV_dp hx h.1 ht h.2.1]
      exact q _ _ h.2.2 rfl
  | _ => cases x <;> exact h.elim
abbrev wIn := wOp (rInP false)
abbrev wNotIn := wOp (rInP true)
theorem e_in (hu : X.A.units + 65 < cLine) (hm : behindInMarks .In b = false) (ha : PE X a (tE X.K W wa)) (hb : PE X b (tE X.K W wb)) : PE X (.Compare a [.In] [b] pos) (tE X.K W (wIn wa wb)) := e_cmp (op_inR hu) ok_inP hm ha hb
theorem e_notIn (hu : X.A.units + 65 < cLine) (hm : behindInMarks .NotIn b = false) (ha : PE X a (tE X.K W wa)) (hb : PE X b (tE X.K W wb)) : PE X (.Compare a [.NotIn] [b] pos) (tE X.K W (wNotIn wa wb)) := e_cmp (op_notInR hu) ok_notInP hm ha hb

/-! ### tests -/
/-- an expression whose value is a bool -/
def wB (wa : EW) : TW := fun kx s k => wa kx s fun x s1 => ∃ c, x = .d (.bool c) ∧ k c s1
theorem tB_of {σ : St} {H : Hp} {Q : Bool → Hp → Prop} (h : tT X.K W (wB wa) σ H Q) : tB (tE X.K W wa) σ H Q := by
  obtain ⟨H0, F0, A0, s, T, kx, k, w, xl, h, q⟩ := h
  refine un_of w xl h fun x s1 u H1 h1 w1 => ?_
  obtain ⟨c, rfl, hk⟩ := h1
  obtain ⟨F, A, w1⟩ := w1
  exact ⟨c, dp_bl (dq_dp (w1.tm _ List.mem_cons_self)), q c s1 hk H1 ⟨F, A, w1.sub fun t h => List.mem_cons_of_mem _ h⟩⟩
/-- a comparison as a test: e_eq and its like hand on PE of the comparison -/
theorem t_op {op : CmpOp} {r : R2} {R : PyData → PyData → (PyData → Prop) → Prop} (hr : OpR X (compareOp op) r) (ho : ROk X.K r R) (hm : behindInMarks op b = false) (ha : PE X a (tE X.K W wa)) (hb : PE X b (tE X.K W wb)) : PT X (.Compare a [op] [b] pos) (tT X.K W (wB (wOp R wa wb))) := by
  refine PT.imp (pt_cmpR hr ha hb hm) fun σ H Q ⟨H0, F0, A0, s, T, kx, k, w, xl, h, q⟩ => ?_
  refine wOp_of ho ⟨H0, F0, A0, s, T, kx, _, w, xl, h, fun v s1 h1 u H1 w1 => ?_⟩
  obtain ⟨c, rfl, hk⟩ := h1
  obtain ⟨F, A, w1⟩ := w1
  exact ⟨c, dp_bl (dq_dp (w1.tm _ List.mem_cons_self)), q c s1 hk H1 ⟨F, A, w1.sub fun t h => List.mem_cons_of_mem _ h⟩⟩
theorem t_eq (hu : X.A.units + 64 < cLine) (ha : PE X a (tE X.K W wa)) (hb : PE X b (tE X.K W wb)) : PT X (.Compare a [.Eq] [b] pos) (tT X.K W (wB (wEq wa wb))) := t_op (op_eqB hu) ok_eqP (nomark _) ha hb
theorem t_ne (hu : X.A.units + 64 < cLine) (ha : PE X a (tE X.K W wa)) (hb : PE X b (tE X.K W wb)) : PT X (.Compare a [.NotEq] [b] pos) (tT X.K W (wB (wNe wa wb))) := t_op (op_neB hu) ok_neP (nomark _) ha hb
theorem t_lt (ha : PE X a (tE X.K W wa)) (hb : PE X b (tE X.K W wb)) : PT X (.Compare a [.Lt] [b] pos) (tT X.K W (wB (wLt wa wb))) := t_op op_lt ok_cmpD (nomark _) ha hb
theorem t_le (ha : PE X a (tE X.K W wa)) (hb : PE X b (tE X.K W wb)) : PT X (.Compare a [.LtE] [b] pos) (tT X.K W (wB (wLe wa wb))) := t_op op_le ok_cmpD (nomark _) ha hb
theorem t_gt (ha : PE X a (tE X.K W wa)) (hb : PE X b (tE X.K W wb)) : PT X (.Compare a [.Gt] [b] pos) (tT X.K W (wB (wGt wa wb))) := t_op op_gt ok_cmpD (nomark _) ha hb
theorem t_ge (ha : PE X a (tE X.K W wa)) (hb : PE X b (tE X.K W wb)) : PT X (.Compare a [.GtE] [b] pos) (tT X.K W (wB (wGe wa wb))) := t_op op_ge ok_cmpD (nomark _) ha hb
theorem t_in (hu : X.A.units + 65 < cLine) (hm : behindInMarks .In b = false) (ha : PE X a (tE X.K W wa)) (hb : PE X b (tE X.K W wb)) : PT X (.Compare a [.In] [b] pos) (tT X.K W (wB (wIn wa wb))) := t_op (op_inR hu) ok_inP hm ha hb
theorem t_notIn (hu : X.A.units + 65 < cLine) (hm : behindInMarks .NotIn b = false) (ha : PE X a (tE X.K W wa)) (hb : PE X b (tE X.K W wb)) : PT X (.Compare a [.NotIn] [b] pos) (tT X.K W (wB (wNotIn wa wb))) := t_op (op_notInR hu) ok_notInP hm ha hb
theorem t_isN {j : Nat} {pos' : Pos} (ha : PE X a (tE X.K W wa)) : PT X (.Compare a [.Is] [.Constant .none j pos'] pos) (tT X.K W (wB (wIsN wa))) := by
  refine PT.imp (pt_cmp (pc_isN ha)) fun σ H Q ⟨H0, F0, A0, s, T, kx, k, w, xl, h, q⟩ => un_of w xl h fun x s1 u H1 h1 w1 => ?_
  obtain ⟨d, hd, c, e, hk⟩ := h1
  obtain ⟨F, A, w1⟩ := w1
  injection e with e
  injection e with e
  exact ⟨c, by rw [isN_dp (dat_ok w1 (w1.tm _ List.mem_cons_self) hd), e], q _ _ hk H1 ⟨F, A, w1.sub fun t h => List.mem_cons_of_mem _ h⟩⟩
theorem t_notN {j : Nat} {pos' : Pos} (ha : PE X a (tE X.K W wa)) : PT X (.Compare a [.IsNot] [.Constant .none j pos'] pos) (tT X.K W (wB (wNotN wa))) := by
  refine PT.imp (pt_cmp (pc_notN ha)) fun σ H Q ⟨H0, F0, A0, s, T, kx, k, w, xl, h, q⟩ => un_of w xl h fun x s1 u H1 h1 w1 => ?_
  obtain ⟨d, hd, c, e, hk⟩ := h1
  obtain ⟨F, A, w1⟩ := w1
  injection e with e
  injection e with e
  exact ⟨c, by rw [notN_dp (dat_ok w1 (w1.tm _ List.mem_cons_self) hd), e], q _ _ hk H1 ⟨F, A, w1.sub fun t h => List.mem_cons_of_mem _ h⟩⟩
/-- any expression whose value is a bool -/
theorem t_val (h : PE X a (tE X.K W wa)) (he : ∀ whole, isTrue a X.env whole = (do let v ← whole; standAt a.pos; holding [v] (truthy v)) := by intro _; rfl) : PT X a (tT X.K W (wB wa)) := PT.imp (pt_val h he) fun _ _ _ h => tB_of h
/-- truth -/
def truD : PyData → (Bool → Prop) → Prop := fun x q => match x with
  | .none => q false
  | .bool b => q b
  | .int i => q (i != 0)
  | .str y => y.length ≤ sizeLine ∧ q ((y.length : Int) != 0)
  | .list xs => q (!xs.isEmpty)
  | .tuple xs => q (!xs.isEmpty)
  | .dict _ => False
def wTru (wa : EW) : TW := fun kx s k => wa kx s fun x s1 => ∃ d, dat s1 x = some d ∧ truD d fun c => k c s1
theorem dpAll_isEmpty {K : PySem.W.Frag} {H : Hp} : ∀ {us : List V} {ds : List PyData}, DpAll K H us ds → us.isEmpty = ds.isEmpty
  | _, _, .nil => rfl
  | _, _, .cons _ _ => rfl
theorem tru_dp {K : PySem.W.Frag} {H : Hp} {u : V} {d : PyData} {P : Bool → Prop} (h : Dp K H u d) (t : truD d P) : ∃ k, TruV K u H k ∧ P k := by
  cases h with
  | non => exact ⟨_, rfl, t⟩
  | bl b => exact ⟨_, rfl, t⟩
  | int i => exact ⟨_, rfl, t⟩
  | str x => exact ⟨_, ⟨t.1, rfl⟩, t.2⟩
  | lst h r => exact ⟨_, .inl ⟨_, h, rfl⟩, by rw [dpAll_isEmpty r]; exact t⟩
  | tup h r => exact ⟨_, .inr (.inl ⟨_, h, rfl⟩), by rw [dpAll_isEmpty r]; exact t⟩
theorem t_tru (ha : PE X a (tE X.K W wa)) (he : ∀ whole, isTrue a X.env whole = (do let v ← whole; standAt a.pos; holding [v] (truthy v)) := by intro _; rfl) : PT X a (tT X.K W (wTru wa)) := by
  refine PT.imp (pt_truth ha he) fun σ H Q ⟨H0, F0, A0, s, T, kx, k, w, xl, h, q⟩ => un_of w xl h fun x s1 u H1 h1 w1 => ?_
  obtain ⟨d, hd, t⟩ := h1
  obtain ⟨F, A, w1⟩ := w1
  obtain ⟨c, h1, h2⟩ := tru_dp (dat_ok w1 (w1.tm _ List.mem_cons_self) hd) t
  exact ⟨c, h1, q c s1 h2 H1 ⟨F, A, w1.sub fun t h => List.mem_cons_of_mem _ h⟩⟩
def wAnd (t u : TW) : TW := fun kx s k => t kx s fun c s1 => (c = true → u kx s1 k) ∧ (c = false → k false s1)
def wOr (t u : TW) : TW := fun kx s k => t kx s fun c s1 => (c = true → k true s1) ∧ (c = false → u kx s1 k)
def wNot (t : TW) : TW := fun kx s k => t kx s fun c s1 => k (!c) s1
theorem tAnd_of {σ : St} {H : Hp} {Q : Bool → Hp → Prop} (h : tT X.K W (wAnd ta tb) σ H Q) : tAnd (tT X.K W ta) (tT X.K W tb) σ H Q := by
  obtain ⟨H0, F0, A0, s, T, kx, k, w, xl, h, q⟩ := h
  refine ⟨H0, F0, A0, s, T, kx, _, w, xl, h, fun c s1 h1 H1 w1 => ?_⟩
  cases c with
  | true => exact iteT ⟨H0, F0, A0, s1, T, kx, k, w1, xl, h1.1 rfl, q⟩
  | false => exact iteF (q _ _ (h1.2 rfl) H1 w1)
theorem tOr_of {σ : St} {H : Hp} {Q : Bool → Hp → Prop} (h : tT X.K W (wOr ta tb) σ H Q) : tOr (tT X.K W ta) (tT X.K W tb) σ H Q := by
  obtain ⟨H0, F0, A0, s, T, kx, k, w, xl, h, q⟩ := h
  refine ⟨H0, F0, A0, s, T, kx, _, w, xl, h, fun c s1 h1 H1 w1 => ?_⟩
  cases c with
  | true => exact iteT (q _ _ (h1.1 rfl) H1 w1)
  | false => exact iteF ⟨H0, F0, A0, s1, T, kx, k, w1, xl, h1.2 rfl, q⟩
theorem t_and1 (ha : PT X a (tT X.K W ta)) : L2.PW X (.BoolOp .And [a] pos) (tT X.K W ta) := pw_and1 ha
theorem t_or1 (ha : PT X a (tT X.K W ta)) : L2.PW X (.BoolOp .Or [a] pos) (tT X.K W ta) := pw_or1 ha
theorem t_andC (ha : PT X a (tT X.K W ta)) (hb : L2.PW X (.BoolOp .And (b :: rest) pos) (tT X.K W tb)) : L2.PW X (.BoolOp .And (a :: b :: rest) pos) (tT X.K W (wAnd ta tb)) := PWi.imp (pw_and ha hb) fun _ _ _ h => tAnd_of h
theorem t_orC (ha : PT X a (tT X.K W ta)) (hb : L2.PW X (.BoolOp .Or (b :: rest) pos) (tT X.K W tb)) : L2.PW X (.BoolOp .Or (a :: b :: rest) pos) (tT X.K W (wOr ta tb)) := PWi.imp (pw_or ha hb) fun _ _ _ h => tOr_of h
theorem t_pw {e : Expr} (h : L2.PW X e (tT X.K W ta)) : PT X e (tT X.K W ta) := h.pt
theorem t_not (ha : PT X a (tT X.K W ta)) : PT X (.UnaryOp .Not a pos) (tT X.K W (wNot ta)) := by
  refine PT.imp (pt_not ha) fun σ H Q ⟨H0, F0, A0, s, T, kx, k, w, xl, h, q⟩ => ?_
  exact ⟨H0, F0, A0, s, T, kx, _, w, xl, h, fun c s1 h1 H1 w1 => q _ _ h1 H1 w1⟩
/-- and, or, not as values (of bools) -/
def wAndV (wa wb : EW) : EW := fun kx s k => wa kx s fun x s1 => ∃ c, x = .d (.bool c) ∧ (c = true → wb kx s1 k) ∧ (c = false → k (.d (.bool false)) s1)
def wOrV (wa wb : EW) : EW := fun kx s k => wa kx s fun x s1 => ∃ c, x = .d (.bool c) ∧ (c = true → k (.d (.bool true)) s1) ∧ (c = false → wb kx s1 k)
def wNotV (wa : EW) : EW := fun kx s k => wa kx s fun x s1 => ∃ c, x = .d (.bool c) ∧ k (.d (.bool (!c))) s1
def wIf (t : TW) (wa wb : EW) : EW := fun kx s k => t kx s fun c s1 => (c = true → wa kx s1 k) ∧ (c = false → wb kx s1 k)
theorem e_andC (ha : PE X a (tE X.K W wa)) (hb : PE X (.BoolOp .And (b :: rest) pos) (tE X.K W wb)) : PE X (.BoolOp .And (a :: b :: rest) pos) (tE X.K W (wAndV wa wb)) := by
  refine PE.imp (pe_and ha hb) fun σ H Q ⟨H0, F0, A0, s, T, kx, k, w, xl, h, q⟩ => un_of w xl h fun x s1 u H1 h1 w1 => ?_
  obtain ⟨c, rfl, h1, h2⟩ := h1
  obtain ⟨F, A, w1⟩ := w1
  refine ⟨c, dp_bl (dq_dp (w1.tm _ List.mem_cons_self)), ?_⟩
  have w2 := w1.sub (T' := T) fun t h => List.mem_cons_of_mem _ h
  cases c with
  | true => exact iteT ⟨H0, F0, A0, s1, T, kx, k, ⟨F, A, w2⟩, xl, h1 rfl, q⟩
  | false => exact iteF (q _ _ (h2 rfl) _ H1 ⟨F, A, w2.push (.bl _)⟩)
theorem e_orC (ha : PE X a (tE X.K W wa)) (hb : PE X (.BoolOp .Or (b :: rest) pos) (tE X.K W wb)) : PE X (.BoolOp .Or (a :: b :: rest) pos) (tE X.K W (wOrV wa wb)) := by
  refine PE.imp (pe_or ha hb) fun σ H Q ⟨H0, F0, A0, s, T, kx, k, w, xl, h, q⟩ => un_of w xl h fun x s1 u H1 h1 w1 => ?_
  obtain ⟨c, rfl, h1, h2⟩ := h1
  obtain ⟨F, A, w1⟩ := w1
  refine ⟨c, dp_bl (dq_dp (w1.tm _ List.mem_cons_self)), ?_⟩
  have w2 := w1.sub (T' := T) fun t h => List.mem_cons_of_mem _ h
  cases c with
  | true => exact iteT (q _ _ (h1 rfl) _ H1 ⟨F, A, w2.push (.bl _)⟩)
  | false => exact iteF ⟨H0, F0, A0, s1, T, kx, k, ⟨F, A, w2⟩, xl, h2 rfl, q⟩
theorem e_one {op : BoolOp} (ha : PE X a (tE X.K W wa)) : PE X (.BoolOp op [a] pos) (tE X.K W wa) := pe_one ha
theorem e_not (ha : PE X a (tE X.K W wa)) : PE X (.UnaryOp .Not a pos) (tE X.K W (wNotV wa)) := by
  refine PE.imp (pe_not ha) fun σ H Q ⟨H0, F0, A0, s, T, kx, k, w, xl, h, q⟩ => un_of w xl h fun x s1 u H1 h1 w1 => ?_
  obtain ⟨c, rfl, h1⟩ := h1
  obtain ⟨F, A, w1⟩ := w1
  exact ⟨c, dp_bl (dq_dp (w1.tm _ List.mem_cons_self)), q _ _ h1 _ H1 ⟨F, A, (w1.sub fun t h => List.mem_cons_of_mem _ h).push (.bl _)⟩⟩
theorem e_if (hc : PT X c (tT X.K W ta)) (ha : PE X a (tE X.K W wa)) (hb : PE X b (tE X.K W wb)) : PE X (.IfExp c a b pos) (tE X.K W (wIf ta wa wb)) := by
  refine PE.imp (pe_ifExp hc ha hb) fun σ H Q ⟨H0, F0, A0, s, T, kx, k, w, xl, h, q⟩ => ?_
  refine ⟨H0, F0, A0, s, T, kx, _, w, xl, h, fun c s1 h1 H1 w1 => ?_⟩
  cases c with
  | true => exact iteT ⟨H0, F0, A0, s1, T, kx, k, w1, xl, h1.1 rfl, q⟩
  | false => exact iteF ⟨H0, F0, A0, s1, T, kx, k, w1, xl, h1.2 rfl, q⟩
end
end PW
namespace PW
open PySem L2
/-! ### arguments, displays, items, slices -/
def frzs : List PV → PSt → (List PyData → PSt → Prop) → Prop
  | [], s, k => k [] s
  | v :: vs, s, k => frz v s fun x s1 => frzs vs s1 fun xs s2 => k (x :: xs) s2
/-- arguments of a def: the script goes as it is, owned lists are frozen -/
def prep : List PV → PSt → (List PV → PSt → Prop) → Prop
  | [], s, k => k [] s
  | .scr ns :: vs, s, k => prep vs s fun xs s2 => k (.scr ns :: xs) s2
  | .gl u :: vs, s, k => prep vs s fun xs s2 => k (.gl u :: xs) s2
  | .exc u :: vs, s, k => prep vs s fun xs s2 => k (.exc u :: xs) s2
  | .dk u :: vs, s, k => prep vs s fun xs s2 => k (.dk u :: xs) s2
  | .own n :: vs, s, k => match s.o[n]? with
    | some (.di kvs) => prep vs (s.frzV n (.dk kvs)) fun xs s2 => k (.dk kvs :: xs) s2
    | _ => frz (.own n) s fun x s1 => prep vs s1 fun xs s2 => k (.d x :: xs) s2
  | v :: vs, s, k => frz v s fun x s1 => prep vs s1 fun xs s2 => k (.d x :: xs) s2
section
variable {K : PySem.W.Frag} {H0 F0 : Hp} {A0 : List Addr} {σ : St} {H : Hp}
theorem frzs_ok : ∀ (vs : List PV) (us : List V) (s : PSt) (T : List (PV × V)) (k : List PyData → PSt → Prop), us.length = vs.length → Wd K H0 F0 A0 s σ (vs.zip us ++ T) H → frzs vs s k →
    ∃ xs s', k xs s' ∧ xs.length = us.length ∧ Wd K H0 F0 A0 s' σ ((xs.map PV.d).zip us ++ T) H
  | [], [], s, T, k, _, w, h => ⟨[], s, h, rfl, w⟩
  | v :: vs, u :: us, s, T, k, e, w, h => by
    obtain ⟨x, s1, h1, w1⟩ := frz_ok w h
    obtain ⟨xs, s2, h2, e2, w2⟩ := frzs_ok vs us s1 ((.d x, u) :: T) _ (Nat.succ.inj e) (w1.sub fun t ht => by
      rcases List.mem_append.mp ht with q | q
      · exact List.mem_cons_of_mem _ (List.mem_append_left _ q)
      · rcases List.mem_cons.mp q with q | q
        · rw [q]; exact List.mem_cons_self
        · exact List.mem_cons_of_mem _ (List.mem_append_right _ q)) h1
    refine ⟨x :: xs, s2, h2, by rw [List.length_cons, List.length_cons, e2], w2.sub fun t ht => ?_⟩
    rcases List.mem_cons.mp ht with q | q
    · rw [q]; exact List.mem_append_right _ List.mem_cons_self
    · rcases List.mem_append.mp q with q | q
      · exact List.mem_append_left _ q
      · exact List.mem_append_right _ (List.mem_cons_of_mem _ q)
  | [], _ :: _, _, _, _, e, _, _ => nomatch e
  | _ :: _, [], _, _, _, e, _, _ => nomatch e
/-- what a prepared argument is -/
def Plain : PV → Prop
  | .own _ => False
  | .tp _ => False
  | _ => True
theorem prep_cons {v : PV} {vs : List PV} {s : PSt} {k : List PV → PSt → Prop} (h : prep (v :: vs) s k) : (Plain v ∧ prep vs s fun xs s2 => k (v :: xs) s2) ∨ (frz v s fun x s1 => prep vs s1 fun xs s2 => k (.d x :: xs) s2) ∨
    ∃ n kvs, v = .own n ∧ s.o[n]? = some (.di kvs) ∧ prep vs (s.frzV n (.dk kvs)) fun xs s2 => k (.dk kvs :: xs) s2 := by
  cases v with
  | scr ns => exact .inl ⟨True.intro, h⟩
  | gl ns => exact .inl ⟨True.intro, h⟩
  | exc ns => exact .inl ⟨True.intro, h⟩
  | d x => exact .inr (.inl h)
  | own n =>
    have h : (match s.o[n]? with
      | some (.di kvs) => prep vs (s.frzV n (.dk kvs)) fun xs s2 => k (.dk kvs :: xs) s2
      | _ => frz (.own n) s fun x s1 => prep vs s1 fun xs s2 => k (.d x :: xs) s2) := h
    split at h
    · rename_i kvs e
      exact .inr (.inr ⟨n, kvs, rfl, e, h⟩)
    · exact .inr (.inl h)
  | tp ps => exact .inr (.inl h)
  | xd ps => exact .inr (.inl h)
  | dk ps => exact .inl ⟨True.intro, h⟩
theorem prep_ok : ∀ (vs : List PV) (us : List V) (s : PSt) (T : List (PV × V)) (k : List PV → PSt → Prop), us.length = vs.length → Wd K H0 F0 A0 s σ (vs.zip us ++ T) H → prep vs s k →
    ∃ xs s', k xs s' ∧ xs.length = us.length ∧ (∀ x ∈ xs, Plain x) ∧ Wd K H0 F0 A0 s' σ (xs.zip us ++ T) H
  | [], [], s, T, k, _, w, h => ⟨[], s, h, rfl, (fun _ z => nomatch z), w⟩
  | v :: vs, u :: us, s, T, k, e, w, h => by
    have go : ∃ x s1, Plain x ∧ (prep vs s1 fun xs s2 => k (x :: xs) s2) ∧ Wd K H0 F0 A0 s1 σ ((x, u) :: (vs.zip us ++ T)) H := by
      rcases prep_cons h with ⟨pl, h⟩ | h | ⟨n, kvs, rfl, ho, h⟩
      · exact ⟨v, s, pl, h, w⟩
      · obtain ⟨x, s1, h1, w1⟩ := frz_ok w h
        exact ⟨.d x, s1, True.intro, h1, w1⟩
      · obtain ⟨F, A, w⟩ := w
        obtain ⟨p, hp, rfl⟩ := w.tm _ List.mem_cons_self
        obtain ⟨F', w'⟩ := w.frzD hp ho
        refine ⟨.dk kvs, _, True.intro, h, F', A, w'.sub fun t ht => ?_⟩
        rcases List.mem_cons.mp ht with e | ht
        · rw [e]; exact List.mem_cons_self
        · exact List.mem_cons_of_mem _ (List.mem_cons_of_mem _ ht)
    obtain ⟨x, s1, px, h1, w1⟩ := go
    obtain ⟨xs, s2, h2, e2, p2, w2⟩ := prep_ok vs us s1 ((x, u) :: T) _ (Nat.succ.inj e) (w1.sub fun t ht => by
      rcases List.mem_append.mp ht with q | q
      · exact List.mem_cons_of_mem _ (List.mem_append_left _ q)
      · rcases List.mem_cons.mp q with q | q
        · rw [q]; exact List.mem_cons_self
        · exact List.mem_cons_of_mem _ (List.mem_append_right _ q)) h1
    refine ⟨x :: xs, s2, h2, by rw [List.length_cons, List.length_cons, e2], fun y hy => ?_, w2.sub fun t ht => ?_⟩
    · rcases List.mem_cons.mp hy with q | q
      · rw [q]; exact px
      · exact p2 y q
    · rcases List.mem_cons.mp ht with q | q
      · rw [q]; exact List.mem_append_right _ List.mem_cons_self
      · rcases List.mem_append.mp q with q | q
        · exact List.mem_append_left _ q
        · exact List.mem_append_right _ (List.mem_cons_of_mem _ q)
  | [], _ :: _, _, _, _, e, _, _ => nomatch e
  | _ :: _, [], _, _, _, e, _, _ => nomatch e
/-- frozen temps, read off -/
theorem temps_dq {s : PSt} {F : Hp} {A : List Addr} : ∀ (xs : List PyData) (us : List V) (T : List (PV × V)), xs.length = us.length → WdF K H0 F0 A0 s σ ((xs.map PV.d).zip us ++ T) H F A → DqAll K F us xs
  | [], [], _, _, _ => .nil
  | x :: xs, u :: us, T, e, w => .cons (w.tm (.d x, u) List.mem_cons_self) (temps_dq xs us T (Nat.succ.inj e) (w.sub fun t h => List.mem_cons_of_mem _ h))
  | [], _ :: _, _, e, _ => nomatch e
  | _ :: _, [], _, e, _ => nomatch e
end
def wNil : AW := fun _ s k => k [] s
def wCons (wa : EW) (wr : AW) : AW := fun kx s k => wa kx s fun x s1 => wr kx s1 fun xs s2 => k (x :: xs) s2
def wTup (ws : AW) : EW := fun kx s k => ws kx s fun vs s1 => frzs vs s1 fun xs s2 => xs.length ≤ sizeLine ∧ k (.d (.tuple xs)) s2
def wLst (ws : AW) : EW := fun kx s k => ws kx s fun vs s1 => frzs vs s1 fun xs s2 => xs.length ≤ sizeLine ∧ k (.own s2.o.length) ⟨s2.r, s2.o ++ [.dl xs]⟩
def ixD (a : PyData) (i : Int) : Option PyData := match a with
  | .list xs => atI xs i
  | .tuple xs => atI xs i
  | .str z => (atI z.cps.toList i).map fun c => .str ⟨#[c]⟩
  | _ => none
def strLe : PyData → Prop
  | .str z => z.length ≤ sizeLine
  | _ => True
def wIx (wa wb : EW) : EW := fun kx s k => wa kx s fun x s1 => wb kx s1 fun y s2 => ∃ a i, dat s2 x = some a ∧ dat s2 y = some (.int i) ∧ strLe a ∧ ∃ z, ixD a i = some z ∧ k (.d z) s2
def cutD {α : Type} (xs : List α) (lo hi : Option Int) : List α := (xs.drop (HT.sIx xs.length 0 lo)).take (HT.sIx xs.length xs.length hi - HT.sIx xs.length 0 lo)
def wNoPart : OW := fun _ s k => k none s
def wPart (wa : EW) : OW := fun kx s k => wa kx s fun x s1 => ∃ i, x = .d (.int i) ∧ k (some i) s1
/-- a slice: of a text, a tuple; a new list -/
def wSl (wa : EW) (wl wh : OW) : EW := fun kx s k => wa kx s fun x s1 => wl kx s1 fun lo s2 => wh kx s2 fun hi s3 => ∃ a, dat s3 x = some a ∧ match a with
  | .str z => z.length ≤ sizeLine ∧ k (.d (.str (cutS z lo hi))) s3
  | .tuple xs => k (.d (.tuple (cutD xs lo hi))) s3
  | .list xs => k (.own s3.o.length) ⟨s3.r, s3.o ++ [.dl (cutD xs lo hi)]⟩
  | _ => False
section
variable {X : Cx} {W : WX} {a b e : Expr} {es : List Expr} {wa wb we : EW} {ws : AW} {wl wh : OW} {pos : Pos}
theorem a_nil : PA X [] (tA X.K W wNil) := PA.imp pa_nil fun σ H Q ⟨H0, F0, A0, s, T, kx, k, w, xl, h, q⟩ => q [] s h [] H rfl w
theorem a_cons (ha : PE X e (tE X.K W we)) (hr : PA X es (tA X.K W ws)) (hs : starEach (e :: es) X.env = (false, eval e X.env) :: starEach es X.env := by rfl) : PA X (e :: es) (tA X.K W (wCons we ws)) := by
  refine PA.imp (pa_cons ha hr hs) fun σ H Q ⟨H0, F0, A0, s, T, kx, k, w, xl, h, q⟩ => ?_
  refine ⟨H0, F0, A0, s, T, kx, _, w, xl, h, fun x s1 h1 u H1 w1 => ?_⟩
  refine ⟨H0, F0, A0, s1, (x, u) :: T, kx, _, w1, xl.push, h1, fun xs s2 h2 us H2 e2 w2 => ?_⟩
  refine q _ _ h2 _ H2 (by rw [List.length_cons, List.length_cons, e2]) (w2.sub fun t ht => ?_)
  rcases List.mem_cons.mp ht with z | z
  · rw [z]; exact List.mem_append_right _ List.mem_cons_self
  · rcases List.mem_append.mp z with z | z
    · exact List.mem_append_left _ z
    · exact List.mem_append_right _ (List.mem_cons_of_mem _ z)
theorem ar_of {σ : St} {H : Hp} {Q : List V → Hp → Prop} {H0 F0 : Hp} {A0 : List Addr} {s : PSt} {T : List (PV × V)} {kx : KX} {R : List PV → PSt → Prop} (w : Wd X.K H0 F0 A0 s σ T H) (xl : XL X.K H0 F0 A0 T W kx)
    (h : ws kx s R) (hr : ∀ vs s1 us H1, R vs s1 → us.length = vs.length → Wd X.K H0 F0 A0 s1 σ (vs.zip us ++ T) H1 → Q us H1) : tA X.K W ws σ H Q := ⟨H0, F0, A0, s, T, kx, R, w, xl, h, fun vs s1 h1 us H1 e w1 => hr vs s1 us H1 h1 e w1⟩
theorem e_tup {x1} (h : PA X es (tA X.K W ws)) : PE X (.Tuple es x1 pos) (tE X.K W (wTup ws)) := by
  refine PE.imp (pe_tup h) fun σ H Q ⟨H0, F0, A0, s, T, kx, k, w, xl, h, q⟩ => ar_of w xl h fun vs s1 us H1 h1 e w1 => ?_
  obtain ⟨xs, s2, ⟨hz, hk⟩, e2, w2⟩ := frzs_ok vs us s1 T _ e w1 h1
  refine ⟨by rw [← e2]; exact hz, fun p hp => ?_⟩
  obtain ⟨F, A, w2⟩ := w2
  have d := temps_dq xs us T e2 w2
  have w3 := w2.newD (o := .tup us) hp
  refine q _ _ hk _ _ ⟨_, A, (w3.sub fun t h => List.mem_append_right _ h).push (.tup (SqT.of upd_same) (dqAll_same (same_new (w2.fz.g.free hp)) d))⟩
theorem e_lst (h : PA X es (tA X.K W ws)) : PE X (.List es pos) (tE X.K W (wLst ws)) := by
  refine PE.imp (pe_lst h) fun σ H Q ⟨H0, F0, A0, s, T, kx, k, w, xl, h, q⟩ => ar_of w xl h fun vs s1 us H1 h1 e w1 => ?_
  obtain ⟨xs, s2, ⟨hz, hk⟩, e2, w2⟩ := frzs_ok vs us s1 T _ e w1 h1
  refine ⟨by rw [← e2]; exact hz, fun p hp => ?_⟩
  obtain ⟨F, A, w2⟩ := w2
  have d := temps_dq xs us T e2 w2
  have w3 := (w2.sub (T' := T) fun t h => List.mem_append_right _ h).newL hp d
  refine q _ _ hk _ _ ⟨_, _, w3.push ⟨p, ?_, rfl⟩⟩
  rw [← w2.len, List.getElem?_append_right (Nat.le_refl _), Nat.sub_self]
  rfl
theorem atI_map {α β : Type} (f : α → β) (xs : List α) (i : Int) : atI (xs.map f) i = (atI xs i).map f := by
  unfold atI
  rw [List.length_map]
  cases ixN xs.length i with
  | none => rfl
  | some j => simp
theorem atI_dq {K : PySem.W.Frag} {H : Hp} {vs : List V} {ds : List PyData} {i : Int} {z : PyData} (h : DqAll K H vs ds) (e : atI ds i = some z) : ∃ v, atI vs i = some v ∧ Dq K H v z := by
  unfold atI at e ⊢
  rw [h.len]
  cases hx : ixN ds.length i with
  | none => rw [hx] at e; cases e
  | some j =>
    rw [hx] at e
    exact h.getd j z e
theorem e_ix (ha : PE X a (tE X.K W wa)) (hb : PE X b (tE X.K W wb)) (hs : PlainIx b := by exact fun _ _ => rfl) : PE X (.Subscript a b pos) (tE X.K W (wIx wa wb)) := by
  refine PE.imp (pe_ix ix_seq ha hb hs) fun σ H Q ⟨H0, F0, A0, s, T, kx, k, w, xl, h, q⟩ => tOp_of w xl h fun x y s2 u v H2 hR w2 => ?_
  obtain ⟨d, i, hd, hi, hz, z, ez, hk⟩ := hR
  obtain ⟨F, A, w2⟩ := w2
  have pu := w2.tm _ (List.mem_cons_of_mem _ List.mem_cons_self)
  have ev := dp_int (dat_ok w2 (w2.tm _ List.mem_cons_self) hi)
  have w3 := w2.sub (T' := T) fun t h => List.mem_cons_of_mem _ (List.mem_cons_of_mem _ h)
  cases d with
  | list xs =>
    obtain ⟨p, vs, e1, h1, h2⟩ := items_ok w2 pu hd
    obtain ⟨t, h3, h4⟩ := atI_dq h2 ez
    exact .inl ⟨p, vs, i, t, e1, ev, h1, h3, q _ _ hk t H2 ⟨F, A, w3.push h4⟩⟩
  | tuple xs =>
    obtain ⟨p, vs, e1, h1, h2⟩ := itemsT_ok w2 pu hd
    obtain ⟨t, h3, h4⟩ := atI_dq h2 ez
    exact .inr (.inl ⟨p, vs, i, t, e1, ev, h1, h3, q _ _ hk t H2 ⟨F, A, w3.push h4⟩⟩)
  | str zs =>
    have ez : (atI zs.cps.toList i).map (fun c => PyData.str ⟨#[c]⟩) = some z := ez
    cases hc : atI zs.cps.toList i with
    | none => rw [hc] at ez; cases ez
    | some c =>
      rw [hc] at ez
      cases ez
      exact .inr (.inr ⟨zs, i, c, dp_str (dat_ok w2 pu hd), ev, hz, hc, q _ _ hk _ H2 ⟨F, A, w3.push (.str _)⟩⟩)
  | _ => cases ez
theorem o_none : PO X none (tO X.K W wNoPart) := PO.imp po_none fun σ H Q ⟨H0, F0, A0, s, T, kx, k, w, xl, h, q⟩ => q _ _ h H w
theorem o_some (h : PE X e (tE X.K W we)) : PO X (some e) (tO X.K W (wPart we)) := by
  refine PO.imp (po_some h) fun σ H Q ⟨H0, F0, A0, s, T, kx, k, w, xl, h, q⟩ => un_of w xl h fun x s1 u H1 h1 w1 => ?_
  obtain ⟨i, rfl, hk⟩ := h1
  obtain ⟨F, A, w1⟩ := w1
  exact ⟨i, dp_int (dq_dp (w1.tm _ List.mem_cons_self)), q _ _ hk H1 ⟨F, A, w1.sub fun t h => List.mem_cons_of_mem _ h⟩⟩
theorem cut_dq {K : PySem.W.Frag} {H : Hp} {vs : List V} {ds : List PyData} (lo hi : Option Int) (h : DqAll K H vs ds) : DqAll K H (cutV vs lo hi) (cutD ds lo hi) := by
  unfold cutV cutD
  rw [h.len]
  exact (h.drop _).take _
abbrev rSlP (K : PySem.W.Frag) : V → Option Int → Option Int → Hp → VK → Prop := fun x lo hi H Q => rSlL K x lo hi H Q ∨ (rSlA K x lo hi H Q ∨ rSlS x lo hi H Q)
theorem sl_of {σ : St} {H : Hp} {Q : VK} (h : tE X.K W (wSl we wl wh) σ H Q) : tSl (rSlP X.K) (tE X.K W we) (tO X.K W wl) (tO X.K W wh) σ H Q := by
  obtain ⟨H0, F0, A0, s, T, kx, k, w, xl, h, q⟩ := h
  refine un_of w xl h fun x s1 u H1 h1 w1 => ?_
  refine ⟨H0, F0, A0, s1, (x, u) :: T, kx, _, w1, xl.push, h1, fun lo s2 h2 H2 w2 => ?_⟩
  refine ⟨H0, F0, A0, s2, (x, u) :: T, kx, _, w2, xl.push, h2, fun hi s3 h3 H3 w3 => ?_⟩
  obtain ⟨d, hd, hk⟩ := h3
  obtain ⟨F, A, w3⟩ := w3
  have pu := w3.tm _ List.mem_cons_self
  have w4 := w3.sub (T' := T) fun t h => List.mem_cons_of_mem _ h
  cases d with
  | list xs =>
    obtain ⟨p, vs, e1, i1, i2⟩ := items_ok w3 pu hd
    refine .inl ⟨p, vs, e1, i1, fun n hn => q _ _ hk _ _ ⟨F, _, (w4.newL hn (cut_dq lo hi i2)).push ⟨n, ?_, rfl⟩⟩⟩
    rw [← w3.len, List.getElem?_append_right (Nat.le_refl _), Nat.sub_self]
    rfl
  | tuple xs =>
    obtain ⟨p, vs, e1, i1, i2⟩ := itemsT_ok w3 pu hd
    refine .inr (.inl ⟨p, vs, e1, i1, fun hw => ?_, fun hw n hn => ?_⟩)
    · have el : cutV vs lo hi = vs := by
        unfold cutV
        rw [hw.1, hw.2, List.drop_zero, Nat.sub_zero, List.take_length]
      have h3 := cut_dq lo hi i2
      rw [el] at h3
      cases x with
      | d y =>
        cases hd
        cases pu with
        | tup k1 k2 =>
          refine q _ _ hk _ _ ⟨F, A, w4.push ?_⟩
          cases e1
          exact .tup k1 (by
            have el2 : cutD xs lo hi = xs := by
              unfold cutD
              rw [← i2.len, hw.1, hw.2, List.drop_zero, Nat.sub_zero, i2.len, List.take_length]
            rw [el2]; exact k2)
      | scr ns => cases hd
      | tp ps => cases hd
      | gl g => cases hd
      | exc y => cases hd
      | xd y => cases hd
      | dk y => cases hd
      | own m =>
        have hd : ocD s3.o[m]? = some (.tuple xs) := hd
        cases ho : s3.o[m]? with
        | none => rw [ho] at hd; cases hd
        | some c => rw [ho] at hd; cases c <;> cases hd
    · have w5 := w4.newD (o := .tup (cutV vs lo hi)) hn
      exact q _ _ hk _ _ ⟨_, A, w5.push (.tup (SqT.of upd_same) (dqAll_same (same_new (w3.fz.g.free hn)) (cut_dq lo hi i2)))⟩
  | str z => exact .inr (.inr ⟨z, dp_str (dat_ok w3 pu hd), hk.1, q _ _ hk.2 _ H3 ⟨F, A, w4.push (.str _)⟩⟩)
  | _ => exact hk.elim
theorem e_sl {lo hi : Option Expr} {p2 : Pos} (he : PE X e (tE X.K W we)) (hl : PO X lo (tO X.K W wl)) (hu : PO X hi (tO X.K W wh)) : PE X (.Subscript e (.Slice lo hi none p2) pos) (tE X.K W (wSl we wl wh)) :=
  PE.imp (pe_slice (sl_list.or (sl_tupA.or sl_str)) he hl hu) fun σ H Q h => sl_of h
theorem tE_mono {σ : St} {H : Hp} {Q Q' : VK} (h : tE X.K W we σ H Q) (f : ∀ v H', Q v H' → Q' v H') : tE X.K W we σ H Q' := by
  obtain ⟨H0, F0, A0, s, T, kx, k, w, xl, h, q⟩ := h
  exact ⟨H0, F0, A0, s, T, kx, k, w, xl, h, fun v s' hk u H' w' => f _ _ (q v s' hk u H' w')⟩
theorem tO_none {σ : St} {H : Hp} {Q : Option Int → Hp → Prop} (h : tO X.K W wNoPart σ H Q) : Q none H := by
  obtain ⟨H0, F0, A0, s, T, kx, k, w, xl, h, q⟩ := h
  exact q none s h H w
theorem tO_int {σ : St} {H : Hp} {Q : Option Int → Hp → Prop} {i : Int} (h : tO X.K W (wPart (wC (.int i))) σ H Q) : Q (some i) H := by
  obtain ⟨H0, F0, A0, s, T, kx, k, w, xl, ⟨i', e, h⟩, q⟩ := h
  cases e
  exact q _ s h H w
/-- list + list: a new list -/
def rCatD : PyData → PyData → (List PyData → Prop) → Prop := fun a b q => match a, b with
  | .list xs, .list ys => xs.length + ys.length ≤ sizeLine ∧ q (xs ++ ys)
  | _, _ => False
def wCat (wa wb : EW) : EW := fun kx s k => wa kx s fun x s1 => wb kx s1 fun y s2 => ∃ xs ys, datq s2 x = some (.list xs) ∧ datq s2 y = some (.list ys) ∧ xs.length + ys.length ≤ sizeLine ∧ k (.own s2.o.length) ⟨s2.r, s2.o ++ [.dl (xs ++ ys)]⟩
theorem itemsq_ok {K : PySem.W.Frag} {H0 F0 : Hp} {A0 : List Addr} {s : PSt} {σ : St} {T : List (PV × V)} {H F : Hp} {A : List Addr} {v : PV} {u : V} {xs : List PyData} (w : WdF K H0 F0 A0 s σ T H F A) (p : PVOk K F A v u) (e : datq s v = some (.list xs)) :
    ∃ a vs, u = .ref a ∧ H a = some (.lst vs) ∧ DqAll K F vs xs := by
  cases v with
  | d y =>
    cases e
    cases p with
    | lst h t => exact ⟨_, _, rfl, w.fz.g _ _ h, t⟩
  | scr ns => cases e
  | tp ps => cases e
  | gl g => cases e
  | exc y => cases e
  | xd y => cases e
  | dk y => cases e
  | own n =>
    obtain ⟨q, hq, rfl⟩ := p
    have e : ocD s.o[n]? = some (.list xs) := e
    cases ho : s.o[n]? with
    | none => rw [ho] at e; cases e
    | some c =>
      rw [ho] at e
      cases c with
      | no => cases e
      | dl ys =>
        cases e
        obtain ⟨_, vs, h1, h2⟩ := w.oc n q _ hq ho
        exact ⟨_, _, rfl, h1, h2⟩
      | di kvs => cases e
      | ml ps => cases e
      | ob _ _ => cases e
      | dm _ => cases e
      | dt _ => cases e
theorem top_at {K : PySem.W.Frag} {H0 F0 : Hp} {A0 : List Addr} {s : PSt} {σ : St} {T : List (PV × V)} {H F : Hp} {A : List Addr} (w : WdF K H0 F0 A0 s σ T H F A) (n : Addr) (F' : Hp) : PVOk K F' (A ++ [n]) (.own s.o.length) (.ref n) := by
  refine ⟨n, ?_, rfl⟩
  rw [← w.len, List.getElem?_append_right (Nat.le_refl _), Nat.sub_self]
  rfl
theorem e_cat (ha : PE X a (tE X.K W wa)) (hb : PE X b (tE X.K W wb)) : PE X (.BinOp a .Add b pos) (tE X.K W (wCat wa wb)) := by
  refine PE.imp (pe_op op_cat ha hb) fun σ H Q ⟨H0, F0, A0, s, T, kx, k, w, xl, h, q⟩ => tOp_of w xl h fun x y s2 u v H2 hR w2 => ?_
  obtain ⟨xs, ys, hx, hy, hz, hk⟩ := hR
  obtain ⟨F, A, w2⟩ := w2
  obtain ⟨p, vs, e1, h1, h2⟩ := itemsq_ok w2 (w2.tm _ (List.mem_cons_of_mem _ List.mem_cons_self)) hx
  obtain ⟨p', vs', e1', h1', h2'⟩ := itemsq_ok w2 (w2.tm _ List.mem_cons_self) hy
  have w3 := w2.sub (T' := T) fun t h => List.mem_cons_of_mem _ (List.mem_cons_of_mem _ h)
  refine ⟨p, p', vs, vs', e1, e1', h1, h1', by rw [h2.len, h2'.len]; exact hz, fun n hn => q _ _ hk _ _ ⟨F, _, (w3.newL hn (h2.app h2')).push (top_at w3 n F)⟩⟩
end
end PW
namespace PW
open PySem L2
/-! ### calls of the text's own defs -/
inductive RV where
  | d (x : PyData)
  | new (xs : List PyData)
/-- a def by its arguments, the lists lent to it, what is wanted of what it hands back, of what it raises -/
abbrev FS := List PV → List OC → (RV → List OC → Prop) → (XV → List OC → Prop) → Prop
def RetOk (K : PySem.W.Frag) (H0 F0 : Hp) (A0 : List Addr) (r : RV) (v : V) (o : List OC) (H : Hp) : Prop :=
  match r with
  | .d x => Wd K H0 F0 A0 ⟨[], o⟩ [] [(.d x, v)] H
  | .new xs => Wd K H0 F0 A0 ⟨[], o ++ [.dl xs]⟩ [] [(.own o.length, v)] H
def spOf (K : PySem.W.Frag) (S : FS) : Sp := fun vs H Q E => ∃ H0 F0 A0 args o ret exc, Wd K H0 F0 A0 ⟨args.map some, o⟩ (vs.map some) [] H ∧ A0.length = o.length ∧ S args o ret exc ∧
  (∀ r o', ret r o' → o'.length = o.length → ∀ v H', RetOk K H0 F0 A0 r v o' H' → Q v H') ∧ ∀ x o', exc x o' → o'.length = o.length → ∀ d H', Wd K H0 F0 A0 ⟨[], o'⟩ [] [(.xd x.fs, dV d)] H' → E (.ref x.C) d H'
section
variable {K : PySem.W.Frag} {H0 F0 : Hp} {A0 : List Addr} {s : PSt} {σ : St} {T : List (PV × V)} {H F H' F' : Hp} {A : List Addr}
/-- the heap behind a call that was lent nothing -/
theorem WdF.after (w : WdF K H0 F0 A0 s σ T H F A) (z : Fz H F H' F') : WdF K H0 F0 A0 s σ T H' F' A where
  fz := ⟨w.fz.f.trans z.f, z.g, w.fz.h.trans z.h, fun p h1 h2 => z.n p (fun e => h1 (w.fz.h.free e)) (w.fz.n p h1 h2)⟩
  pre := w.pre
  len := w.len
  nd := w.nd
  ad := fun q hq => ⟨(w.ad q hq).1, fun e => (w.ad q hq).2 (z.h.free e)⟩
  oc := fun n p c h1 h2 => by
    exact (w.oc n p c h1 h2).mono z.f (List.prefix_refl _) (fun a => z.n p (w.ad p (List.mem_of_getElem? h1)).2 a) fun o a => z.h _ _ a
  sl := w.sl
  pv := fun i v h => by
    obtain ⟨u, a, b⟩ := w.pv i v h
    exact ⟨u, a, b.mono z.f (List.prefix_refl _)⟩
  tm := fun t ht => (w.tm t ht).mono z.f (List.prefix_refl _)
/-- H without p -/
def lendH (H : Hp) (p : Addr) : Hp := fun b => if b = p then none else H b
theorem lendH_ne {H : Hp} {p b : Addr} (h : b ≠ p) : lendH H p b = H b := if_neg h
theorem lendH_eq {H : Hp} {p : Addr} : lendH H p p = none := if_pos rfl
/-- .. one list lent -/
theorem WdF.afterL {n : Nat} {p : Addr} {c : OC} (w : WdF K H0 F0 A0 s σ T H F A) (hn : A[n]? = some p) (z : Fz (lendH H p) F H' F') (hp : H' p ≠ none) (hc : OCOk K F' H' A p c) : WdF K H0 F0 A0 ⟨s.r, s.o.set n c⟩ σ T H' F' A where
  fz := by
    have p0 := (w.ad p (List.mem_of_getElem? hn)).1
    refine ⟨w.fz.f.trans z.f, z.g, fun a u e => ?_, fun q h1 h2 => ?_⟩
    · have ne : a ≠ p := ne_of_none e p0
      exact z.h a u (by rw [lendH_ne ne]; exact w.fz.h a u e)
    · have ne : q ≠ p := fun e => h1 (e ▸ p0)
      exact z.n q (by rw [lendH_ne ne]; exact fun e => h1 (w.fz.h.free e)) (w.fz.n q h1 h2)
  pre := w.pre
  len := by rw [List.length_set]; exact w.len
  nd := w.nd
  ad := fun q hq => ⟨(w.ad q hq).1, fun e => by
    by_cases h : q = p
    · exact hp (h ▸ e)
    · exact (w.ad q hq).2 (by rw [← lendH_ne (H := H) h]; exact z.h.free e)⟩
  oc := fun m q c' h1 h2 => by
    by_cases hm : m = n
    · subst hm
      rw [hn] at h1
      cases h1
      have hl : m < s.o.length := by rw [← w.len]; exact (List.getElem?_eq_some_iff.mp hn).1
      have h2 : (s.o.set m c)[m]? = some c' := h2
      rw [List.getElem?_set_self hl] at h2
      cases h2
      exact hc
    · have h2 : (s.o.set n c)[m]? = some c' := h2
      rw [List.getElem?_set_ne (Ne.symm hm)] at h2
      have ne := nodup_ne w.nd h1 hn hm
      exact (w.oc m q c' h1 h2).mono z.f (List.prefix_refl _) (fun a => z.n q (by rw [lendH_ne ne]; exact (w.ad q (List.mem_of_getElem? h1)).2) a) fun o a => z.h _ _ (by rw [lendH_ne ne]; exact a)
  sl := w.sl
  pv := fun i v h => by
    obtain ⟨u, a, b⟩ := w.pv i v h
    exact ⟨u, a, b.mono z.f (List.prefix_refl _)⟩
  tm := fun t ht => (w.tm t ht).mono z.f (List.prefix_refl _)
/-- one more owned list, that stands already -/
theorem WdF.addL {q : Addr} {c : OC} (w : WdF K H0 F0 A0 s σ T H F A) (hq : q ∉ A) (h0 : H0 q = none) (h1 : H q ≠ none) (hc : OCOk K F H (A ++ [q]) q c) : WdF K H0 F0 A0 ⟨s.r, s.o ++ [c]⟩ σ T H F (A ++ [q]) where
  fz := w.fz
  pre := w.pre.trans (List.prefix_append _ _)
  len := by rw [List.length_append, List.length_append, w.len]; rfl
  nd := by
    rw [List.nodup_append]
    refine ⟨w.nd, by simp, fun a ha b hb => ?_⟩
    have e : b = q := by simpa using hb
    rw [e]
    exact fun e => hq (e ▸ ha)
  ad := fun p hp => by
    rcases List.mem_append.mp hp with h | h
    · exact w.ad p h
    · have e : p = q := by simpa using h
      rw [e]; exact ⟨h0, h1⟩
  oc := fun n p c' e1 e2 => by
    rcases Nat.lt_trichotomy n A.length with hn | hn | hn
    · rw [List.getElem?_append_left hn] at e1
      have e2 : (s.o ++ [c])[n]? = some c' := e2
      rw [List.getElem?_append_left (by rw [← w.len]; exact hn)] at e2
      exact (w.oc n p c' e1 e2).mono (Same.refl _) (List.prefix_append _ _) id fun _ z => z
    · subst hn
      have e2 : (s.o ++ [c])[A.length]? = some c' := e2
      rw [List.getElem?_append_right (Nat.le_refl _), Nat.sub_self] at e1
      rw [List.getElem?_append_right (by rw [w.len]; exact Nat.le_refl _), w.len, Nat.sub_self] at e2
      cases e1
      cases e2
      exact hc
    · rw [List.getElem?_eq_none (by rw [List.length_append]; show A.length + 1 ≤ n; omega)] at e1
      cases e1
  sl := w.sl
  pv := fun i v h => by
    obtain ⟨u, a, b⟩ := w.pv i v h
    exact ⟨u, a, b.mono (Same.refl _) (List.prefix_append _ _)⟩
  tm := fun t ht => (w.tm t ht).mono (Same.refl _) (List.prefix_append _ _)
end
/-- f(a, ..): nothing lent -/
def wCall (S : FS) (ws : AW) : EW := fun kx s k => ws kx s fun vs s1 => prep vs s1 fun xs s2 => S xs [] (fun r _ => match r with | .d z => k (.d z) s2 | .new zs => k (.own s2.o.length) ⟨s2.r, s2.o ++ [.dl zs]⟩) (fun x _ => kx x s2)
/-- f(l, a, ..): the first one, an owned list, is lent -/
def wCallL (S : FS) (ws : AW) : EW := fun kx s k => ws kx s fun vs s1 => ∃ n rest, vs = .own n :: rest ∧ prep rest s1 fun xs s2 => ∃ c, s2.o[n]? = some (.dl c) ∧ S (.own 0 :: xs) [.dl c]
  (fun r o => ∃ c', o = [.dl c'] ∧ match r with | .d z => k (.d z) ⟨s2.r, s2.o.set n (.dl c')⟩ | .new zs => k (.own s2.o.length) ⟨s2.r, s2.o.set n (.dl c') ++ [.dl zs]⟩) (fun x o => ∃ c', o = [.dl c'] ∧ kx x ⟨s2.r, s2.o.set n (.dl c')⟩)
section
variable {X : Cx} {W : WX} {k : Nat} {f : Addr} {fd : FuncData} {ps : List Str} {S : FS} {x : Str} {p pos : Pos} {e : Expr} {es : List Expr} {ws : AW}
theorem args_wd {K : PySem.W.Frag} {H0 F0 : Hp} {A0 : List Addr} {s : PSt} {σ : St} {T : List (PV × V)} {H F : Hp} {A : List Addr} (w : WdF K H0 F0 A0 s σ T H F A) (xs : List PV) (us : List V) (e : xs.length = us.length) (hp : ∀ x ∈ xs, Plain x) (ht : ∀ t ∈ xs.zip us, t ∈ T) :
    ∀ (i : Nat) v, (xs.map some)[i]? = some (some v) → ∃ u, (us.map some)[i]? = some (some u) ∧ ∀ A', PVOk K F A' v u := fun i v hv => by
  rw [List.getElem?_map] at hv
  cases hx : xs[i]? with
  | none => rw [hx] at hv; cases hv
  | some y =>
    rw [hx] at hv
    have hv : some y = some v := Option.some.inj hv
    cases hv
    have hi : i < xs.length := (List.getElem?_eq_some_iff.mp hx).1
    have hu : us[i]? = some us[i] := List.getElem?_eq_getElem (by rw [← e]; exact hi)
    refine ⟨us[i], by rw [List.getElem?_map, hu]; rfl, fun A' => ?_⟩
    have hz : (xs.zip us)[i]? = some (v, us[i]) := by
      rw [List.getElem?_zip_eq_some]
      exact ⟨hx, hu⟩
    have q := w.tm _ (ht _ (List.mem_of_getElem? hz))
    cases v with
    | d z => exact q
    | scr ns => exact q
    | gl g => exact q
    | exc y => exact q
    | xd y => exact q
    | dk y => exact q
    | tp ps => exact (hp _ (List.mem_of_getElem? hx)).elim
    | own n => exact (hp _ (List.mem_of_getElem? hx)).elim
theorem e_call (F : FnOk X.prog X.w X.K X.mg X.base (L2.CX X.prog X.w) k f fd ps (spOf X.K S)) (tk : Takes X W) (hr : Room k X.A) (hg : Gl X x) (hm : X.mg x = some (.ref f)) (hk : PySem.W.keepIn X.K (.ref f) = true) (hb : Binds X.K fd ps [])
    (ha : PA X (e :: es) (tA X.K W ws)) (hdb : (x == ("__debug__" : Str)) = false := by decide) (he : starEach (e :: es) X.env = (false, eval e X.env) :: starEach es X.env := by rfl) (hpl : (backTo pos (starEach es X.env)).any (·.1) = false := by rfl) :
    PE X (.Call (.Name x p) (e :: es) [] pos) (tE X.K W (wCall S ws)) := by
  refine PE.imp (pe_callS F hr hg hm hk hb (fun σ => passAt tk σ) ha hdb he hpl) fun σ H Q ⟨H0, F0, A0, s, T, kx, kk, w, xl, h, q⟩ => ar_of w xl h fun vs s1 us H1 h1 e1 w1 => ?_
  obtain ⟨xs, s2, hS, e2, pl, w2⟩ := prep_ok vs us s1 T _ e1 w1 h1
  obtain ⟨F1, A, w2⟩ := w2
  have w3 := w2.sub (T' := T) fun t h => List.mem_append_right _ h
  refine ⟨H1, F1, [], xs, [], _, _, ⟨F1, [], ?_⟩, rfl, hS, fun r o hr ho v H' ret => ?_, fun y o hx ho d H' w' => ?_⟩
  · refine ⟨⟨Same.refl _, w2.fz.g, Same.refl _, fun p _ h => h⟩, List.prefix_refl _, rfl, List.nodup_nil, (fun _ z => nomatch z), (fun n p c z => by simp at z), (by rw [List.length_map, List.length_map, e2]), (fun i v hv => ?_), (fun _ z => nomatch z)⟩
    obtain ⟨u, a, b⟩ := args_wd w2 xs us e2 pl (fun t h => List.mem_append_left _ h) i v hv
    exact ⟨u, a, b _⟩
  · cases List.eq_nil_of_length_eq_zero ho
    cases r with
    | d z =>
      obtain ⟨F', A', w'⟩ := ret
      have dz : Dq X.K F' v z := w'.tm (.d z, v) List.mem_cons_self
      exact q _ _ hr v H' ⟨F', A, (w3.after w'.fz).push dz⟩
    | new zs =>
      obtain ⟨F', A', w'⟩ := ret
      obtain ⟨qq, hq, rfl⟩ := w'.tm (.own 0, v) List.mem_cons_self
      have ad := w'.ad qq (List.mem_of_getElem? hq)
      have oc := w'.oc 0 qq (.dl zs) hq rfl
      have w4 := w3.after w'.fz
      have nin : qq ∉ A := fun hA => (w2.ad qq hA).2 ad.1
      refine q _ _ hr _ H' ⟨F', A ++ [qq], (w4.addL (c := .dl zs) nin (w3.fz.h.free ad.1) ad.2 oc).push ⟨qq, ?_, rfl⟩⟩
      rw [← w4.len, List.getElem?_append_right (Nat.le_refl _), Nat.sub_self]
      rfl
  · obtain ⟨F', A', w'⟩ := w'
    have px : PVOk X.K F' A (.xd y.fs) (dV d) := w'.tm (.xd y.fs, dV d) List.mem_cons_self
    exact xl y s2 hx σ H' d ⟨F', A, (w3.after w'.fz).push px⟩
theorem e_callL (F : FnOk X.prog X.w X.K X.mg X.base (L2.CX X.prog X.w) k f fd ps (spOf X.K S)) (tk : Takes X W) (hr : Room k X.A) (hg : Gl X x) (hm : X.mg x = some (.ref f)) (hk : PySem.W.keepIn X.K (.ref f) = true) (hb : Binds X.K fd ps [])
    (ha : PA X (e :: es) (tA X.K W ws)) (hdb : (x == ("__debug__" : Str)) = false := by decide) (he : starEach (e :: es) X.env = (false, eval e X.env) :: starEach es X.env := by rfl) (hpl : (backTo pos (starEach es X.env)).any (·.1) = false := by rfl) :
    PE X (.Call (.Name x p) (e :: es) [] pos) (tE X.K W (wCallL S ws)) := by
  refine PE.imp (pe_callS F hr hg hm hk hb (fun σ => passAt tk σ) ha hdb he hpl) fun σ H Q ⟨H0, F0, A0, s, T, kx, kk, w, xl, h, q⟩ => ar_of w xl h fun vs s1 us H1 h1 e1 w1 => ?_
  obtain ⟨n, rest, rfl, h1⟩ := h1
  cases us with
  | nil => cases e1
  | cons u us =>
    obtain ⟨xs, s2, hS, e2, pl, w2⟩ := prep_ok rest us s1 ((.own n, u) :: T) _ (Nat.succ.inj e1) (w1.sub fun t ht => by
      rcases List.mem_append.mp ht with z | z
      · exact List.mem_append_left _ (List.mem_cons_of_mem _ z)
      · rcases List.mem_cons.mp z with z | z
        · rw [z]; exact List.mem_append_left _ List.mem_cons_self
        · exact List.mem_append_right _ z) h1
    obtain ⟨F1, A, w2⟩ := w2
    obtain ⟨pp, hpp, eu⟩ := w2.tm (.own n, u) (List.mem_append_right _ List.mem_cons_self)
    subst eu
    have w3 := w2.sub (T' := T) fun t h => List.mem_append_right _ (List.mem_cons_of_mem _ h)
    have adp := w3.ad pp (List.mem_of_getElem? hpp)
    obtain ⟨c, hc, hS⟩ := hS
    have ocp := w3.oc n pp (.dl c) hpp hc
    have out : ∀ {H' F' : Hp} {A' : List Addr} {o1 : List OC} {T' : List (PV × V)} {c' : List PyData}, WdF X.K (lendH H1 pp) F1 [pp] ⟨[], o1⟩ [] T' H' F' A' → o1[0]? = some (.dl c') → WdF X.K H0 F0 A0 ⟨s2.r, s2.o.set n (.dl c')⟩ σ T H' F' A := fun {H' F' A' o1 T' c'} w' ho => by
      obtain ⟨t, rfl⟩ := w'.pre
      have h0 : ([pp] ++ t)[0]? = some pp := rfl
      exact w3.afterL hpp w'.fz (w'.ad pp (List.mem_of_getElem? h0)).2 (c := .dl c') (w'.oc 0 pp (.dl c') h0 ho)
    refine ⟨lendH H1 pp, F1, [pp], .own 0 :: xs, [.dl c], _, _, ⟨F1, [pp], ?_⟩, rfl, hS, fun r o hr ho v H' ret => ?_, fun y o hx ho d H' w' => ?_⟩
    · refine ⟨⟨Same.refl _, w2.fz.g, fun a u e => ?_, fun p _ h => h⟩, List.prefix_refl _, rfl, by simp, fun a ha => ?_, fun m a c' e3 e4 => ?_, ?_, fun i v hv => ?_, fun _ z => nomatch z⟩
      · by_cases hh : a = pp
        · rw [hh, lendH_eq] at e; cases e
        · rw [lendH_ne hh] at e; exact e
      · have e : a = pp := by simpa using ha
        rw [e]
        exact ⟨lendH_eq, adp.2⟩
      · cases m with
        | zero =>
          cases e3
          cases e4
          exact ocp
        | succ m => cases e3
      · show ((PV.own 0 :: xs).map some).length = ((V.ref pp :: us).map some).length
        rw [List.length_map, List.length_map, List.length_cons, List.length_cons, e2]
      · cases i with
        | zero =>
          cases hv
          exact ⟨.ref pp, rfl, pp, rfl, rfl⟩
        | succ i =>
          obtain ⟨u, a, b⟩ := args_wd w2 xs us e2 pl (fun t h => List.mem_append_left _ h) i v hv
          exact ⟨u, a, b _⟩
    · obtain ⟨c', rfl, hr⟩ := hr
      cases r with
      | d z =>
        obtain ⟨F', A', w'⟩ := ret
        have dz : Dq X.K F' v z := w'.tm (.d z, v) List.mem_cons_self
        exact q _ _ hr v H' ⟨F', A, (out w' rfl).push dz⟩
      | new zs =>
        obtain ⟨F', A', w'⟩ := ret
        obtain ⟨qq, hq, rfl⟩ := w'.tm (.own 1, v) List.mem_cons_self
        have ad := w'.ad qq (List.mem_of_getElem? hq)
        have oc := w'.oc 1 qq (.dl zs) hq rfl
        have w4 := out (c' := c') w' rfl
        have nep : qq ≠ pp := by
          obtain ⟨t, et⟩ := w'.pre
          subst et
          exact nodup_ne w'.nd (m := 1) (n := 0) hq rfl (by decide)
        have hqn : H1 qq = none := by
          have := ad.1
          rw [lendH_ne nep] at this
          exact this
        have nin : qq ∉ A := fun hA => (w2.ad qq hA).2 hqn
        refine q _ _ hr _ H' ⟨F', A ++ [qq], (w4.addL (c := .dl zs) nin (w3.fz.h.free hqn) ad.2 oc).push ⟨qq, ?_, rfl⟩⟩
        show (A ++ [qq])[s2.o.length]? = some qq
        rw [← w3.len, List.getElem?_append_right (Nat.le_refl _), Nat.sub_self]
        rfl
    · obtain ⟨c', rfl, hx⟩ := hx
      obtain ⟨F', A', w'⟩ := w'
      have px : PVOk X.K F' A (.xd y.fs) (dV d) := w'.tm (.xd y.fs, dV d) List.mem_cons_self
      exact xl y _ hx σ H' d ⟨F', A, (out w' rfl).push px⟩
/-- f() -/
def wCall0 (S : FS) : EW := fun kx s k => S [] [] (fun r _ => match r with | .d z => k (.d z) s | .new zs => k (.own s.o.length) ⟨s.r, s.o ++ [.dl zs]⟩) (fun _ _ => False)
theorem e_call0 (F : FnOk X.prog X.w X.K X.mg X.base (L2.CX X.prog X.w) k f fd ps (spOf X.K S)) (hr : Room k X.A) (hg : Gl X x) (hm : X.mg x = some (.ref f)) (hk : PySem.W.keepIn X.K (.ref f) = true) (hb : Binds X.K fd ps [])
    (hdb : (x == ("__debug__" : Str)) = false := by decide) : PE X (.Call (.Name x p) [] [] pos) (tE X.K W (wCall0 S)) := by
  refine PE.imp (pe_call0 F hr hg hm hk hb .nil passL hdb) fun σ H Q ⟨H0, F0, A0, s, T, kx, kk, w, xl, hS, q⟩ => ?_
  obtain ⟨F1, A, w3⟩ := w
  refine ⟨H, F1, [], [], [], _, _, ⟨F1, [], ?_⟩, rfl, hS, fun r o hr ho v H' ret => ?_, fun y o hx ho d H' w' => hx.elim⟩
  · exact ⟨⟨Same.refl _, w3.fz.g, Same.refl _, fun p _ h => h⟩, List.prefix_refl _, rfl, List.nodup_nil, (fun _ z => nomatch z), (fun n p c z => by simp at z), rfl, (fun i v hv => by simp at hv), (fun _ z => nomatch z)⟩
  · cases List.eq_nil_of_length_eq_zero ho
    cases r with
    | d z =>
      obtain ⟨F', A', w'⟩ := ret
      have dz : Dq X.K F' v z := w'.tm (.d z, v) List.mem_cons_self
      exact q _ _ hr v H' ⟨F', A, (w3.after w'.fz).push dz⟩
    | new zs =>
      obtain ⟨F', A', w'⟩ := ret
      obtain ⟨qq, hq, rfl⟩ := w'.tm (.own 0, v) List.mem_cons_self
      have ad := w'.ad qq (List.mem_of_getElem? hq)
      have oc := w'.oc 0 qq (.dl zs) hq rfl
      have w4 := w3.after w'.fz
      have nin : qq ∉ A := fun hA => (w3.ad qq hA).2 ad.1
      refine q _ _ hr _ H' ⟨F', A ++ [qq], (w4.addL (c := .dl zs) nin (w3.fz.h.free ad.1) ad.2 oc).push ⟨qq, ?_, rfl⟩⟩
      rw [← w4.len, List.getElem?_append_right (Nat.le_refl _), Nat.sub_self]
      rfl
end
end PW
namespace PW
open PySem L2
/-! ### built-in functions and methods -/
def lenD : PyData → (Int → Prop) → Prop := fun a q => match a with
  | .str z => z.length ≤ sizeLine ∧ q (z.length : Int)
  | .list xs => q (xs.length : Int)
  | .tuple xs => q (xs.length : Int)
  | _ => False
def wLen (wa : EW) : EW := fun kx s k => wa kx s fun x s1 => ∃ d, dat s1 x = some d ∧ lenD d fun n => k (.d (.int n)) s1
def wInt1 (wa : EW) : EW := fun kx s k => wa kx s fun x s1 => (∃ i, x = .d (.int i) ∧ k (.d (.int i)) s1) ∨ ∃ b, x = .d (.bool b) ∧ k (.d (.int (if b then 1 else 0))) s1
def wAbs (wa : EW) : EW := fun kx s k => wa kx s fun x s1 => ∃ i, x = .d (.int i) ∧ k (.d (.int (if i < 0 then -i else i))) s1
def wMax2 (wa wb : EW) : EW := fun kx s k => wa kx s fun x s1 => wb kx s1 fun y s2 => ∃ i j, x = .d (.int i) ∧ y = .d (.int j) ∧ k (.d (.int (if j > i then j else i))) s2
def wMin2 (wa wb : EW) : EW := fun kx s k => wa kx s fun x s1 => wb kx s1 fun y s2 => ∃ i j, x = .d (.int i) ∧ y = .d (.int j) ∧ k (.d (.int (if j < i then j else i))) s2
def tyD : PyData → String
  | .none => "NoneType"
  | .bool _ => "bool"
  | .int _ => "int"
  | .str _ => "str"
  | .list _ => "list"
  | .tuple _ => "tuple"
  | .dict _ => "dict"
/-- the type of what an owned thing holds -/
def tyOC : Option OC → Option String
  | some (.dl _) => some "list"
  | some (.ml _) => some "list"
  | some (.di _) => some "dict"
  | some (.dm _) => some "dict"
  | _ => none
def tyPV (s : PSt) : PV → Option String
  | .d x => some (tyD x)
  | .scr _ => some "list"
  | .tp _ => some "tuple"
  | .dk _ => some "dict"
  | .own n => tyOC s.o[n]?
  | _ => none
def wIsi (t : String) (wa : EW) : EW := fun kx s k => wa kx s fun x s1 => ∃ d r, tyPV s1 x = some d ∧ kitB d t = some r ∧ k (.d (.bool r)) s1
def wIsi2 (t u : String) (wa : EW) : EW := fun kx s k => wa kx s fun x s1 => ∃ d r r', tyPV s1 x = some d ∧ kitB d t = some r ∧ kitB d u = some r' ∧ k (.d (.bool (r || r'))) s1
/-- list(xs): a new one -/
def wListOf (wa : EW) : EW := fun kx s k => wa kx s fun x s1 => ∃ xs, (dat s1 x = some (.list xs) ∨ dat s1 x = some (.tuple xs)) ∧ k (.own s1.o.length) ⟨s1.r, s1.o ++ [.dl xs]⟩
def wTupOf (wa : EW) : EW := fun kx s k => wa kx s fun x s1 => ∃ xs, (dat s1 x = some (.list xs) ∨ dat s1 x = some (.tuple xs)) ∧ k (.d (.tuple xs)) s1
/-- methods of texts: o.m(e) -/
def wM1 (R : Str → PyData → (PyData → Prop) → Prop) (wo we : EW) : EW := fun kx s k => wo kx s fun x s1 => ∃ a, x = .d (.str a) ∧ we kx s1 fun y s2 => ∃ b, dat s2 y = some b ∧ R a b fun z => k (.d z) s2
def wM1L (R : Str → PyData → (List PyData → Prop) → Prop) (wo we : EW) : EW := fun kx s k => wo kx s fun x s1 => ∃ a, x = .d (.str a) ∧ we kx s1 fun y s2 => ∃ b, dat s2 y = some b ∧ R a b fun zs => k (.own s2.o.length) ⟨s2.r, s2.o ++ [.dl zs]⟩
def rFindD : Str → PyData → (PyData → Prop) → Prop := fun a b q => match b with
  | .str b => q (.int (Txt.find a b))
  | _ => False
def strsOf : List PyData → Option (List Str)
  | [] => some []
  | .str x :: r => (strsOf r).map (x :: ·)
  | _ :: _ => none
def rJoinD : Str → PyData → (PyData → Prop) → Prop := fun a b q => match b with
  | .list xs => ∃ ys, strsOf xs = some ys ∧ (ys.map (·.length)).sum + ys.length * a.length ≤ 16777216 ∧ q (.str (Txt.join a ys))
  | .tuple xs => ∃ ys, strsOf xs = some ys ∧ (ys.map (·.length)).sum + ys.length * a.length ≤ 16777216 ∧ q (.str (Txt.join a ys))
  | _ => False
def rSplitD : Str → PyData → (List PyData → Prop) → Prop := fun a b q => match b with
  | .str b => (b.length == 0) = false ∧ a.length + 2 ≤ sizeLine ∧ q ((Txt.split a b).map PyData.str)
  | _ => False
/-- methods of owned lists -/
def wApp (wo we : EW) : EW := fun kx s k => wo kx s fun x s1 => ∃ n ws, x = .own n ∧ s1.o[n]? = some (.dl ws) ∧ we kx s1 fun y s2 => frz y s2 fun d s3 => ∃ xs, s3.o[n]? = some (.dl xs) ∧ xs.length < sizeLine ∧ k (.d .none) ⟨s3.r, s3.o.set n (.dl (xs ++ [d]))⟩
def wExt (wo we : EW) : EW := fun kx s k => wo kx s fun x s1 => ∃ n ws, x = .own n ∧ s1.o[n]? = some (.dl ws) ∧ we kx s1 fun y s2 => ∃ xs ys, s2.o[n]? = some (.dl xs) ∧ datq s2 y = some (.list ys) ∧ xs.length + ys.length ≤ sizeLine ∧ k (.d .none) ⟨s2.r, s2.o.set n (.dl (xs ++ ys))⟩
def wPop (wo : EW) : EW := fun kx s k => wo kx s fun x s1 => ∃ n xs d, x = .own n ∧ s1.o[n]? = some (.dl xs) ∧ xs[xs.length - 1]? = some d ∧ k (.d d) ⟨s1.r, s1.o.set n (.dl xs.dropLast)⟩
section
variable {X : Cx} {W : WX} {a b e wo_e : Expr} {wa wb we wo : EW} {pos p : Pos}
theorem len_dp {K : PySem.W.Frag} {H : Hp} {u : V} {d : PyData} {P : Int → Prop} (h : Dp K H u d) (t : lenD d P) : ∃ n : Nat, LenV K u H n ∧ P n := by
  cases h with
  | str x => exact ⟨_, ⟨t.1, rfl⟩, t.2⟩
  | @lst a xs ds h r => exact ⟨xs.length, .inl ⟨_, h, rfl⟩, by
      have e : xs.length = ds.length := DpAll_len r
      rw [e]; exact t⟩
  | @tup a xs ds h r => exact ⟨xs.length, .inr ⟨_, h, rfl⟩, by
      have e : xs.length = ds.length := DpAll_len r
      rw [e]; exact t⟩
  | _ => exact t.elim
where DpAll_len {K : PySem.W.Frag} {H : Hp} : ∀ {vs : List V} {ds : List PyData}, DpAll K H vs ds → vs.length = ds.length
  | _, _, .nil => rfl
  | _, _, .cons _ t => by rw [List.length_cons, List.length_cons, DpAll_len t]
/-- one argument, then what the call's rule asks -/
theorem cb1_of {r : List V → Hp → VK → Prop} {σ : St} {H : Hp} {Q : VK} {H0 F0 : Hp} {A0 : List Addr} {s : PSt} {T : List (PV × V)} {kx : KX} {R : PV → PSt → Prop} (w : Wd X.K H0 F0 A0 s σ T H) (xl : XL X.K H0 F0 A0 T W kx)
    (h : wa kx s R) (hr : ∀ x s1 u H1, R x s1 → Wd X.K H0 F0 A0 s1 σ ((x, u) :: T) H1 → r [u] H1 Q) : tCB r (tCons (tE X.K W wa) tNil) σ H Q := un_of w xl h fun x s1 u H1 h1 w1 => hr x s1 u H1 h1 w1
theorem cb2_of {r : List V → Hp → VK → Prop} {σ : St} {H : Hp} {Q : VK} {H0 F0 : Hp} {A0 : List Addr} {s : PSt} {T : List (PV × V)} {kx : KX} {R : PV → PV → PSt → Prop} (w : Wd X.K H0 F0 A0 s σ T H) (xl : XL X.K H0 F0 A0 T W kx)
    (h : wa kx s fun x s1 => wb kx s1 fun y s2 => R x y s2) (hr : ∀ x y s2 u v H2, R x y s2 → Wd X.K H0 F0 A0 s2 σ ((y, v) :: (x, u) :: T) H2 → r [u, v] H2 Q) : tCB r (tCons (tE X.K W wa) (tCons (tE X.K W wb) tNil)) σ H Q :=
  ⟨H0, F0, A0, s, T, kx, _, w, xl, h, fun x s1 h1 u H1 w1 => ⟨H0, F0, A0, s1, (x, u) :: T, kx, _, w1, xl.push, h1, fun y s2 h2 v H2 w2 => hr x y s2 u v H2 h2 w2⟩⟩
theorem e_len (hm : X.mg "len" = none) (ha : PE X a (tE X.K W wa)) (hg : Gl X "len" := by rfl) (he : starEach [a] X.env = (false, eval a X.env) :: starEach [] X.env := by rfl) (hpl : (backTo pos (starEach [] X.env)).any (·.1) = false := by rfl) :
    PE X (.Call (.Name "len" p) [a] [] pos) (tE X.K W (wLen wa)) := by
  refine PE.imp (pe_callB call_len hg hm PySem.boot_len (pa_cons ha pa_nil he) (he := he) (hpl := hpl)) fun σ H Q ⟨H0, F0, A0, s, T, kx, k, w, xl, h, q⟩ => cb1_of w xl h fun x s1 u H1 h1 w1 => ?_
  obtain ⟨d, hd, t⟩ := h1
  obtain ⟨F, A, w1⟩ := w1
  obtain ⟨n, h1, h2⟩ := len_dp (dat_ok w1 (w1.tm _ List.mem_cons_self) hd) t
  exact ⟨u, n, rfl, h1, q _ _ h2 _ H1 ⟨F, A, (w1.sub fun t h => List.mem_cons_of_mem _ h).push (.int _)⟩⟩
theorem e_int1 (hm : X.mg "int" = none) (ha : PE X a (tE X.K W wa)) (hg : Gl X "int" := by rfl) (he : starEach [a] X.env = (false, eval a X.env) :: starEach [] X.env := by rfl) (hpl : (backTo pos (starEach [] X.env)).any (·.1) = false := by rfl) :
    PE X (.Call (.Name "int" p) [a] [] pos) (tE X.K W (wInt1 wa)) := by
  refine PE.imp (pe_callTy call_int1 hg hm (by decide +kernel) (pa_cons ha pa_nil he) (he := he) (hpl := hpl)) fun σ H Q ⟨H0, F0, A0, s, T, kx, k, w, xl, h, q⟩ => cb1_of w xl h fun x s1 u H1 h1 w1 => ?_
  obtain ⟨F, A, w1⟩ := w1
  have w2 := w1.sub (T' := T) fun t h => List.mem_cons_of_mem _ h
  rcases h1 with ⟨i, rfl, hk⟩ | ⟨b, rfl, hk⟩
  · cases dp_int (dq_dp (w1.tm _ List.mem_cons_self))
    exact .inl ⟨i, rfl, q _ _ hk _ H1 ⟨F, A, w2.push (.int _)⟩⟩
  · cases dp_bl (dq_dp (w1.tm _ List.mem_cons_self))
    exact .inr ⟨b, rfl, q _ _ hk _ H1 ⟨F, A, w2.push (.int _)⟩⟩
theorem e_abs (hm : X.mg "abs" = none) (ha : PE X a (tE X.K W wa)) (hg : Gl X "abs" := by rfl) (he : starEach [a] X.env = (false, eval a X.env) :: starEach [] X.env := by rfl) (hpl : (backTo pos (starEach [] X.env)).any (·.1) = false := by rfl) :
    PE X (.Call (.Name "abs" p) [a] [] pos) (tE X.K W (wAbs wa)) := by
  refine PE.imp (pe_callB call_abs hg hm (by decide +kernel) (pa_cons ha pa_nil he) (he := he) (hpl := hpl)) fun σ H Q ⟨H0, F0, A0, s, T, kx, k, w, xl, h, q⟩ => cb1_of w xl h fun x s1 u H1 h1 w1 => ?_
  obtain ⟨F, A, w1⟩ := w1
  obtain ⟨i, rfl, hk⟩ := h1
  cases dp_int (dq_dp (w1.tm _ List.mem_cons_self))
  exact ⟨i, rfl, q _ _ hk _ H1 ⟨F, A, (w1.sub fun t h => List.mem_cons_of_mem _ h).push (.int _)⟩⟩
theorem e_max2 (hc : X.calm = true) (hm : X.mg "max" = none) (ha : PE X a (tE X.K W wa)) (hb : PE X b (tE X.K W wb)) (hg : Gl X "max" := by rfl) (he : starEach [a, b] X.env = (false, eval a X.env) :: starEach [b] X.env := by rfl) (he2 : starEach [b] X.env = (false, eval b X.env) :: starEach [] X.env := by rfl) (hpl : (backTo pos (starEach [b] X.env)).any (·.1) = false := by rfl) :
    PE X (.Call (.Name "max" p) [a, b] [] pos) (tE X.K W (wMax2 wa wb)) := by
  refine PE.imp (pe_callB (call_max2 hc) hg hm (by decide +kernel) (pa_cons ha (pa_cons hb pa_nil he2) he) (he := he) (hpl := hpl)) fun σ H Q ⟨H0, F0, A0, s, T, kx, k, w, xl, h, q⟩ => cb2_of w xl h fun x y s2 u v H2 h2 w2 => ?_
  obtain ⟨F, A, w2⟩ := w2
  obtain ⟨i, j, rfl, rfl, hk⟩ := h2
  cases dp_int (dq_dp (w2.tm _ List.mem_cons_self))
  cases dp_int (dq_dp (w2.tm (.d (.int i), u) (List.mem_cons_of_mem _ List.mem_cons_self)))
  exact ⟨i, j, rfl, q _ _ hk _ H2 ⟨F, A, (w2.sub fun t h => List.mem_cons_of_mem _ (List.mem_cons_of_mem _ h)).push (.int _)⟩⟩
theorem e_min2 (hc : X.calm = true) (hm : X.mg "min" = none) (ha : PE X a (tE X.K W wa)) (hb : PE X b (tE X.K W wb)) (hg : Gl X "min" := by rfl) (he : starEach [a, b] X.env = (false, eval a X.env) :: starEach [b] X.env := by rfl) (he2 : starEach [b] X.env = (false, eval b X.env) :: starEach [] X.env := by rfl) (hpl : (backTo pos (starEach [b] X.env)).any (·.1) = false := by rfl) :
    PE X (.Call (.Name "min" p) [a, b] [] pos) (tE X.K W (wMin2 wa wb)) := by
  refine PE.imp (pe_callB (call_min2 hc) hg hm (by decide +kernel) (pa_cons ha (pa_cons hb pa_nil he2) he) (he := he) (hpl := hpl)) fun σ H Q ⟨H0, F0, A0, s, T, kx, k, w, xl, h, q⟩ => cb2_of w xl h fun x y s2 u v H2 h2 w2 => ?_
  obtain ⟨F, A, w2⟩ := w2
  obtain ⟨i, j, rfl, rfl, hk⟩ := h2
  cases dp_int (dq_dp (w2.tm _ List.mem_cons_self))
  cases dp_int (dq_dp (w2.tm (.d (.int i), u) (List.mem_cons_of_mem _ List.mem_cons_self)))
  exact ⟨i, j, rfl, q _ _ hk _ H2 ⟨F, A, (w2.sub fun t h => List.mem_cons_of_mem _ (List.mem_cons_of_mem _ h)).push (.int _)⟩⟩
theorem ty_pv {K : PySem.W.Frag} {H0 F0 : Hp} {A0 : List Addr} {s : PSt} {σ : St} {T : List (PV × V)} {H F : Hp} {A : List Addr} {v : PV} {u : V} {d : PyData} (w : WdF K H0 F0 A0 s σ T H F A) (p : PVOk K F A v u) (e : dat s v = some d) : TyX K H u (.type (tyD d)) := by
  have g : Dq K H u d → TyX K H u (.type (tyD d)) := fun h => by
    cases h with
    | non => exact .base .non
    | bl b => exact .base (.bl b)
    | int i => exact .base (.int i)
    | str x => exact .base (.str x)
    | lst h r => exact .base (.lst h)
    | tup h r =>
      rcases h with (h | ⟨o, h⟩) | ⟨o, its, n, e, c, _⟩
      · exact .base (.tup h)
      · exact .fTuple h
      · exact .kTuple e c
  cases v with
  | d x => exact g (datq_ok w p e)
  | own n => exact g (datq_ok w p e)
  | tp ps => cases e
  | gl g => cases e
  | exc y => cases e
  | xd y => cases e
  | dk y => cases e
  | scr ns =>
    cases e
    obtain ⟨a, rfl, h⟩ := p
    rcases same_l w.fz.g h with (h | ⟨o, h⟩) | ⟨o, its, n, e, c, _⟩
    · exact .base (.lst h)
    · exact .base (.frz h)
    · exact .kList e c
theorem tyx_tup {K : PySem.W.Frag} {H : Hp} {a : Addr} {us : List V} (h : SqT K H a us) : TyX K H (.ref a) (.type "tuple") := by
  rcases h with (h | ⟨o, h⟩) | ⟨o, its, n, e, c, _⟩
  · exact .base (.tup h)
  · exact .fTuple h
  · exact .kTuple e c
theorem tyx_pv {K : PySem.W.Frag} {H0 F0 : Hp} {A0 : List Addr} {s : PSt} {σ : St} {T : List (PV × V)} {H F : Hp} {A : List Addr} {v : PV} {u : V} {t : String} (w : WdF K H0 F0 A0 s σ T H F A) (p : PVOk K F A v u) (e : tyPV s v = some t) : TyX K H u (.type t) := by
  cases v with
  | d x => cases e; exact ty_pv w p rfl
  | scr ns => cases e; exact ty_pv w p rfl
  | tp ps =>
    cases e
    obtain ⟨a, us, rfl, h, _⟩ := p
    exact tyx_tup (same_t w.fz.g h)
  | dk kvs =>
    cases e
    obtain ⟨a, vs, rfl, h, _⟩ := p
    exact .base (.dK (w.fz.g _ _ h))
  | own n =>
    obtain ⟨q, hq, rfl⟩ := p
    have e : tyOC s.o[n]? = some t := e
    cases ho : s.o[n]? with
    | none => rw [ho] at e; cases e
    | some c =>
      rw [ho] at e
      have oc := w.oc n q c hq ho
      cases c with
      | dl xs => cases e; obtain ⟨_, vs, h, _⟩ := oc; exact .base (.lst h)
      | ml xs => cases e; obtain ⟨_, vs, h, _⟩ := oc; exact .base (.lst h)
      | di xs => cases e; obtain ⟨_, vs, h, _⟩ := oc; exact .base (.dK h)
      | dm xs => cases e; obtain ⟨_, vs, h, _⟩ := oc; exact .base (.dK h)
      | _ => cases e
  | _ => cases e
/-- isinstance(x, T), T a built-in class -/
theorem e_isi {x : Str} {T : String} {q1 : Pos} (hm : X.mg "isinstance" = none) (hT : X.mg x = none) (hb : bootBuiltins x = some (.type T)) (ha : PE X a (tE X.K W wa)) (hgT : Gl X x := by rfl) (hg : Gl X "isinstance" := by rfl)
    (hn : x ≠ "__name__" := by decide) (hd : (x == ("__debug__" : Str)) = false := by decide)
    (he : starEach [a, .Name x q1] X.env = (false, eval a X.env) :: starEach [.Name x q1] X.env := by rfl) (he2 : starEach [.Name x q1] X.env = (false, eval (.Name x q1) X.env) :: starEach [] X.env := by rfl) (hpl : (backTo pos (starEach [.Name x q1] X.env)).any (·.1) = false := by rfl) :
    PE X (.Call (.Name "isinstance" p) [a, .Name x q1] [] pos) (tE X.K W (wIsi T wa)) := by
  have pt : PE X (.Name x q1) (tC (.ty T)) := pe_bltn hgT hT hb rfl hn hd
  refine PE.imp (pe_callB call_isi hg hm (by decide +kernel) (pa_cons ha (pa_cons pt pa_nil he2) he) (he := he) (hpl := hpl)) fun σ H Q ⟨H0, F0, A0, s, T', kx, k, w, xl, h, q⟩ => ?_
  refine un_of w xl h fun x s1 u H1 h1 w1 => ?_
  obtain ⟨d, r, hd, hk, hq⟩ := h1
  obtain ⟨F, A, w1⟩ := w1
  exact ⟨u, .ty T, _, _, r, rfl, .ty T, tyx_pv w1 (w1.tm _ List.mem_cons_self) hd, kit_ty hk, q _ _ hq _ H1 ⟨F, A, (w1.sub fun t h => List.mem_cons_of_mem _ h).push (.bl _)⟩⟩
theorem e_listOf (hm : X.mg "list" = none) (ha : PE X a (tE X.K W wa)) (hg : Gl X "list" := by rfl) (he : starEach [a] X.env = (false, eval a X.env) :: starEach [] X.env := by rfl) (hpl : (backTo pos (starEach [] X.env)).any (·.1) = false := by rfl) :
    PE X (.Call (.Name "list" p) [a] [] pos) (tE X.K W (wListOf wa)) := by
  refine PE.imp (pe_callTy call_list_of hg hm (by decide +kernel) (pa_cons ha pa_nil he) (he := he) (hpl := hpl)) fun σ H Q ⟨H0, F0, A0, s, T, kx, k, w, xl, h, q⟩ => cb1_of w xl h fun x s1 u H1 h1 w1 => ?_
  obtain ⟨xs, hd, hk⟩ := h1
  obtain ⟨F, A, w1⟩ := w1
  have w2 := w1.sub (T' := T) fun t h => List.mem_cons_of_mem _ h
  rcases hd with hd | hd
  · obtain ⟨pp, vs, rfl, h1, h2⟩ := items_ok w1 (w1.tm _ List.mem_cons_self) hd
    exact ⟨pp, vs, rfl, .inl h1, fun n hn => q _ _ hk _ _ ⟨F, _, (w2.newL hn h2).push (top_at w2 n F)⟩⟩
  · obtain ⟨pp, vs, rfl, h1, h2⟩ := itemsT_ok w1 (w1.tm _ List.mem_cons_self) hd
    exact ⟨pp, vs, rfl, .inr h1, fun n hn => q _ _ hk _ _ ⟨F, _, (w2.newL hn h2).push (top_at w2 n F)⟩⟩
theorem e_tupOf (hm : X.mg "tuple" = none) (ha : PE X a (tE X.K W wa)) (hg : Gl X "tuple" := by rfl) (he : starEach [a] X.env = (false, eval a X.env) :: starEach [] X.env := by rfl) (hpl : (backTo pos (starEach [] X.env)).any (·.1) = false := by rfl) :
    PE X (.Call (.Name "tuple" p) [a] [] pos) (tE X.K W (wTupOf wa)) := by
  refine PE.imp (pe_callTy call_tuple_of hg hm (by decide +kernel) (pa_cons ha pa_nil he) (he := he) (hpl := hpl)) fun σ H Q ⟨H0, F0, A0, s, T, kx, k, w, xl, h, q⟩ => cb1_of w xl h fun x s1 u H1 h1 w1 => ?_
  obtain ⟨xs, hd, hk⟩ := h1
  obtain ⟨F, A, w1⟩ := w1
  have w2 := w1.sub (T' := T) fun t h => List.mem_cons_of_mem _ h
  rcases hd with hd | hd
  · obtain ⟨pp, vs, rfl, h1, h2⟩ := items_ok w1 (w1.tm _ List.mem_cons_self) hd
    exact ⟨pp, vs, rfl, .inl ⟨h1, fun n hn => q _ _ hk _ _ ⟨_, A, (w2.newD (o := .tup vs) hn).push (.tup (SqT.of upd_same) (dqAll_same (same_new (w2.fz.g.free hn)) h2))⟩⟩⟩
  · cases x with
    | d y =>
      cases hd
      have pd : Dq X.K F u (.tuple xs) := w1.tm (.d (.tuple xs), u) List.mem_cons_self
      obtain ⟨pp, vs, rfl, h1, h2⟩ := itemsT_ok w1 (v := .d (.tuple xs)) pd rfl
      exact ⟨pp, vs, rfl, .inr ⟨h1, q _ _ hk _ _ ⟨F, A, w2.push pd⟩⟩⟩
    | scr ns => cases hd
    | tp ps => cases hd
    | gl g => cases hd
    | exc y => cases hd
    | xd y => cases hd
    | dk y => cases hd
    | own m =>
      have hd : ocD s1.o[m]? = some (.tuple xs) := hd
      cases ho : s1.o[m]? with
      | none => rw [ho] at hd; cases hd
      | some c => rw [ho] at hd; cases c <;> cases hd
/-! methods -/
theorem str_at {K : PySem.W.Frag} {H0 F0 : Hp} {A0 : List Addr} {s : PSt} {σ : St} {T : List (PV × V)} {H : Hp} {u : V} {z : Str} (w : Wd K H0 F0 A0 s σ T H) (h : (PV.d (.str z), u) ∈ T) : u = .str z := by
  obtain ⟨F, A, w⟩ := w
  exact dp_str (dq_dp (w.tm _ h))
/-- o.m(e), m a method of texts that gives data -/
theorem e_m1 {name : Str} {id : String} {r : V → List V → Hp → VK → Prop} {R : Str → PyData → (PyData → Prop) → Prop} {apos : Pos} (slot : Slot "str" name id) (hty : typeOf (.builtin id) = pure (.type "method_descriptor")) (hm : MtR X id r)
    (hR : ∀ (z : Str) (v : V) (b : PyData) (H : Hp) (Q : VK) (P : PyData → Prop), Dp X.K H v b → R z b P → (∀ y t, P y → toV y = some t → Q t H) → r (.str z) [v] H Q) (ho : PE X wo_e (tE X.K W wo)) (ha : PE X a (tE X.K W wa))
    (hbase : attributeBase wo_e name X.env (eval wo_e X.env) = eval wo_e X.env := by rfl)
    (hfew : ((backTo pos (starEach [a] X.env)).all (fun x => !x.1) && (backToKw pos (keywordEach [] X.env)).all (fun x => x.1.isSome)
      && decide ([a].length + ([] : List Keyword).length + (if ([] : List Keyword).isEmpty then 0 else 1) < 30)) = true := by rfl)
    (hline : (apos.endLine == pos.line) = true := by rfl) (hs : starEach [a] X.env = (false, eval a X.env) :: starEach [] X.env := by rfl) (hplain : (backTo pos (starEach [] X.env)).any (·.1) = false := by rfl) :
    PE X (.Call (.Attribute wo_e name apos) [a] [] pos) (tE X.K W (wM1 R wo wa)) := by
  refine PE.imp (pe_bm PySem.F.plainAttrs_str slot hty hm ho (pa_cons ha pa_nil hs) hbase hfew hline hs hplain) fun σ H Q ⟨H0, F0, A0, s, T, kx, k, w, xl, h, q⟩ => ?_
  refine ⟨H0, F0, A0, s, T, kx, _, w, xl, h, fun x s1 h1 u H1 w1 => ?_⟩
  obtain ⟨z, rfl, h1⟩ := h1
  cases str_at w1 List.mem_cons_self
  refine ⟨rfl, H0, F0, A0, s1, _, kx, _, w1, xl.push, h1, fun y s2 h2 v H2 w2 => ?_⟩
  obtain ⟨b, hb, h2⟩ := h2
  obtain ⟨F, A, w2⟩ := w2
  exact hR z v b H2 Q _ (dat_ok w2 (w2.tm _ List.mem_cons_self) hb) h2 fun y t hy ht => q _ _ hy t H2 ⟨F, A, (w2.sub fun t h => List.mem_cons_of_mem _ (List.mem_cons_of_mem _ h)).push (toV_dp ht)⟩
/-- .. that gives a new list of texts -/
theorem e_m1L {name : Str} {id : String} {r : V → List V → Hp → VK → Prop} {R : Str → PyData → (List PyData → Prop) → Prop} {apos : Pos} (slot : Slot "str" name id) (hty : typeOf (.builtin id) = pure (.type "method_descriptor")) (hm : MtR X id r)
    (hR : ∀ (z : Str) (v : V) (b : PyData) (H : Hp) (Q : VK) (P : List PyData → Prop), Dp X.K H v b → R z b P → (∀ ys, P ys → ∀ p vs, H p = none → (∀ F, DqAll X.K F vs ys) → Q (.ref p) (upd H p (.lst vs))) → r (.str z) [v] H Q) (ho : PE X wo_e (tE X.K W wo)) (ha : PE X a (tE X.K W wa))
    (hbase : attributeBase wo_e name X.env (eval wo_e X.env) = eval wo_e X.env := by rfl)
    (hfew : ((backTo pos (starEach [a] X.env)).all (fun x => !x.1) && (backToKw pos (keywordEach [] X.env)).all (fun x => x.1.isSome)
      && decide ([a].length + ([] : List Keyword).length + (if ([] : List Keyword).isEmpty then 0 else 1) < 30)) = true := by rfl)
    (hline : (apos.endLine == pos.line) = true := by rfl) (hs : starEach [a] X.env = (false, eval a X.env) :: starEach [] X.env := by rfl) (hplain : (backTo pos (starEach [] X.env)).any (·.1) = false := by rfl) :
    PE X (.Call (.Attribute wo_e name apos) [a] [] pos) (tE X.K W (wM1L R wo wa)) := by
  refine PE.imp (pe_bm PySem.F.plainAttrs_str slot hty hm ho (pa_cons ha pa_nil hs) hbase hfew hline hs hplain) fun σ H Q ⟨H0, F0, A0, s, T, kx, k, w, xl, h, q⟩ => ?_
  refine ⟨H0, F0, A0, s, T, kx, _, w, xl, h, fun x s1 h1 u H1 w1 => ?_⟩
  obtain ⟨z, rfl, h1⟩ := h1
  cases str_at w1 List.mem_cons_self
  refine ⟨rfl, H0, F0, A0, s1, _, kx, _, w1, xl.push, h1, fun y s2 h2 v H2 w2 => ?_⟩
  obtain ⟨b, hb, h2⟩ := h2
  obtain ⟨F, A, w2⟩ := w2
  have w3 := w2.sub (T' := T) fun t h => List.mem_cons_of_mem _ (List.mem_cons_of_mem _ h)
  exact hR z v b H2 Q _ (dat_ok w2 (w2.tm _ List.mem_cons_self) hb) h2 fun ys hy n vs hn hd => q _ _ hy _ _ ⟨F, _, (w3.newL hn (hd F)).push (top_at w3 n F)⟩
theorem strs_dp {K : PySem.W.Frag} {H : Hp} : ∀ {xs : List PyData} {ys : List Str} {vs : List V}, strsOf xs = some ys → DpAll K H vs xs → vs = ys.map V.str
  | [], ys, _, e, .nil => by cases e; rfl
  | .str x :: r, ys, _, e, .cons h t => by
    have e : (strsOf r).map (x :: ·) = some ys := e
    cases hr : strsOf r with
    | none => rw [hr] at e; cases e
    | some zs =>
      rw [hr] at e
      cases e
      rw [strs_dp hr t, dp_str h]
      rfl
  | .none :: _, _, _, e, _ => nomatch e
  | .bool _ :: _, _, _, e, _ => nomatch e
  | .int _ :: _, _, _, e, _ => nomatch e
  | .list _ :: _, _, _, e, _ => nomatch e
  | .tuple _ :: _, _, _, e, _ => nomatch e
  | .dict _ :: _, _, _, e, _ => nomatch e
theorem strs_dq {K : PySem.W.Frag} {H : Hp} : ∀ (ys : List Str), DqAll K H (ys.map V.str) (ys.map PyData.str)
  | [] => .nil
  | y :: r => .cons (.str y) (strs_dq r)
theorem e_find {apos : Pos} (ho : PE X wo_e (tE X.K W wo)) (ha : PE X a (tE X.K W wa))
    (hbase : attributeBase wo_e "find" X.env (eval wo_e X.env) = eval wo_e X.env := by rfl)
    (hfew : ((backTo pos (starEach [a] X.env)).all (fun x => !x.1) && (backToKw pos (keywordEach [] X.env)).all (fun x => x.1.isSome)
      && decide ([a].length + ([] : List Keyword).length + (if ([] : List Keyword).isEmpty then 0 else 1) < 30)) = true := by rfl)
    (hline : (apos.endLine == pos.line) = true := by rfl) (hs : starEach [a] X.env = (false, eval a X.env) :: starEach [] X.env := by rfl) (hplain : (backTo pos (starEach [] X.env)).any (·.1) = false := by rfl) :
    PE X (.Call (.Attribute wo_e "find" apos) [a] [] pos) (tE X.K W (wM1 rFindD wo wa)) :=
  e_m1 PySem.F.slot_str_find PySem.F.type_str_find mt_find (fun z v b H Q P hb h q => by
    cases b <;> try exact h.elim
    cases dp_str hb
    exact ⟨_, _, rfl, rfl, q _ _ h rfl⟩) ho ha hbase hfew hline hs hplain
theorem e_split {apos : Pos} (ho : PE X wo_e (tE X.K W wo)) (ha : PE X a (tE X.K W wa))
    (hbase : attributeBase wo_e "split" X.env (eval wo_e X.env) = eval wo_e X.env := by rfl)
    (hfew : ((backTo pos (starEach [a] X.env)).all (fun x => !x.1) && (backToKw pos (keywordEach [] X.env)).all (fun x => x.1.isSome)
      && decide ([a].length + ([] : List Keyword).length + (if ([] : List Keyword).isEmpty then 0 else 1) < 30)) = true := by rfl)
    (hline : (apos.endLine == pos.line) = true := by rfl) (hs : starEach [a] X.env = (false, eval a X.env) :: starEach [] X.env := by rfl) (hplain : (backTo pos (starEach [] X.env)).any (·.1) = false := by rfl) :
    PE X (.Call (.Attribute wo_e "split" apos) [a] [] pos) (tE X.K W (wM1L rSplitD wo wa)) :=
  e_m1L PySem.F.slot_str_split PySem.F.type_str_split mt_split (fun z v b H Q P hb h q => by
    cases b <;> try exact h.elim
    cases dp_str hb
    exact ⟨_, _, rfl, rfl, h.1, h.2.1, fun p hp => q _ h.2.2 p _ hp fun F => strs_dq _⟩) ho ha hbase hfew hline hs hplain
theorem e_join {apos : Pos} (ho : PE X wo_e (tE X.K W wo)) (ha : PE X a (tE X.K W wa))
    (hbase : attributeBase wo_e "join" X.env (eval wo_e X.env) = eval wo_e X.env := by rfl)
    (hfew : ((backTo pos (starEach [a] X.env)).all (fun x => !x.1) && (backToKw pos (keywordEach [] X.env)).all (fun x => x.1.isSome)
      && decide ([a].length + ([] : List Keyword).length + (if ([] : List Keyword).isEmpty then 0 else 1) < 30)) = true := by rfl)
    (hline : (apos.endLine == pos.line) = true := by rfl) (hs : starEach [a] X.env = (false, eval a X.env) :: starEach [] X.env := by rfl) (hplain : (backTo pos (starEach [] X.env)).any (·.1) = false := by rfl) :
    PE X (.Call (.Attribute wo_e "join" apos) [a] [] pos) (tE X.K W (wM1 rJoinD wo wa)) :=
  e_m1 PySem.F.slot_str_join PySem.F.type_str_join mt_join (fun z v b H Q P hb h q => by
    cases b with
    | list xs =>
      obtain ⟨ys, e, hz, h⟩ := h
      cases hb with
      | lst h1 h2 =>
        rw [strs_dp e h2] at h1
        exact ⟨_, _, ys, rfl, rfl, .inl h1, hz, q _ _ h rfl⟩
    | tuple xs =>
      obtain ⟨ys, e, hz, h⟩ := h
      cases hb with
      | tup h1 h2 =>
        rw [strs_dp e h2] at h1
        exact ⟨_, _, ys, rfl, rfl, .inr h1, hz, q _ _ h rfl⟩
    | _ => exact h.elim) ho ha hbase hfew hline hs hplain
theorem own_at {K : PySem.W.Frag} {H0 F0 : Hp} {A0 : List Addr} {s : PSt} {σ : St} {T : List (PV × V)} {H F : Hp} {A : List Addr} {u : V} {n : Nat} {xs : List PyData} (w : WdF K H0 F0 A0 s σ T H F A) (h : (PV.own n, u) ∈ T) (ho : s.o[n]? = some (.dl xs)) :
    ∃ p vs, A[n]? = some p ∧ u = .ref p ∧ H p = some (.lst vs) ∧ DqAll K F vs xs := by
  obtain ⟨p, hp, e⟩ := w.tm _ h
  obtain ⟨_, vs, h1, h2⟩ := w.oc n p _ hp ho
  exact ⟨p, vs, hp, e, h1, h2⟩
theorem e_app {apos : Pos} (ho : PE X wo_e (tE X.K W wo)) (ha : PE X a (tE X.K W wa))
    (hbase : attributeBase wo_e "append" X.env (eval wo_e X.env) = eval wo_e X.env := by rfl)
    (hfew : ((backTo pos (starEach [a] X.env)).all (fun x => !x.1) && (backToKw pos (keywordEach [] X.env)).all (fun x => x.1.isSome)
      && decide ([a].length + ([] : List Keyword).length + (if ([] : List Keyword).isEmpty then 0 else 1) < 30)) = true := by rfl)
    (hline : (apos.endLine == pos.line) = true := by rfl) (hs : starEach [a] X.env = (false, eval a X.env) :: starEach [] X.env := by rfl) (hplain : (backTo pos (starEach [] X.env)).any (·.1) = false := by rfl) :
    PE X (.Call (.Attribute wo_e "append" apos) [a] [] pos) (tE X.K W (wApp wo wa)) := by
  refine PE.imp (pe_bm PySem.F.plainAttrs_list PySem.F.slot_list_append PySem.F.type_list_append mt_append ho (pa_cons ha pa_nil hs) hbase hfew hline hs hplain) fun σ H Q ⟨H0, F0, A0, s, T, kx, k, w, xl, h, q⟩ => ?_
  refine ⟨H0, F0, A0, s, T, kx, _, w, xl, h, fun x s1 h1 u H1 w1 => ?_⟩
  obtain ⟨n, ws, rfl, ow, h1⟩ := h1
  have ty : tyV X.K "list" u H1 := by
    obtain ⟨F, A, w1⟩ := w1
    obtain ⟨p, vs, hp, rfl, hv, _⟩ := own_at w1 List.mem_cons_self ow
    exact .inl ⟨rfl, vs, SqL.of hv⟩
  refine ⟨ty, H0, F0, A0, s1, _, kx, _, w1, xl.push, h1, fun y s2 h2 v H2 w2 => ?_⟩
  obtain ⟨d, s3, h3, w3⟩ := frz_ok w2 h2
  obtain ⟨xs, ox, hz, hk⟩ := h3
  obtain ⟨F, A, w3⟩ := w3
  obtain ⟨p, vs, hp, rfl, hv, hd⟩ := own_at w3 (List.mem_cons_of_mem _ List.mem_cons_self) ox
  have dv : Dq X.K F v d := w3.tm (.d d, v) List.mem_cons_self
  refine ⟨p, vs, v, rfl, rfl, hv, by rw [hd.len]; exact hz, q _ _ hk _ _ ⟨F, A, ((w3.sub (T' := T) fun t h => List.mem_cons_of_mem _ (List.mem_cons_of_mem _ h)).wr hp ox (hd.app (.cons dv .nil))).push .non⟩⟩
theorem e_ext {apos : Pos} (ho : PE X wo_e (tE X.K W wo)) (ha : PE X a (tE X.K W wa))
    (hbase : attributeBase wo_e "extend" X.env (eval wo_e X.env) = eval wo_e X.env := by rfl)
    (hfew : ((backTo pos (starEach [a] X.env)).all (fun x => !x.1) && (backToKw pos (keywordEach [] X.env)).all (fun x => x.1.isSome)
      && decide ([a].length + ([] : List Keyword).length + (if ([] : List Keyword).isEmpty then 0 else 1) < 30)) = true := by rfl)
    (hline : (apos.endLine == pos.line) = true := by rfl) (hs : starEach [a] X.env = (false, eval a X.env) :: starEach [] X.env := by rfl) (hplain : (backTo pos (starEach [] X.env)).any (·.1) = false := by rfl) :
    PE X (.Call (.Attribute wo_e "extend" apos) [a] [] pos) (tE X.K W (wExt wo wa)) := by
  refine PE.imp (pe_bm PySem.F.plainAttrs_list PySem.F.slot_list_extend PySem.F.type_list_extend mt_extend ho (pa_cons ha pa_nil hs) hbase hfew hline hs hplain) fun σ H Q ⟨H0, F0, A0, s, T, kx, k, w, xl, h, q⟩ => ?_
  refine ⟨H0, F0, A0, s, T, kx, _, w, xl, h, fun x s1 h1 u H1 w1 => ?_⟩
  obtain ⟨n, ws, rfl, ow, h1⟩ := h1
  have ty : tyV X.K "list" u H1 := by
    obtain ⟨F, A, w1⟩ := w1
    obtain ⟨p, vs, hp, rfl, hv, _⟩ := own_at w1 List.mem_cons_self ow
    exact .inl ⟨rfl, vs, SqL.of hv⟩
  refine ⟨ty, H0, F0, A0, s1, _, kx, _, w1, xl.push, h1, fun y s2 h2 v H2 w2 => ?_⟩
  obtain ⟨xs, ys, ox, oy, hz, hk⟩ := h2
  obtain ⟨F, A, w3⟩ := w2
  obtain ⟨p, vs, hp, rfl, hv, hd⟩ := own_at w3 (List.mem_cons_of_mem _ List.mem_cons_self) ox
  obtain ⟨b, zs, rfl, hb, hy⟩ := itemsq_ok w3 (w3.tm _ List.mem_cons_self) oy
  refine ⟨p, b, vs, zs, rfl, rfl, hv, hb, by rw [hd.len, hy.len]; exact hz, q _ _ hk _ _ ⟨F, A, ((w3.sub (T' := T) fun t h => List.mem_cons_of_mem _ (List.mem_cons_of_mem _ h)).wr hp ox (hd.app hy)).push .non⟩⟩
theorem DqAll.init {K : PySem.W.Frag} {H : Hp} {vs : List V} {ds : List PyData} (h : DqAll K H vs ds) : DqAll K H vs.dropLast ds.dropLast := by
  rw [List.dropLast_eq_take, List.dropLast_eq_take, h.len]
  exact h.take _
theorem e_pop {apos : Pos} (ho : PE X wo_e (tE X.K W wo)) (hbase : attributeBase wo_e "pop" X.env (eval wo_e X.env) = eval wo_e X.env := by rfl) (hline : (apos.endLine == pos.line) = true := by rfl) :
    PE X (.Call (.Attribute wo_e "pop" apos) [] [] pos) (tE X.K W (wPop wo)) := by
  refine PE.imp (pe_bm0 PySem.F.plainAttrs_list PySem.F.slot_list_pop PySem.F.type_list_pop mt_pop ho hbase hline) fun σ H Q ⟨H0, F0, A0, s, T, kx, k, w, xl, h, q⟩ => ?_
  refine ⟨H0, F0, A0, s, T, kx, _, w, xl, h, fun x s1 h1 u H1 w1 => ?_⟩
  obtain ⟨n, xs, d, rfl, ox, hl, hk⟩ := h1
  obtain ⟨F, A, w1⟩ := w1
  obtain ⟨p, vs, hp, rfl, hv, hd⟩ := own_at w1 List.mem_cons_self ox
  obtain ⟨v, e1, e2⟩ := hd.getd _ _ hl
  refine ⟨.inl ⟨rfl, vs, SqL.of hv⟩, p, vs, v, rfl, rfl, hv, by rw [hd.len]; exact e1, q _ _ hk _ _ ⟨F, A, ((w1.sub (T' := T) fun t h => List.mem_cons_of_mem _ h).wr hp ox hd.init).push e2⟩⟩
end
end PW
namespace PW
open PySem L2
/-! ### statements -/
def PSt.st (s : PSt) (i : Nat) (v : PV) : PSt := ⟨s.r.set i (some v), s.o⟩
mutual
/-- all owned things in it stand ahead of the m-th -/
def PV.lt (m : Nat) : PV → Bool
  | .own n => decide (n < m)
  | .tp ps => PV.ltAll m ps
  | _ => true
def PV.ltAll (m : Nat) : List PV → Bool
  | [] => true
  | p :: ps => PV.lt m p && PV.ltAll m ps
end
/-- owned things from the m-th on are forgotten -/
def cutP (m : Nat) : Option PV → Option PV
  | some (.own n) => if n < m then some (.own n) else none
  | some (.tp ps) => if PV.ltAll m ps = true then some (.tp ps) else none
  | v => v
/-- what is in an owned thing -/
def OC.pvs : OC → List PV
  | .ml ps => ps
  | .ob _ fs => fs.map (·.2)
  | .dm kvs => kvs.map (·.2)
  | .dt kvs => kvs.map (·.2)
  | _ => []
def OC.cut (m : Nat) : OC → OC
  | .dl xs => .dl xs
  | .di kvs => .di kvs
  | .no => .no
  | c => if PV.ltAll m c.pvs = true then c else .no
def cutL (m : Nat) (o : List OC) : List OC := (o.take m).map (OC.cut m)
def PSt.trim (s : PSt) (m : Nat) : PSt := ⟨s.r.map (cutP m), cutL m s.o⟩
/-- slots are forgotten -/
def PSt.wipe (s : PSt) : List Nat → PSt
  | [] => s
  | v :: vs => ⟨(s.wipe vs).r.set v none, s.o⟩
def wSeq (a b : SW) : SW := fun kx s k => a kx s { k with nx := fun s1 => b kx s1 k }
def wNext : SW := fun _ s k => k.nx s
def wBrk : SW := fun _ s k => k.bk s
def wCnt : SW := fun _ s k => k.ct s
def wAsg (we : EW) (i : Nat) : SW := fun kx s k => we kx s fun v s1 => k.nx (s1.st i v)
def wDrop (we : EW) : SW := fun kx s k => we kx s fun _ s1 => k.nx s1
def wRet (we : EW) : SW := fun kx s k => we kx s fun v s1 => k.rt v s1
def wRetN : SW := fun _ s k => k.rt (.d .none) s
def wIfS (t : TW) (a b : SW) : SW := fun kx s k => t kx s fun c s1 => (c = true → a kx s1 k) ∧ (c = false → b kx s1 k)
/-- a target by data -/
def gN (i : Nat) : GW := fun x s k => k (s.st i (.d x))
abbrev GWs := List PyData → PSt → (PSt → Prop) → Prop
def gT (n : Nat) (gs : GWs) : GW := fun x s k => ∃ xs, x = .tuple xs ∧ xs.length = n ∧ gs xs s k
def gsNil : GWs := fun xs s k => xs = [] ∧ k s
def gsCons (g : GW) (gs : GWs) : GWs := fun xs s k => ∃ x r, xs = x :: r ∧ g x s fun s1 => gs r s1 k
def wUnp (we : EW) (g : GW) : SW := fun kx s k => we kx s fun v s1 => frz v s1 fun x s2 => g x s2 k.nx
def wSetIx (wv wo wi : EW) : SW := fun kx s k => wv kx s fun v s1 => wo kx s1 fun x s2 => wi kx s2 fun y s3 => frz v s3 fun d s4 => ∃ n xs i j, x = .own n ∧ y = .d (.int i) ∧ s4.o[n]? = some (.dl xs) ∧ ixN xs.length i = some j ∧ k.nx ⟨s4.r, s4.o.set n (.dl (xs.set j d))⟩
def wAug (R : PyData → PyData → (PyData → Prop) → Prop) (i : Nat) (we : EW) : SW := fun kx s k => ∃ x, s.r[i]? = some (some (.d x)) ∧ we kx s fun y s1 => ∃ b, dat s1 y = some b ∧ R x b fun z => k.nx (s1.st i (.d z))
def wWh (t : TW) (b : SW) : SW := fun kx s k => ∃ I : Nat → PSt → Prop, (∃ m, I m s) ∧ ∀ m s1, I m s1 → t kx s1 fun c s2 =>
  (c = true → b kx s2 { k with nx := fun s3 => ∃ m', m' < m ∧ (I m' s3 ∨ I m' (s3.trim s.o.length)), ct := fun s3 => ∃ m', m' < m ∧ (I m' s3 ∨ I m' (s3.trim s.o.length)), bk := k.nx }) ∧ (c = false → k.nx s2)
def wFor (wi : IW) (g : GW) (b : SW) : SW := fun kx s k => wi kx s fun xs c s0 => ∃ I : Nat → PSt → Prop, I 0 s0 ∧ (∀ j s1, j ≤ xs.length → I j s1 → Src c s1) ∧ (∀ j x s1, xs[j]? = some x → I j s1 → g x s1 fun s2 =>
  b kx s2 { k with nx := fun s3 => I (j + 1) s3 ∨ I (j + 1) (s3.trim s0.o.length), ct := fun s3 => I (j + 1) s3 ∨ I (j + 1) (s3.trim s0.o.length), bk := k.nx }) ∧ ∀ s1, I xs.length s1 → k.nx s1
def wRaise (C : Addr) : SW := fun kx s _ => kx ⟨C, none⟩ s
section
variable {K : PySem.W.Frag} {H0 F0 : Hp} {A0 : List Addr} {s : PSt} {σ : St} {T : List (PV × V)} {H F : Hp} {A : List Addr}
theorem cutP_is {m : Nat} {v : PV} : ∀ {o : Option PV}, cutP m o = some v → o = some v ∧ v.lt m = true
  | none, h => nomatch h
  | some (.own n), h => by
    by_cases hn : n < m
    · have e : cutP m (some (.own n)) = some (.own n) := if_pos hn
      rw [e] at h
      cases h
      exact ⟨rfl, decide_eq_true hn⟩
    · have e : cutP m (some (.own n)) = none := if_neg hn
      rw [e] at h
      cases h
  | some (.tp ps), h => by
    by_cases hn : PV.ltAll m ps = true
    · have e : cutP m (some (.tp ps)) = some (.tp ps) := if_pos hn
      rw [e] at h
      cases h
      exact ⟨rfl, hn⟩
    · have e : cutP m (some (.tp ps)) = none := if_neg hn
      rw [e] at h
      cases h
  | some (.d x), h => by cases h; exact ⟨rfl, rfl⟩
  | some (.scr x), h => by cases h; exact ⟨rfl, rfl⟩
  | some (.gl x), h => by cases h; exact ⟨rfl, rfl⟩
  | some (.exc x), h => by cases h; exact ⟨rfl, rfl⟩
  | some (.xd x), h => by cases h; exact ⟨rfl, rfl⟩
  | some (.dk x), h => by cases h; exact ⟨rfl, rfl⟩
theorem cutP_of {m : Nat} {v : PV} (h : v.lt m = true) : cutP m (some v) = some v := by
  cases v with
  | own n => exact if_pos (of_decide_eq_true h)
  | tp ps => exact if_pos h
  | _ => rfl
theorem ocut_if {m : Nat} : ∀ c : OC, OC.cut m c = if PV.ltAll m c.pvs = true then c else .no
  | .ml ps => rfl
  | .ob _ _ => rfl
  | .dm _ => rfl
  | .dt _ => rfl
  | .no => rfl
  | .dl _ => rfl
  | .di _ => rfl
theorem ocut_is {m : Nat} (c : OC) : OC.cut m c = .no ∨ OC.cut m c = c := by
  rw [ocut_if]
  split
  · exact .inr rfl
  · exact .inl rfl
mutual
theorem lt_mono {m n : Nat} (h : m ≤ n) : ∀ {v : PV}, v.lt m = true → v.lt n = true
  | .own k, e => decide_eq_true (Nat.lt_of_lt_of_le (of_decide_eq_true e) h)
  | .tp ps, e => ltAll_mono h (ps := ps) e
  | .d _, _ => rfl
  | .scr _, _ => rfl
  | .gl _, _ => rfl
  | .exc _, _ => rfl
  | .xd _, _ => rfl
  | .dk _, _ => rfl
theorem ltAll_mono {m n : Nat} (h : m ≤ n) : ∀ {ps : List PV}, PV.ltAll m ps = true → PV.ltAll n ps = true
  | [], _ => rfl
  | p :: ps, e => by
    have e : (PV.lt m p && PV.ltAll m ps) = true := e
    rw [Bool.and_eq_true] at e
    show (PV.lt n p && PV.ltAll n ps) = true
    rw [lt_mono h e.1, ltAll_mono h e.2]
    rfl
end
mutual
theorem PVOk.lt {K : PySem.W.Frag} {F : Hp} {A : List Addr} : ∀ {v : PV} {u : V}, PVOk K F A v u → v.lt A.length = true
  | .own n, _, ⟨_, hp, _⟩ => decide_eq_true (List.getElem?_eq_some_iff.mp hp).1
  | .tp ps, _, ⟨_, us, _, _, r⟩ => PVAll.lt r
  | .d _, _, _ => rfl
  | .scr _, _, _ => rfl
  | .gl _, _, _ => rfl
  | .exc _, _, _ => rfl
  | .xd _, _, _ => rfl
  | .dk _, _, _ => rfl
theorem PVAll.lt {K : PySem.W.Frag} {F : Hp} {A : List Addr} : ∀ {ps : List PV} {us : List V}, PVAll K F A ps us → PV.ltAll A.length ps = true
  | [], [], _ => rfl
  | p :: ps, u :: us, ⟨h, r⟩ => by
    show (PV.lt _ p && PV.ltAll _ ps) = true
    rw [PVOk.lt h, PVAll.lt r]
    rfl
  | [], _ :: _, h => h.elim
  | _ :: _, [], h => h.elim
end
mutual
theorem PVOk.take {K : PySem.W.Frag} {F : Hp} {A : List Addr} {m : Nat} : ∀ {v : PV} {u : V}, PVOk K F A v u → v.lt m = true → PVOk K F (A.take m) v u
  | .own n, _, ⟨p, hp, e⟩, h => ⟨p, by rw [List.getElem?_take, if_pos (of_decide_eq_true h)]; exact hp, e⟩
  | .tp ps, _, ⟨a, us, e, q, r⟩, h => ⟨a, us, e, q, PVAll.take r h⟩
  | .d _, _, h, _ => h
  | .scr _, _, h, _ => h
  | .gl _, _, h, _ => h
  | .exc _, _, h, _ => h
  | .xd _, _, h, _ => h
  | .dk _, _, h, _ => h
theorem PVAll.take {K : PySem.W.Frag} {F : Hp} {A : List Addr} {m : Nat} : ∀ {ps : List PV} {us : List V}, PVAll K F A ps us → PV.ltAll m ps = true → PVAll K F (A.take m) ps us
  | [], [], _, _ => True.intro
  | p :: ps, u :: us, ⟨h, r⟩, e => by
    have e : (PV.lt m p && PV.ltAll m ps) = true := e
    rw [Bool.and_eq_true] at e
    exact ⟨PVOk.take h e.1, PVAll.take r e.2⟩
  | [], _ :: _, h, _ => h.elim
  | _ :: _, [], h, _ => h.elim
end
theorem OCOk.tk {m : Nat} {p : Addr} : ∀ {c : OC}, OCOk K F H A p c → PV.ltAll m c.pvs = true → OCOk K F H (A.take m) p c
  | .ml ps, ⟨a, vs, b, r⟩, h => ⟨a, vs, b, PVAll.take r h⟩
  | .ob _ _, ⟨a, dx, vs, b, k, r⟩, h => ⟨a, dx, vs, b, k, PVAll.take r h⟩
  | .dm _, ⟨a, vs, b, k, r⟩, h => ⟨a, vs, b, k, PVAll.take r h⟩
  | .dt _, ⟨a, vs, b, k, r⟩, h => ⟨a, vs, b, k, PVAll.take r h⟩
  | .no, h, _ => h
  | .dl _, h, _ => h
  | .di _, h, _ => h
theorem OCOk.cut {m : Nat} {p : Addr} {c : OC} (h : OCOk K F H A p c) : OCOk K F H (A.take m) p (OC.cut m c) := by
  rw [ocut_if]
  split
  · rename_i e
    exact h.tk e
  · trivial
theorem ocut_up {m n : Nat} (h : m ≤ n) {c : OC} (e : OC.cut m c = c) : OC.cut n c = c ∨ c = .no := by
  rw [ocut_if] at e ⊢
  split at e
  · rename_i z
    rw [if_pos (ltAll_mono h z)]
    exact .inl rfl
  · exact .inr e.symm
theorem cutL_at {m n : Nat} {o : List OC} {c : OC} (h : (cutL m o)[n]? = some c) : n < m ∧ ∃ c0, o[n]? = some c0 ∧ c = OC.cut m c0 := by
  unfold cutL at h
  rw [List.getElem?_map, List.getElem?_take] at h
  by_cases hn : n < m
  · rw [if_pos hn] at h
    cases ho : o[n]? with
    | none => rw [ho] at h; cases h
    | some c0 =>
      rw [ho] at h
      exact ⟨hn, c0, rfl, (Option.some.inj h).symm⟩
  · rw [if_neg hn] at h
    cases h
theorem cutL_len (m : Nat) (o : List OC) : (cutL m o).length = min m o.length := by
  unfold cutL
  rw [List.length_map, List.length_take]
theorem WdF.trim {m : Nat} (w : WdF K H0 F0 A0 s σ T H F A) (hm : A0.length ≤ m) (hT : ∀ t ∈ T, t.1.lt m = true) : WdF K H0 F0 A0 (s.trim m) σ T H F (A.take m) where
  fz := w.fz
  pre := by
    obtain ⟨t, e⟩ := w.pre
    subst e
    rw [List.take_append, List.take_of_length_le hm]
    exact List.prefix_append _ _
  len := by
    show (A.take m).length = (cutL m s.o).length
    rw [List.length_take, cutL_len, w.len]
  nd := w.nd.sublist (List.take_sublist _ _)
  ad := fun p hp => w.ad p (List.mem_of_mem_take hp)
  oc := fun n p c h1 h2 => by
    obtain ⟨hn, c0, h3, rfl⟩ := cutL_at (o := s.o) h2
    rw [List.getElem?_take, if_pos hn] at h1
    exact (w.oc n p c0 h1 h3).cut
  sl := by
    show (s.r.map _).length = _
    rw [List.length_map]; exact w.sl
  pv := fun i v h => by
    have h : (s.r.map (cutP m))[i]? = some (some v) := h
    rw [List.getElem?_map] at h
    cases hr : s.r[i]? with
    | none => rw [hr] at h; cases h
    | some o =>
      rw [hr] at h
      obtain ⟨h, hl⟩ := cutP_is (Option.some.inj h)
      subst h
      obtain ⟨u, a, b⟩ := w.pv i v hr
      exact ⟨u, a, b.take hl⟩
  tm := fun t ht => (w.tm t ht).take (hT t ht)
theorem WdF.own_lt (w : WdF K H0 F0 A0 s σ T H F A) : A0.length ≤ s.o.length ∧ ∀ t ∈ T, t.1.lt s.o.length = true := by
  refine ⟨by rw [← w.len]; exact w.pre.length_le, fun t ht => ?_⟩
  rw [← w.len]
  exact (w.tm t ht).lt
theorem Wd.trim {m : Nat} (w : Wd K H0 F0 A0 s σ T H) (hm : A0.length ≤ m) (hT : ∀ t ∈ T, t.1.lt m = true) : Wd K H0 F0 A0 (s.trim m) σ T H := by
  obtain ⟨F, A, w⟩ := w
  exact ⟨F, _, w.trim hm hT⟩
theorem Wd.own_lt (w : Wd K H0 F0 A0 s σ T H) : A0.length ≤ s.o.length ∧ ∀ t ∈ T, t.1.lt s.o.length = true := by
  obtain ⟨F, A, w⟩ := w
  exact w.own_lt
theorem mem_skip {α : Type} {a t : α} {l : List α} (h : t ∈ l) : t ∈ a :: l := List.mem_cons_of_mem _ h
theorem mem_keep {α : Type} {a t : α} {l m : List α} (f : ∀ t ∈ l, t ∈ m) (h : t ∈ a :: l) : t ∈ a :: m := by
  rcases List.mem_cons.mp h with e | h
  · rw [e]; exact List.mem_cons_self
  · exact List.mem_cons_of_mem _ (f t h)
end
section
variable {X : Cx} {W : WX} {st : Stmt} {rest body orelse : List Stmt} {wa wb : SW} {we wo wi : EW} {wt : TW} {e o a : Expr} {pos : Pos} {g : GW}
theorem s_cons (h1 : PS X st (tS X.K W wa)) (h2 : PSs X rest (tS X.K W wb)) : PSs X (st :: rest) (tS X.K W (wSeq wa wb)) := by
  refine PSs.imp (pss_cons h1 h2) fun D σ H ⟨H0, F0, A0, s, T, kx, k, w, xl, h, q1, q2, q3, q4⟩ => ?_
  exact ⟨H0, F0, A0, s, T, kx, _, w, xl, h, fun s' h' σ' H' w' => ⟨H0, F0, A0, s', T, kx, k, w', xl, h', q1, q2, q3, q4⟩, q2, q3, q4⟩
theorem s_one (h1 : PS X st (tS X.K W wa)) : PSs X [st] (tS X.K W wa) := pss_one h1
theorem s_nil : PSs X [] (tS X.K W wNext) := PSs.imp pss_nil fun D σ H ⟨H0, F0, A0, s, T, kx, k, w, xl, h, q1, q2, q3, q4⟩ => q1 s h σ H w
theorem s_pass : PS X (.Pass pos) (tS X.K W wNext) := PS.imp ps_pass fun D σ H ⟨H0, F0, A0, s, T, kx, k, w, xl, h, q1, q2, q3, q4⟩ => q1 s h σ H w
theorem s_brk : PS X (.Break pos) (tS X.K W wBrk) := PS.imp ps_break fun D σ H ⟨H0, F0, A0, s, T, kx, k, w, xl, h, q1, q2, q3, q4⟩ => q3 s h σ H w
theorem s_cnt : PS X (.Continue pos) (tS X.K W wCnt) := PS.imp ps_continue fun D σ H ⟨H0, F0, A0, s, T, kx, k, w, xl, h, q1, q2, q3, q4⟩ => q4 s h σ H w
theorem s_expr (he : PE X e (tE X.K W we)) (hs : swapsWith e none pos.line X.env = pure false := by rfl) : PS X (.Expr e pos) (tS X.K W (wDrop we)) := by
  refine PS.imp (ps_expr he hs) fun D σ H ⟨H0, F0, A0, s, T, kx, k, w, xl, h, q1, q2, q3, q4⟩ => ?_
  exact ⟨H0, F0, A0, s, T, kx, _, w, xl, h, fun v s' h' u H' w' => q1 s' h' σ H' w'.pop⟩
theorem s_ret (he : PE X e (tE X.K W we)) : PS X (.Return (some e) pos) (tS X.K W (wRet we)) := by
  refine PS.imp (ps_ret he) fun D σ H ⟨H0, F0, A0, s, T, kx, k, w, xl, h, q1, q2, q3, q4⟩ => ?_
  exact ⟨H0, F0, A0, s, T, kx, _, w, xl, h, fun v s' h' u H' w' => q2 v s' h' u σ H' w'⟩
theorem s_retN : PS X (.Return none pos) (tS X.K W wRetN) := by
  refine PS.imp ps_retN fun D σ H ⟨H0, F0, A0, s, T, kx, k, w, xl, h, q1, q2, q3, q4⟩ => ?_
  obtain ⟨F, A, w⟩ := w
  exact q2 _ s h _ σ H ⟨F, A, w.push .non⟩
theorem s_if (hc : PT X e (tT X.K W wt)) (ha : PSs X body (tS X.K W wa)) (hb : PSs X orelse (tS X.K W wb)) : PS X (.If e body orelse pos) (tS X.K W (wIfS wt wa wb)) := by
  refine PS.imp (ps_if hc ha hb) fun D σ H ⟨H0, F0, A0, s, T, kx, k, w, xl, h, q1, q2, q3, q4⟩ => ?_
  refine ⟨H0, F0, A0, s, T, kx, _, w, xl, h, fun c s' h' H' w' => ?_⟩
  cases c with
  | true => exact iteT ⟨H0, F0, A0, s', T, kx, k, w', xl, h'.1 rfl, q1, q2, q3, q4⟩
  | false => exact iteF ⟨H0, F0, A0, s', T, kx, k, w', xl, h'.2 rfl, q1, q2, q3, q4⟩
theorem s_set {i : Nat} {x : Str} {pos' : Pos} (hN : X.N.Nodup) (hi : X.N[i]? = some x) (hx : Loc X.env.scope x) (he : PE X e (tE X.K W we)) (hs : swapsWith e (some (.Name x pos')) pos.line X.env = pure false := by rfl) (hf : X.fn x = true ∨ X.env.scope.names.lookup x = some .local := by first | exact .inl rfl | exact .inr rfl | assumption) :
    PS X (.Assign [.Name x pos'] e pos) (tS X.K W (wAsg we i)) := by
  refine PS.imp (ps_set hN hi hx he hs hf) fun D σ H ⟨H0, F0, A0, s, T, kx, k, w, xl, h, q1, q2, q3, q4⟩ => ?_
  refine ⟨H0, F0, A0, s, T, kx, _, w, xl, h, fun v s' h' u H' w' => ?_⟩
  obtain ⟨F, A, w'⟩ := w'
  exact q1 _ h' _ H' ⟨F, A, (w'.sub fun t h => List.mem_cons_of_mem _ h).st (w'.tm _ List.mem_cons_self)⟩
/-! targets -/
theorem g_name {i : Nat} {x : Str} (hN : X.N.Nodup) (hi : X.N[i]? = some x) (hx : Loc X.env.scope x) (hf : X.fn x = true ∨ X.env.scope.names.lookup x = some .local := by first | exact .inl rfl | exact .inr rfl | assumption) : PG X (.Name x pos) (tG X.K [i] (gN i)) := by
  refine PG.imp (pg_name hN hi hx hf) fun v σ H Q ⟨H0, F0, A0, s, T, x, k, w, m, h, q⟩ => ?_
  obtain ⟨F, A, w⟩ := w
  exact q _ h _ H ⟨by rw [List.length_set], fun j hj => List.getElem?_set_ne (fun e => hj (by rw [e]; exact List.mem_cons_self))⟩ ⟨F, A, w.st (w.tm _ m)⟩
def tGs (K : PySem.W.Frag) (L : List Nat) (g : GWs) : TGs := fun vs σ H Q => ∃ H0 F0 A0 s T xs k, Wd K H0 F0 A0 s σ T H ∧ vs.length = xs.length ∧ (∀ t ∈ (xs.map PV.d).zip vs, t ∈ T) ∧ g xs s k ∧ ∀ s', k s' → ∀ σ' H', OutL L σ σ' → Wd K H0 F0 A0 s' σ' T H' → Q σ' H'
theorem PGs.imp {es : List Expr} {t t' : TGs} (h : PGs X es t) (i : ∀ v σ H Q, t' v σ H Q → t v σ H Q) : PGs X es t' := ⟨fun pins s σ H v u Q I r q => h.run pins s σ H v u Q I r (i v σ H Q q)⟩
theorem gs_nil : PGs X [] (tGs X.K [] gsNil) := by
  refine PGs.imp pgs_nil fun vs σ H Q ⟨H0, F0, A0, s, T, xs, k, w, e, m, ⟨hx, h⟩, q⟩ => ?_
  subst hx
  exact ⟨List.eq_nil_of_length_eq_zero e, q s h σ H ⟨rfl, fun _ _ => rfl⟩ w⟩
theorem gs_cons {es : List Expr} {g1 : GW} {g2 : GWs} {L1 L2 : List Nat} (h1 : PG X e (tG X.K L1 g1)) (h2 : PGs X es (tGs X.K L2 g2)) (hs : (assignEach (e :: es) X.env).map (·.2) = assign e X.env :: (assignEach es X.env).map (·.2) := by rfl) : PGs X (e :: es) (tGs X.K (L1 ++ L2) (gsCons g1 g2)) := by
  refine PGs.imp (pgs_cons h1 h2 hs) fun vs σ H Q ⟨H0, F0, A0, s, T, xs, k, w, e, m, ⟨x, r, hx, h⟩, q⟩ => ?_
  subst hx
  cases vs with
  | nil => cases e
  | cons v vs =>
    refine ⟨v, vs, rfl, H0, F0, A0, s, T, x, _, w, m _ List.mem_cons_self, h, fun s' h' σ' H' l' w' => ?_⟩
    exact ⟨H0, F0, A0, s', T, r, k, w', Nat.succ.inj e, fun t ht => m t (List.mem_cons_of_mem _ ht), h', fun s2 h2 σ2 H2 l2 w2 => q s2 h2 σ2 H2 ⟨l2.1.trans l'.1, fun j hj => (l2.2 j fun z => hj (List.mem_append_right _ z)).trans (l'.2 j fun z => hj (List.mem_append_left _ z))⟩ w2⟩
theorem g_tup {es : List Expr} {kk n : Nat} {gs : GWs} {L : List Nat} (hc : X.calm = true) (h : PGs X es (tGs X.K L gs)) (hn : (assignEach es X.env).length = n := by rfl) (hst : (assignEach es X.env).findIdx? (·.1) = none := by rfl) : PG X (.Tuple es kk pos) (tG X.K L (gT n gs)) := by
  refine PG.imp (pg_tup hc h hn hst) fun v σ H Q ⟨H0, F0, A0, s, T, x, k, w, m, ⟨xs, hx, hl, h⟩, q⟩ => ?_
  subst hx
  obtain ⟨F, A, w⟩ := w
  have pv : PVOk X.K F A (.d (.tuple xs)) v := w.tm _ m
  obtain ⟨p, vs, e1, h1, h2⟩ := itemsT_ok w pv rfl
  refine ⟨p, vs, e1, h1, h2.len.trans hl, H0, F0, A0, s, (xs.map PV.d).zip vs ++ T, xs, k, ⟨F, A, w.tms fun t ht => ?_⟩, h2.len, fun t ht => List.mem_append_left _ ht, h, fun s' h' σ' H' l' w' => q s' h' σ' H' l' (w'.sub fun t ht => List.mem_append_right _ ht)⟩
  rcases List.mem_append.mp ht with z | z
  · have zip_ok : ∀ {vs : List V} {xs : List PyData}, DqAll X.K F vs xs → ∀ t ∈ (xs.map PV.d).zip vs, PVOk X.K F A t.1 t.2 := by
      intro vs xs hd
      induction vs generalizing xs with
      | nil => cases hd; exact fun t ht => by simp at ht
      | cons v vs ih =>
        cases hd with
        | cons d r =>
          intro t ht
          rcases List.mem_cons.mp ht with e | ht
          · rw [e]; exact d
          · exact ih r t ht
    exact zip_ok h2 t z
  · exact w.tm t z
/-- a, b = e -/
theorem s_unp {tg : Expr} {L : List Nat} (he : PE X e (tE X.K W we)) (hg : PG X tg (tG X.K L g)) (hs : swapsWithSole [tg] e pos.line X.env = pure false := by rfl) (hw : swappedStores [tg] e X.env = pure none := by rfl)
    (h1 : (assignEach [tg] X.env).map (·.2) = [assign tg X.env] := by rfl) : PS X (.Assign [tg] e pos) (tS X.K W (wUnp we g)) := by
  refine PS.imp (ps_asg he hg hs hw h1) fun D σ H ⟨H0, F0, A0, s, T, kx, k, w, xl, h, q1, q2, q3, q4⟩ => ?_
  refine ⟨H0, F0, A0, s, T, kx, _, w, xl, h, fun v s' h' u H' w' => ?_⟩
  obtain ⟨d, s2, h2, w2⟩ := frz_ok w' h'
  exact ⟨H0, F0, A0, s2, _, d, k.nx, w2, List.mem_cons_self, h2, fun s3 h3 σ3 H3 _ w3 => q1 s3 h3 σ3 H3 w3.pop⟩
theorem dqAll_set {K : PySem.W.Frag} {F : Hp} {vs : List V} {ds : List PyData} {v : V} {d : PyData} (j : Nat) (h : DqAll K F vs ds) (q : Dq K F v d) : DqAll K F (vs.set j v) (ds.set j d) := h.set j q
/-- o[i] = e, o an owned list -/
theorem s_setIx {i : Expr} {wv : EW} {p2 : Pos} (he : PE X e (tE X.K W wv)) (ho : PE X o (tE X.K W wo)) (hi : PE X i (tE X.K W wi))
    (ha : ∀ v, assign (.Subscript o i p2) X.env v = (do
      let ov ← holding [v] (eval o X.env)
      let iv ← holding [v, ov] (eval i X.env)
      standAt p2
      holding [v, ov, iv] (setItem ov iv v)
      release [v, ov, iv] []) := by intro _; rfl)
    (hs : swapsWithSole [.Subscript o i p2] e pos.line X.env = pure false := by rfl) (hw : swappedStores [.Subscript o i p2] e X.env = pure none := by rfl)
    (h1 : (assignEach [.Subscript o i p2] X.env).map (·.2) = [assign (.Subscript o i p2) X.env] := by rfl) : PS X (.Assign [.Subscript o i p2] e pos) (tS X.K W (wSetIx wv wo wi)) := by
  refine PS.imp (ps_asg he (pg_sub ho hi set_list ha) hs hw h1) fun D σ H ⟨H0, F0, A0, s, T, kx, k, w, xl, h, q1, q2, q3, q4⟩ => ?_
  refine ⟨H0, F0, A0, s, T, kx, _, w, xl, h, fun v s1 h1 u H1 w1 => ?_⟩
  refine ⟨H0, F0, A0, s1, _, kx, _, w1, xl.push, h1, fun x s2 h2 ux H2 w2 => ?_⟩
  refine ⟨H0, F0, A0, s2, _, kx, _, w2, xl.push.push, h2, fun y s3 h3 uy H3 w3 => ?_⟩
  obtain ⟨d, s4, h4, w4⟩ := frz_ok (T := (y, uy) :: (x, ux) :: T) (w3.sub fun t ht => by
    rcases List.mem_cons.mp ht with e | ht
    · rw [e]; exact List.mem_cons_of_mem _ (List.mem_cons_of_mem _ List.mem_cons_self)
    · rcases List.mem_cons.mp ht with e | ht
      · rw [e]; exact List.mem_cons_self
      · rcases List.mem_cons.mp ht with e | ht
        · rw [e]; exact List.mem_cons_of_mem _ List.mem_cons_self
        · exact List.mem_cons_of_mem _ (List.mem_cons_of_mem _ (List.mem_cons_of_mem _ ht))) h3
  obtain ⟨n, xs, i, j, rfl, rfl, ox, hj, hk⟩ := h4
  obtain ⟨F, A, w4⟩ := w4
  obtain ⟨p, vs, hp, rfl, hv, hd⟩ := own_at w4 (List.mem_cons_of_mem _ (List.mem_cons_of_mem _ List.mem_cons_self)) ox
  have dv : Dq X.K F u d := w4.tm (.d d, u) List.mem_cons_self
  have di : Dq X.K F uy (.int i) := w4.tm (.d (.int i), uy) (List.mem_cons_of_mem _ List.mem_cons_self)
  cases dp_int (dq_dp di)
  refine ⟨p, vs, i, j, rfl, rfl, hv, by rw [hd.len]; exact hj, q1 _ hk σ _ ⟨F, A, (w4.sub (T' := T) fun t h => List.mem_cons_of_mem _ (List.mem_cons_of_mem _ (List.mem_cons_of_mem _ h))).wr hp ox (hd.set j dv)⟩⟩
/-- x += e -/
theorem s_aug {i : Nat} {x : Str} {op : Operator} {r : R2} {R : PyData → PyData → (PyData → Prop) → Prop} {pos' : Pos} (hN : X.N.Nodup) (hi : X.N[i]? = some x) (hx : Loc X.env.scope x) (hr : OpR X (inplaceOp op) r) (hR : ROk X.K r R) (he : PE X e (tE X.K W we))
    (hf : X.fn x = true ∨ X.env.scope.names.lookup x = some .local := by first | exact .inl rfl | exact .inr rfl | assumption) : PS X (.AugAssign (.Name x pos') op e pos) (tS X.K W (wAug R i we)) := by
  have hp : PIp X op r := hr
  refine PS.imp (ps_aug hN hi hx he hp hf) fun D σ H ⟨H0, F0, A0, s, T, kx, k, w, xl, h, q1, q2, q3, q4⟩ => ?_
  obtain ⟨z, hz, h⟩ := h
  obtain ⟨F, A, w⟩ := w
  obtain ⟨u, hu, pu⟩ := w.pv i _ hz
  refine ⟨u, hu, H0, F0, A0, s, (.d z, u) :: T, kx, _, ⟨F, A, w.push pu⟩, xl.push, h, fun y s1 h1 v H1 w1 => ?_⟩
  obtain ⟨b, hb, h1⟩ := h1
  obtain ⟨F1, A1, w1⟩ := w1
  have pz : PVOk X.K F1 A1 (.d z) u := w1.tm _ (List.mem_cons_of_mem _ List.mem_cons_self)
  refine hR u v z b H1 _ _ (dat_ok w1 pz rfl) (dat_ok w1 (w1.tm _ List.mem_cons_self) hb) h1 fun c t hc ht => ?_
  exact q1 _ hc _ H1 ⟨F1, A1, (w1.sub fun t h => List.mem_cons_of_mem _ (List.mem_cons_of_mem _ h)).st (toV_dp ht)⟩
theorem iop_addD : OpR X (inplaceOp .Add) (fun x y H Q => (rI0 fun i j => .int (i + j)) x y H Q ∨ ∃ i j, x = .str i ∧ y = .str j ∧ i.length + j.length ≤ sizeLine ∧ Q (.str (i ++ j)) H) := iop_add.or iop_add_str
theorem s_augAdd {i : Nat} {x : Str} {pos' : Pos} (hN : X.N.Nodup) (hi : X.N[i]? = some x) (hx : Loc X.env.scope x) (he : PE X e (tE X.K W we))
    (hf : X.fn x = true ∨ X.env.scope.names.lookup x = some .local := by first | exact .inl rfl | exact .inr rfl | assumption) : PS X (.AugAssign (.Name x pos') .Add e pos) (tS X.K W (wAug rAddD i we)) := s_aug hN hi hx iop_addD ok_addD he hf
/-! loops -/
theorem s_while (hp : PassesOwn (model X.prog X.w) X.A X.env X.xe) (hc : PT X e (tT X.K W wt)) (hb : PSs X body (tS X.K W wb)) : PS X (.While e body [] pos) (tS X.K W (wWh wt wb)) := by
  refine PS.imp (ps_while hp hc hb) fun D σ H ⟨H0, F0, A0, s, T, kx, k, w, xl, ⟨I, ⟨m0, i0⟩, h⟩, q1, q2, q3, q4⟩ => ?_
  have lt := w.own_lt
  refine ⟨fun m σ' H' => ∃ s', Wd X.K H0 F0 A0 s' σ' T H' ∧ I m s', ⟨m0, s, w, i0⟩, fun m σ1 H1 ⟨s1, w1, i1⟩ => ?_⟩
  refine ⟨H0, F0, A0, s1, T, kx, _, w1, xl, h m s1 i1, fun c s2 h2 H2 w2 => ?_⟩
  cases c with
  | false => exact iteF (q1 _ (h2.2 rfl) σ1 H2 w2)
  | true =>
    have nx : ∀ s3, (∃ m', m' < m ∧ (I m' s3 ∨ I m' (s3.trim s.o.length))) → ∀ σ' H', Wd X.K H0 F0 A0 s3 σ' T H' → ∃ m', m' < m ∧ ∃ s', Wd X.K H0 F0 A0 s' σ' T H' ∧ I m' s' := fun s3 ⟨m', hm, h3⟩ σ' H' w3 => by
      rcases h3 with h3 | h3
      · exact ⟨m', hm, s3, w3, h3⟩
      · exact ⟨m', hm, _, w3.trim lt.1 lt.2, h3⟩
    refine iteT ⟨fun σ' H' => ∃ m', m' < m ∧ ∃ s', Wd X.K H0 F0 A0 s' σ' T H' ∧ I m' s', fun _ _ z => z, H0, F0, A0, s2, T, kx, _, w2, xl, h2.1 rfl, nx, q2, ?_, nx⟩
    exact fun s' h' σ' H' w' => q1 s' h' σ' H' w'
theorem s_for {tg iter : Expr} {iw : IW} {L : List Nat} (hp : PassesOwn (model X.prog X.w) X.A X.env X.xe) (hc : X.calm = true) (hi : PI X tg iter (tI X.K W iw)) (hg : PG X tg (tG X.K L g)) (hb : PSs X body (tS X.K W wb))
    (hs : ∀ v, foldedSetIterable iter X.env v = pure v := by intro _; rfl) : PS X (.For tg iter body [] pos) (tS X.K W (wFor iw g wb)) := by
  refine PS.imp (ps_for hp hc hi hg hb hs) fun D σ H ⟨H0, F0, A0, s, T, kx, k, w, xl, h, q1, q2, q3, q4⟩ => ?_
  refine ⟨H0, F0, A0, s, T, kx, _, w, xl, h, fun xs c s0 h0 J T1 H1 w1 hJ => ?_⟩
  obtain ⟨I, i0, hC, turn, fin⟩ := h0
  have lt := w1.own_lt
  refine ⟨fun i m σ' H' => m = xs.length - i ∧ i ≤ xs.length ∧ ∃ s', Wd X.K H0 F0 A0 s' σ' (T1 ++ T) H' ∧ I i s', ⟨_, rfl, Nat.zero_le _, s0, w1, i0⟩, ?_⟩
  rintro i m σ2 H2 ⟨rfl, hi, s2, ⟨F, A, w2⟩, i2⟩
  obtain ⟨j1, j2, j3⟩ := hJ H0 F0 A0 s2 σ2 (T1 ++ T) H2 F A w2 (fun t ht => List.mem_append_left _ ht) (hC i s2 hi i2) i
  by_cases hlt : i < xs.length
  · refine .inr ⟨j1 hlt, fun σ' H' => ∃ s', Wd X.K H0 F0 A0 s' σ' (T1 ++ T) H' ∧ I (i + 1) s', fun σ' H' ⟨s', w', i'⟩ => ⟨xs.length - (i + 1), by omega, rfl, hlt, s', w', i'⟩, fun x H' hy => ?_⟩
    obtain ⟨d, hd, F', w3⟩ := j3 hlt x H' hy
    refine ⟨H0, F0, A0, s2, _, d, _, ⟨F', A, w3⟩, List.mem_cons_self, turn i d s2 hd i2, fun s4 h4 σ4 H4 _ w4 => ?_⟩
    have nx : ∀ s3, (I (i + 1) s3 ∨ I (i + 1) (s3.trim s0.o.length)) → ∀ σ' H', Wd X.K H0 F0 A0 s3 σ' ((.d d, x) :: (T1 ++ T)) H' → ∃ s', Wd X.K H0 F0 A0 s' σ' (T1 ++ T) H' ∧ I (i + 1) s' := fun s3 h3 σ' H' w3 => by
      rcases h3 with h3 | h3
      · exact ⟨s3, w3.pop, h3⟩
      · exact ⟨_, w3.pop.trim lt.1 lt.2, h3⟩
    refine ⟨H0, F0, A0, s4, _, kx, _, w4, xl.more fun t ht => List.mem_cons_of_mem _ (List.mem_append_right _ ht), h4, nx, fun v s' h' u σ' H' w' => q2 v s' h' u σ' H' (w'.sub fun t ht => ?_), fun s' h' σ' H' w' => q1 s' h' σ' H' (w'.sub fun t ht => List.mem_cons_of_mem _ (List.mem_append_right _ ht)), nx⟩
    rcases List.mem_cons.mp ht with e | ht
    · rw [e]; exact List.mem_cons_self
    · exact List.mem_cons_of_mem _ (List.mem_cons_of_mem _ (List.mem_append_right _ ht))
  · have e : i = xs.length := by omega
    subst e
    exact .inl ⟨j2 (Nat.le_refl _), q1 s2 (fin s2 i2) σ2 H2 ⟨F, A, w2.sub fun t ht => List.mem_append_right _ ht⟩⟩
theorem s_raise {C : Addr} {c : Expr} (hc : X.calm = true) (tk : Takes X W) (hm : PMk X c (fun _ H Q => Q (.ref C) none H)) : PS X (.Raise (some c) none pos) (tS X.K W (wRaise C)) :=
  PS.imp (ps_raise hc tk hm) fun D σ H ⟨H0, F0, A0, s, T, kx, k, ⟨F, A, w⟩, xl, h, q1, q2, q3, q4⟩ => xl ⟨C, none⟩ s h σ H none ⟨F, A, w.push ⟨none, rfl, rfl⟩⟩
end
end PW

namespace PW
open PySem L2
/-! ### what a for or a comprehension walks -/
/-- the items of a list: the script's ints, or data, frozen -/
def lst (v : PV) (s : PSt) (k : List PyData → PSt → Prop) : Prop :=
  match v with
  | .scr ns => k (ns.map PyData.int) s
  | v => frz v s fun x s1 => ∃ xs, x = .list xs ∧ k xs s1
def wL (we : EW) : IW := fun kx s k => we kx s fun v s1 => lst v s1 fun xs s2 => k xs none s2
/-- an owned list, walked as it is -/
def wLO (we : EW) : IW := fun kx s k => we kx s fun v s1 => ∃ n xs, v = .own n ∧ s1.o[n]? = some (.dl xs) ∧ k xs (some (n, xs)) s1
def wTp (we : EW) : IW := fun kx s k => we kx s fun v s1 => ∃ xs, v = .d (.tuple xs) ∧ k xs none s1
def charsD (z : Str) : List PyData := z.cps.toList.map fun c => .str ⟨#[c]⟩
def wSt (we : EW) : IW := fun kx s k => we kx s fun v s1 => ∃ z, v = .d (.str z) ∧ k (charsD z) none s1
def intsD (lo : Int) (n : Nat) : List PyData := (List.range n).map fun i => PyData.int (lo + (i : Nat))
def wRg1 (we : EW) : IW := fun kx s k => we kx s fun v s1 => ∃ j, v = .d (.int j) ∧ -(2 ^ 62) ≤ j ∧ j < 2 ^ 62 ∧ k (intsD 0 j.toNat) none s1
def wRg2 (wa wb : EW) : IW := fun kx s k => wa kx s fun v s1 => wb kx s1 fun u s2 => ∃ i j, v = .d (.int i) ∧ u = .d (.int j) ∧ (-(2 ^ 62) ≤ i ∧ i < 2 ^ 62 ∧ -(2 ^ 62) ≤ j ∧ j < 2 ^ 62) ∧ k (intsD i (j - i).toNat) none s2
def enumD : Nat → List PyData → List PyData
  | _, [] => []
  | i, x :: r => .tuple [.int (i : Nat), x] :: enumD (i + 1) r
def zipD : List PyData → List PyData → List PyData
  | x :: r, y :: t => .tuple [x, y] :: zipD r t
  | _, _ => []
def wEn (we : EW) : IW := fun kx s k => we kx s fun v s1 => lst v s1 fun xs s2 => k (enumD 0 xs) none s2
def wZp (wa wb : EW) : IW := fun kx s k => wa kx s fun v s1 => wb kx s1 fun u s2 => lst v s2 fun xs s3 => lst u s3 fun ys s4 => k (zipD xs ys) none s4
theorem enumD_get : ∀ (xs : List PyData) (n i : Nat), (enumD n xs)[i]? = (xs[i]?).map fun x => .tuple [.int ((n + i : Nat) : Int), x]
  | [], _, _ => by simp [enumD]
  | x :: r, n, 0 => rfl
  | x :: r, n, i + 1 => by
    rw [enumD, List.getElem?_cons_succ, List.getElem?_cons_succ, enumD_get r (n + 1) i]
    rw [show n + 1 + i = n + (i + 1) by omega]
theorem enumD_len : ∀ (xs : List PyData) (n : Nat), (enumD n xs).length = xs.length
  | [], _ => rfl
  | x :: r, n => by rw [enumD, List.length_cons, List.length_cons, enumD_len r]
theorem zipD_get : ∀ (xs ys : List PyData) (i : Nat) x y, xs[i]? = some x → ys[i]? = some y → (zipD xs ys)[i]? = some (.tuple [x, y])
  | [], _, _, _, _, h, _ => by simp at h
  | _ :: _, [], _, _, _, _, h => by simp at h
  | x :: r, y :: t, 0, _, _, h1, h2 => by cases h1; cases h2; rfl
  | x :: r, y :: t, i + 1, _, _, h1, h2 => zipD_get r t i _ _ h1 h2
theorem zipD_len : ∀ (xs ys : List PyData), (zipD xs ys).length = min xs.length ys.length
  | [], _ => by simp [zipD]
  | _ :: _, [] => by simp [zipD]
  | x :: r, y :: t => by rw [zipD, List.length_cons, zipD_len r t, List.length_cons, List.length_cons]; omega
/-- a source: a list that is the script or frozen data -/
def LSrc : PV → List PyData → Prop
  | .scr ns, xs => xs = ns.map PyData.int
  | .d x, xs => x = .list xs
  | _, _ => False
theorem lsrc_ok {K : PySem.W.Frag} {H0 F0 : Hp} {A0 : List Addr} {s : PSt} {σ : St} {T : List (PV × V)} {H F : Hp} {A : List Addr} {v : PV} {u : V} {xs : List PyData} (w : WdF K H0 F0 A0 s σ T H F A) (h : LSrc v xs) (m : (v, u) ∈ T) : ∃ a vs, u = .ref a ∧ SqL K H a vs ∧ DqAll K F vs xs := by
  have p := w.tm _ m
  cases v with
  | scr ns => cases h; exact items_ok w p rfl
  | d x => cases h; exact items_ok w p rfl
  | own n => exact h.elim
  | tp n => exact h.elim
  | gl n => exact h.elim
  | exc n => exact h.elim
  | xd n => exact h.elim
  | dk n => exact h.elim
theorem lst_ok {K : PySem.W.Frag} {H0 F0 : Hp} {A0 : List Addr} {s : PSt} {σ : St} {T : List (PV × V)} {H : Hp} {v : PV} {u : V} {k : List PyData → PSt → Prop} (w : Wd K H0 F0 A0 s σ ((v, u) :: T) H) (h : lst v s k) :
    ∃ v' xs s', k xs s' ∧ LSrc v' xs ∧ Wd K H0 F0 A0 s' σ ((v', u) :: T) H := by
  cases v with
  | scr ns => exact ⟨.scr ns, _, s, h, rfl, w⟩
  | d x =>
    obtain ⟨xs, rfl, h⟩ := h
    exact ⟨.d (.list xs), _, s, h, rfl, w⟩
  | own n =>
    have h : frz (.own n) s fun x s1 => ∃ xs, x = .list xs ∧ k xs s1 := h
    obtain ⟨x, s1, h1, w1⟩ := frz_ok w h
    obtain ⟨xs, rfl, h1⟩ := h1
    exact ⟨.d (.list xs), _, s1, h1, rfl, w1⟩
  | tp n => exact h.elim
  | gl n => exact h.elim
  | exc n => exact h.elim
  | xd n => exact h.elim
  | dk n => exact h.elim
theorem it_list {K : PySem.W.Frag} {v : PV} {a : Addr} {xs : List PyData} (h : LSrc v xs) : ItOk K (Itl K a) [(v, .ref a)] none xs := by
  intro H0 F0 A0 s σ T H F A w ht _ i
  obtain ⟨a', vs, e, h1, h2⟩ := lsrc_ok w h (ht _ List.mem_cons_self)
  cases e
  have hl := h2.len
  refine ⟨fun hi => ⟨vs, vs[i]'(by omega), h1, List.getElem?_eq_getElem (by omega)⟩, fun hi => ⟨vs, h1, by omega⟩, fun _ x H' hy => ?_⟩
  obtain ⟨rfl, hx⟩ := hy
  obtain ⟨d, hd, dq⟩ := h2.get i x (hx vs h1)
  exact ⟨d, hd, F, w.push dq⟩
theorem it_tup {K : PySem.W.Frag} {a : Addr} {xs : List PyData} : ItOk K (Itt K a) [(.d (.tuple xs), .ref a)] none xs := by
  intro H0 F0 A0 s σ T H F A w ht _ i
  have p : PVOk K F A (.d (.tuple xs)) (.ref a) := w.tm _ (ht _ List.mem_cons_self)
  obtain ⟨a', vs, e, h1, h2⟩ := itemsT_ok w p rfl
  cases e
  have hl := h2.len
  refine ⟨fun hi => ⟨vs, vs[i]'(by omega), h1, List.getElem?_eq_getElem (by omega)⟩, fun hi => ⟨vs, h1, by omega⟩, fun _ x H' hy => ?_⟩
  obtain ⟨rfl, hx⟩ := hy
  obtain ⟨d, hd, dq⟩ := h2.get i x (hx vs h1)
  exact ⟨d, hd, F, w.push dq⟩
theorem it_str {K : PySem.W.Frag} {z : Str} : ItOk K (Its z) [] none (charsD z) := by
  intro H0 F0 A0 s σ T H F A w ht _ i
  have hl : (charsD z).length = z.cps.size := by unfold charsD; rw [List.length_map]; simp
  refine ⟨fun hi => by rw [hl] at hi; exact hi, fun hi => by rw [hl] at hi; exact hi, fun _ x H' hy => ?_⟩
  obtain ⟨rfl, c, hc, rfl⟩ := hy
  refine ⟨.str ⟨#[c]⟩, ?_, F, w.push (.str _)⟩
  unfold charsD
  rw [List.getElem?_map, Array.getElem?_toList, hc]
  rfl
theorem it_range {K : PySem.W.Frag} {lo : Int} {n : Nat} : ItOk K (Itr lo n) [] none (intsD lo n) := by
  intro H0 F0 A0 s σ T H F A w ht _ i
  have hl : (intsD lo n).length = n := by unfold intsD; rw [List.length_map, List.length_range]
  refine ⟨fun hi => by rw [hl] at hi; exact hi, fun hi => by rw [hl] at hi; exact hi, fun hi x H' hy => ?_⟩
  rw [hl] at hi
  obtain ⟨rfl, rfl⟩ := hy
  refine ⟨.int (lo + (i : Nat)), ?_, F, w.push (.int _)⟩
  unfold intsD
  rw [List.getElem?_map, List.getElem?_range hi]
  rfl
theorem it_enum {K : PySem.W.Frag} {v : PV} {a : Addr} {xs : List PyData} (h : LSrc v xs) : ItOk K (Ite K a) [(v, .ref a)] none (enumD 0 xs) := by
  intro H0 F0 A0 s σ T H F A w ht _ i
  obtain ⟨a', vs, e, h1, h2⟩ := lsrc_ok w h (ht _ List.mem_cons_self)
  cases e
  have hl := h2.len
  rw [enumD_len]
  refine ⟨fun hi => ⟨vs, vs[i]'(by omega), h1, List.getElem?_eq_getElem (by omega)⟩, fun hi => ⟨vs, h1, by omega⟩, fun _ x H' hy => ?_⟩
  obtain ⟨t, y, rfl, ht, rfl, hx⟩ := hy
  obtain ⟨d, hd, dq⟩ := h2.get i y (hx vs h1)
  refine ⟨.tuple [.int (i : Nat), d], by rw [enumD_get, hd, Nat.zero_add]; rfl, _, (w.newD (o := .tup [.int (i : Nat), y]) ht).push (.tup (SqT.of upd_same) (.cons (.int _) (.cons (dq_same (same_new (w.fz.g.free ht)) dq) .nil)))⟩
theorem it_zip {K : PySem.W.Frag} {v v' : PV} {a b : Addr} {xs ys : List PyData} (h : LSrc v xs) (h' : LSrc v' ys) : ItOk K (Itz K a b) [(v, .ref a), (v', .ref b)] none (zipD xs ys) := by
  intro H0 F0 A0 s σ T H F A w ht _ i
  obtain ⟨a', vs, e, h1, h2⟩ := lsrc_ok w h (ht _ List.mem_cons_self)
  obtain ⟨b', ws, e', h1', h2'⟩ := lsrc_ok w h' (ht _ (List.mem_cons_of_mem _ List.mem_cons_self))
  cases e
  cases e'
  have hl := h2.len
  have hl' := h2'.len
  rw [zipD_len]
  refine ⟨fun hi => ⟨vs, ws, vs[i]'(by omega), ws[i]'(by omega), h1, h1', List.getElem?_eq_getElem (by omega), List.getElem?_eq_getElem (by omega)⟩, fun hi => ⟨vs, ws, h1, h1', by omega⟩, fun _ x H' hy => ?_⟩
  obtain ⟨t, y, z, rfl, ht, rfl, hx, hz⟩ := hy
  obtain ⟨d, hd, dq⟩ := h2.get i y (hx vs h1)
  obtain ⟨d', hd', dq'⟩ := h2'.get i z (hz ws h1')
  have sn := same_new (o := .tup [y, z]) (w.fz.g.free ht)
  refine ⟨.tuple [d, d'], zipD_get _ _ _ _ _ hd hd', _, (w.newD (o := .tup [y, z]) ht).push (.tup (SqT.of upd_same) (.cons (dq_same sn dq) (.cons (dq_same sn dq') .nil)))⟩
section
variable {X : Cx} {W : WX} {e a b tg : Expr} {we wa wb : EW} {pos p : Pos}
theorem i_list (he : PE X e (tE X.K W we)) : PI X tg e (tI X.K W (wL we)) := by
  refine PI.imp (pi_list he) fun σ H R ⟨H0, F0, A0, s, T, kx, k, w, xl, h, q⟩ => un_of w xl h fun v s1 u H1 h1 w1 => ?_
  obtain ⟨v', xs, s2, h2, hs, w2⟩ := lst_ok w1 h1
  obtain ⟨F, A, w3⟩ := id w2
  obtain ⟨a, vs, rfl, h3, h4⟩ := lsrc_ok w3 hs List.mem_cons_self
  exact ⟨a, rfl, ⟨vs, h3⟩, q _ _ _ h2 _ [(v', .ref a)] H1 w2 (it_list hs)⟩
theorem it_own {K : PySem.W.Frag} {n : Nat} {a : Addr} {xs : List PyData} : ItOk K (Itl K a) [(.own n, .ref a)] (some (n, xs)) xs := by
  intro H0 F0 A0 s σ T H F A w ht hs i
  obtain ⟨p, vs, hp, e, h1, h2⟩ := own_at w (ht _ List.mem_cons_self) hs
  cases e
  have hl := h2.len
  refine ⟨fun hi => ⟨vs, vs[i]'(by omega), SqL.of h1, List.getElem?_eq_getElem (by omega)⟩, fun hi => ⟨vs, SqL.of h1, by omega⟩, fun _ x H' hy => ?_⟩
  obtain ⟨rfl, hx⟩ := hy
  obtain ⟨d, hd, dq⟩ := h2.get i x (hx vs (SqL.of h1))
  exact ⟨d, hd, F, w.push dq⟩
theorem i_listO (he : PE X e (tE X.K W we)) : PI X tg e (tI X.K W (wLO we)) := by
  refine PI.imp (pi_list he) fun σ H R ⟨H0, F0, A0, s, T, kx, k, w, xl, h, q⟩ => un_of w xl h fun v s1 u H1 h1 w1 => ?_
  obtain ⟨n, xs, rfl, ho, h1⟩ := h1
  obtain ⟨F, A, w3⟩ := id w1
  obtain ⟨p, vs, hp, rfl, h3, h4⟩ := own_at w3 List.mem_cons_self ho
  exact ⟨p, rfl, ⟨vs, SqL.of h3⟩, q _ _ _ h1 _ [(.own n, .ref p)] H1 w1 it_own⟩
theorem i_tup (he : PE X e (tE X.K W we)) : PI X tg e (tI X.K W (wTp we)) := by
  refine PI.imp (pi_tup he) fun σ H R ⟨H0, F0, A0, s, T, kx, k, w, xl, h, q⟩ => un_of w xl h fun v s1 u H1 h1 w1 => ?_
  obtain ⟨xs, rfl, h1⟩ := h1
  obtain ⟨F, A, w3⟩ := id w1
  have pv : PVOk X.K F A (.d (.tuple xs)) u := w3.tm _ List.mem_cons_self
  obtain ⟨a, vs, rfl, h3, h4⟩ := itemsT_ok w3 pv rfl
  exact ⟨a, rfl, ⟨vs, h3⟩, q _ _ _ h1 _ [(.d (.tuple xs), .ref a)] H1 w1 it_tup⟩
theorem i_str (he : PE X e (tE X.K W we)) : PI X tg e (tI X.K W (wSt we)) := by
  refine PI.imp (pi_str he) fun σ H R ⟨H0, F0, A0, s, T, kx, k, w, xl, h, q⟩ => un_of w xl h fun v s1 u H1 h1 w1 => ?_
  obtain ⟨z, rfl, h1⟩ := h1
  cases str_at w1 List.mem_cons_self
  exact ⟨z, rfl, q _ _ _ h1 _ [] H1 w1.pop it_str⟩
theorem i_rg1 (hm : X.mg "range" = none) (he : PE X e (tE X.K W we)) (hg : Gl X "range" := by rfl) (hs : starEach [e] X.env = [(false, eval e X.env)] := by rfl) : PI X tg (.Call (.Name "range" p) [e] [] pos) (tI X.K W (wRg1 we)) := by
  refine PI.imp (pi_range1 hg hm (pa_cons he pa_nil hs) hs) fun σ H R ⟨H0, F0, A0, s, T, kx, k, w, xl, h, q⟩ => un_of w xl h fun v s1 u H1 h1 w1 => ?_
  obtain ⟨j, rfl, l1, l2, h1⟩ := h1
  obtain ⟨F, A, w2⟩ := id w1
  cases dp_int (dq_dp (w2.tm _ List.mem_cons_self))
  exact ⟨j, rfl, l1, l2, q _ _ _ h1 _ [] H1 w1.pop it_range⟩
theorem i_rg2 (hm : X.mg "range" = none) (ha : PE X a (tE X.K W wa)) (hb : PE X b (tE X.K W wb)) (hg : Gl X "range" := by rfl) (hs : starEach [a, b] X.env = [(false, eval a X.env), (false, eval b X.env)] := by rfl) (hs2 : starEach [b] X.env = [(false, eval b X.env)] := by rfl) :
    PI X tg (.Call (.Name "range" p) [a, b] [] pos) (tI X.K W (wRg2 wa wb)) := by
  refine PI.imp (pi_range2 hg hm (pa_cons ha (pa_cons hb pa_nil hs2) (by rw [hs, hs2])) hs hs2) fun σ H R ⟨H0, F0, A0, s, T, kx, k, w, xl, h, q⟩ => un_of w xl h fun v s1 u H1 h1 w1 => ?_
  refine ⟨H0, F0, A0, s1, _, kx, _, w1, xl.push, h1, fun v2 s2 h2 u2 H2 w2 => ?_⟩
  obtain ⟨i, j, rfl, rfl, l, h2⟩ := h2
  obtain ⟨F, A, w3⟩ := id w2
  cases dp_int (dq_dp (w3.tm _ List.mem_cons_self))
  cases dp_int (dq_dp (w3.tm (.d (.int i), u) (List.mem_cons_of_mem _ List.mem_cons_self)))
  exact ⟨i, j, rfl, l, q _ _ _ h2 _ [] H2 w2.pop.pop it_range⟩
theorem i_enum {elts : List Expr} {kk : Nat} {tpos : Pos} (hm : X.mg "enumerate" = none) (he : PE X e (tE X.K W we)) (hg : Gl X "enumerate" := by rfl) (hs : starEach [e] X.env = [(false, eval e X.env)] := by rfl) : PI X (.Tuple elts kk tpos) (.Call (.Name "enumerate" p) [e] [] pos) (tI X.K W (wEn we)) := by
  refine PI.imp (pi_enum hg hm (pa_cons he pa_nil hs) hs) fun σ H R ⟨H0, F0, A0, s, T, kx, k, w, xl, h, q⟩ => un_of w xl h fun v s1 u H1 h1 w1 => ?_
  obtain ⟨v', xs, s2, h2, hs, w2⟩ := lst_ok w1 h1
  obtain ⟨F, A, w3⟩ := id w2
  obtain ⟨a, vs, rfl, h3, h4⟩ := lsrc_ok w3 hs List.mem_cons_self
  exact ⟨a, vs, rfl, h3, q _ _ _ h2 _ [(v', .ref a)] H1 w2 (it_enum hs)⟩
theorem i_zip {elts : List Expr} {kk : Nat} {tpos : Pos} (hm : X.mg "zip" = none) (ha : PE X a (tE X.K W wa)) (hb : PE X b (tE X.K W wb)) (hg : Gl X "zip" := by rfl) (hs : starEach [a, b] X.env = (false, eval a X.env) :: starEach [b] X.env := by rfl) (hs2 : starEach [b] X.env = (false, eval b X.env) :: starEach [] X.env := by rfl) (hpl : (backTo pos (starEach [b] X.env)).any (·.1) = false := by rfl) :
    PI X (.Tuple elts kk tpos) (.Call (.Name "zip" p) [a, b] [] pos) (tI X.K W (wZp wa wb)) := by
  refine PI.imp (pi_zip hg hm (pa_cons ha (pa_cons hb pa_nil hs2) hs) hs hpl) fun σ H R ⟨H0, F0, A0, s, T, kx, k, w, xl, h, q⟩ => un_of w xl h fun v s1 u H1 h1 w1 => ?_
  refine ⟨H0, F0, A0, s1, _, kx, _, w1, xl.push, h1, fun v2 s2 h2 u2 H2 w2 => ?_⟩
  obtain ⟨v1, xs, s3, h3, hs3, w3⟩ := lst_ok (T := (v2, u2) :: T) (w2.sub fun t ht => by
    rcases List.mem_cons.mp ht with e | ht
    · rw [e]; exact List.mem_cons_of_mem _ List.mem_cons_self
    · rcases List.mem_cons.mp ht with e | ht
      · rw [e]; exact List.mem_cons_self
      · exact List.mem_cons_of_mem _ (List.mem_cons_of_mem _ ht)) h2
  obtain ⟨v3, ys, s4, h4, hs4, w4⟩ := lst_ok (T := (v1, u) :: T) (w3.sub fun t ht => by
    rcases List.mem_cons.mp ht with e | ht
    · rw [e]; exact List.mem_cons_of_mem _ List.mem_cons_self
    · rcases List.mem_cons.mp ht with e | ht
      · rw [e]; exact List.mem_cons_self
      · exact List.mem_cons_of_mem _ (List.mem_cons_of_mem _ ht)) h3
  obtain ⟨F, A, w5⟩ := id w4
  obtain ⟨a, vs, rfl, i3, i4⟩ := lsrc_ok w5 hs3 (List.mem_cons_of_mem _ List.mem_cons_self)
  obtain ⟨b, ws, rfl, j3, j4⟩ := lsrc_ok w5 hs4 List.mem_cons_self
  refine ⟨a, b, vs, ws, rfl, i3, j3, q _ _ _ h4 _ [(v1, .ref a), (v3, .ref b)] H2 (w4.sub fun t ht => ?_) (it_zip hs3 hs4)⟩
  rcases List.mem_cons.mp ht with e | ht
  · rw [e]; exact List.mem_cons_of_mem _ List.mem_cons_self
  · rcases List.mem_cons.mp ht with e | ht
    · rw [e]; exact List.mem_cons_self
    · exact List.mem_cons_of_mem _ (List.mem_cons_of_mem _ ht)
end
end PW
namespace PW
open PySem L2
/-! ### comprehensions -/
def wYes : TW := fun _ s k => k true s
def wLc (wi : IW) (g : GW) (tt : TW) (we : EW) (vs : List Nat) : EW := fun kx s k => wi kx s fun xs c s1 => ∃ I : Nat → List PyData → PSt → Prop, I 0 [] (s1.wipe vs) ∧ (∀ j acc s2, j ≤ xs.length → I j acc s2 → Src c s2) ∧
  (∀ j x acc s2, xs[j]? = some x → s2.o.length = s1.o.length → I j acc s2 → g x ⟨s2.r, s2.o ++ [.dl acc]⟩ fun s3 => tt (fun _ _ => False) s3 fun b s4 =>
    (b = true → we (fun _ _ => False) s4 fun y s5 => frz y s5 fun d s6 => s6.o[s1.o.length]? = some (.dl acc) ∧ acc.length < sizeLine ∧ I (j + 1) (acc ++ [d]) ((s6.trim s1.o.length).wipe vs)) ∧
    (b = false → s4.o[s1.o.length]? = some (.dl acc) ∧ I (j + 1) acc ((s4.trim s1.o.length).wipe vs))) ∧
  ∀ acc s2, s2.o.length = s1.o.length → I xs.length acc s2 → k (.own s1.o.length) ⟨s2.r, s2.o ++ [.dl acc]⟩
section
variable {K : PySem.W.Frag} {H0 F0 : Hp} {A0 : List Addr} {s : PSt} {σ : St} {T : List (PV × V)} {H F : Hp} {A : List Addr}
theorem wipe_r (s : PSt) : ∀ vs : List Nat, (s.wipe vs).o = s.o ∧ (s.wipe vs).r.length = s.r.length ∧ ∀ (i : Nat) v, (s.wipe vs).r[i]? = some (some v) → s.r[i]? = some (some v) ∧ i ∉ vs
  | [] => ⟨rfl, rfl, fun i v h => ⟨h, List.not_mem_nil⟩⟩
  | w :: vs => by
    obtain ⟨h1, h2, h3⟩ := wipe_r s vs
    refine ⟨rfl, ?_, fun i v h => ?_⟩
    · show ((s.wipe vs).r.set w none).length = _
      rw [List.length_set]; exact h2
    · have h : ((s.wipe vs).r.set w none)[i]? = some (some v) := h
      by_cases e : i = w
      · subst e
        by_cases hl : i < (s.wipe vs).r.length
        · rw [List.getElem?_set_self hl] at h; cases h
        · rw [List.getElem?_eq_none (by rw [List.length_set]; omega)] at h; cases h
      · rw [List.getElem?_set_ne (Ne.symm e)] at h
        obtain ⟨a, b⟩ := h3 i v h
        exact ⟨a, fun z => (List.mem_cons.mp z).elim e b⟩
theorem WdF.relO {s' : PSt} {σ' : St} (w : WdF K H0 F0 A0 s σ T H F A) (hn : s'.o.length = s.o.length) (ho : ∀ (n : Nat) c, s'.o[n]? = some c → c = .no ∨ s.o[n]? = some c) (hl : s'.r.length = σ'.length) (h : ∀ (i : Nat) v, s'.r[i]? = some (some v) → s.r[i]? = some (some v) ∧ ∀ u, σ[i]? = some (some u) → σ'[i]? = some (some u)) : WdF K H0 F0 A0 s' σ' T H F A :=
  { fz := w.fz, pre := w.pre, len := by rw [hn]; exact w.len, nd := w.nd, ad := w.ad, sl := hl, tm := w.tm,
    oc := fun n p c h1 h2 => by
      rcases ho n c h2 with e | e
      · rw [e]; trivial
      · exact w.oc n p c h1 e
    pv := fun i v e => by
      obtain ⟨a, b⟩ := h i v e
      obtain ⟨u, c, d⟩ := w.pv i v a
      exact ⟨u, b u c, d⟩ }
theorem WdF.rel {s' : PSt} {σ' : St} (w : WdF K H0 F0 A0 s σ T H F A) (ho : s'.o = s.o) (hl : s'.r.length = σ'.length) (h : ∀ (i : Nat) v, s'.r[i]? = some (some v) → s.r[i]? = some (some v) ∧ ∀ u, σ[i]? = some (some u) → σ'[i]? = some (some u)) : WdF K H0 F0 A0 s' σ' T H F A :=
  w.relO (by rw [ho]) (fun n c e => .inr (by rw [← ho]; exact e)) hl h
theorem wipe_len (σ : St) (vs : List Nat) : (wipe σ vs).length = σ.length := wipe_length σ vs
theorem wipe_eq {σ σ' : St} {vs L : List Nat} (h : OutL L (wipe σ vs) σ') (hl : ∀ i ∈ L, i ∈ vs) : wipe σ' vs = wipe σ vs := by
  apply List.ext_getElem?
  intro i
  by_cases hi : i ∈ vs
  · have z : ∀ σ : St, i < σ.length → (wipe σ vs)[i]? = some none := by
      intro σ hs
      have : ∀ vs : List Nat, i ∈ vs → (wipe σ vs)[i]? = some none := by
        intro vs
        induction vs with
        | nil => intro h; cases h
        | cons v vs ih =>
          intro h
          show ((wipe σ vs).set v none)[i]? = some none
          by_cases e : i = v
          · subst e
            rw [List.getElem?_set_self (by rw [wipe_len]; exact hs)]
          · rw [List.getElem?_set_ne (Ne.symm e)]
            exact ih ((List.mem_cons.mp h).resolve_left e)
      exact this vs hi
    by_cases hs : i < σ.length
    · rw [z σ' (by rw [h.1, wipe_len]; exact hs), z σ hs]
    · rw [List.getElem?_eq_none (by rw [wipe_len, h.1, wipe_len]; omega), List.getElem?_eq_none (by rw [wipe_len]; omega)]
  · rw [wipe_out hi, h.2 i fun z => hi (hl i z)]
end
theorem src_app {c : SrcO} {s : PSt} {x : List OC} (h : Src c s) : Src c ⟨s.r, s.o ++ x⟩ := by
  cases c with
  | none => trivial
  | some p =>
    obtain ⟨n, xs⟩ := p
    have h : s.o[n]? = some (.dl xs) := h
    show (s.o ++ x)[n]? = some (.dl xs)
    rw [List.getElem?_append_left (List.getElem?_eq_some_iff.mp h).1]
    exact h
section
variable {X : Cx} {W : WX} {elt tg iter c : Expr} {ifs : List Expr} {scope : Scope} {own : List (Str × Nat)} {pos : Pos} {iw : IW} {g : GW} {tt : TW} {we : EW} {L : List Nat}
abbrev W0 : WX := fun _ _ _ _ => False
theorem ts_nil : PTs X [] (tT X.K W wYes) := PTs.imp pts_nil fun σ H Q ⟨H0, F0, A0, s, T, kx, k, w, xl, h, q⟩ => q _ _ h H w
theorem ts_one {t : TW} (h : PT X c (tT X.K W t)) : PTs X [c] (tT X.K W t) := pts_one h
theorem XL.none {K : PySem.W.Frag} {H0 F0 : Hp} {A0 : List Addr} {T : List (PV × V)} {W : WX} : XL K H0 F0 A0 T W (fun _ _ => False) := fun _ _ h => h.elim
theorem lc_of (hL : ∀ i ∈ L, i ∈ own.map (·.2)) {σ : St} {H : Hp} {Q : VK} (h : tE X.K W (wLc iw g tt we (own.map (·.2))) σ H Q) : tLc (tI X.K W iw) (tG X.K L g) (tT X.K W0 tt) (tE X.K W0 we) (own.map (·.2)) σ H Q := by
  obtain ⟨H0, F0, A0, s, T, kx, k, w, xl, h, q⟩ := h
  generalize own.map (·.2) = vs at *
  refine ⟨H0, F0, A0, s, T, kx, _, w, xl, h, fun xs c s1 h1 J T1 H1 w1 hJ D hD => ?_⟩
  obtain ⟨I, i0, hC, turn, fin⟩ := h1
  have lt := w1.own_lt
  have n : Nat := s1.o.length
  -- the word between the turns
  refine ⟨fun i m H' => m = xs.length - i ∧ i ≤ xs.length ∧ ∃ s2 acc, s2.o.length = s1.o.length ∧ I i acc s2 ∧ Wd X.K H0 F0 A0 ⟨s2.r, s2.o ++ [.dl acc]⟩ (wipe σ vs) ((.own s1.o.length, .ref D) :: (T1 ++ T)) H', ⟨_, rfl, Nat.zero_le _, s1.wipe vs, [], by rw [(wipe_r s1 vs).1], i0, ?_⟩, ?_⟩
  · obtain ⟨F, A, w1⟩ := w1
    have w2 := w1.newL hD .nil
    have w3 := w2.push (top_at w1 D F)
    obtain ⟨e1, e2, e3⟩ := wipe_r s1 vs
    refine ⟨F, _, w3.rel (s' := ⟨(s1.wipe vs).r, (s1.wipe vs).o ++ [.dl []]⟩) (by rw [e1]) ?_ fun i v e => ?_⟩
    · show (s1.wipe vs).r.length = _
      rw [e2, wipe_len]; exact w1.sl
    · obtain ⟨a, b⟩ := e3 i v e
      exact ⟨a, fun u hu => by rw [wipe_out b]; exact hu⟩
  · rintro i m H2 ⟨rfl, hi, s2, acc, hn, i2, ⟨F, A, w2⟩⟩
    obtain ⟨j1, j2, j3⟩ := hJ H0 F0 A0 _ _ _ H2 F A w2 (fun t ht => List.mem_cons_of_mem _ (List.mem_append_left _ ht)) (src_app (hC i acc s2 hi i2)) i
    by_cases hlt : i < xs.length
    · refine .inr ⟨j1 hlt, fun H' => ∃ s2 acc, s2.o.length = s1.o.length ∧ I (i + 1) acc s2 ∧ Wd X.K H0 F0 A0 ⟨s2.r, s2.o ++ [.dl acc]⟩ (wipe σ vs) ((.own s1.o.length, .ref D) :: (T1 ++ T)) H', fun H' ⟨s', a', e', i', w'⟩ => ⟨xs.length - (i + 1), by omega, rfl, hlt, s', a', e', i', w'⟩, fun x H' hy => ?_⟩
      obtain ⟨d, hd, F', w3⟩ := j3 hlt x H' hy
      have lT : ∀ t ∈ (PV.own s1.o.length, V.ref D) :: (T1 ++ T), t.1.lt (s1.o.length + 1) = true := fun t ht => by
        rcases List.mem_cons.mp ht with z | z
        · subst z; exact decide_eq_true (Nat.lt_succ_self _)
        · exact lt_mono (Nat.le_succ _) (lt.2 t z)
      -- a state behind the turn, cut to the length
      have back : ∀ (s6 : PSt) (σ2 : St) (H4 : Hp) (a' : List PyData), wipe σ2 vs = wipe σ vs → s6.o[s1.o.length]? = some (.dl a') → Wd X.K H0 F0 A0 s6 σ2 ((.own s1.o.length, .ref D) :: (T1 ++ T)) H4 →
          Wd X.K H0 F0 A0 ⟨((s6.trim s1.o.length).wipe vs).r, ((s6.trim s1.o.length).wipe vs).o ++ [.dl a']⟩ (wipe σ vs) ((.own s1.o.length, .ref D) :: (T1 ++ T)) H4 := fun s6 σ2 H4 a' hw ho w6 => by
        have w7 := w6.trim (m := s1.o.length + 1) (by have := lt.1; omega) lT
        obtain ⟨F7, A7, w7⟩ := w7
        obtain ⟨e1, e2, e3⟩ := wipe_r (s6.trim s1.o.length) vs
        refine ⟨F7, A7, w7.relO ?_ (fun n c hc => ?_) ?_ fun j v e => ?_⟩
        · show (((s6.trim s1.o.length).wipe vs).o ++ [OC.dl a']).length = (cutL (s1.o.length + 1) s6.o).length
          rw [e1, List.length_append, cutL_len]
          show (cutL s1.o.length s6.o).length + 1 = _
          rw [cutL_len]
          have := (List.getElem?_eq_some_iff.mp ho).1
          omega
        · have hc : (((s6.trim s1.o.length).wipe vs).o ++ [OC.dl a'])[n]? = some c := hc
          show c = .no ∨ (cutL (s1.o.length + 1) s6.o)[n]? = some c
          have hlen : (cutL s1.o.length s6.o).length = s1.o.length := by
            rw [cutL_len]
            have := (List.getElem?_eq_some_iff.mp ho).1
            omega
          rw [e1] at hc
          have hc : (cutL s1.o.length s6.o ++ [OC.dl a'])[n]? = some c := hc
          rcases Nat.lt_or_ge n s1.o.length with hn | hn
          · rw [List.getElem?_append_left (by rw [hlen]; exact hn)] at hc
            obtain ⟨_, c0, h3, rfl⟩ := cutL_at hc
            rcases ocut_is (m := s1.o.length) c0 with z | z
            · exact .inl z
            · refine .inr ?_
              unfold cutL
              rw [List.getElem?_map, List.getElem?_take, if_pos (Nat.lt_succ_of_lt hn), h3, z]
              show some (OC.cut (s1.o.length + 1) c0) = some c0
              rcases ocut_up (Nat.le_succ s1.o.length) z with y | y
              · exact congrArg some y
              · subst y; rfl
          · rw [List.getElem?_append_right (by rw [hlen]; exact hn), hlen] at hc
            have e : n = s1.o.length := by
              cases hk : n - s1.o.length with
              | zero => omega
              | succ k => rw [hk] at hc; cases hc
            subst e
            rw [Nat.sub_self] at hc
            cases hc
            refine .inr ?_
            unfold cutL
            rw [List.getElem?_map, List.getElem?_take, if_pos (Nat.lt_succ_self _), ho]
            rfl
        · show ((s6.trim s1.o.length).wipe vs).r.length = _
          rw [e2, ← hw, wipe_len, ← w7.sl]
          show (s6.r.map _).length = (s6.r.map _).length
          rw [List.length_map, List.length_map]
        · obtain ⟨a, b⟩ := e3 j v e
          refine ⟨?_, fun u hu => by rw [← hw, wipe_out b]; exact hu⟩
          have a : (s6.r.map (cutP s1.o.length))[j]? = some (some v) := a
          show (s6.r.map (cutP (s1.o.length + 1)))[j]? = some (some v)
          rw [List.getElem?_map] at a ⊢
          cases hr : s6.r[j]? with
          | none => rw [hr] at a; cases a
          | some o =>
            rw [hr] at a
            obtain ⟨rfl, hl⟩ := cutP_is (Option.some.inj a)
            exact congrArg some (cutP_of (lt_mono (Nat.le_succ _) hl))
      refine ⟨H0, F0, A0, _, _, d, _, ⟨F', A, w3⟩, List.mem_cons_self, turn i d acc s2 hd hn i2, fun s3 h3 σ2 H3 l3 w4 => ?_⟩
      have hw := wipe_eq l3 hL
      refine ⟨hw, H0, F0, A0, s3, _, _, _, w4, XL.none, h3, fun b s4 h4 H4 w5 => ?_⟩
      cases b with
      | false =>
        obtain ⟨ho, hI⟩ := h4.2 rfl
        refine iteF ⟨_, acc, ?_, hI, back s4 σ2 H4 acc hw ho w5.pop⟩
        rw [(wipe_r _ vs).1]
        show (cutL s1.o.length s4.o).length = _
        rw [cutL_len]
        have := (List.getElem?_eq_some_iff.mp ho).1
        omega
      | true =>
        refine iteT ⟨H0, F0, A0, s4, _, _, _, w5, XL.none, h4.1 rfl, fun y s5 h5 u H5 w6 => ?_⟩
        obtain ⟨dd, s6, h6, w7⟩ := frz_ok w6 h5
        obtain ⟨ho, hz, hI⟩ := h6
        obtain ⟨F8, A8, w8⟩ := w7
        obtain ⟨p, vs', hp, ep, hv, hdq⟩ := own_at w8 (List.mem_cons_of_mem _ (List.mem_cons_of_mem _ List.mem_cons_self)) ho
        cases ep
        have du : Dq X.K F8 u dd := w8.tm (.d dd, u) List.mem_cons_self
        refine ⟨vs', hv, by rw [hdq.len]; exact hz, _, acc ++ [dd], ?_, hI, ?_⟩
        · rw [(wipe_r _ vs).1]
          show (cutL s1.o.length s6.o).length = _
          rw [cutL_len]
          have := (List.getElem?_eq_some_iff.mp ho).1
          omega
        · have w9 := (w8.sub (T' := (.own s1.o.length, .ref D) :: (T1 ++ T)) fun t h => List.mem_cons_of_mem _ (List.mem_cons_of_mem _ h)).wr hp ho (hdq.app (.cons du .nil))
          have b := back ⟨s6.r, s6.o.set s1.o.length (.dl (acc ++ [dd]))⟩ σ2 _ (acc ++ [dd]) hw (by
            show (s6.o.set s1.o.length _)[s1.o.length]? = _
            rw [List.getElem?_set_self (List.getElem?_eq_some_iff.mp ho).1]) ⟨F8, A8, w9⟩
          have e : (((⟨s6.r, s6.o.set s1.o.length (.dl (acc ++ [dd]))⟩ : PSt).trim s1.o.length).wipe vs) = ((s6.trim s1.o.length).wipe vs) := by
            have : (⟨s6.r, s6.o.set s1.o.length (.dl (acc ++ [dd]))⟩ : PSt).trim s1.o.length = s6.trim s1.o.length := by
              unfold PSt.trim cutL
              show (⟨s6.r.map _, ((s6.o.set s1.o.length _).take s1.o.length).map _⟩ : PSt) = ⟨s6.r.map _, (s6.o.take s1.o.length).map _⟩
              rw [List.take_set_of_le (Nat.le_refl _)]
            rw [this]
          rw [e] at b
          exact b
    · have e : i = xs.length := by omega
      subst e
      refine .inl ⟨j2 (Nat.le_refl _), q _ _ (fin acc s2 hn i2) (.ref D) H2 ⟨F, A, (w2.rel rfl ?_ fun i v e => ⟨e, fun u hu => (wipe_some hu).1⟩).sub fun t ht => ?_⟩⟩
      · have := w2.sl
        rw [wipe_len] at this
        exact this
      · rcases List.mem_cons.mp ht with e | ht
        · rw [e]; exact List.mem_cons_self
        · exact List.mem_cons_of_mem _ (List.mem_append_right _ ht)
theorem e_lc (hc : X.calm = true) (hN : X.N.Nodup) (hi : PI X tg iter (tI X.K W iw)) (ok : BlkOk X.N X.env.scope scope own) (hL : ∀ i ∈ L, i ∈ own.map (·.2))
    (hg : ∀ (s : Shared) (H : Hp) (C : Addr) (cl : List (Str × Addr)) (fp : List Addr), PG (X.blk s H scope (compEnvC scope cl C X.env) fp) tg (tG X.K L g)) (ht : ∀ (s : Shared) (H : Hp) (C : Addr) (cl : List (Str × Addr)) (fp : List Addr), PTs (X.blk s H scope (compEnvC scope cl C X.env) fp) ifs (tT X.K W0 tt))
    (he : ∀ (s : Shared) (H : Hp) (C : Addr) (cl : List (Str × Addr)) (fp : List Addr), PE (X.blk s H scope (compEnvC scope cl C X.env) fp) elt (tE X.K W0 we)) (hs : ∀ x, foldedSetIterable iter X.env x = pure x := by intro _; rfl) :
    PE X (.ListComp elt [⟨tg, iter, ifs, 0⟩] scope pos) (tE X.K W (wLc iw g tt we (own.map (·.2)))) :=
  PE.imp (pe_lc hc hN hi ok hg ht he hs) fun σ H Q h => lc_of hL h
/-- name = [..] on one line -/
theorem s_setLc {i : Nat} {y : Str} {py spos : Pos} (hc : X.calm = true) (hN : X.N.Nodup) (hy : X.N[i]? = some y) (hyl : X.env.scope.names.lookup y = some .local)
    (hsw : swapsWith (.ListComp elt [⟨tg, iter, ifs, 0⟩] scope pos) (some (.Name y py)) spos.line X.env = pure true) (hi : PI X tg iter (tI X.K W iw)) (ok : BlkOk X.N X.env.scope scope own) (hL : ∀ i ∈ L, i ∈ own.map (·.2))
    (hg : ∀ (s : Shared) (H : Hp) (C : Addr) (cl : List (Str × Addr)) (fp : List Addr), PG (X.blk s H scope (compEnvC scope cl C X.env) fp) tg (tG X.K L g)) (ht : ∀ (s : Shared) (H : Hp) (C : Addr) (cl : List (Str × Addr)) (fp : List Addr), PTs (X.blk s H scope (compEnvC scope cl C X.env) fp) ifs (tT X.K W0 tt))
    (he : ∀ (s : Shared) (H : Hp) (C : Addr) (cl : List (Str × Addr)) (fp : List Addr), PE (X.blk s H scope (compEnvC scope cl C X.env) fp) elt (tE X.K W0 we)) (hs : ∀ x, foldedSetIterable iter X.env x = pure x := by intro _; rfl) :
    PS X (.Assign [.Name y py] (.ListComp elt [⟨tg, iter, ifs, 0⟩] scope pos) spos) (tS X.K W (wAsg (wLc iw g tt we (own.map (·.2))) i)) := by
  refine PS.imp (ps_setLc hc hN hy hyl hsw hi ok hg ht he hs) fun D σ H ⟨H0, F0, A0, s, T, kx, k, w, xl, h, q1, q2, q3, q4⟩ => ?_
  refine lc_of hL ⟨H0, F0, A0, s, T, kx, _, w, xl, h, fun v s' h' u H' w' => ?_⟩
  obtain ⟨F, A, w'⟩ := w'
  exact q1 _ h' _ H' ⟨F, A, (w'.sub fun t h => List.mem_cons_of_mem _ h).st (w'.tm _ List.mem_cons_self)⟩
end
end PW
namespace PW
open PySem L2 PySem.Spec PyProof.Rows
/-! ### a def by its body -/
def retK (n : Nat) (ret : RV → List OC → Prop) : PV → PSt → Prop := fun v s => match v with
  | .d x => ret (.d x) (cutL n s.o)
  | .own m => n ≤ m ∧ ∃ xs, s.o[m]? = some (.dl xs) ∧ ret (.new xs) (cutL n s.o)
  | _ => False
def bodyE (n : Nat) (ret : RV → List OC → Prop) : PEnds := { nx := fun s => ret (.d .none) (cutL n s.o), rt := retK n ret }
def pst0 (args : List PV) (o : List OC) (N : Nat) : PSt := ⟨args.map some ++ List.replicate (N - args.length) none, o⟩
section
variable {K : PySem.W.Frag} {H0 F0 : Hp} {A0 : List Addr} {s : PSt} {σ : L2.St} {T : List (PV × V)} {H F : Hp} {A : List Addr}
/-- only the lent lists are looked at -/
theorem Wd.lent {x : List (PV × V)} (w : Wd K H0 F0 A0 s σ T H) (hx : ∀ t ∈ x, t ∈ T ∧ t.1.lt A0.length = true) : Wd K H0 F0 A0 ⟨[], cutL A0.length s.o⟩ [] x H := by
  obtain ⟨F, A, w⟩ := w.sub (T' := x) fun t ht => (hx t ht).1
  have w2 := w.trim (m := A0.length) (Nat.le_refl _) fun t ht => (hx t ht).2
  exact ⟨F, _, w2.rel rfl rfl fun i v e => by simp at e⟩
theorem Wd.ret {n : Nat} {ret : RV → List OC → Prop} {v : PV} {u : V} {R : Prop} (w : Wd K H0 F0 A0 s σ ((v, u) :: T) H) (hn : n = A0.length) (h : retK n ret v s) (q : ∀ r o', ret r o' → o'.length = n → ∀ v H', RetOk K H0 F0 A0 r v o' H' → (v = u → H' = H → R)) : R := by
  subst hn
  have hl : (cutL A0.length s.o).length = A0.length := by
    rw [cutL_len]
    have := w.own_lt.1
    omega
  cases v with
  | d x => exact q _ _ h hl u H (w.lent fun t ht => by
      have e : t = (.d x, u) := by simpa using ht
      rw [e]; exact ⟨List.mem_cons_self, rfl⟩) rfl rfl
  | scr ns => exact h.elim
  | tp ns => exact h.elim
  | gl ns => exact h.elim
  | exc ns => exact h.elim
  | xd ns => exact h.elim
  | dk ns => exact h.elim
  | own m =>
    obtain ⟨hm, xs, ho, h⟩ := h
    refine q _ _ h hl u H ?_ rfl rfl
    obtain ⟨F, A, w⟩ := w
    obtain ⟨p, vs, hp, rfl, hv, hd⟩ := own_at w List.mem_cons_self ho
    have ad := w.ad p (List.mem_of_getElem? hp)
    have oc := w.oc m p _ hp ho
    have w2 := (w.sub (T' := []) (fun _ z => nomatch z)).trim (m := A0.length) (Nat.le_refl _) (fun _ z => nomatch z)
    have w3 := w2.rel (s' := ⟨[], cutL A0.length s.o⟩) (σ' := []) rfl rfl fun i v e => by simp at e
    have nin : p ∉ A.take A0.length := fun hA => by
      obtain ⟨j, hj⟩ := List.getElem?_of_mem hA
      rw [List.getElem?_take] at hj
      split at hj
      · rename_i h1
        exact nodup_ne w.nd hj hp (by omega) rfl
      · cases hj
    refine ⟨F, _, (w3.addL (c := .dl xs) nin ad.1 ad.2 oc).push ⟨p, ?_, rfl⟩⟩
    show (A.take A0.length ++ [p])[(cutL A0.length s.o).length]? = some p
    rw [← w3.len, List.getElem?_append_right (Nat.le_refl _), Nat.sub_self]
    rfl
end
section
variable {P : Program} {w : World} {K : PySem.W.Frag} {mg : Str → Option Value} {base : Heap}
theorem fn_len {ps : List Str} {S : FS} (len : ∀ args o r e, S args o r e → args.length = ps.length) (vs : List V) (H : Hp) (Q : VK) (E : XK) (h : spOf K S vs H Q E) : vs.length = ps.length := by
  obtain ⟨H0, F0, A0, args, o, ret, exc, ⟨F, A, w⟩, _, h, _⟩ := h
  have := w.sl
  rw [List.length_map, List.length_map] at this
  rw [← this]
  exact len _ _ _ _ h
/-- the body's reading from the promise -/
theorem fn_core {N : List Str} {S : FS} {wb : SW} (pure : ∀ args o ret exc, S args o ret exc → wb (fun x s => exc x (cutL o.length s.o)) (pst0 args o N.length) (bodyE o.length ret)) (vs : List V) (H : Hp) (Q : VK) (E : XK) (h : spOf K S vs H Q E) :
    tS K (fun cls d _ H => E cls d H) wb { nx := fun _ H' => Q .non H', rt := Q } (L2.start N vs) H := by
  obtain ⟨H0, F0, A0, args, o, ret, exc, wd, ho, h, q1, q2⟩ := h
  refine ⟨H0, F0, A0, pst0 args o N.length, [], _, _, ?_, fun y s' hy σ' H' d w' => ?_, pure args o ret exc h, fun s' hs σ' H' w' => ?_, fun v s' hv u σ' H' w' => ?_, fun _ z => z.elim, fun _ z => z.elim⟩
  · obtain ⟨F, A, wd⟩ := wd
    have e := wd.sl
    rw [List.length_map, List.length_map] at e
    refine ⟨F, A, wd.rel rfl ?_ fun i v hv => ?_⟩
    · show (args.map some ++ List.replicate (N.length - args.length) none).length = (vs.map some ++ List.replicate (N.length - vs.length) none).length
      rw [e]
      simp [e]
    · have hv : (args.map some ++ List.replicate (N.length - args.length) none)[i]? = some (some v) := hv
      show (args.map some)[i]? = some (some v) ∧ ∀ u, (vs.map some)[i]? = some (some u) → (vs.map some ++ List.replicate (N.length - vs.length) none)[i]? = some (some u)
      by_cases hi : i < args.length
      · rw [List.getElem?_append_left (by rw [List.length_map]; exact hi)] at hv
        refine ⟨hv, fun u hu => ?_⟩
        rw [List.getElem?_append_left (by rw [List.length_map, ← e]; exact hi)]
        exact hu
      · rw [List.getElem?_append_right (by rw [List.length_map]; omega)] at hv
        have := List.mem_of_getElem? hv
        have := List.eq_of_mem_replicate this
        cases this
  · have hl : (cutL o.length s'.o).length = o.length := by
      rw [cutL_len, ← ho]
      have := w'.own_lt.1
      omega
    refine q2 y _ hy hl d H' ?_
    have := w'.lent (x := [(.xd y.fs, dV d)]) (fun t ht => by
      have e : t = (.xd y.fs, dV d) := by simpa using ht
      rw [e]; exact ⟨List.mem_cons_self, rfl⟩)
    rw [ho] at this
    exact this
  · have hl : (cutL o.length s'.o).length = o.length := by
      rw [cutL_len, ← ho]
      have := w'.own_lt.1
      omega
    refine q1 _ _ hs hl .non H' ?_
    obtain ⟨F, A, w'⟩ := w'
    have w2 : Wd K H0 F0 A0 s' σ' [(.d .none, .non)] H' := ⟨F, A, w'.push (v := .d .none) (u := .non) .non⟩
    have := w2.lent (x := [(.d .none, .non)]) (fun t ht => by
      have e : t = (.d .none, .non) := by simpa using ht
      rw [e]; exact ⟨List.mem_cons_self, rfl⟩)
    rw [ho] at this
    exact this
  · refine w'.ret ho.symm hv fun r o' hr hl v H'' hret e1 e2 => ?_
    subst e1
    subst e2
    exact q1 r o' hr hl v H'' hret
theorem fn_ok {x qual : Str} {st : Stmt} {f : Addr} {fd : FuncData} {N ps : List Str} {k : Nat} {S : FS} {wb : SW} (F : Fun K x qual st f fd) (Sc : FnScope N ps (defScope st)) (len : ∀ args o r e, S args o r e → args.length = ps.length)
    (body : ∀ (cdv : Value) (A : Around) (outer : List Env) (s : Shared) (H : Hp) (E : XK), Room k (A.deeper (envOfC qual (defScope st) s.heap.objs.size f cdv)) →
      PSs (cxOf (L2.CX P w) P w K mg base N qual (defScope st) f cdv A outer s H E) (defBody st) (tS K (fun cls d _ H => E cls d H) wb))
    (pure : ∀ args o ret exc, S args o ret exc → wb (fun x s => exc x (cutL o.length s.o)) (pst0 args o N.length) (bodyE o.length ret)) : FnOk P w K mg base (L2.CX P w) (k + 1) f fd ps (spOf K S) := by
  exact F.okX Sc (fn_len len) fun cdv A outer s H vs Q E hr h => ⟨_, body cdv A outer s H E hr, fn_core pure vs H Q E h⟩
/-- a def that may be called -/
structure Cal (P : Program) (w : World) (K : PySem.W.Frag) (mg : Str → Option Value) (base : Heap) (k : Nat) (x : Str) (ps : List Str) (S : FS) : Prop where
  ex : ∃ f fd, FnOk P w K mg base (L2.CX P w) k f fd ps (spOf K S) ∧ mg x = some (.ref f) ∧ PySem.W.keepIn K (.ref f) = true ∧ Binds K fd ps []
/-- a def of the text, as the top leaves it -/
structure Dfd (K : PySem.W.Frag) (mg : Str → Option Value) (x : Str) (ps : List Str) (st : Stmt) : Prop where
  ex : ∃ f fd, Fun K x x st f fd ∧ mg x = some (.ref f) ∧ Binds K fd ps []
theorem Dfd.cal {x : Str} {ps N : List Str} {st : Stmt} {k : Nat} {S : FS} {wb : SW} (D : Dfd K mg x ps st) (Sc : FnScope N ps (defScope st)) (len : ∀ args o r e, S args o r e → args.length = ps.length)
    (body : ∀ (f : Addr) (cdv : Value) (A : Around) (outer : List Env) (s : Shared) (H : Hp) (E : XK), Room k (A.deeper (envOfC x (defScope st) s.heap.objs.size f cdv)) →
      PSs (cxOf (L2.CX P w) P w K mg base N x (defScope st) f cdv A outer s H E) (defBody st) (tS K (fun cls d _ H => E cls d H) wb))
    (pure : ∀ args o ret exc, S args o ret exc → wb (fun x s => exc x (cutL o.length s.o)) (pst0 args o N.length) (bodyE o.length ret)) : Cal P w K mg base (k + 1) x ps S := by
  obtain ⟨f, fd, F, m, b⟩ := D.ex
  exact ⟨f, fd, fn_ok F Sc len (body f) pure, m, F.kp, b⟩
theorem Cal.mono {k j : Nat} {x : Str} {ps : List Str} {S : FS} (C : Cal P w K mg base j x ps S) (h : j ≤ k) : Cal P w K mg base k x ps S := by
  obtain ⟨f, fd, F, m, kp, b⟩ := C.ex
  exact ⟨f, fd, F.mono h, m, kp, b⟩
/-- a weaker promise -/
theorem Cal.imp {k : Nat} {x : Str} {ps : List Str} {S S' : FS} (C : Cal P w K mg base k x ps S) (h : ∀ args o r e, S' args o r e → S args o r e) : Cal P w K mg base k x ps S' := by
  obtain ⟨f, fd, F, m, kp, b⟩ := C.ex
  exact ⟨f, fd, F.imp fun vs H Q E ⟨H0, F0, A0, args, o, ret, exc, wd, ho, hS, q⟩ => ⟨H0, F0, A0, args, o, ret, exc, wd, ho, h _ _ _ _ hS, q⟩, m, kp, b⟩
theorem dfd_mk {x : Str} {ps : List Str} {st : Stmt} {f : Addr} {h : Heap} {oc : Value} {od an : Option Addr} {osl : Array (Option Value)} {kV doc pm cdv ct : Value} (X : K.In h) (G : h.Ns mainGlobals mg)
    (a : PySem.W.nsIn K mainGlobals x = some (some (.ref f))) (l : K.lookup f = some ⟨oc, od, .func (PySem.W.fnOf x x (defArgs st) (defBody st) (defScope st) .none kV doc pm an cdv ct), osl⟩) (c : PySem.W.codeIn K cdv x = true) (k : PySem.W.keepIn K (.ref f) = true)
    (hb : ∀ (kV doc pm : Value) (an : Option Addr) (cdv ct : Value) (us : List Value), us.length = ps.length → bindArgs (PySem.W.fnOf x x (defArgs st) (defBody st) (defScope st) .none kV doc pm an cdv ct) ⟨us, []⟩ = pure (ps.zip us)) : Dfd K mg x ps st := by
  have F := fun_mk (st := st) l c k
  exact ⟨f, _, F, PySem.W.mg_of X G a, F.binds hb⟩
end
section
variable {X : Cx} {W : WX} {k j : Nat} {ps : List Str} {S : FS} {x : Str} {p pos : Pos} {e : Expr} {es : List Expr} {ws : AW}
theorem c_call (C : Cal X.prog X.w X.K X.mg X.base k x ps S) (tk : Takes X W) (hr : Room j X.A) (ha : PA X (e :: es) (tA X.K W ws)) (hk : k ≤ j := by decide) (hg : Gl X x := by rfl)
    (hdb : (x == ("__debug__" : Str)) = false := by decide) (he : starEach (e :: es) X.env = (false, eval e X.env) :: starEach es X.env := by rfl) (hpl : (backTo pos (starEach es X.env)).any (·.1) = false := by rfl) :
    PE X (.Call (.Name x p) (e :: es) [] pos) (tE X.K W (wCall S ws)) := by
  obtain ⟨f, fd, F, m, kp, b⟩ := C.ex
  exact e_call F tk (hr.mono hk) hg m kp b ha hdb he hpl
theorem c_callL (C : Cal X.prog X.w X.K X.mg X.base k x ps S) (tk : Takes X W) (hr : Room j X.A) (ha : PA X (e :: es) (tA X.K W ws)) (hk : k ≤ j := by decide) (hg : Gl X x := by rfl)
    (hdb : (x == ("__debug__" : Str)) = false := by decide) (he : starEach (e :: es) X.env = (false, eval e X.env) :: starEach es X.env := by rfl) (hpl : (backTo pos (starEach es X.env)).any (·.1) = false := by rfl) :
    PE X (.Call (.Name x p) (e :: es) [] pos) (tE X.K W (wCallL S ws)) := by
  obtain ⟨f, fd, F, m, kp, b⟩ := C.ex
  exact e_callL F tk (hr.mono hk) hg m kp b ha hdb he hpl
theorem c_call0 (C : Cal X.prog X.w X.K X.mg X.base k x [] S) (hr : Room j X.A) (hk : k ≤ j := by decide) (hg : Gl X x := by rfl) (hdb : (x == ("__debug__" : Str)) = false := by decide) : PE X (.Call (.Name x p) [] [] pos) (tE X.K W (wCall0 S)) := by
  obtain ⟨f, fd, F, m, kp, b⟩ := C.ex
  exact e_call0 F (hr.mono hk) hg m kp b hdb
end
/-! ### the law -/
def lawS : FS := fun args o ret _ => ∃ ns, args = [.scr ns] ∧ o = [] ∧ ns.length ≤ 63 ∧ ret (.d (.bool true)) []
theorem law_of {l : PySem.W.OpenLaw} {k : Nat} {q : Program} {loose : List Str} {XP : (Str → Option Value) → Heap → Prop} {YP : World → Heap → Prop} {d : DefRec} {K : Params → PySem.W.Frag} {x : Str}
    (hn : l.most = some 63) (hdf : d.params.defaults = []) (hr : Room k callerA) (hY : ∀ (w : World) (h : Heap), YP w h → (K w.params).In h)
    (F : ∀ (w : World) (mg : Str → Option Value) (fa : Addr) (h : Heap), (K w.params).In h → h.Ns mainGlobals mg → mg d.name = some (.ref fa) →
      ∃ fd : FuncData, (∀ (s : Shared) (u : Value), BindsTo s fd ⟨[u], []⟩ [(x, u)]) ∧
        ∀ base : Heap, (K w.params).In base → base.Ns mainGlobals mg → FnOk l.prog w (K w.params) mg base (L2.CX l.prog w) k fa fd [x] (spOf (K w.params) lawS)) :
    PySem.W.WalkO q loose XP YP l.row.toRowW d [] (fun f vs => PySem.call f vs) := by
  refine L2.walk_of (n := 63) (CX := fun w => L2.CX l.prog w) (sp := fun w => spOf (K w.params) lawS) hn (by decide) hdf hr hY F (fun w H a ns hl _ hS => ?_) (fun w H s e s' z => ?_)
  · refine ⟨H, H, [], [.scr ns], [], fun r _ => r = .d (.bool true), fun _ _ => False, ⟨H, [], ?_⟩, rfl, ⟨ns, rfl, rfl, hl, rfl⟩, fun r o' hr ho v H' hret => ?_, fun _ _ z => z.elim⟩
    · refine ⟨⟨Same.refl _, Same.refl _, Same.refl _, fun _ _ h => h⟩, List.prefix_refl _, rfl, List.nodup_nil, (fun _ z => nomatch z), (fun n p c z => by simp at z), rfl, fun i v hv => ?_, (fun _ z => nomatch z)⟩
      cases i with
      | zero => cases hv; exact ⟨.ref a, rfl, a, rfl, hS⟩
      | succ i => simp at hv
    · subst hr
      obtain ⟨F', A', w'⟩ := hret
      have dz : Dq (K w.params) F' v (.bool true) := w'.tm (.d (.bool true), v) List.mem_cons_self
      exact dp_bl (dq_dp dz)
  · obtain ⟨_, _, _, _, _, _, _, _, _, _, _, _, z⟩ := z
    exact z.elim
end PW
namespace PW
open PySem L2 PySem.Spec PyProof.Rows
theorem hu64 {k : Nat} {A : Around} (hr : Room k A) : A.units + 64 < cLine := by have := hr.un; omega
theorem hu65 {k : Nat} {A : Around} (hr : Room k A) : A.units + 65 < cLine := by have := hr.un; omega
def wNeg (wa : EW) : EW := fun kx s k => wa kx s fun x s1 => ∃ i, x = .d (.int i) ∧ k (.d (.int (-i))) s1
/-- a constant of the module that is a tuple -/
structure GTup (K : PySem.W.Frag) (mg : Str → Option Value) (x : Str) (ds : List PyData) : Prop where
  ex : ∃ p, mg x = some (.ref p) ∧ ∀ H, Dq K H (.ref p) (.tuple ds)
/-- what a written Value is as data -/
def vD : Value → Option PyData
  | .none => some .none
  | .bool b => some (.bool b)
  | .int i _ => some (.int i)
  | .str x _ => some (.str x)
  | _ => none
def vDs : List Value → Option (List PyData)
  | [] => some []
  | v :: r => match vD v, vDs r with
    | some d, some ds => some (d :: ds)
    | _, _ => none
theorem vDs_ok {K : PySem.W.Frag} {H : Hp} : ∀ (vs : List Value) (ds : List PyData), vDs vs = some ds → ∃ us, Vals us vs ∧ DqAll K H us ds
  | [], ds, e => by cases e; exact ⟨[], .nil, .nil⟩
  | v :: r, ds, e => by
    cases hv : vD v with
    | none => simp [vDs, hv] at e
    | some d =>
      cases hr : vDs r with
      | none => simp [vDs, hv, hr] at e
      | some es =>
        simp only [vDs, hv, hr, Option.some.injEq] at e
        subst e
        obtain ⟨us, h1, h2⟩ := vDs_ok (K := K) (H := H) r es hr
        cases v with
        | none => cases hv; exact ⟨.non :: us, .cons rfl h1, .cons .non h2⟩
        | bool b => cases hv; exact ⟨.bl b :: us, .cons rfl h1, .cons (.bl b) h2⟩
        | int i t => cases hv; exact ⟨.int i :: us, .cons ⟨t, rfl⟩ h1, .cons (.int i) h2⟩
        | str x t => cases hv; exact ⟨.str x :: us, .cons ⟨t, rfl⟩ h1, .cons (.str x) h2⟩
        | _ => cases hv
theorem gtup_mk {K : PySem.W.Frag} {mg : Str → Option Value} {x : Str} {ds : List PyData} {p : Addr} {dd : Option Addr} {its : Array Value} {n : Nat} {sl : Array (Option Value)} {h : Heap} (X : K.In h) (G : h.Ns mainGlobals mg)
    (a : PySem.W.nsIn K mainGlobals x = some (some (.ref p))) (l : K.lookup p = some ⟨.type "tuple", dd, .seq its n, sl⟩) (hv : vDs its.toList = some ds) (hz : its.size ≤ sizeLine) : GTup K mg x ds := by
  refine ⟨p, PySem.W.mg_of X G a, fun H => ?_⟩
  obtain ⟨us, h1, h2⟩ := vDs_ok (K := K) (H := H) _ _ hv
  exact .tup (.inr ⟨_, its, n, l, rfl, rfl, hz, h1⟩) h2
/-- an error class of the text without an __init__ of its own -/
structure Exc1 (K : PySem.W.Frag) (mg : Str → Option Value) (x : Str) (C : Addr) : Prop where
  g : mg x = some (.ref C)
  q : PySem.W.excIn K C [.type "ValueError", .type "Exception", .type "BaseException", .type "object"] "ValueError.__new__" = true
  k : PySem.W.keepIn K (.ref C) = true
  b : PySem.W.subIn K (.ref C) (.type "BaseException") = some true
  t : PySem.W.typeIn K (.ref C) = some (.type "type")
theorem Exc1.mk1 {X : Cx} {x : Str} {C : Addr} {m : Str} {j : Nat} {p p2 pos : Pos} (E : Exc1 X.K X.mg x C) (hg : Gl X x := by rfl) (hdb : (x == ("__debug__" : Str)) = false := by decide) : PMk X (.Call (.Name x p) [.Constant (.str m) j p2] [] pos) (fun _ H Q => Q (.ref C) none H) :=
  pmk_own PySem.F.excBase_ValueError E.q E.g E.k (raises_own E.b E.t) hg hdb
section
variable {X : Cx} {W : WX} {a b c e : Expr} {wa wb wc we : EW} {pos p : Pos}
theorem e_neg (ha : PE X a (tE X.K W wa)) : PE X (.UnaryOp .USub a pos) (tE X.K W (wNeg wa)) := by
  refine PE.imp (pe_un un_neg ha) fun σ H Q ⟨H0, F0, A0, s, T, kx, k, w, xl, h, q⟩ => un_of w xl h fun x s1 u H1 h1 w1 => ?_
  obtain ⟨i, rfl, hk⟩ := h1
  obtain ⟨F, A, w1⟩ := w1
  exact ⟨i, dp_int (dq_dp (w1.tm _ List.mem_cons_self)), q _ _ hk _ H1 ⟨F, A, (w1.sub fun t h => List.mem_cons_of_mem _ h).push (.int _)⟩⟩
theorem e_gtup {x : Str} {ds : List PyData} (hg : Gl X x) (G : GTup X.K X.mg x ds) (hd : (x == ("__debug__" : Str)) = false := by decide) : PE X (.Name x pos) (tE X.K W (wC (.tuple ds))) := by
  obtain ⟨p, hm, hq⟩ := G.ex
  refine PE.imp (pe_glob (v := .ref p) hg hm rfl hd) fun σ H Q ⟨H0, F0, A0, s, T, kx, k, w, xl, h, q⟩ => ?_
  obtain ⟨F, A, w⟩ := w
  exact q _ s h _ H ⟨F, A, w.push (hq _)⟩
/-- t + u of tuples -/
def wCatT (wa wb : EW) : EW := fun kx s k => wa kx s fun x s1 => wb kx s1 fun y s2 => ∃ xs ys, x = .d (.tuple xs) ∧ y = .d (.tuple ys) ∧ xs.length + ys.length ≤ sizeLine ∧ k (.d (.tuple (xs ++ ys))) s2
theorem e_catT (ha : PE X a (tE X.K W wa)) (hb : PE X b (tE X.K W wb)) : PE X (.BinOp a .Add b pos) (tE X.K W (wCatT wa wb)) := by
  refine PE.imp (pe_op op_catA ha hb) fun σ H Q ⟨H0, F0, A0, s, T, kx, k, w, xl, h, q⟩ => tOp_of w xl h fun x y s2 u v H2 hR w2 => ?_
  obtain ⟨xs, ys, rfl, rfl, hz, hk⟩ := hR
  obtain ⟨F, A, w2⟩ := w2
  have d1 : Dq X.K F u (.tuple xs) := w2.tm (.d (.tuple xs), u) (List.mem_cons_of_mem _ List.mem_cons_self)
  have d2 : Dq X.K F v (.tuple ys) := w2.tm (.d (.tuple ys), v) List.mem_cons_self
  have w3 := w2.sub (T' := T) fun t h => List.mem_cons_of_mem _ (List.mem_cons_of_mem _ h)
  cases d1 with
  | @tup p vs _ h1 h2 =>
    cases d2 with
    | @tup p' vs' _ h1' h2' =>
      have hl := h2.len
      have hl' := h2'.len
      refine ⟨p, p', vs, vs', rfl, rfl, same_t w2.fz.g h1, same_t w2.fz.g h1', by omega, fun e => ?_, fun e e' => ?_, fun e e' n hn => ?_⟩
      · subst e
        cases h2
        exact q _ _ hk _ _ ⟨F, A, w3.push (.tup h1' h2')⟩
      · subst e'
        cases h2'
        rw [List.append_nil] at hk
        exact q _ _ hk _ _ ⟨F, A, w3.push (.tup h1 h2)⟩
      · have sn := same_new (o := .tup (vs ++ vs')) (w2.fz.g.free hn)
        exact q _ _ hk _ _ ⟨_, A, (w3.newD (o := .tup (vs ++ vs')) hn).push (.tup (SqT.of upd_same) (dqAll_same sn (h2.app h2')))⟩
/-- list * int -/
def wRep (wa wb : EW) : EW := fun kx s k => wa kx s fun x s1 => wb kx s1 fun y s2 => ∃ xs i, datq s2 x = some (.list xs) ∧ y = .d (.int i) ∧ -(2 ^ 63) ≤ i ∧ i < 2 ^ 63 ∧ xs.length * i.toNat ≤ sizeLine ∧ k (.own s2.o.length) ⟨s2.r, s2.o ++ [.dl (List.replicate i.toNat xs).flatten]⟩
theorem DqAll.rep {K : PySem.W.Frag} {H : Hp} {vs : List V} {ds : List PyData} (h : DqAll K H vs ds) : ∀ n : Nat, DqAll K H (List.replicate n vs).flatten (List.replicate n ds).flatten
  | 0 => .nil
  | n + 1 => by
    rw [List.replicate_succ, List.replicate_succ, List.flatten_cons, List.flatten_cons]
    exact h.app (DqAll.rep h n)
theorem e_rep (ha : PE X a (tE X.K W wa)) (hb : PE X b (tE X.K W wb)) : PE X (.BinOp a .Mult b pos) (tE X.K W (wRep wa wb)) := by
  refine PE.imp (pe_op op_rep ha hb) fun σ H Q ⟨H0, F0, A0, s, T, kx, k, w, xl, h, q⟩ => tOp_of w xl h fun x y s2 u v H2 hR w2 => ?_
  obtain ⟨xs, i, hx, rfl, h1, h2, hz, hk⟩ := hR
  obtain ⟨F, A, w2⟩ := w2
  cases dp_int (dq_dp (w2.tm _ List.mem_cons_self))
  obtain ⟨p, vs, e1, h3, h4⟩ := itemsq_ok w2 (w2.tm _ (List.mem_cons_of_mem _ List.mem_cons_self)) hx
  have w3 := w2.sub (T' := T) fun t h => List.mem_cons_of_mem _ (List.mem_cons_of_mem _ h)
  exact ⟨p, i, vs, e1, rfl, h3, h1, h2, by rw [h4.len]; exact hz, fun n hn => q _ _ hk _ _ ⟨F, _, (w3.newL hn (h4.rep _)).push (top_at w3 n F)⟩⟩
/-- a < b < c of ints -/
def wChain (R R' : PyData → PyData → (PyData → Prop) → Prop) (wa wb wc : EW) : EW := fun kx s k => wa kx s fun x s1 => wb kx s1 fun y s2 => ∃ a b, dat s2 x = some a ∧ y = .d b ∧ R a b fun z => ∃ r, z = .bool r ∧
  (r = true → wc kx s2 fun v s3 => ∃ c, dat s3 v = some c ∧ R' b c fun z => k (.d z) s3) ∧ (r = false → k (.d (.bool false)) s2)
theorem chain_of {r r' : R2} {R R' : PyData → PyData → (PyData → Prop) → Prop} {σ : L2.St} {H : Hp} {Q : VK} (ho : ROk X.K r R) (ho' : ROk X.K r' R') (h : tE X.K W (wChain R R' wa wb wc) σ H Q) : tChain r r' (tE X.K W wa) (tE X.K W wb) (tE X.K W wc) σ H Q := by
  obtain ⟨H0, F0, A0, s, T, kx, k, w, xl, h, q⟩ := h
  refine ⟨H0, F0, A0, s, T, kx, _, w, xl, h, fun x s1 h1 u H1 w1 => ⟨H0, F0, A0, s1, (x, u) :: T, kx, _, w1, xl.push, h1, fun y s2 h2 v H2 w2 => ?_⟩⟩
  obtain ⟨a, b, da, rfl, hR⟩ := h2
  obtain ⟨F, A, w3⟩ := id w2
  have db : Dq X.K F v b := w3.tm (.d b, v) List.mem_cons_self
  refine ho u v a b H2 _ _ (dat_ok w3 (w3.tm _ (List.mem_cons_of_mem _ List.mem_cons_self)) da) (dq_dp (dq_same w3.fz.g db)) hR fun z t hz ht => ?_
  obtain ⟨rr, rfl, h1, h2⟩ := hz
  cases ht
  refine ⟨rr, rfl, ?_⟩
  cases rr with
  | false => exact iteF (q _ _ (h2 rfl) _ H2 ⟨F, A, (w3.sub fun t h => List.mem_cons_of_mem _ (List.mem_cons_of_mem _ h)).push (.bl _)⟩)
  | true =>
    refine iteT ⟨H0, F0, A0, s2, _, kx, _, w2, xl.push.push, h1 rfl, fun c s3 h3 uc H3 w4 => ?_⟩
    obtain ⟨cc, dc, h3⟩ := h3
    obtain ⟨F4, A4, w4⟩ := w4
    have db' : Dq X.K F4 v b := w4.tm (.d b, v) (List.mem_cons_of_mem _ List.mem_cons_self)
    refine ho' v uc b cc H3 Q _ (dq_dp (dq_same w4.fz.g db')) (dat_ok w4 (w4.tm _ List.mem_cons_self) dc) h3 fun z t hz ht => ?_
    exact q _ _ hz t H3 ⟨F4, A4, (w4.sub fun t h => List.mem_cons_of_mem _ (List.mem_cons_of_mem _ (List.mem_cons_of_mem _ h))).push (toV_dp ht)⟩
theorem e_chain {op op' : CmpOp} {g g' : Int → Int → Bool} (h1 : OpR X (compareOp op) (rI0 fun i j => .bl (g i j))) (h2 : OpR X (compareOp op') (rI0 fun i j => .bl (g' i j))) (ha : PE X a (tE X.K W wa)) (hb : PE X b (tE X.K W wb)) (hc : PE X c (tE X.K W wc))
    (hm : lastMarks [op, op'] [b, c] = false := by with_unfolding_all rfl) : PE X (.Compare a [op, op'] [b, c] pos) (tE X.K W (wChain (rCmpD g) (rCmpD g') wa wb wc)) :=
  PE.imp (pe_chain h1 h2 ha hb hc hm) fun σ H Q h => chain_of ok_cmpD ok_cmpD h
theorem t_chain {op op' : CmpOp} {g g' : Int → Int → Bool} (h1 : OpR X (compareOp op) (rI0 fun i j => .bl (g i j))) (h2 : OpR X (compareOp op') (rI0 fun i j => .bl (g' i j))) (ha : PE X a (tE X.K W wa)) (hb : PE X b (tE X.K W wb)) (hc : PE X c (tE X.K W wc))
    (hm : lastMarks [op, op'] [b, c] = false := by with_unfolding_all rfl) : PT X (.Compare a [op, op'] [b, c] pos) (tT X.K W (wB (wChain (rCmpD g) (rCmpD g') wa wb wc))) := by
  refine PT.imp (pt_chain h1 h2 ha hb hc hm) fun σ H Q ⟨H0, F0, A0, s, T, kx, k, w, xl, h, q⟩ => ?_
  refine chain_of ok_cmpD ok_cmpD ⟨H0, F0, A0, s, T, kx, _, w, xl, h, fun v s1 h1 u H1 w1 => ?_⟩
  obtain ⟨c, rfl, hk⟩ := h1
  obtain ⟨F, A, w1⟩ := w1
  exact ⟨c, dp_bl (dq_dp (w1.tm _ List.mem_cons_self)), q c s1 hk H1 ⟨F, A, w1.sub fun t h => List.mem_cons_of_mem _ h⟩⟩
/-- is True, is not True, of a bool -/
def wIsT (wa : EW) : EW := fun kx s k => wa kx s fun x s1 => ∃ b, x = .d (.bool b) ∧ k (.d (.bool b)) s1
end
end PW

namespace PW
open PySem L2
/-- a text by its signs -/
def tx (l : List Nat) : Str := ⟨l.toArray⟩
abbrev dT (l : List Nat) : PyData := .str (tx l)
theorem tx_cps (l : List Nat) : (tx l).cps.toList = l := rfl
theorem tx_len (l : List Nat) : (tx l).length = l.length := by show l.toArray.size = l.length; simp
theorem tx_app (a b : List Nat) : tx a ++ tx b = tx (a ++ b) := TL.ext_tl (by rw [TL.tl_append]; rfl)
theorem tx_eq (z : Str) : z = tx z.cps.toList := (TL.mk_tl z).symm
theorem tx_of (s : String) : Str.ofString s = tx (s.toList.map Char.toNat) := TL.ext_tl (TL.tl_ofString s)
theorem tx_inj {a b : List Nat} (h : tx a = tx b) : a = b := by
  have := congrArg (fun z : Str => z.cps.toList) h
  exact this
theorem tx_eq_iff {a b : List Nat} : tx a = tx b ↔ a = b := ⟨tx_inj, fun h => h ▸ rfl⟩
theorem le_sz {n : Nat} (h : n ≤ 16777216) : n ≤ sizeLine := h
theorem lt_sz {n : Nat} (h : n < 16777216) : n < sizeLine := h
theorem tx_sz {l : List Nat} (h : l.length ≤ 16777216) : (tx l).length ≤ sizeLine := by rw [tx_len]; exact h
theorem strLe_tx {l : List Nat} (h : l.length ≤ 16777216) : strLe (dT l) := tx_sz h
theorem atI_nat {α : Type} {xs : List α} {i : Nat} (h : i < xs.length) : atI xs (i : Int) = some xs[i] := by
  unfold atI ixN
  rw [if_pos (by omega), if_pos (by omega)]
  show xs[(i : Int).toNat]? = some xs[i]
  rw [Int.toNat_natCast]
  exact List.getElem?_eq_getElem h
theorem ix_tx {l : List Nat} {i : Nat} (h : i < l.length) : ixD (dT l) (i : Int) = some (dT [l[i]]) := by
  show (atI (tx l).cps.toList (i : Int)).map _ = _
  rw [tx_cps, atI_nat h]
  rfl
theorem ix_hd {c : Nat} {r : List Nat} : ixD (dT (c :: r)) 0 = some (dT [c]) := ix_tx (l := c :: r) (i := 0) (by simp)
theorem ix_hdl {c : PyData} {r : List PyData} : ixD (.list (c :: r)) 0 = some c := (atI_nat (xs := c :: r) (i := 0) (by simp))
theorem ix_list {l : List PyData} {i : Nat} (h : i < l.length) : ixD (.list l) (i : Int) = some l[i] := atI_nat h
theorem ix_tup {l : List PyData} {i : Nat} (h : i < l.length) : ixD (.tuple l) (i : Int) = some l[i] := atI_nat h
theorem cut_tx (l : List Nat) (i j : Nat) : cutS (tx l) (some (i : Int)) (some (j : Int)) = tx ((l.take j).drop i) := by
  unfold cutS
  rw [tx_len, HT.sIx_nat, HT.sIx_nat, tx_cps]
  show tx _ = tx _
  congr 1
  rw [List.drop_take]
  apply List.ext_getElem?
  intro k
  rw [List.getElem?_take, List.getElem?_take, List.getElem?_drop, List.getElem?_drop]
  by_cases h : k < min j l.length - min i l.length
  · rw [if_pos h, if_pos (by omega), Nat.min_eq_left (by omega)]
  · rw [if_neg h]
    by_cases h2 : k < j - i
    · rw [if_pos h2, List.getElem?_eq_none (by omega)]
    · rw [if_neg h2]
theorem cut_tx_to (l : List Nat) (j : Nat) : cutS (tx l) none (some (j : Int)) = tx (l.take j) := by
  unfold cutS
  rw [tx_len, HT.sIx_nat, tx_cps]
  show tx ((l.drop 0).take (min j l.length - 0)) = tx _
  congr 1
  rw [List.drop_zero, Nat.sub_zero]
  by_cases h : j ≤ l.length
  · rw [Nat.min_eq_left h]
  · rw [Nat.min_eq_right (by omega), List.take_of_length_le (Nat.le_refl _), List.take_of_length_le (by omega)]
theorem cut_tx_from (l : List Nat) (i : Nat) : cutS (tx l) (some (i : Int)) none = tx (l.drop i) := by
  unfold cutS
  rw [tx_len, HT.sIx_nat, tx_cps]
  show tx ((l.drop (min i l.length)).take (l.length - min i l.length)) = tx _
  congr 1
  by_cases h : i ≤ l.length
  · rw [Nat.min_eq_left h, List.take_of_length_le (by rw [List.length_drop]; omega)]
  · rw [Nat.min_eq_right (by omega), List.drop_of_length_le (Nat.le_refl _), List.drop_of_length_le (by omega), List.take_nil]
theorem cut_tx_init (l : List Nat) : cutS (tx l) none (some (-1)) = tx l.dropLast := by
  unfold cutS
  rw [tx_len, tx_cps]
  show tx ((l.drop 0).take (((-1 : Int) + (l.length : Int)).toNat - 0)) = tx _
  congr 1
  rw [List.drop_zero, Nat.sub_zero, List.dropLast_eq_take]
  congr 1
  omega
theorem cut_tx_tail {l : List Nat} (h : l ≠ []) : cutS (tx l) (some (-1)) none = tx [l.getLast h] := by
  have hp := List.length_pos_iff.mpr h
  unfold cutS
  rw [tx_len, tx_cps]
  show tx ((l.drop (((-1 : Int) + (l.length : Int)).toNat)).take (l.length - (((-1 : Int) + (l.length : Int)).toNat))) = tx _
  congr 1
  have e : ((-1 : Int) + (l.length : Int)).toNat = l.length - 1 := by omega
  rw [e, List.drop_eq_getElem_cons (by omega), List.drop_of_length_le (by omega), List.getLast_eq_getElem]
  have e2 : l.length - (l.length - 1) = 1 := by omega
  rw [e2]
  rfl
theorem cutD_nat {α : Type} (l : List α) (i j : Nat) : cutD l (some (i : Int)) (some (j : Int)) = (l.take j).drop i := by
  unfold cutD
  rw [HT.sIx_nat, HT.sIx_nat, List.drop_take]
  apply List.ext_getElem?
  intro k
  rw [List.getElem?_take, List.getElem?_take, List.getElem?_drop, List.getElem?_drop]
  by_cases h : k < min j l.length - min i l.length
  · rw [if_pos h, if_pos (by omega), Nat.min_eq_left (by omega)]
  · rw [if_neg h]
    by_cases h2 : k < j - i
    · rw [if_pos h2, List.getElem?_eq_none (by omega)]
    · rw [if_neg h2]
theorem cutD_to {α : Type} (l : List α) (j : Nat) : cutD l none (some (j : Int)) = l.take j := cutD_nat l 0 j
theorem cutD_from {α : Type} (l : List α) (i : Nat) : cutD l (some (i : Int)) none = l.drop i := by
  unfold cutD
  rw [HT.sIx_nat]
  show ((l.drop (min i l.length)).take (l.length - min i l.length)) = _
  by_cases h : i ≤ l.length
  · rw [Nat.min_eq_left h, List.take_of_length_le (by rw [List.length_drop]; omega)]
  · rw [Nat.min_eq_right (by omega), List.drop_of_length_le (Nat.le_refl _), List.drop_of_length_le (by omega), List.take_nil]
theorem cutD_last {α : Type} (l : List α) : cutD l none (some (-1)) = l.dropLast := by
  unfold cutD
  show (l.drop 0).take (((-1 : Int) + (l.length : Int)).toNat - 0) = _
  rw [List.drop_zero, Nat.sub_zero, List.dropLast_eq_take]
  congr 1
  omega
theorem ix_last {l : List PyData} (h : l ≠ []) : ixD (.list l) (-1) = some (l.getLast h) := by
  have hp := List.length_pos_iff.mpr h
  show atI l (-1) = _
  unfold atI ixN
  rw [if_neg (by omega), if_pos (by omega)]
  show l[((-1 : Int) + (l.length : Int)).toNat]? = _
  have e : ((-1 : Int) + (l.length : Int)).toNat = l.length - 1 := by omega
  rw [e, List.getElem?_eq_getElem (by omega), List.getLast_eq_getElem]
theorem chars_len (l : List Nat) : (charsD (tx l)).length = l.length := by unfold charsD; rw [tx_cps, List.length_map]
theorem chars_tx (l : List Nat) : charsD (tx l) = l.map fun c => dT [c] := rfl
theorem ints_len (lo : Int) (n : Nat) : (intsD lo n).length = n := by unfold intsD; rw [List.length_map, List.length_range]
theorem ints_get {lo : Int} {n j : Nat} {x : PyData} (h : (intsD lo n)[j]? = some x) : j < n ∧ x = .int (lo + (j : Nat)) := by
  unfold intsD at h
  rw [List.getElem?_map] at h
  have hj : j < n := by
    rcases Nat.lt_or_ge j n with h1 | h1
    · exact h1
    · rw [List.getElem?_eq_none (by rw [List.length_range]; exact h1)] at h; cases h
  rw [List.getElem?_eq_getElem (by rw [List.length_range]; exact hj), List.getElem_range] at h
  cases h
  exact ⟨hj, rfl⟩
theorem map_get {α β : Type} {f : α → β} {l : List α} {j : Nat} {x : β} (h : (l.map f)[j]? = some x) : ∃ (hj : j < l.length), x = f l[j] := by
  rw [List.getElem?_map] at h
  rcases Nat.lt_or_ge j l.length with h1 | h1
  · rw [List.getElem?_eq_getElem h1] at h
    cases h
    exact ⟨h1, rfl⟩
  · rw [List.getElem?_eq_none h1] at h; cases h
theorem br_t {c : Bool} {A B : Prop} (h : c = true) (a : A) : (c = true → A) ∧ (c = false → B) := ⟨fun _ => a, fun z => by rw [h] at z; cases z⟩
theorem br_f {c : Bool} {A B : Prop} (h : c = false) (b : B) : (c = true → A) ∧ (c = false → B) := ⟨(fun z => by rw [h] at z; cases z), fun _ => b⟩
theorem br_s {c : Bool} {A B : Prop} (p : Bool) (e : c = p) (a : p = true → A) (b : p = false → B) : (c = true → A) ∧ (c = false → B) := ⟨fun z => a (e ▸ z), fun z => b (e ▸ z)⟩
theorem br_d {c : Bool} {A B : Prop} (P : Prop) (e : c = true ↔ P) (a : P → A) (b : ¬ P → B) : (c = true → A) ∧ (c = false → B) := ⟨fun z => a (e.mp z), fun z => b fun p => by rw [e.mpr p] at z; cases z⟩
theorem cmul_r {i : Int} {n : Nat} (h : Nat.ble n 18446744073709551615 = true) : CMul i (OfNat.ofNat n) := by
  have h := Nat.le_of_ble_eq_true h
  have e : (OfNat.ofNat n : Int) = (n : Int) := rfl
  exact .inr ⟨by rw [e]; omega, by rw [e]; omega⟩
theorem cmul_l {j : Int} {n : Nat} (h : Nat.ble n 18446744073709551615 = true) : CMul (OfNat.ofNat n) j := by
  have h := Nat.le_of_ble_eq_true h
  have e : (OfNat.ofNat n : Int) = (n : Int) := rfl
  exact .inl ⟨by rw [e]; omega, by rw [e]; omega⟩
theorem cmul_o {i j : Int} (h : (-18446744073709551616 < i ∧ i < 18446744073709551616) ∨ (-18446744073709551616 < j ∧ j < 18446744073709551616)) : CMul i j := by
  rcases h with h | h
  · exact .inl ⟨by omega, by omega⟩
  · exact .inr ⟨by omega, by omega⟩
theorem cdiv_ok {i : Int} {n : Nat} (h : (Nat.ble 1 n && Nat.ble n 1073741823) = true) : CDiv i (OfNat.ofNat n) := by
  rw [Bool.and_eq_true] at h
  have h1 := Nat.le_of_ble_eq_true h.1
  have h2 := Nat.le_of_ble_eq_true h.2
  have e : (OfNat.ofNat n : Int) = (n : Int) := rfl
  exact ⟨by rw [e]; omega, by rw [e]; omega⟩
theorem pos_ok {n : Nat} (h : Nat.ble 1 n = true) : (0 : Int) < OfNat.ofNat n := by
  have h1 := Nat.le_of_ble_eq_true h
  have e : (OfNat.ofNat n : Int) = (n : Int) := rfl
  rw [e]; omega
theorem inr_b {P : Prop} {Q : Bool → Prop} {b : Bool} (c : Bool) (e : b = c) (h : Q c) : P ∨ ∃ b', PV.d (.bool b) = PV.d (.bool b') ∧ Q b' := .inr ⟨b, rfl, e ▸ h⟩
theorem ix_words {L : List (List Nat)} {v : Int} (h0 : 0 ≤ v) (h1 : v < L.length) : ∃ w, w ∈ L ∧ ixD (.list (L.map dT)) v = some (dT w) := by
  obtain ⟨n, rfl⟩ : ∃ n : Nat, v = n := ⟨v.toNat, by omega⟩
  have hn : n < L.length := by omega
  refine ⟨L[n], List.getElem_mem hn, ?_⟩
  rw [ix_list (by rw [List.length_map]; exact hn), List.getElem_map]
theorem ix_sign {l : List Nat} {v : Int} (h0 : 0 ≤ v) (h1 : v < l.length) : ∃ c, c ∈ l ∧ ixD (dT l) v = some (dT [c]) := by
  obtain ⟨n, rfl⟩ : ∃ n : Nat, v = n := ⟨v.toNat, by omega⟩
  have hn : n < l.length := by omega
  exact ⟨l[n], List.getElem_mem hn, ix_tx hn⟩
theorem ix_ints {L : List Int} {v : Int} (h0 : 0 ≤ v) (h1 : v < L.length) : ∃ w, w ∈ L ∧ ixD (.list (L.map PyData.int)) v = some (.int w) := by
  obtain ⟨n, rfl⟩ : ∃ n : Nat, v = n := ⟨v.toNat, by omega⟩
  have hn : n < L.length := by omega
  refine ⟨L[n], List.getElem_mem hn, ?_⟩
  rw [ix_list (by rw [List.length_map]; exact hn), List.getElem_map]
theorem sh_list {xs : List PyData} (h : ∀ x ∈ xs, x.canLay0 = true ∧ x.depth ≤ 60) : PyData.canLayAll0 xs = true ∧ PyData.depthAll xs ≤ 60 := by
  induction xs with
  | nil => exact ⟨rfl, Nat.zero_le _⟩
  | cons x r ih =>
    obtain ⟨a, b⟩ := ih fun y m => h y (List.mem_cons_of_mem _ m)
    obtain ⟨c, d⟩ := h x List.mem_cons_self
    refine ⟨?_, ?_⟩
    · rw [PyData.canLayAll0, c, a]; rfl
    · rw [PyData.depthAll]; exact Nat.max_le.mpr ⟨d, b⟩
theorem shaped_list {xs : List PyData} (h : ∀ x ∈ xs, x.canLay0 = true ∧ x.depth ≤ 60) : SeqAt.shaped (.list xs) = true := by
  obtain ⟨a, b⟩ := sh_list h
  unfold SeqAt.shaped
  rw [Bool.and_eq_true, decide_eq_true_eq]
  exact ⟨a, by rw [PyData.depth]; omega⟩
theorem shaped_tup {xs : List PyData} (h : ∀ x ∈ xs, x.canLay0 = true ∧ x.depth ≤ 60) : SeqAt.shaped (.tuple xs) = true := by
  obtain ⟨a, b⟩ := sh_list h
  unfold SeqAt.shaped
  rw [Bool.and_eq_true, decide_eq_true_eq]
  exact ⟨a, by rw [PyData.depth]; omega⟩
theorem eqOk_of {a b : PyData} (h : SeqAt.shaped a = true) (g : SeqAt.shaped b = true) : eqOk a b = true := by
  unfold eqOk
  rw [h, g, Bool.true_and, Bool.or_true]
theorem strsOf_tx : ∀ L : List (List Nat), strsOf (L.map dT) = some (L.map tx)
  | [] => rfl
  | x :: r => by
    show (strsOf (r.map dT)).map (tx x :: ·) = _
    rw [strsOf_tx r]
    rfl
theorem join_tx (c : List Nat) (L : List (List Nat)) : Txt.join (tx c) (L.map tx) = tx (TL.joinL c L) := by
  rw [TL.join_eq]
  refine TL.ext_tl ?_
  rw [TL.tl_join, List.map_map]
  show TL.joinL c (L.map (TL.tl ∘ tx)) = _
  rw [show (TL.tl ∘ tx) = id from rfl, List.map_id]
  rfl
theorem joinL_in {S : List Nat} {P : Nat → Prop} (hS : ∀ c ∈ S, P c) : ∀ {L : List (List Nat)}, (∀ w ∈ L, ∀ c ∈ w, P c) → ∀ c ∈ TL.joinL S L, P c
  | [], _, c, m => nomatch m
  | [p], h, c, m => h p List.mem_cons_self c m
  | p :: q :: r, h, c, m => by
    rcases List.mem_append.mp m with m | m
    · exact h p List.mem_cons_self c m
    · rcases List.mem_append.mp m with m | m
      · exact hS c m
      · exact joinL_in hS (fun w hw => h w (List.mem_cons_of_mem _ hw)) c m
theorem joinL_len {S : List Nat} {k : Nat} : ∀ {L : List (List Nat)}, (∀ w ∈ L, w.length ≤ k) → (TL.joinL S L).length ≤ (k + S.length) * L.length
  | [], _ => Nat.zero_le _
  | [p], h => by
    have := h p List.mem_cons_self
    show p.length ≤ (k + S.length) * 1
    omega
  | p :: q :: r, h => by
    have h1 := h p List.mem_cons_self
    have h2 := joinL_len (S := S) (L := q :: r) (fun w hw => h w (List.mem_cons_of_mem _ hw))
    show (p ++ (S ++ TL.joinL S (q :: r))).length ≤ _
    rw [List.length_append, List.length_append, show (p :: q :: r).length = (q :: r).length + 1 from rfl, Nat.mul_add, Nat.mul_one]
    omega
theorem sum_tx {k : Nat} : ∀ {L : List (List Nat)}, (∀ w ∈ L, w.length ≤ k) → ((L.map tx).map (·.length)).sum ≤ k * L.length
  | [], _ => Nat.zero_le _
  | p :: r, h => by
    have h1 := h p List.mem_cons_self
    have h2 := sum_tx (L := r) (fun w hw => h w (List.mem_cons_of_mem _ hw))
    rw [List.map_cons, List.map_cons, List.sum_cons, List.length_cons, Nat.mul_add, Nat.mul_one, tx_len]
    omega
/-- where a sign is first -/
def idx (c : Nat) : List Nat → Nat
  | [] => 0
  | a :: r => if a = c then 0 else idx c r + 1
theorem idx_le (c : Nat) : ∀ l, idx c l ≤ l.length
  | [] => Nat.le_refl _
  | a :: r => by
    unfold idx
    split
    · exact Nat.zero_le _
    · have := idx_le c r; rw [List.length_cons]; omega
theorem idx_at (c : Nat) : ∀ (l : List Nat) (i : Nat), l[i]? = some c → (∀ k, k < i → l[k]? ≠ some c) → idx c l = i
  | [], i, h, _ => by simp at h
  | a :: r, 0, h, _ => by
    have : a = c := by simpa using h
    unfold idx
    rw [if_pos this]
  | a :: r, i + 1, h, g => by
    have h0 : a ≠ c := fun e => g 0 (by omega) (by simpa using e)
    unfold idx
    rw [if_neg h0, idx_at c r i (by simpa using h) (fun k hk => by have := g (k + 1) (by omega); simpa using this)]
theorem idx_none (c : Nat) : ∀ (l : List Nat), (∀ i : Nat, l[i]? ≠ some c) → idx c l = l.length
  | [], _ => rfl
  | a :: r, g => by
    have h0 : a ≠ c := fun e => g 0 (by simpa using e)
    unfold idx
    rw [if_neg h0, idx_none c r (fun i => by have := g (i + 1); simpa using this), List.length_cons]
theorem idx_lt_get (c : Nat) : ∀ (l : List Nat), idx c l < l.length → l[idx c l]? = some c
  | [], h => by simp at h
  | a :: r, h => by
    unfold idx at h ⊢
    split
    · rename_i e; simp [e]
    · rename_i e
      rw [if_neg e, List.length_cons] at h
      have := idx_lt_get c r (by omega)
      simpa using this
theorem idx_before (c : Nat) : ∀ (l : List Nat) (k : Nat), k < idx c l → l[k]? ≠ some c
  | [], k, h => by simp [idx] at h
  | a :: r, k, h => by
    unfold idx at h
    split at h
    · omega
    · rename_i e
      cases k with
      | zero => simpa using e
      | succ k => 
        have := idx_before c r k (by omega)
        simpa using this
theorem find_tx (l : List Nat) (c : Nat) : Txt.find (tx l) (tx [c]) = if idx c l < l.length then (idx c l : Int) else -1 := by
  have key : ∀ i, StrLaws.At (tx l) (tx [c]) (tx l).length i ↔ l[i]? = some c := fun i => by
    rw [TL.at_iff (x := tx l) (y := tx [c]) (by show [c] ≠ []; simp) i]
    show TL.pre [c] (l.drop i) = true ↔ _
    unfold TL.pre
    show ((l.drop i).take 1 == [c]) = true ↔ _
    rw [beq_iff_eq]
    rcases Nat.lt_or_ge i l.length with h | h
    · rw [List.drop_eq_getElem_cons h, List.getElem?_eq_getElem h]
      show [l[i]] = [c] ↔ _
      simp
    · rw [List.drop_of_length_le h, List.getElem?_eq_none h]; simp
  rcases PyProof.Rows.find_whole (tx l) (tx [c]) with ⟨h, g⟩ | ⟨i, h, a, g⟩
  · rw [h, idx_none c l (fun i e => g i ((key i).mpr e)), if_neg (Nat.lt_irrefl _)]
  · have := idx_at c l i ((key i).mp a) (fun k hk e => g k hk ((key k).mpr e))
    rw [h, this, if_pos]
    have := (key i).mp a
    rcases Nat.lt_or_ge i l.length with h | h
    · exact h
    · rw [List.getElem?_eq_none h] at this; cases this
/-- parts between one sign -/
def spl1 (c : Nat) : List Nat → List Nat → List (List Nat)
  | acc, [] => [acc]
  | acc, a :: r => if a = c then acc :: spl1 c [] r else spl1 c (acc ++ [a]) r
theorem spl1_eq (c : Nat) : ∀ (l acc : List Nat), TL.spl [c] 0 acc l = spl1 c acc l
  | [], acc => TL.spl_nil _ _ _
  | a :: r, acc => by
    unfold spl1
    by_cases h : a = c
    · subst h
      rw [if_pos rfl, TL.spl_hit (by unfold TL.pre; simp)]
      show acc :: TL.spl [a] 0 [] r = _
      rw [spl1_eq a r]
    · rw [if_neg h, TL.spl_miss (TL.pre_of_head _ _ h), spl1_eq c r]
theorem split_tx (l : List Nat) {c : Nat} (hc : c < 256) : (Txt.split (tx l) (tx [c])).map PyData.str = (spl1 c [] l).map dT := by
  have h := TL.split_spl (tx l) (tx [c]) (by show [c] ≠ []; simp) (TL.kind_ok (by show [c].toArray.all (· < 256) = true; simp [hc]))
  have e : (Txt.split (tx l) (tx [c])).map TL.tl = spl1 c [] l := h.trans (spl1_eq c l [])
  have e2 := congrArg (List.map dT) e
  rw [List.map_map] at e2
  rw [← e2]
  apply List.map_congr_left
  intro z _
  show PyData.str z = PyData.str (tx (TL.tl z))
  rw [show tx (TL.tl z) = z from TL.mk_tl z]
theorem spl1_le (c : Nat) : ∀ l acc, (∀ x ∈ spl1 c acc l, x.length ≤ acc.length + l.length) ∧ (spl1 c acc l).length ≤ l.length + 1
  | [], acc => ⟨fun x m => by
      have : x = acc := by simpa [spl1] using m
      rw [this]; exact Nat.le_refl _, by show [acc].length ≤ 1; simp⟩
  | a :: r, acc => by
    unfold spl1
    split
    · have := spl1_le c r []
      refine ⟨fun x m => ?_, ?_⟩
      · rcases List.mem_cons.mp m with rfl | m
        · omega
        · have h := this.1 x m
          rw [List.length_nil] at h
          rw [List.length_cons]; omega
      · rw [List.length_cons, List.length_cons]
        have := this.2
        omega
    · have := spl1_le c r (acc ++ [a])
      refine ⟨fun x m => ?_, ?_⟩
      · have h := this.1 x m
        rw [List.length_append, List.length_cons, List.length_nil] at h
        rw [List.length_cons]; omega
      · rw [List.length_cons]
        have := this.2
        omega
theorem take_map_succ {α β : Type} {f : α → β} {l : List α} {j : Nat} (h : j < l.length) : (l.take (j + 1)).map f = (l.take j).map f ++ [f l[j]] := by
  rw [List.take_add_one, List.getElem?_eq_getElem h, List.map_append]
  rfl
theorem eqv_tx (a b : List Nat) : PyData.eqv (dT a) (dT b) = decide (a = b) := by
  have : PyData.eqv (dT a) (dT b) = (tx a == tx b) := by simp [PyData.eqv]
  rw [this]
  by_cases h : a = b
  · subst h; simp
  · rw [decide_eq_false h]
    simp only [beq_eq_false_iff_ne, ne_eq]
    exact fun z => h (tx_inj z)
theorem spl1_ne (c : Nat) : ∀ l acc, spl1 c acc l ≠ []
  | [], acc => by unfold spl1; simp
  | a :: r, acc => by
    unfold spl1
    split
    · simp
    · exact spl1_ne c r _

/-- data that is equal to itself: no dict -/
theorem eqv_self : ∀ {d : PyData}, d.canLay0 = true → PyData.eqv d d = true
  | d, h => PySem.SeqAt.eqv_refl d h

end PW

namespace PW
open PySem L2 PySem.Spec PyProof.Rows
/-- a fixed text's name for the signs put in place of others -/
def wRepl (y z : Str) (wo : EW) : EW := fun kx s k => wo kx s fun x s1 => ∃ z0, x = .d (.str z0) ∧ z0.length + (z0.length + 1) * z.length ≤ 16777216 ∧ k (.d (.str (Txt.replace z0 y z))) s1
theorem petImp {X : Cx} {e : Expr} {t t' : TE} (h : PET X e t) (i : ∀ σ H Q, t' σ H Q → t σ H Q) : PET X e t' := fun pins s σ H Q h0 I q => h pins s σ H Q h0 I (i σ H Q q)
theorem pstImp {X : Cx} {e : Stmt} {t t' : TS} (h : PST X e t) (i : ∀ D σ H, t' D σ H → t D σ H) : PST X e t' := fun pins s σ H D h0 I q => h pins s σ H D h0 I (i D σ H q)
theorem psstImp {X : Cx} {e : List Stmt} {t t' : TS} (h : PSsT X e t) (i : ∀ D σ H, t' D σ H → t D σ H) : PSsT X e t' := fun pins s σ H D h0 I q => h pins s σ H D h0 I (i D σ H q)
/-- an expression behind which a token is out -/
def PEU (X : Cx) (e : Expr) (t : TE) : Prop :=
  ∀ (pins : List (Addr × Obj)) (s : Shared) (σ : L2.St) (H : Hp) (Q : VK), Inv X pins σ H s → t σ H Q → wpAny (model X.prog X.w) X.A (eval e X.env) (fun v s' => 1 ≤ s'.toks ∧ EP X pins σ Q v s') X.xe s
section
variable {X : Cx} {W : WX} {e o wo_e : Expr} {st : Stmt} {rest : List Stmt} {we wo : EW} {wa wb : SW} {pos p : Pos} {y z c : Str} {j k : Nat} {c0 c1 cp : Pos}
theorem et_repl {apos : Pos} (ho : PE X o (tE X.K W wo)) (hyz : (y == z) = false := by decide)
    (hst : starEach [.Constant (.str y) j c0, .Constant (.str z) k c1] X.env = [(false, eval (.Constant (.str y) j c0) X.env), (false, eval (.Constant (.str z) k c1) X.env)] := by rfl)
    (hbase : attributeBase o "replace" X.env (eval o X.env) = eval o X.env := by rfl) (hline : (apos.endLine == pos.line) = true := by rfl) :
    PET X (.Call (.Attribute o "replace" apos) [.Constant (.str y) j c0, .Constant (.str z) k c1] [] pos) (tE X.K W (wRepl y z wo)) := by
  refine petImp (CwR.pet_replC ho hyz hst hbase hline) fun σ H Q ⟨H0, F0, A0, s, T, kx, k, w, xl, h, q⟩ => ?_
  refine ⟨H0, F0, A0, s, T, kx, _, w, xl, h, fun x s1 h1 u H1 w1 => ?_⟩
  obtain ⟨z0, rfl, hz, hk⟩ := h1
  cases str_at w1 List.mem_cons_self
  obtain ⟨F, A, w1⟩ := w1
  exact ⟨z0, rfl, hz, q _ _ hk _ H1 ⟨F, A, (w1.sub fun t h => List.mem_cons_of_mem _ h).push (.str _)⟩⟩
theorem st_ret (he : PET X e (tE X.K W we)) : PST X (.Return (some e) pos) (tS X.K W (wRet we)) := by
  refine pstImp (CwR.pst_ret he) fun D σ H ⟨H0, F0, A0, s, T, kx, k, w, xl, h, q1, q2, q3, q4⟩ => ?_
  exact ⟨H0, F0, A0, s, T, kx, _, w, xl, h, fun v s' h' u H' w' => q2 v s' h' u σ H' w'⟩
theorem sst_cons (h1 : PST X st (tS X.K W wa)) (h2 : PSsT X rest (tS X.K W wb)) : PSsT X (st :: rest) (tS X.K W (wSeq wa wb)) := by
  refine psstImp (psst_cons h1 h2) fun D σ H ⟨H0, F0, A0, s, T, kx, k, w, xl, h, q1, q2, q3, q4⟩ => ?_
  exact ⟨H0, F0, A0, s, T, kx, _, w, xl, h, fun s' h' σ' H' w' => ⟨H0, F0, A0, s', T, kx, k, w', xl, h', q1, q2, q3, q4⟩, q2, q3, q4⟩
theorem sst_one (h1 : PST X st (tS X.K W wa)) : PSsT X [st] (tS X.K W wa) := CwR.psst_one h1
theorem st_of (h1 : PS X st (tS X.K W wa)) : PST X st (tS X.K W wa) := PST.of h1
/-- a text is stored; behind it a token is out -/
theorem s_setStr {i : Nat} {x : Str} {pos' : Pos} (hN : X.N.Nodup) (hi : X.N[i]? = some x) (hx : Loc X.env.scope x) (h2 : PSsT X rest (tS X.K W wb))
    (hs : swapsWith (.Constant (.str c) j cp) (some (.Name x pos')) pos.line X.env = pure false := by rfl) (hf : X.fn x = true ∨ X.env.scope.names.lookup x = some .local := by first | exact .inl rfl | exact .inr rfl | assumption) :
    PSs X (.Assign [.Name x pos'] (.Constant (.str c) j cp) pos :: rest) (tS X.K W (wSeq (wAsg (wC (.str c)) i) wb)) := by
  refine PSs.imp (pss_str hN hi hx h2 hs hf) fun D σ H ⟨H0, F0, A0, s, T, kx, k, w, xl, h, q1, q2, q3, q4⟩ => ?_
  obtain ⟨F, A, w⟩ := w
  exact ⟨H0, F0, A0, _, T, kx, k, ⟨F, A, w.st (v := .d (.str c)) (Dq.str c)⟩, xl, h, q1, q2, q3, q4⟩
theorem pss_setU {i : Nat} {x : Str} {te : TE} {u : TS} {pos' : Pos} (hN : X.N.Nodup) (hi : X.N[i]? = some x) (hx : Loc X.env.scope x) (he : PEU X e te) (h2 : PSsT X rest u)
    (hs : swapsWith e (some (.Name x pos')) pos.line X.env = pure false := by rfl) (hf : X.fn x = true ∨ X.env.scope.names.lookup x = some .local := by first | exact .inl rfl | exact .inr rfl | assumption) :
    PSs X (.Assign [.Name x pos'] e pos :: rest) (tSeq (tAsg te (gName i)) u) := by
  refine ⟨fun pins s σ H D I h => ?_⟩
  refine wpAny_execs_cons (wpAny_Assign_Name (thn (he pins s σ H _ I h) fun v s1 ⟨hk, y, H1, I1, r1, q1⟩ => ?_) hs)
  refine wpAny_mono (PySem.wpAny_toks (store_ok (v := y) (u := v) (Q := fun _ s2 => Inv X pins (σ.set i (some y)) H1 s2) I1 hN hi hx r1 (fun _ I2 => I2) hf)) (fun _ s2 q => ?_) fun _ _ z => z.2
  have hk2 : s1.toks ≤ s2.toks := q.1
  exact h2 pins s2 _ H1 D (Nat.le_trans hk hk2) q.2 q1
theorem s_setU {i : Nat} {x : Str} {pos' : Pos} (hN : X.N.Nodup) (hi : X.N[i]? = some x) (hx : Loc X.env.scope x) (he : PEU X e (tE X.K W we)) (h2 : PSsT X rest (tS X.K W wb))
    (hs : swapsWith e (some (.Name x pos')) pos.line X.env = pure false := by rfl) (hf : X.fn x = true ∨ X.env.scope.names.lookup x = some .local := by first | exact .inl rfl | exact .inr rfl | assumption) :
    PSs X (.Assign [.Name x pos'] e pos :: rest) (tS X.K W (wSeq (wAsg we i) wb)) := by
  refine PSs.imp (pss_setU hN hi hx he h2 hs hf) fun D σ H ⟨H0, F0, A0, s, T, kx, k, w, xl, h, q1, q2, q3, q4⟩ => ?_
  refine ⟨H0, F0, A0, s, T, kx, _, w, xl, h, fun v s' h' u H' w' => ?_⟩
  obtain ⟨F, A, w'⟩ := w'
  exact ⟨H0, F0, A0, _, T, kx, k, ⟨F, A, (w'.sub fun t h => List.mem_cons_of_mem _ h).st (w'.tm _ List.mem_cons_self)⟩, xl, h', q1, q2, q3, q4⟩
/-- a method of a text with a written text: behind it a token is out -/
theorem eu_m1 {name : Str} {id : String} {r : V → List V → Hp → VK → Prop} {R : Str → PyData → (PyData → Prop) → Prop} {apos : Pos} (slot : Slot "str" name id) (hty : typeOf (.builtin id) = pure (.type "method_descriptor")) (hm : MtR X id r)
    (hR : ∀ (z : Str) (v : V) (b : PyData) (H : Hp) (Q : VK) (P : PyData → Prop), Dp X.K H v b → R z b P → (∀ y t, P y → toV y = some t → Q t H) → r (.str z) [v] H Q) (ho : PE X wo_e (tE X.K W wo))
    (hbase : attributeBase wo_e name X.env (eval wo_e X.env) = eval wo_e X.env := by rfl)
    (hfew : ((backTo pos (starEach [.Constant (.str c) j cp] X.env)).all (fun x => !x.1) && (backToKw pos (keywordEach [] X.env)).all (fun x => x.1.isSome)
      && decide ([Expr.Constant (.str c) j cp].length + ([] : List Keyword).length + (if ([] : List Keyword).isEmpty then 0 else 1) < 30)) = true := by rfl)
    (hline : (apos.endLine == pos.line) = true := by rfl) (hs : starEach [.Constant (.str c) j cp] X.env = [(false, eval (.Constant (.str c) j cp) X.env)] := by rfl) :
    PEU X (.Call (.Attribute wo_e name apos) [.Constant (.str c) j cp] [] pos) (tE X.K W (wM1 R wo (wC (.str c)))) := by
  intro pins s σ H Q I ⟨H0, F0, A0, s0, T, kx, k, w, xl, h, q⟩
  refine wpAny_Call_method_late hbase hfew hline rfl (thn (ho.run pins s σ H (fun v H1 => ∃ z, v = .str z ∧ r (.str z) [.str c] H1 Q) I ⟨H0, F0, A0, s0, T, kx, _, w, xl, h, fun x s1 h1 u H1 w1 => ?_⟩) fun v s1 ⟨x, H1, I1, r1, zz, e1, q1⟩ => ?_)
  · obtain ⟨z0, rfl, h1⟩ := h1
    cases str_at w1 List.mem_cons_self
    obtain ⟨b, hb, h2⟩ := h1
    cases hb
    obtain ⟨F, A, w1⟩ := w1
    exact ⟨z0, rfl, hR z0 (.str c) (.str c) H1 Q _ (.str c) h2 fun y t hy ht => q _ _ hy t H1 ⟨F, A, (w1.sub fun t h => List.mem_cons_of_mem _ h).push (toV_dp ht)⟩⟩
  subst e1
  obtain ⟨tx, e2⟩ := r1
  subst e2
  refine ⟨"str", _, PySem.F.plainAttrs_str, slot, hty, typeIs_str _ _ _, (fun _ e => nomatch e), ?_⟩
  rw [hs]
  refine Calls.callWith_builtin rfl (Calls.evalArgs_plain (Calls.spliced_cons (Calls.Constant_str (k := j) (pos := cp) (Calls.spliced_nil ?_))))
  refine wpAny_mono (PySem.wpAny_toks (hm pins { s1 with toks := s1.toks + 1 } σ H1 (.str zz) [.str c] (.str zz tx) [.str c s1.toks] Q (I1.tok _) ⟨tx, rfl⟩ (.cons ⟨_, rfl⟩ .nil) q1)) (fun v2 s2 q2 => ⟨?_, q2.2⟩) fun _ _ z => z.2
  have hk : s1.toks + 1 ≤ s2.toks := q2.1
  omega
theorem eu_find {apos : Pos} (ho : PE X wo_e (tE X.K W wo))
    (hbase : attributeBase wo_e "find" X.env (eval wo_e X.env) = eval wo_e X.env := by rfl)
    (hfew : ((backTo pos (starEach [.Constant (.str c) j cp] X.env)).all (fun x => !x.1) && (backToKw pos (keywordEach [] X.env)).all (fun x => x.1.isSome)
      && decide ([Expr.Constant (.str c) j cp].length + ([] : List Keyword).length + (if ([] : List Keyword).isEmpty then 0 else 1) < 30)) = true := by rfl)
    (hline : (apos.endLine == pos.line) = true := by rfl) (hs : starEach [.Constant (.str c) j cp] X.env = [(false, eval (.Constant (.str c) j cp) X.env)] := by rfl) :
    PEU X (.Call (.Attribute wo_e "find" apos) [.Constant (.str c) j cp] [] pos) (tE X.K W (wM1 rFindD wo (wC (.str c)))) :=
  eu_m1 PySem.F.slot_str_find PySem.F.type_str_find mt_find (fun z v b H Q P hb h q => by
    cases b <;> try exact h.elim
    cases dp_str hb
    exact ⟨_, _, rfl, rfl, q _ _ h rfl⟩) ho hbase hfew hline hs
end
theorem repl_strike (l : List Nat) (c : Nat) : Txt.replace (tx l) (tx [c]) (tx []) = tx (l.filter (· != c)) := TL.ext_tl (PyProof.Rows.replace_strikes (tx l) c)
end PW

namespace PW
open PySem L2 PySem.Spec PyProof.Rows
/-- a key by its data -/
def kD : PyData → Option Key
  | .int i => some (.inl i)
  | .str z => some (.inr z)
  | _ => none
theorem kD_dp {K : PySem.W.Frag} {H : Hp} {u : V} {x : PyData} {k : Key} (h : Dp K H u x) (e : kD x = some k) : u = kV k := by
  cases h <;> cases e <;> rfl
def putD (kvs : List (Key × PyData)) (k : Key) (v : PyData) : List (Key × PyData) :=
  if (kvs.any fun kv => decide (kv.1 = k)) = true then kvs.map (fun kv => if kv.1 = k then (kv.1, v) else kv) else kvs ++ [(k, v)]
theorem DqAll.kmap {K : PySem.W.Frag} {F : Hp} {k : Key} {v : V} {d : PyData} (hv : Dq K F v d) : ∀ {vs : List (Key × V)} {kvs : List (Key × PyData)}, vs.map (·.1) = kvs.map (·.1) → DqAll K F (vs.map (·.2)) (kvs.map (·.2)) →
    DqAll K F ((vs.map (fun kv => if kv.1 = k then (kv.1, v) else kv)).map (·.2)) ((kvs.map (fun kv => if kv.1 = k then (kv.1, d) else kv)).map (·.2))
  | [], [], _, _ => .nil
  | [], _ :: _, e, _ => by simp at e
  | _ :: _, [], e, _ => by simp at e
  | p :: vs, q :: kvs, e, h => by
    simp only [List.map_cons, List.cons.injEq] at e
    rw [List.map_cons, List.map_cons] at h
    cases h with
    | cons h t =>
      have ih := DqAll.kmap (k := k) hv e.2 t
      simp only [List.map_cons]
      refine .cons ?_ ih
      rw [← e.1]
      split
      · exact hv
      · exact h
theorem keys_kmap {α : Type} {k : Key} {v : α} : ∀ kvs : List (Key × α), (kvs.map (fun kv => if kv.1 = k then (kv.1, v) else kv)).map (·.1) = kvs.map (·.1)
  | [] => rfl
  | p :: r => by
    simp only [List.map_cons]
    rw [keys_kmap r]
    congr 1
    split <;> rfl
theorem any_keys {α : Type} (k : Key) : ∀ kvs : List (Key × α), (kvs.any fun kv => decide (kv.1 = k)) = (kvs.map (·.1)).any fun j => decide (j = k)
  | [] => rfl
  | p :: r => by rw [List.any_cons, any_keys k r]; rfl
theorem put_ok {K : PySem.W.Frag} {F : Hp} {k : Key} {v : V} {d : PyData} (hv : Dq K F v d) {vs : List (Key × V)} {kvs : List (Key × PyData)} (e : vs.map (·.1) = kvs.map (·.1)) (h : DqAll K F (vs.map (·.2)) (kvs.map (·.2))) :
    (putK vs k v).map (·.1) = (putD kvs k d).map (·.1) ∧ DqAll K F ((putK vs k v).map (·.2)) ((putD kvs k d).map (·.2)) := by
  have ea : (vs.any fun kv => decide (kv.1 = k)) = (kvs.any fun kv => decide (kv.1 = k)) := by rw [any_keys, any_keys, e]
  unfold putK putD
  rw [ea]
  split
  · exact ⟨by rw [keys_kmap, keys_kmap, e], h.kmap hv e⟩
  · rw [List.map_append, List.map_append, List.map_append, List.map_append, e]
    exact ⟨rfl, h.app (.cons hv .nil)⟩
theorem own_atD {K : PySem.W.Frag} {H0 F0 : Hp} {A0 : List Addr} {s : PSt} {σ : L2.St} {T : List (PV × V)} {H F : Hp} {A : List Addr} {u : V} {n : Nat} {kvs : List (Key × PyData)} (w : WdF K H0 F0 A0 s σ T H F A) (h : (PV.own n, u) ∈ T) (ho : s.o[n]? = some (.di kvs)) :
    ∃ p vs, A[n]? = some p ∧ u = .ref p ∧ F p = none ∧ H p = some (.dK vs) ∧ vs.map (·.1) = kvs.map (·.1) ∧ DqAll K F (vs.map (·.2)) (kvs.map (·.2)) := by
  obtain ⟨p, hp, e⟩ := w.tm _ h
  obtain ⟨f, vs, h1, h2, h3⟩ := w.oc n p _ hp ho
  exact ⟨p, vs, hp, e, f, h1, h2, h3⟩
def wDict0 : EW := fun _ s k => k (.own s.o.length) ⟨s.r, s.o ++ [.di []]⟩
/-- {k: v} -/
def wDict1 (wk wv : EW) : EW := fun kx s k => wk kx ⟨s.r, s.o ++ [.di []]⟩ fun x s1 => wv kx s1 fun y s2 => frz y s2 fun d s3 => ∃ a kk, x = .d a ∧ kD a = some kk ∧ s3.o[s.o.length]? = some (.di []) ∧ k (.own s.o.length) ⟨s3.r, s3.o.set s.o.length (.di [(kk, d)])⟩
/-- d[k] = v -/
def wSetK (wv wo wi : EW) : SW := fun kx s k => wv kx s fun v s1 => wo kx s1 fun x s2 => wi kx s2 fun y s3 => frz v s3 fun d s4 => ∃ n kvs a kk, x = .own n ∧ y = .d a ∧ s4.o[n]? = some (.di kvs) ∧ kD a = some kk ∧ kvs.length < sizeLine ∧ k.nx ⟨s4.r, s4.o.set n (.di (putD kvs kk d))⟩
/-- sorted(d), its keys whole numbers -/
def wSortedD (wd : EW) : EW := fun kx s k => wd kx s fun x s1 => ∃ n kvs ks, x = .own n ∧ s1.o[n]? = some (.di kvs) ∧ kvs.map (·.1) = ks.map Sum.inl ∧ ∀ ys : List Int, ys.Perm ks → ys.Pairwise (· ≤ ·) → k (.own s1.o.length) ⟨s1.r, s1.o ++ [.dl (ys.map PyData.int)]⟩
section
variable {X : Cx} {W : WX} {a b e o i : Expr} {wa wb we wo wi wv : EW} {pos p p2 : Pos}
theorem e_dict0 : PE X (.Dict [] [] pos) (tE X.K W wDict0) := by
  refine PE.imp pe_dnewK fun σ H Q ⟨H0, F0, A0, s, T, kx, k, w, xl, h, q⟩ => fun p hp => ?_
  obtain ⟨F, A, w⟩ := w
  have w2 := w.newO (c := .di []) hp fun fp => ⟨fp, [], upd_same, rfl, .nil⟩
  refine q _ _ h _ _ ⟨F, _, w2.push ⟨p, ?_, rfl⟩⟩
  rw [← w.len, List.getElem?_append_right (Nat.le_refl _), Nat.sub_self]
  rfl
theorem e_dict1 (hk : PE X a (tE X.K W wa)) (hv : PE X b (tE X.K W wb)) : PE X (.Dict [some a] [b] pos) (tE X.K W (wDict1 wa wb)) := by
  refine PE.imp (pe_disp (pps_cons hk hv pps_nil) rfl rfl (by simp) (by simp)) fun σ H Q ⟨H0, F0, A0, s, T, kx, k, w, xl, h, q⟩ => fun p hp => ?_
  obtain ⟨F, A, w⟩ := w
  have w2 := w.newO (c := .di []) hp fun fp => ⟨fp, [], upd_same, rfl, .nil⟩
  have w3 : WdF X.K H0 F0 A0 ⟨s.r, s.o ++ [.di []]⟩ σ ((.own s.o.length, .ref p) :: T) (upd H p (.dK [])) F (A ++ [p]) := w2.push ⟨p, by
    rw [← w.len, List.getElem?_append_right (Nat.le_refl _), Nat.sub_self]
    rfl, rfl⟩
  refine ⟨H0, F0, A0, _, _, kx, _, ⟨F, _, w3⟩, xl.push, h, fun x s1 h1 u H1 w4 => ?_⟩
  refine ⟨H0, F0, A0, s1, _, kx, _, w4, xl.push.push, h1, fun y s2 h2 u2 H2 w5 => ?_⟩
  obtain ⟨d, s3, h3, w6⟩ := frz_ok w5 h2
  obtain ⟨y0, kk, rfl, hkk, ho, hq⟩ := h3
  obtain ⟨F6, A6, w6⟩ := w6
  obtain ⟨p', vs, hp', e', f', hH, hks, hds⟩ := own_atD w6 (List.mem_cons_of_mem _ (List.mem_cons_of_mem _ List.mem_cons_self)) ho
  cases e'
  cases vs with
  | cons z r => simp at hks
  | nil =>
  have du : Dq X.K F6 u y0 := w6.tm (.d y0, u) (List.mem_cons_of_mem _ List.mem_cons_self)
  have dv : Dq X.K F6 u2 d := w6.tm (.d d, u2) List.mem_cons_self
  cases kD_dp (dq_dp du) hkk
  refine ⟨hH, [(kk, u2)], rfl, by simp, ?_⟩
  have em : mergeK [] [(kk, u2)] = [(kk, u2)] := rfl
  rw [em]
  have w7 := (w6.sub (T' := (.own s.o.length, .ref p) :: T) fun t h => List.mem_cons_of_mem _ (List.mem_cons_of_mem _ h)).wrO (o := .dK [(kk, u2)]) (c := .di [(kk, d)]) hp' f' (List.getElem?_eq_some_iff.mp ho).1 ⟨f', [(kk, u2)], upd_same, rfl, .cons dv .nil⟩
  exact q _ _ hq _ _ ⟨F6, _, w7⟩
theorem s_setK (hu : X.A.units + 64 < cLine) (he : PE X e (tE X.K W wv)) (ho : PE X o (tE X.K W wo)) (hi : PE X i (tE X.K W wi)) (hs : swapsWith e (some (.Subscript o i p2)) pos.line X.env = pure false := by rfl) :
    PS X (.Assign [.Subscript o i p2] e pos) (tS X.K W (wSetK wv wo wi)) := by
  refine PS.imp (ps_dput (by omega) ho hi he hs) fun D σ H ⟨H0, F0, A0, s, T, kx, k, w, xl, h, q1, q2, q3, q4⟩ => ?_
  refine ⟨H0, F0, A0, s, T, kx, _, w, xl, h, fun v s1 h1 u H1 w1 => ?_⟩
  refine ⟨H0, F0, A0, s1, _, kx, _, w1, xl.push, h1, fun x s2 h2 ux H2 w2 => ?_⟩
  refine ⟨H0, F0, A0, s2, _, kx, _, w2, xl.push.push, h2, fun y s3 h3 uy H3 w3 => ?_⟩
  obtain ⟨d, s4, h4, w4⟩ := frz_ok (T := (y, uy) :: (x, ux) :: T) (w3.sub fun t ht => by
    rcases List.mem_cons.mp ht with e | ht
    · rw [e]; exact List.mem_cons_of_mem _ (List.mem_cons_of_mem _ List.mem_cons_self)
    · rcases List.mem_cons.mp ht with e | ht
      · rw [e]; exact List.mem_cons_self
      · rcases List.mem_cons.mp ht with e | ht
        · rw [e]; exact List.mem_cons_of_mem _ List.mem_cons_self
        · exact List.mem_cons_of_mem _ (List.mem_cons_of_mem _ (List.mem_cons_of_mem _ ht))) h3
  obtain ⟨n, kvs, y0, kk, rfl, rfl, ox, hkk, hz, hk⟩ := h4
  obtain ⟨F, A, w4⟩ := w4
  obtain ⟨p, vs, hp, rfl, fp, hv, hks, hds⟩ := own_atD w4 (List.mem_cons_of_mem _ (List.mem_cons_of_mem _ List.mem_cons_self)) ox
  have dv : Dq X.K F u d := w4.tm (.d d, u) List.mem_cons_self
  have dy : Dq X.K F uy y0 := w4.tm (.d y0, uy) (List.mem_cons_of_mem _ List.mem_cons_self)
  cases kD_dp (dq_dp dy) hkk
  have hl : vs.length = kvs.length := by
    have := congrArg List.length hks
    rw [List.length_map, List.length_map] at this
    exact this
  obtain ⟨e1, e2⟩ := put_ok (k := kk) dv hks hds
  exact ⟨p, _, rfl, DPut.k hv (by rw [hl]; exact hz), q1 _ hk σ _ ⟨F, A, (w4.sub (T' := T) fun t h => List.mem_cons_of_mem _ (List.mem_cons_of_mem _ (List.mem_cons_of_mem _ h))).wrO (c := .di (putD kvs kk d)) hp fp (List.getElem?_eq_some_iff.mp ox).1 ⟨fp, _, upd_same, e1, e2⟩⟩⟩
end
end PW

namespace PW
open PySem L2 PySem.Spec PyProof.Rows
/-- sorted(d) of a dict, all its keys ints, any number of them -/
theorem cr_sortedDn {X : Cx} (hcalm : X.calm = true) : CallR X (.builtin "sorted") (fun xs H Q => ∃ (a : Addr) (kvs : List (Key × V)) (ks : List Int), xs = [.ref a] ∧ Rd H a (.dK kvs) ∧ kvs.map (·.1) = ks.map Sum.inl ∧
    ∀ (ys : List Int) (p : Addr), ys.Perm ks → ys.Pairwise (· ≤ ·) → H p = none → Q (.ref p) (upd H p (.lst (ys.map V.int)))) := by
  intro pins s σ H xs us Q I r q
  obtain ⟨a, kvs, ks, ex, hd, hks, q⟩ := q
  subst ex
  obtain ⟨u, eu, rx⟩ := vals1 r
  subst eu
  cases rx
  obtain ⟨z, lo, vs, rel, dd⟩ := dk_rd I.hok hd
  obtain ⟨ep, hat⟩ := dd.dictAt
  have hkeys : vs.map (·.1) = ks.map Sum.inl := rel.keys.symm.trans hks
  have hl : vs.length = ks.length := by
    have e := congrArg List.length hkeys
    rw [List.length_map, List.length_map] at e
    exact e
  have h16 : vs.length ≤ sizeLine := by rw [← rel.length]; exact z
  refine Calls.call_function_entry PyProof.Rows.kind_sorted PyProof.Rows.plain_sorted PyProof.Rows.entry_sorted (PyProof.Rows.args_sorted1 _) ?_
  unfold Builtin.«sorted»
  refine wpAny_bind (m := checkCount "sorted" 1 1 _) (wpAny_pure ?_)
  refine wpAny_bind (PySem.W.kdu_collect (A := X.A.in1) (PySem.W.kdl_dict (knd := mixKind X.prog X.w) (kvs := vs) (ep := ep) lo) (I.ok.hd hcalm) hat h16 fun h' tk acc hk hacc => ?_)
  have hal : acc.toList.length = ks.length := by rw [Array.length_toList, hacc.1, hl]
  have hS : IntsAre acc.toList ks := ints_each hal fun j v e => by
    obtain ⟨k, x, e1, e2⟩ := hacc.2 j v (by rw [← Array.getElem?_toList]; exact e)
    have e3 : (vs.map (·.1))[j]? = some k := by rw [List.getElem?_map, e1]; rfl
    rw [hkeys, List.getElem?_map] at e3
    cases e4 : ks[j]? with
    | none => rw [e4] at e3; cases e3
    | some y =>
      rw [e4] at e3
      have e5 : Sum.inl y = k := Option.some.inj e3
      subst e5
      rcases keyIs_shape (show keyIs (Sum.inl y) v = true from e2) with ⟨i, t, ek, ev⟩ | ⟨z, t, ek, ev⟩
      · cases ek
        exact ⟨y, t, rfl, ev⟩
      · cases ek
  have I1 : Inv X pins σ H { s with heap := h', toks := tk } := I.kept hk
  have hz : acc.toList.length ≤ sizeLine := by rw [hal, ← hl]; exact h16
  refine wpAny_bind (wpAny_newList ?_ hz)
  have hoL : (h'.push (seqObj "list" acc.toList.toArray 0)).get? h'.objs.size = some (seqObj "list" acc.toList.toArray 0) := Heap.get?_push_size _ rfl
  show wpAny _ _ _ _ _ { s with heap := h'.push (seqObj "list" acc.toList.toArray 0), toks := tk }
  refine wpAny_bind (wpAny_holding (wpAny_call_entry PyProof.Rows.slot_list_sort ⟨_, hoL, rfl⟩ PyProof.Rows.entry_list_sort
    (SrtO.list_sort_ord (s := { s with heap := h'.push (seqObj "list" acc.toList.toArray 0), toks := tk }) SrtO.swo_int hoL hz (fun h2 => SrtO.ints_sortable hS h2) fun out h1 h2 => ⟨.none, rfl, ?_⟩) (PyProof.Rows.args_list_sort _)))
  obtain ⟨k1, k2, k3⟩ := SrtO.ints_out hS h1 h2
  obtain ⟨e', he'⟩ := PyProof.Rows.sortedHeap_at (vs := acc.toList) (out := out.toArray) hoL
  have hlen : ((out.map SrtO.iv).map V.int).length ≤ sizeLine := by
    rw [List.length_map, k2.length_eq, ← hal]
    exact hz
  refine wpAny_pure ⟨_, rfl, .ref h'.objs.size, upd H h'.objs.size (.lst ((out.map SrtO.iv).map V.int)), I1.laid (t' := tk) (fun b u e => ?_) (Nat.le_refl _)
    (show ObjOk X.prog X.w _ _ _ (.lst ((out.map SrtO.iv).map V.int)) from ⟨hlen, out, e', vals_of_ints k1, he'⟩), rfl, q _ _ k2 k3 (I1.hok.fresh (Nat.le_refl _))⟩
  have hb : b < h'.objs.size := Heap.lt_size e
  rw [PyProof.Rows.sortedHeap_old (Nat.ne_of_lt hb) (by rw [size_push']; exact Nat.lt_succ_of_lt hb)]
  exact Heap.get?_push_of_some _ e
section
variable {X : Cx} {W : WX} {a : Expr} {wa : EW} {pos p : Pos}
theorem e_sortedD (hc : X.calm = true) (hm : X.mg "sorted" = none) (ha : PE X a (tE X.K W wa)) (hg : Gl X "sorted" := by rfl) (he : starEach [a] X.env = (false, eval a X.env) :: starEach [] X.env := by rfl) (hpl : (backTo pos (starEach [] X.env)).any (·.1) = false := by rfl) :
    PE X (.Call (.Name "sorted" p) [a] [] pos) (tE X.K W (wSortedD wa)) := by
  refine PE.imp (pe_callB (cr_sortedDn hc) hg hm (by decide +kernel) (pa_cons ha pa_nil he) (he := he) (hpl := hpl)) fun σ H Q ⟨H0, F0, A0, s, T, kx, k, w, xl, h, q⟩ => cb1_of w xl h fun x s1 u H1 h1 w1 => ?_
  obtain ⟨n, kvs, ks, rfl, ox, hks, hk⟩ := h1
  obtain ⟨F, A, w1⟩ := w1
  have w2 := w1.sub (T' := T) fun t h => List.mem_cons_of_mem _ h
  obtain ⟨pp, vs, hp, rfl, fp, hv, hks2, hds⟩ := own_atD w1 List.mem_cons_self ox
  refine ⟨pp, vs, ks, rfl, .inl hv, hks2.trans hks, fun ys q1 h1 h2 hn => q _ _ (hk ys h1 h2) _ _ ⟨F, _, (w2.newL hn (ints_dq ys)).push (top_at w2 q1 F)⟩⟩
end
end PW

namespace PW
open PySem L2 PySem.Spec PyProof.Rows
/-- a text so many times -/
def repS (z : Str) (n : Nat) : Str := ⟨(List.replicate n z.cps.toList).flatten.toArray⟩
theorem repS_tx (l : List Nat) (n : Nat) : repS (tx l) n = tx (List.replicate n l).flatten := rfl
theorem foldl_repN (l : List Nat) : ∀ (k : Nat) (acc : List Nat), List.foldl (fun x1 x2 => x1 ++ x2) acc.toArray (List.replicate k l.toArray) = (acc ++ (List.replicate k l).flatten).toArray
  | 0, acc => by simp
  | k + 1, acc => by
    rw [List.replicate_succ, List.foldl_cons, List.replicate_succ, List.flatten_cons]
    have e : acc.toArray ++ l.toArray = (acc ++ l).toArray := by simp
    rw [e, foldl_repN l k, List.append_assoc]
theorem repS_fold (x : Str) (n : Nat) : (⟨(List.replicate n x.cps).foldl (· ++ ·) #[]⟩ : Str) = repS x n := by
  have h := foldl_repN x.cps.toList n []
  rw [List.nil_append] at h
  unfold repS
  rw [← h]
theorem op_repS {X : Cx} : OpR X (binaryOp .Mult) (fun x y H Q => ∃ z n, x = .str z ∧ y = .int n ∧ -(2 ^ 63) ≤ n ∧ n < 2 ^ 63 ∧ z.length * n.toNat ≤ sizeLine ∧ Q (.str (repS z n.toNat)) H) := by
  intro pins s σ H x y v u Q I rx ry h
  obtain ⟨z, n, rfl, rfl, h1, h2, hz, q⟩ := h
  obtain ⟨t, rfl⟩ := rx
  obtain ⟨t', rfl⟩ := ry
  have h16 : (sizeLine : Nat) = 16777216 := rfl
  refine P.mul_str ?_ (fun hn _ => ?_) (fun hn _ => ?_) ?_
  · rw [decide_eq_false (by omega), decide_eq_false (by omega)]; rfl
  · have hn1 : 1 ≤ n := by omega
    have e : ((z.length * n.toNat : Nat) : Int) = (z.length : Int) * n := by rw [Int.natCast_mul, Int.toNat_of_nonneg (by omega)]
    have h3 : (z.length : Int) * n ≤ 2 ^ 63 - 1 := by rw [← e]; omega
    have h4 := Int.le_ediv_of_mul_le (by omega : 0 < n) h3
    omega
  · exact decide_eq_false (by omega)
  · by_cases hn : n < 1
    · rw [if_pos hn]
      have e0 : repS z n.toNat = Str.empty := by
        have : n.toNat = 0 := by omega
        rw [this]; rfl
      rw [e0] at q
      exact ⟨by decide, .str Str.empty, H, I.tok _, ⟨_, rfl⟩, q⟩
    · rw [if_neg hn]
      by_cases h1' : (n == 1 || z.length == 0) = true
      · rw [if_pos h1']
        have e1 : repS z n.toNat = z := by
          rw [Bool.or_eq_true, beq_iff_eq, beq_iff_eq] at h1'
          rcases h1' with h | h
          · subst h
            show (⟨(List.replicate 1 z.cps.toList).flatten.toArray⟩ : Str) = z
            simp
          · have ez : z.cps.toList = [] := by
              apply List.eq_nil_of_length_eq_zero
              rw [Array.length_toList]; exact h
            refine TL.ext_tl ?_
            show (List.replicate n.toNat z.cps.toList).flatten = z.cps.toList
            rw [ez]
            simp
        rw [e1] at q
        exact ⟨.str z, H, I, ⟨_, rfl⟩, q⟩
      · rw [if_neg h1', repS_fold]
        have hl : (repS z n.toNat).length = n.toNat * z.length := by
          show ((List.replicate n.toNat z.cps.toList).flatten.toArray).size = _
          rw [List.size_toArray, List.length_flatten]
          simp [Str.length]
        refine ⟨?_, .str _, H, I.tok _, ⟨_, rfl⟩, q⟩
        rw [hl, Nat.mul_comm]
        exact hz
def rRepSD : PyData → PyData → (PyData → Prop) → Prop := fun a b q => match a, b with
  | .str z, .int n => (-(2 ^ 63) ≤ n ∧ n < 2 ^ 63) ∧ z.length * n.toNat ≤ sizeLine ∧ q (.str (repS z n.toNat))
  | _, _ => False
abbrev wRepS := wOp rRepSD
theorem ok_repS {K : PySem.W.Frag} : ROk K (fun x y H Q => ∃ z n, x = .str z ∧ y = .int n ∧ -(2 ^ 63) ≤ n ∧ n < 2 ^ 63 ∧ z.length * n.toNat ≤ sizeLine ∧ Q (.str (repS z n.toNat)) H) rRepSD := by
  intro u v x y H Q P hx hy h q
  cases x <;> cases y <;> try exact h.elim
  cases dp_str hx; cases dp_int hy
  obtain ⟨⟨h1, h2⟩, h3, h4⟩ := h
  exact ⟨_, _, rfl, rfl, h1, h2, h3, q _ _ h4 rfl⟩
theorem e_repS {X : Cx} {W : WX} {a b : Expr} {wa wb : EW} {pos : Pos} (ha : PE X a (tE X.K W wa)) (hb : PE X b (tE X.K W wb)) : PE X (.BinOp a .Mult b pos) (tE X.K W (wRepS wa wb)) := e_op op_repS ok_repS ha hb
end PW

namespace PW
open PySem PySem.Spec PyProof.Rows L2
/-! ### exceptions as values: what was caught is tracked by its own object -/
/-- the object at a is oe, for good -/
abbrev excO (a : Addr) (oe : Obj) : HO := .ext fun h => h.get? a = some oe
section
variable {X : Cx} {pins : List (Addr × Obj)} {σ : L2.St} {H : Hp} {s : Shared}
/-- an object that is new since the def began, and not tracked, is tracked from now on -/
theorem inv_track {a : Addr} {oe : Obj} (I : Inv X pins σ H s) (h0 : X.s_0.heap.get? a = none) (hg : s.heap.get? a = some oe) (ha : H a = none) (hl : a ≠ X.env.locals) (hc : ∀ v, oe.data ≠ .cell v) (hp : ∀ p ∈ X.pn ++ pins, p.1 ≠ a) :
    Inv X pins σ (upd H a (excO a oe)) s := by
  have ne0 : ∀ {b o}, X.s_0.heap.get? b = some o → b ≠ a := fun {b o} e z => by
    rw [z, h0] at e
    cases e
  have neH : ∀ {b o}, H b = some o → b ≠ a := fun {b o} e z => by
    rw [z, ha] at e
    cases e
  refine { I with
    base := ⟨I.base.keep, I.base.slot, fun b o e n x => (upd_ne (ne0 e)).trans (I.base.free b o e n x), I.base.there, fun b xs e => ?_, fun b o u e => ?_, fun b ps e => ?_⟩
    free := (upd_ne fun z => hl z.symm).trans I.free
    freeC := fun x c e => ?_
    pin := fun p m => ?_
    hok := fun b o e => ?_ }
  · have q := I.base.tups b xs e
    exact (upd_ne (neH q)).trans q
  · have q := I.base.frzs b o u e
    exact (upd_ne (neH q)).trans q
  · obtain ⟨more, q⟩ := I.base.tbls b ps e
    exact ⟨more, (upd_ne (neH q)).trans q⟩
  · have nc : c ≠ a := fun z => by
      obtain ⟨v, o, e1, e2⟩ := I.cell x c e
      rw [z, hg] at e1
      cases e1
      exact hc _ e2
    exact (upd_ne nc).trans (I.freeC x c e)
  · obtain ⟨e1, e2, e3⟩ := I.pin p m
    exact ⟨e1, (upd_ne (hp p m)).trans e2, e3⟩
  · by_cases hb : b = a
    · rw [hb, upd_same] at e
      cases e
      rw [hb]
      exact ⟨hg, ⟨oe, hg⟩, fun _ _ e k => k oe e⟩
    · rw [upd_ne hb] at e
      exact (I.hok b o e).stay (fun _ _ _ q => q) (fun c q => (upd_ne (neH q)).trans q) fun c xs q => (upd_ne (neH q)).trans q
/-- into an except suite .. -/
theorem inv_in {a : Addr} (I : Inv X pins σ H s) : Inv (X.suite a (X.pn ++ pins)) [] σ H s :=
  ⟨I.ok.suite _ _, I.os, I.bare, I.base, I.loc, I.cell, I.free, I.freeC, fun p hp => I.pin p (by rw [List.append_nil] at hp; exact hp), I.hok, I.len⟩
/-- .. and out of it -/
theorem inv_out {a : Addr} {pn' : List (Addr × Obj)} (I : Inv (X.suite a (X.pn ++ pins)) pn' σ H s) (ok : X.Ok) : Inv X pins σ H s :=
  ⟨ok, I.os, I.bare, I.base, I.loc, I.cell, I.free, I.freeC, fun p hp => I.pin p (List.mem_append_left _ hp), I.hok, I.len⟩
end
def stI (oi : Option Nat) (v : Option V) (σ : L2.St) : L2.St := match oi with
  | none => σ
  | some i => σ.set i v
def endsI (oi : Option Nat) (D : Ends) : Ends := { nx := fun σ H => D.nx (stI oi none σ) H, rt := D.rt, bk := fun σ H => D.bk (stI oi none σ) H, ct := fun σ H => D.ct (stI oi none σ) H }
/-- what the clauses wish of an exception of the body -/
def wishes (K : PySem.W.Frag) (Wout : WX) (D : Ends) : List (Value × Option Nat × TS) → WX
  | [] => Wout
  | (c, oi, ts) :: r => fun cls d σ H => ∃ b, PySem.W.exmOne K cls c = some b ∧ (b = true → ∀ a oe, H a = none → Zc cls d oe → (∃ vs, oe.data = .fields vs) → ts (endsI oi D) (stI oi (some (.ref a)) σ) (upd H a (excO a oe))) ∧ (b = false → wishes K Wout D r cls d σ H)
/-- the clauses and their suites -/
inductive Clauses (X : Cx) : List ExceptHandler → List (Value × Option Nat × TS) → Prop
  | nil : Clauses X [] []
  | only {x : Str} {c : Value} {ts : TS} {b₀ : Stmt} {suite : List Stmt} {np pos' : Pos} {hds : List ExceptHandler} {l : List (Value × Option Nat × TS)} (hc : Names X x c)
      (hsu : ∀ (a : Addr) (pn : List (Addr × Obj)), PSs (X.suite a pn) (b₀ :: suite) ts) (r : Clauses X hds l) : Clauses X (.ExceptHandler (some (.Name x np)) none (b₀ :: suite) pos' :: hds) ((c, none, ts) :: l)
  | as {x n : Str} {c : Value} {i : Nat} {ts : TS} {b₀ : Stmt} {suite : List Stmt} {np pos' : Pos} {hds : List ExceptHandler} {l : List (Value × Option Nat × TS)} (hc : Names X x c) (hN : X.N.Nodup) (hi : X.N[i]? = some n) (hln : X.env.kindOf n = some .local)
      (hsu : ∀ (a : Addr) (pn : List (Addr × Obj)), PSs (X.suite a pn) (b₀ :: suite) ts) (r : Clauses X hds l) : Clauses X (.ExceptHandler (some (.Name x np)) (some n) (b₀ :: suite) pos' :: hds) ((c, some i, ts) :: l)
section
variable {X : Cx} {body : List Stmt} {hd0 : ExceptHandler} {hds : List ExceptHandler} {l : List (Value × Option Nat × TS)} {pos : Pos} {tb : WX → TS} {Wout : WX}
theorem ps_tryT (hst : X.stack = X.env :: X.outer) (hfr : X.env.frame = some X.env.locals) (hex : X.ex = []) (tk : Takes X Wout)
    (hbody : ∀ (W' : WX) (pn : List (Addr × Obj)) (xe : Value → Shared → Prop), Takes (X.tr pn xe) W' → PassesOwn (model X.prog X.w) X.A X.env xe → PSs (X.tr pn xe) body (tb W'))
    (hcl : Clauses X (hd0 :: hds) l) : PS X (.Try body (hd0 :: hds) [] [] pos) (fun D σ H => tb (wishes X.K Wout D l) D σ H) := by
  refine ⟨fun pins s σ H D I hq => ?_⟩
  have okX := I.ok
  have frA : X.A.frames = some (X.env :: X.outer) := okX.frames.trans (congrArg some hst)
  refine wpAny_Try_except ?_
  have run0 := (hbody (wishes X.K Wout D l) (X.pn ++ pins) (fun e s₁ => wpAny (model X.prog X.w) X.A (noteFrame e X.env) (fun _ s₂ => wpAny (model X.prog X.w) X.A (setFlight e none)
    (fun _ s₃ => wpAny (model X.prog X.w) X.A (handleBy e X.env (hd0 :: hds)) (SP X pins D) X.xe s₃) X.xe s₂) X.xe s₁) (fun u t xx => ?_) PassesOwn.looking).run [] s σ H D (I.toTry _) hq
  · refine wpAny_mono run0 (fun fl t hsp => ?_) (fun _ _ z => z)
    cases fl with
    | next =>
      obtain ⟨σ1, H1, I1, q⟩ := hsp
      exact wpAny_execs_nil ⟨σ1, H1, I1.ofTry okX, q⟩
    | ret u =>
      obtain ⟨v, σ1, H1, I1, rv, q⟩ := hsp
      exact ⟨v, σ1, H1, I1.ofTry okX, rv, q⟩
    | brk =>
      obtain ⟨σ1, H1, I1, q⟩ := hsp
      exact ⟨σ1, H1, I1.ofTry okX, q⟩
    | cont =>
      obtain ⟨σ1, H1, I1, q⟩ := hsp
      exact ⟨σ1, H1, I1.ofTry okX, q⟩
  · obtain ⟨a, B, sI, pins1, σ1, H1, cls, d, rfl, I1, below, upS, skyB, aNone, sameOs, bareG, wish⟩ := xx
    have IX : Inv X pins σ1 H1 sI := I1.ofTry okX
    have skyX : Sky B (X.env :: X.outer) a (Zc cls d) X.env.locals t.heap := hst ▸ skyB
    show wpAny (model X.prog X.w) X.A (noteFrame (.ref a) X.env) _ _ _
    refine Sky.land Zc.steady frA hfr skyX fun g3 fly3 up3 => ?_
    have I3 : Inv X pins σ1 H1 { t with heap := g3 } := IX.landed below fly3.1 (upS.trans up3) sameOs bareG
    obtain ⟨ob3, arr3, get3, zc3, dat3⟩ := fly3.there
    have offF : ∀ {g : Heap} {ob : Obj} {arr : Array Value}, g.FunFrames B (X.env :: X.outer) → g.get? a = some ob → ob.data = .fields arr → a ∉ frs (X.env :: X.outer) := fun {g ob arr} ff e dd hm => by
      obtain ⟨_, ob', e', nofld⟩ := ff.mem hm
      rw [e] at e'
      cases e'
      exact nofld _ dd
    have aOff := offF fly3.2.2.1 get3 dat3
    have aLoc : a ≠ X.env.locals := fun z => aOff (List.mem_filterMap.mpr ⟨X.env, List.mem_cons_self, by rw [hfr, z]⟩)
    have apart : ∀ {b o}, sI.heap.get? b = some o → b ∉ frs X.stack → b ≠ a := fun {b o} e hb z => by
      have q := below b o e hb
      rw [z, fly3.2.1] at q
      cases q
    have new0 : X.s_0.heap.get? a = none := by
      cases e : X.s_0.heap.get? a with
      | none => rfl
      | some o =>
        obtain ⟨o', e'⟩ := IX.base.there a o e (by rw [hex]; exact fun z => nomatch z)
        exact absurd rfl (apart e' (by rw [hst]; exact aOff))
    have pinsOff : ∀ p ∈ X.pn ++ pins, p.1 ≠ a := fun p hp => by
      obtain ⟨e1, _, e3, e4, _⟩ := IX.pin p hp
      refine apart e1 fun hm => ?_
      rw [hst] at hm
      obtain ⟨env, he, q⟩ := List.mem_filterMap.mp hm
      rcases List.mem_cons.mp he with z | z
      · rw [z, hfr] at q
        exact e3 (Option.some.inj q).symm
      · exact e4 (List.mem_filterMap.mpr ⟨env, z, q⟩)
    -- the state of a suite
    have inSuite : ∀ {g : Heap} {ob : Obj} {arr : Array Value}, HandSPX.FlyingZ B (X.env :: X.outer) a (Zc cls d) g → t.heap.UpToSlots g → g.get? a = some ob → ob.data = .fields arr → Inv X pins σ1 (upd H1 a (excO a ob)) { t with heap := g } :=
      fun {g ob arr} fl up e dd => inv_track (IX.landed below fl.1 (upS.trans up) sameOs bareG) new0 e aNone aLoc (fun v z => by rw [dd] at z; cases z) pinsOff
    have S3 := inv_in (a := a) I3
    have go : ∀ {hs : List ExceptHandler} {ws : List (Value × Option Nat × TS)}, Clauses X hs ws → wishes X.K Wout D ws cls d σ1 H1 → wpAny (model X.prog X.w) X.A (handleBy (.ref a) X.env hs) (SP X pins D) X.xe { t with heap := g3 } := by
      intro hs ws hk
      have looksT : PySem.W.Looks (model X.prog X.w) g3 (typeOf (.ref a)) cls := fun _ _ _ _ k q => wpAny_typeOf_ref (k _ _ get3) (by rw [zc3.1]; exact q)
      have test : ∀ {x : Str} {c : Value} {np : Pos} {Q : Value → Shared → Prop} {E : Value → Shared → Prop}, Names X x c → Q c { t with heap := g3 } → wpAny (model X.prog X.w) (X.A.mark (some (.ref a))) (eval (.Name x np) X.env) Q E { t with heap := g3 } := fun {x c np Q E} hc q => by
        obtain ⟨hg, hdbg, hm | ⟨hm, hv, hnn⟩⟩ := hc
        · exact ld_glob (X := X.suite a (X.pn ++ pins)) S3 hg hm q hdbg
        · exact ld_blt (X := X.suite a (X.pn ++ pins)) S3 hg hm hv q hnn hdbg
      induction hk with
      | nil =>
        intro wq
        refine wpAny_handleBy_nil ?_
        obtain ⟨q1, q2, q3, ob, arr, tb0, obT, arrT, e1, e2, e3, e4, e5⟩ := id fly3
        unfold PySem.passOn
        refine wpAny_bind (wpAny_field e1 e3 e4 ?_)
        rw [if_neg (show ¬ ((Value.ref tb0 == Value.none) = true) from by simp)]
        have last : wpAny (model X.prog X.w) X.A (setFlight (.ref a) X.env.frame) (fun _ s4 => wpAny (model X.prog X.w) X.A (throw (.ref a) : Sem Flow) (SP X pins D) X.xe s4) X.xe { t with heap := g3 } := by
          rw [hfr]
          refine HandSPX.setFlight_upZ fly3 fun g4 held4 up4 => wpAny_throw (tk _ _ ?_)
          exact ⟨a, B, sI, pins, σ1, H1, cls, d, rfl, IX, below, (upS.trans up3).trans up4, .inr (.inr (by rw [hst]; exact held4)), aNone, sameOs, bareG, wq⟩
        first
          | exact wpAny_bind (wpAny_pure (wpAny_bind last))
          | exact wpAny_bind last
      | @only x c ts b₀ suite np pos' hds2 l2 hc hsu r ih =>
        intro wq
        obtain ⟨b, hb1, yes, no⟩ := wq
        refine wpAny_handleBy_cons (codeAny_handlers_test ?_) (fun z => nomatch z)
        refine test hc ((PySem.W.exm_one (M := model X.prog X.w) I3.kIn looksT hb1).here ?_)
        cases b with
        | false => exact ih (no rfl)
        | true =>
          refine codeAny_handlers_suite (HandSPX.lands_againZ fly3 fun g4 fly4 up4 => ?_)
          obtain ⟨ob4, arr4, get4, zc4, dat4⟩ := fly4.there
          have I4 := inSuite fly4 (up3.trans up4) get4 dat4
          refine wpAny_mono ((hsu a (X.pn ++ pins)).run [] _ _ _ _ (inv_in I4) (yes rfl a ob4 aNone zc4 ⟨_, dat4⟩)) (fun fl s6 hsp => ?_) (fun _ _ z => z.elim)
          cases fl with
          | next =>
            obtain ⟨_, _, I6, q6⟩ := hsp
            exact ⟨_, _, inv_out I6 okX, q6⟩
          | ret u =>
            obtain ⟨_, _, _, I6, rv, q6⟩ := hsp
            exact ⟨_, _, _, inv_out I6 okX, rv, q6⟩
          | brk =>
            obtain ⟨_, _, I6, q6⟩ := hsp
            exact ⟨_, _, inv_out I6 okX, q6⟩
          | cont =>
            obtain ⟨_, _, I6, q6⟩ := hsp
            exact ⟨_, _, inv_out I6 okX, q6⟩
      | @as x n c i ts b₀ suite np pos' hds2 l2 hc hN hi hln hsu r ih =>
        intro wq
        obtain ⟨b, hb1, yes, no⟩ := wq
        refine wpAny_handleBy_cons (codeAny_handlers_test ?_) (fun z => nomatch z)
        refine test hc ((PySem.W.exm_one (M := model X.prog X.w) I3.kIn looksT hb1).here ?_)
        cases b with
        | false => exact ih (no rfl)
        | true =>
          refine codeAny_handlers_suite_as (HandSPX.lands_againZ fly3 fun g4 fly4 up4 => ?_)
          obtain ⟨ob4, arr4, get4, zc4, dat4⟩ := fly4.there
          have I4 := inSuite fly4 (up3.trans up4) get4 dat4
          refine store_ok (X := X.suite a (X.pn ++ pins)) (v := .ref a) (inv_in I4) hN hi (.inl hln) rfl (fun s5 I5 => ?_) (.inr hln)
          refine wpAny_mono ((hsu a (X.pn ++ pins)).run [] s5 _ _ _ I5 (yes rfl a ob4 aNone zc4 ⟨_, dat4⟩)) (fun fl s6 hsp => ?_) (fun _ _ z => z.elim)
          have gone : ∀ {σ6 : L2.St} {H6 : Hp} {Q : Shared → Prop}, Inv (X.suite a (X.pn ++ pins)) [] σ6 H6 s6 → (∀ s7, Inv X pins (σ6.set i none) H6 s7 → Q s7) → wpAny (model X.prog X.w) X.A (do bindName X.env n .none; unbindBehindTheSuite X.env n pos') (fun _ s7 => Q s7) X.xe s6 :=
            fun {σ6 H6 Q} I6 hQ => gone_ok (inv_out I6 okX) hN hi hln hQ
          cases fl with
          | next =>
            obtain ⟨_, _, I6, q6⟩ := hsp
            exact gone I6 fun _ I7 => ⟨_, _, I7, q6⟩
          | ret u =>
            obtain ⟨_, _, _, I6, rv, q6⟩ := hsp
            exact gone I6 fun _ I7 => ⟨_, _, _, I7, rv, q6⟩
          | brk =>
            obtain ⟨_, _, I6, q6⟩ := hsp
            exact gone I6 fun _ I7 => ⟨_, _, I7, q6⟩
          | cont =>
            obtain ⟨_, _, I6, q6⟩ := hsp
            exact gone I6 fun _ I7 => ⟨_, _, I7, q6⟩
    exact go hcl wish
end
end PW
namespace PW
open PySem PySem.Spec PyProof.Rows L2
section
variable {X : Cx} {pins : List (Addr × Obj)} {σ : L2.St} {H : Hp} {s : Shared} {a C : Addr} {oe : Obj} {d : Option Addr}
/-- a tracked exception, by its class and its dict -/
structure ExcAt (H : Hp) (a C : Addr) (oe : Obj) (d : Option Addr) : Prop where
  at_ : H a = some (excO a oe)
  zc : Zc (.ref C) d oe
  fl : ∃ vs, oe.data = .fields vs
  dc : d = none ∨ ∃ dd fs, d = some dd ∧ H dd = some (.xd fs)
theorem ExcAt.inst (I : Inv X pins σ H s) (E : ExcAt H a C oe d) : ∃ od, PySem.W.InstAt s.heap a oe C od ∧ ∀ dd fs, d = some dd → H dd = some (.xd fs) → ∃ o mA, od = some o ∧ s.heap.Ns1 dd mA ∧ (∀ f, RelO (fs.lookup f) (mA f)) ∧ s.heap.get? dd = some o := by
  have ha : s.heap.get? a = some oe := (show _ ∧ _ ∧ _ from I.hok a _ E.at_).1
  obtain ⟨vs, hv⟩ := E.fl
  have no : PySem.W.notCls oe = true := by unfold PySem.W.notCls; rw [hv]
  rcases E.dc with hd | ⟨dd, fs, hd, hx⟩
  · refine ⟨none, ⟨ha, E.zc.1, no, ?_⟩, fun dd fs e => by rw [hd] at e; cases e⟩
    rw [E.zc.2, hd]
    trivial
  · have hk : ObjOk X.prog X.w H s.heap dd (.xd fs) := I.hok dd _ hx
    obtain ⟨mA, hns, hr⟩ := hk
    obtain ⟨o, ho, hl⟩ := lookIn_ns hns
    refine ⟨some o, ⟨ha, E.zc.1, no, ?_⟩, fun dd' fs' e1 e2 => ?_⟩
    · rw [E.zc.2, hd]
      exact ho
    · rw [hd] at e1
      cases e1
      rw [hx] at e2
      cases e2
      exact ⟨o, mA, rfl, hns, hr, ho⟩
end
/-- isinstance(e, c), e a tracked exception -/
def rIsT (K : PySem.W.Frag) : List V → Hp → VK → Prop := fun xs H Q => ∃ (a C : Addr) (oe : Obj) (d : Option Addr) (c : V) (cv : Value) (b : Bool), xs = [.ref a, c] ∧ ExcAt H a C oe d ∧ L2.ExcC K C ∧ (∀ u, RelV c u → u = cv) ∧ PySem.W.kitOne K (.ref C) cv = some b ∧ Q (.bl b) H
theorem call_isT {X : Cx} : CallR X (.builtin "isinstance") (rIsT X.K) := by
  intro pins s σ H xs us Q I r h
  obtain ⟨a, C, oe, d, c, cv, b, rfl, E, xc, hcv, e, q⟩ := h
  cases r with
  | cons ra rr =>
    cases rr with
    | cons rc rr =>
      cases rr
      cases ra
      have ec := hcv _ rc
      subst ec
      obtain ⟨od, J, _⟩ := E.inst I
      obtain ⟨cd, hc, _⟩ := PySem.W.any_some xc.hd
      exact PySem.W.kia_one (PySem.W.kitx_exc (by rw [hc]; rfl) xc.hg xc.hk xc.hs xc.ha xc.hn xc.ht xc.hm) I.kIn J e (fun z => nomatch z) fun tk => ⟨.bl b, H, I.kept (t' := tk) fun _ _ z => z, rfl, q⟩
/-- e.f, e a tracked exception -/
def tXfT (K : PySem.W.Frag) (f : Str) (te : TE) : TE := fun σ H Q => te σ H fun x H1 => ∃ (a C : Addr) (oe : Obj) (dd : Addr) (fs : List (Str × V)) (v : V), x = .ref a ∧ ExcAt H1 a C oe (some dd) ∧ XfC K C ∧ PySem.W.findIn K (.ref C) f = some none ∧ H1 dd = some (.xd fs) ∧ fs.lookup f = some v ∧ Q v H1
theorem pe_xfT {X : Cx} {e : Expr} {te : TE} {pos : Pos} {n : Str} (he : PE X e te) (hb : attributeBase e n X.env (eval e X.env) = eval e X.env := by rfl) : PE X (.Attribute e n pos) (tXfT X.K n te) := by
  refine ⟨fun pins s σ H Q I h => ?_⟩
  refine attr_of hb (thn (he.run pins s σ H _ I h) fun u s1 hh => ?_)
  obtain ⟨x, H1, I1, rx, a, C, oe, dd, fs, v, ex, E, T, hno, hx, l, q⟩ := hh
  subst ex
  obtain rfl : u = Value.ref a := rx
  obtain ⟨od, J, hd⟩ := E.inst I1
  obtain ⟨o, mA, eo, hns, hr, ho⟩ := hd dd fs rfl hx
  subst eo
  obtain ⟨o2, ho2, hl⟩ := lookIn_ns hns
  rw [ho] at ho2
  cases ho2
  obtain ⟨w, hw, rw'⟩ := RelO.some_of (v := v) (o := mA n) (by rw [← l]; exact hr n)
  exact HandSPX.exc_get I1.kIn J T.ga T.gg T.exC (PySem.W.findObj_own T.hdC hno rfl (by rw [hl, hw])) (handed_of rw') ⟨v, H1, I1.tok _, rw', q⟩

/-! ### defs that may be called in an except suite -/
structure FnT (P : Program) (w : World) (K : PySem.W.Frag) (mg : Str → Option Value) (base : Heap) (CX : CXT) (k : Nat) (f : Addr) (fd : FuncData) (ps : List Str) (sp : Sp) : Prop where
  len : ∀ vs H Q E, sp vs H Q E → vs.length = ps.length
  run : ∀ (A : Around) (outer : List Env) (s : Shared) (H : Hp) (args : Args) (us : List Value) (vs : List V) (Q : VK) (E : XK), L2H.RoomH k A → Env0 P w K mg base A outer s H → BindsTo s fd args (ps.zip us) → Vals vs us → sp vs H Q E →
    codeAny (model P w) A (.call (.ref f) args) (CR CX outer P w H s Q E) s
/-- the context of such a def's body -/
def cxT (CX : CXT) (P : Program) (w : World) (K : PySem.W.Frag) (mg : Str → Option Value) (base : Heap) (N : List Str) (qual : Str) (scope : Scope) (f : Addr) (cd : Value) (A : Around) (outer : List Env) (s : Shared) (H : Hp) (E : XK) : Cx :=
  { cxOf CX P w K mg base N qual scope f cd A outer s H E with calm := false }
theorem startT {CX : CXT} {P : Program} {w : World} {K : PySem.W.Frag} {mg : Str → Option Value} {base : Heap} {N ps : List Str} {qual : Str} {scope : Scope} {f : Addr} {cd : Value} {A : Around} {outer : List Env} {s s1 : Shared} {H : Hp} {E : XK} {us : List Value} {vs : List V}
    (Sc : FnScope N ps scope) (env0 : Env0 P w K mg base A outer s H) (hlen : vs.length = ps.length) (rel : Vals vs us)
    (called : InCallC s s.heap.objs.size (bindL (envOfC qual scope s.heap.objs.size f cd).kindOf (ps.zip us) fun _ => none) (cellsFrom (s.heap.objs.size + 1) scope.names []) (bindC (envOfC qual scope s.heap.objs.size f cd).kindOf (ps.zip us) fun _ => none) s1) :
    Inv (cxT CX P w K mg base N qual scope f cd A outer s H E) [] (L2.start N vs) H s1 := by
  obtain ⟨g1, tk, rfl, kept⟩ := called.done
  have noX : ∀ {b : Addr}, b ∈ (cxT CX P w K mg base N qual scope f cd A outer s H E).ex → False := fun {b} z => nomatch (show b ∈ ([] : List Addr) from z)
  have plen : ps.length ≤ N.length := by
    have e := congrArg List.length Sc.pre
    rw [List.length_take] at e
    omega
  have pnd : ps.Nodup := by
    rw [← Sc.pre]
    exact Sc.nd.sublist (List.take_sublist _ _)
  constructor
  · refine ⟨env0.mod, Sc.kind, rfl, rfl, Nat.le_refl _, fun y z c e1 e2 => name_of_addr called.apart (PySem.mem_of_lookup e1) (PySem.mem_of_lookup e2), fun y hy => ?_, fun y c _ e => Nat.le_of_lt (called.above y c (PySem.mem_of_lookup e)), (fun z => nomatch (show false = true from z)), Around.frames_deeper env0.frames, .inr ⟨rfl, rfl⟩,
      fun b z => (noX z).elim, env0.bs, env0.bsz, fun b _ _ z => noX z, fun b z => (noX z).elim, env0.funs, env0.frf⟩
    rcases (show scope.names.lookup y = some .cell ∨ scope.names.lookup y = some .free from hy) with hy | hy
    · exact cell_has hy
    · exact absurd rfl (Sc.nofree _ (PySem.mem_of_lookup hy))
  · rfl
  · exact env0.bare
  · exact Un.kept kept
  · refine ⟨_, called.toInCall.ns, fun i y v e1 e2 _ => ?_⟩
    have hi : i < vs.length := by
      rcases Nat.lt_or_ge i vs.length with z | z
      · exact z
      · unfold L2.start at e2
        rw [List.getElem?_append_right (by simpa using z), List.getElem?_replicate] at e2
        split at e2 <;> cases e2
    have hv : vs[i]? = some v := by
      unfold L2.start at e2
      rw [List.getElem?_append_left (by simpa using hi), List.getElem?_map] at e2
      cases e : vs[i]? with
      | none => rw [e] at e2; cases e2
      | some w => rw [e] at e2; cases e2; rfl
    have hp : ps[i]? = some y := by
      rw [← Sc.pre, List.getElem?_take_of_lt (by omega)]
      exact e1
    obtain ⟨u, hu, ru⟩ := rel.get hv
    refine ⟨u, ru, ?_⟩
    rcases Sc.par y (List.mem_of_getElem? hp) with z | z
    · exact .inl ⟨z, bindL_get pnd hp hu z⟩
    · obtain ⟨c, e⟩ := cell_has (n := s.heap.objs.size + 1) z
      have q := called.cell y c e
      rw [bindC_get pnd hp hu (by show scope.names.lookup y ≠ _; rw [z]; decide)] at q
      exact .inr ⟨.inl z, c, e, q⟩
  · exact fun y c e => ⟨_, called.cell y c e⟩
  · exact env0.hok.fresh (Nat.le_refl _)
  · exact fun y c e => env0.hok.fresh (Nat.le_of_lt (called.above y c (PySem.mem_of_lookup e)))
  · exact fun q hq => nomatch (show q ∈ ([] : List (Addr × Obj)) from hq)
  · exact env0.hok.kept kept
  · unfold L2.start
    show _ = N.length
    rw [List.length_append, List.length_map, List.length_replicate]
    omega
theorem fnT_of {P : Program} {w : World} {K : PySem.W.Frag} {mg : Str → Option Value} {base : Heap} {x qual : Str} {st : Stmt} {f : Addr} {fd : FuncData} {N ps : List Str} {k : Nat} {sp : Sp} (F : Fun K x qual st f fd) (Sc : FnScope N ps (defScope st)) (len : ∀ vs H Q E, sp vs H Q E → vs.length = ps.length)
    (body : ∀ (cdv : Value) (A : Around) (outer : List Env) (s : Shared) (H : Hp) (vs : List V) (Q : VK) (E : XK), L2H.RoomH k (A.deeper (envOfC qual (defScope st) s.heap.objs.size f cdv)) → sp vs H Q E →
      ∃ t, PSs (cxT (L2.CX P w) P w K mg base N qual (defScope st) f cdv A outer s H E) (defBody st) t ∧ t { nx := fun _ H' => Q .non H', rt := Q } (L2.start N vs) H) : FnT P w K mg base (L2.CX P w) (k + 1) f fd ps sp := by
  obtain ⟨oc, od, kV, doc, pm, an, cdv, ct, osl, rfl, lk, hcd⟩ := F.ex
  refine ⟨len, fun A outer s H args us vs Q E room env0 binds rel hsp => ?_⟩
  have keepB : ∀ b o, base.get? b = some o → s.heap.get? b = some o := fun b o e => (env0.bs b o e).1
  have inK : K.In s.heap := env0.mod.kin.keeps keepB
  have kinds : ∀ y ∈ ps.zip us, (defScope st).names.lookup y.1 = some .local ∨ ((defScope st).names.lookup y.1 = some .cell ∧ ((cellsFrom (s.heap.objs.size + 1) (defScope st).names []).lookup y.1).isSome = true) := fun ⟨n, v⟩ hy =>
    (Sc.par n (List.of_mem_zip hy).1).imp id fun z => ⟨z, PySem.W.cellsFrom_some _ _ _ (.inl z)⟩
  refine codeAny_call_function room.depth (inK _ _ lk) rfl Sc.co Sc.gen rfl (PySem.W.codeRec_of inK hcd) (binds _ _ _ _ ?_)
  refine wpAny_newFunctionEnv_cells Sc.kind kinds fun env ee s1 called => ?_
  subst ee
  refine ⟨(env0.mod.nolimit.keeps keepB).keeps called.toInCall.keep, codeAny_func ?_⟩
  obtain ⟨t, ht, hq⟩ := body cdv A outer s H vs Q E (room.deeper _) hsp
  have start := startT (CX := L2.CX P w) (E := E) Sc env0 (len _ _ _ _ hsp) rel called
  refine wpAny_mono (ht.run [] s1 (L2.start N vs) H _ start hq) (fun fl s' hs => ?_) fun _ _ z => z
  cases fl with
  | next =>
    obtain ⟨_, H', J, q⟩ := hs
    exact ⟨V.non, H', J.os, J.bare, J.base, J.hok, rfl, q⟩
  | ret u =>
    obtain ⟨v, _, H', J, rv, q⟩ := hs
    exact ⟨v, H', J.os, J.bare, J.base, J.hok, rv, q⟩
  | brk =>
    obtain ⟨_, _, _, q⟩ := hs
    exact q.elim
  | cont =>
    obtain ⟨_, _, _, q⟩ := hs
    exact q.elim
theorem FnT.mono {P : Program} {w : World} {K : PySem.W.Frag} {mg : Str → Option Value} {base : Heap} {CX : CXT} {j k : Nat} {f : Addr} {fd : FuncData} {ps : List Str} {sp : Sp} (F : FnT P w K mg base CX j f fd ps sp) (h : j ≤ k) : FnT P w K mg base CX k f fd ps sp :=
  ⟨F.len, fun A outer s H args us vs Q E r => F.run A outer s H args us vs Q E (r.mono h)⟩
theorem FnT.ok {P : Program} {w : World} {K : PySem.W.Frag} {mg : Str → Option Value} {base : Heap} {CX : CXT} {k : Nat} {f : Addr} {fd : FuncData} {ps : List Str} {sp : Sp} (F : FnT P w K mg base CX k f fd ps sp) : FnOk P w K mg base CX k f fd ps sp :=
  ⟨F.len, fun A outer s H args us vs Q E r => F.run A outer s H args us vs Q E (L2H.roomH_of r)⟩
section
variable {X : Cx} {CX : CXT} {k : Nat} {f : Addr} {fd : FuncData} {ps : List Str} {sp : Sp} {E : L2.St → XK} {x : Str} {q pos : Pos} {e : Expr} {es : List Expr} {t : TA}
theorem run_fnT {pins : List (Addr × Obj)} {σ : L2.St} {H : Hp} {s : Shared} {Q : VK} {us : List Value} {vs : List V} (F : FnT X.prog X.w X.K X.mg X.base CX k f fd ps sp) (room : L2H.RoomH k X.A) (hb : Binds X.K fd ps []) (hx : PassesAt CX X σ (E σ))
    (I : Inv X pins σ H s) (r : Vals vs us) (h : sp vs H Q (E σ)) : wpAny (model X.prog X.w) X.A (call (.ref f) us) (EP X pins σ Q) X.xe s := by
  have ul : us.length = ps.length := r.length.symm.trans (F.len _ _ _ _ h)
  have bb := hb s us I.kIn (by rw [List.append_nil]; exact ul)
  rw [List.append_nil] at bb
  refine wpAny_call (codeAny_mono (F.run X.A X.stack s H ⟨us, []⟩ us vs Q (E σ) room I.env0 bb r h) fun res s' hq => ?_)
  cases res with
  | error e => exact hx pins H s e s' I hq
  | ok fl =>
    cases fl with
    | ret u => exact I.after hq
    | next => exact hq.elim
    | brk => exact hq.elim
    | cont => exact hq.elim
theorem pe_callT (F : FnT X.prog X.w X.K X.mg X.base CX k f fd ps sp) (room : L2H.RoomH k X.A) (hg : Gl X x) (hm : X.mg x = some (.ref f)) (hk : PySem.W.keepIn X.K (.ref f) = true) (hb : Binds X.K fd ps []) (hx : ∀ σ, PassesAt CX X σ (E σ))
    (ha : PA X (e :: es) t) (hdb : (x == ("__debug__" : Str)) = false := by decide) (he : starEach (e :: es) X.env = (false, eval e X.env) :: starEach es X.env := by rfl) (hpl : (backTo pos (starEach es X.env)).any (·.1) = false := by rfl) :
    PE X (.Call (.Name x q) (e :: es) [] pos) (tCallS sp E t) := by
  refine ⟨fun pins s σ H Q I h => ?_⟩
  refine wpAny_Call_Name_kw (ld_glob I hg hm ?_ hdb)
  refine PySem.W.callWith_K (h₀ := X.base) I.ok.mod.kin hk (thn (ha.run pos pins s σ H _ I h) fun us s1 ⟨vs, H1, I1, r, hs⟩ => ⟨I1.kIn, ?_⟩) he hpl
  exact run_fnT F room hb (hx σ) I1 r hs
end
end PW
namespace PW
open PySem PySem.Spec PyProof.Rows L2
theorem roomT {k : Nat} {A : Around} (r : Room k A) : L2H.RoomH k A := L2H.roomH_of r
theorem roomS {X : Cx} {k : Nat} (r : L2H.RoomH k X.A) (a : Addr) (pn : List (Addr × Obj)) : L2H.RoomH k (X.suite a pn).A := ⟨r.dp, r.un⟩
theorem hu64H {k : Nat} {A : Around} (hr : L2H.RoomH k A) : A.units + 64 < cLine := by have := hr.un; omega
theorem hu65H {k : Nat} {A : Around} (hr : L2H.RoomH k A) : A.units + 65 < cLine := by have := hr.un; omega
section
variable {P : Program} {w : World} {K : PySem.W.Frag} {mg : Str → Option Value} {base : Heap}
/-- a def that may be called in an except suite, too -/
structure CalT (P : Program) (w : World) (K : PySem.W.Frag) (mg : Str → Option Value) (base : Heap) (k : Nat) (x : Str) (ps : List Str) (S : FS) : Prop where
  ex : ∃ f fd, FnT P w K mg base (L2.CX P w) k f fd ps (spOf K S) ∧ mg x = some (.ref f) ∧ PySem.W.keepIn K (.ref f) = true ∧ Binds K fd ps []
theorem CalT.cal {k : Nat} {x : Str} {ps : List Str} {S : FS} (C : CalT P w K mg base k x ps S) : Cal P w K mg base k x ps S := by
  obtain ⟨f, fd, F, r⟩ := C.ex
  exact ⟨f, fd, F.ok, r⟩
theorem Dfd.calT {x : Str} {ps N : List Str} {st : Stmt} {k : Nat} {S : FS} {wb : SW} (D : Dfd K mg x ps st) (Sc : FnScope N ps (defScope st)) (len : ∀ args o r e, S args o r e → args.length = ps.length)
    (body : ∀ (f : Addr) (cdv : Value) (A : Around) (outer : List Env) (s : Shared) (H : Hp) (E : XK), L2H.RoomH k (A.deeper (envOfC x (defScope st) s.heap.objs.size f cdv)) →
      PSs (cxT (L2.CX P w) P w K mg base N x (defScope st) f cdv A outer s H E) (defBody st) (tS K (fun cls d _ H => E cls d H) wb))
    (pure : ∀ args o ret exc, S args o ret exc → wb (fun x s => exc x (cutL o.length s.o)) (pst0 args o N.length) (bodyE o.length ret)) : CalT P w K mg base (k + 1) x ps S := by
  obtain ⟨f, fd, F, m, b⟩ := D.ex
  exact ⟨f, fd, fnT_of F Sc (fn_len len) fun cdv A outer s H vs Q E hr h => ⟨_, body f cdv A outer s H E hr, fn_core pure vs H Q E h⟩, m, F.kp, b⟩
end
section
variable {X : Cx} {W : WX} {k j : Nat} {ps : List Str} {S : FS} {x : Str} {p pos : Pos} {e : Expr} {es : List Expr} {ws : AW} {sp : Sp} {E : L2.St → XK}
/-- the part of a call's rule that isn't the call -/
theorem call_of (h : PA X (e :: es) (tA X.K W ws)) (c : ∀ {t : TA}, PA X (e :: es) t → PE X (.Call (.Name x p) (e :: es) [] pos) (tCallS (spOf X.K S) (WE W) t)) : PE X (.Call (.Name x p) (e :: es) [] pos) (tE X.K W (wCall S ws)) := by
  refine PE.imp (c h) fun σ H Q ⟨H0, F0, A0, s, T, kx, kk, w, xl, h, q⟩ => ar_of w xl h fun vs s1 us H1 h1 e1 w1 => ?_
  obtain ⟨xs, s2, hS, e2, pl, w2⟩ := prep_ok vs us s1 T _ e1 w1 h1
  obtain ⟨F1, A, w2⟩ := w2
  have w3 := w2.sub (T' := T) fun t h => List.mem_append_right _ h
  refine ⟨H1, F1, [], xs, [], _, _, ⟨F1, [], ?_⟩, rfl, hS, fun r o hr ho v H' ret => ?_, fun y o hx ho d H' w' => ?_⟩
  · refine ⟨⟨Same.refl _, w2.fz.g, Same.refl _, fun p _ h => h⟩, List.prefix_refl _, rfl, List.nodup_nil, (fun _ z => nomatch z), (fun n p c z => by simp at z), (by rw [List.length_map, List.length_map, e2]), (fun i v hv => ?_), (fun _ z => nomatch z)⟩
    obtain ⟨u, a, b⟩ := args_wd w2 xs us e2 pl (fun t h => List.mem_append_left _ h) i v hv
    exact ⟨u, a, b _⟩
  · cases List.eq_nil_of_length_eq_zero ho
    cases r with
    | d z =>
      obtain ⟨F', A', w'⟩ := ret
      have dz : Dq X.K F' v z := w'.tm (.d z, v) List.mem_cons_self
      exact q _ _ hr v H' ⟨F', A, (w3.after w'.fz).push dz⟩
    | new zs =>
      obtain ⟨F', A', w'⟩ := ret
      obtain ⟨qq, hq, rfl⟩ := w'.tm (.own 0, v) List.mem_cons_self
      have ad := w'.ad qq (List.mem_of_getElem? hq)
      have oc := w'.oc 0 qq (.dl zs) hq rfl
      have w4 := w3.after w'.fz
      have nin : qq ∉ A := fun hA => (w2.ad qq hA).2 ad.1
      refine q _ _ hr _ H' ⟨F', A ++ [qq], (w4.addL (c := .dl zs) nin (w3.fz.h.free ad.1) ad.2 oc).push ⟨qq, ?_, rfl⟩⟩
      rw [← w4.len, List.getElem?_append_right (Nat.le_refl _), Nat.sub_self]
      rfl
  · obtain ⟨F', A', w'⟩ := w'
    have px : PVOk X.K F' A (.xd y.fs) (dV d) := w'.tm (.xd y.fs, dV d) List.mem_cons_self
    exact xl y s2 hx σ H' d ⟨F', A, (w3.after w'.fz).push px⟩
theorem c_callT (C : CalT X.prog X.w X.K X.mg X.base k x ps S) (tk : Takes X W) (hr : L2H.RoomH j X.A) (ha : PA X (e :: es) (tA X.K W ws)) (hk : k ≤ j := by decide) (hg : Gl X x := by rfl)
    (hdb : (x == ("__debug__" : Str)) = false := by decide) (he : starEach (e :: es) X.env = (false, eval e X.env) :: starEach es X.env := by rfl) (hpl : (backTo pos (starEach es X.env)).any (·.1) = false := by rfl) :
    PE X (.Call (.Name x p) (e :: es) [] pos) (tE X.K W (wCall S ws)) := by
  obtain ⟨f, fd, F, m, kp, b⟩ := C.ex
  exact call_of ha fun h => pe_callT F (hr.mono hk) hg m kp b (fun σ => passAt tk σ) h hdb he hpl
end
/-! ### what exceptions are: told of classes -/
abbrev MX := Addr → V → Option Bool
open Classical in
noncomputable def mxK (K : PySem.W.Frag) : MX := fun c v => if L2.ExcC K c then (match v with
  | .ref D => if PySem.W.exmOne K (.ref c) (.ref D) = PySem.W.kitOne K (.ref c) (.ref D) then PySem.W.exmOne K (.ref c) (.ref D) else none
  | .ty T => PySem.W.kitOne K (.ref c) (.type T)
  | _ => none) else none
/-- a class of exceptions, of the text -/
structure ClsX (K : PySem.W.Frag) (D : Addr) : Prop where
  b : PySem.W.subIn K (.ref D) (.type "BaseException") = some true
  t : PySem.W.typeIn K (.ref D) = some (.type "type")
  d : PySem.W.hasDictIn K D = true
  s : PySem.W.subIn K (.ref D) (.ref D) = some true
theorem mx_ref {K : PySem.W.Frag} {c D : Addr} {b : Bool} (xc : L2.ExcC K c) (xd : ClsX K D) (h : PySem.W.subIn K (.ref c) (.ref D) = some b) : mxK K c (.ref D) = some b := by
  obtain ⟨cd, hc, _⟩ := PySem.W.any_some xd.d
  have e2 : ((PySem.W.clsIn K D).isSome && PySem.W.typeIn K (.ref D) == some (.type "type")) = true := by rw [hc, xd.t]; rfl
  have e1 : (PySem.W.subIn K (.ref D) (.type "BaseException") == some true) = true := by rw [xd.b]; rfl
  have k : PySem.W.kitCls K (.ref c) (.ref D) = some b := (if_pos e2).trans h
  have e : PySem.W.exmOne K (.ref c) (.ref D) = some b := (if_pos e1).trans k
  have o : PySem.W.kitOne K (.ref c) (.ref D) = some b := by
    unfold PySem.W.kitOne
    by_cases z : (Value.ref c == Value.ref D) = true
    · have : c = D := Value.ref.inj (beq_iff_eq.mp z)
      subst this
      rw [xd.s] at h
      rw [if_pos z]
      exact h
    · rw [if_neg z]
      exact k
  unfold mxK
  rw [if_pos xc]
  show (if _ then _ else _) = _
  rw [e, o, if_pos rfl]
theorem mx_ty {K : PySem.W.Frag} {c : Addr} {T : String} {b : Bool} (xc : L2.ExcC K c) (hT : PySem.W.kitMeta T = true) (h : PySem.W.subIn K (.ref c) (.type T) = some b) : mxK K c (.ty T) = some b := by
  unfold mxK
  rw [if_pos xc]
  show PySem.W.kitOne K (.ref c) (.type T) = some b
  unfold PySem.W.kitOne
  rw [if_neg (by intro z; cases beq_iff_eq.mp z)]
  exact (if_pos hT).trans h
theorem mx_exm {K : PySem.W.Frag} {c D : Addr} {b : Bool} (h : mxK K c (.ref D) = some b) : PySem.W.exmOne K (.ref c) (.ref D) = some b := by
  unfold mxK at h
  split at h
  · have h : (if PySem.W.exmOne K (.ref c) (.ref D) = PySem.W.kitOne K (.ref c) (.ref D) then PySem.W.exmOne K (.ref c) (.ref D) else none) = some b := h
    split at h
    · exact h
    · cases h
  · cases h
theorem mx_kit {K : PySem.W.Frag} {c : Addr} {v : V} {b : Bool} (h : mxK K c v = some b) : L2.ExcC K c ∧ ∃ cv, (∀ u, RelV v u → u = cv) ∧ PySem.W.kitOne K (.ref c) cv = some b := by
  unfold mxK at h
  split at h
  · rename_i xc
    refine ⟨xc, ?_⟩
    cases v with
    | ref D =>
      have h : (if PySem.W.exmOne K (.ref c) (.ref D) = PySem.W.kitOne K (.ref c) (.ref D) then PySem.W.exmOne K (.ref c) (.ref D) else none) = some b := h
      split at h
      · rename_i e
        exact ⟨.ref D, fun u hu => hu, by rw [← e]; exact h⟩
      · cases h
    | ty T => exact ⟨.type T, fun u hu => hu, h⟩
    | _ => cases h
  · cases h
/-! ### try -/
def stO (oi : Option Nat) (v : PV) (s : PSt) : PSt := match oi with
  | none => s
  | some i => s.st i v
def clrO (oi : Option Nat) (s : PSt) : PSt := match oi with
  | none => s
  | some i => s.wipe [i]
def clrE (oi : Option Nat) (k : PEnds) : PEnds := { nx := fun s => k.nx (clrO oi s), rt := k.rt, bk := fun s => k.bk (clrO oi s), ct := fun s => k.ct (clrO oi s) }
def tryM (M : MX) : List (Addr × Option Nat × SW) → XV → PSt → KX → PEnds → Prop
  | [], x, s, kx, _ => kx x s
  | (c, oi, h) :: r, x, s, kx, k => ∃ b, M x.C (.ref c) = some b ∧ (b = true → h (fun _ _ => False) (stO oi (.exc x) s) (clrE oi k)) ∧ (b = false → tryM M r x s kx k)
def wTry (M : MX) (b : SW) (cl : List (Addr × Option Nat × SW)) : SW := fun kx s k => b (fun x s1 => tryM M cl x s1 kx k) s k
/-- isinstance(e, c), e what was caught -/
def wIsE (M : MX) (c : V) (we : EW) : EW := fun kx s k => we kx s fun x s1 => ∃ y b, x = .exc y ∧ M y.C c = some b ∧ k (.d (.bool b)) s1
inductive ClsOk (X : Cx) : List ExceptHandler → List (Addr × Option Nat × SW) → Prop
  | nil : ClsOk X [] []
  | only {x : Str} {c : Addr} {h : SW} {b₀ : Stmt} {suite : List Stmt} {np pos' : Pos} {hds : List ExceptHandler} {l : List (Addr × Option Nat × SW)} (hm : X.mg x = some (.ref c)) (hsu : ∀ (a : Addr) (pn : List (Addr × Obj)), PSs (X.suite a pn) (b₀ :: suite) (tS X.K W0 h)) (r : ClsOk X hds l)
      (hg : Gl X x := by rfl) (hdb : (x == ("__debug__" : Str)) = false := by decide) : ClsOk X (.ExceptHandler (some (.Name x np)) none (b₀ :: suite) pos' :: hds) ((c, none, h) :: l)
  | as {x n : Str} {c : Addr} {i : Nat} {h : SW} {b₀ : Stmt} {suite : List Stmt} {np pos' : Pos} {hds : List ExceptHandler} {l : List (Addr × Option Nat × SW)} (hm : X.mg x = some (.ref c)) (hN : X.N.Nodup) (hi : X.N[i]? = some n) (hln : X.env.kindOf n = some .local) (hsu : ∀ (a : Addr) (pn : List (Addr × Obj)), PSs (X.suite a pn) (b₀ :: suite) (tS X.K W0 h)) (r : ClsOk X hds l)
      (hg : Gl X x := by rfl) (hdb : (x == ("__debug__" : Str)) = false := by decide) : ClsOk X (.ExceptHandler (some (.Name x np)) (some n) (b₀ :: suite) pos' :: hds) ((c, some i, h) :: l)
theorem cls_only {X : Cx} {k : Nat} {x : Str} {c : Addr} {h : SW} {b₀ : Stmt} {suite : List Stmt} {np pos' : Pos} {hds : List ExceptHandler} {l : List (Addr × Option Nat × SW)} (hr : L2H.RoomH k X.A) (hm : X.mg x = some (.ref c)) (hsu : ∀ (a : Addr) (pn : List (Addr × Obj)), L2H.RoomH k (X.suite a pn).A → PSs (X.suite a pn) (b₀ :: suite) (tS X.K W0 h)) (r : ClsOk X hds l)
    (hg : Gl X x := by rfl) (hdb : (x == ("__debug__" : Str)) = false := by decide) : ClsOk X (.ExceptHandler (some (.Name x np)) none (b₀ :: suite) pos' :: hds) ((c, none, h) :: l) := .only hm (fun a pn => hsu a pn (roomS hr a pn)) r hg hdb
theorem cls_as {X : Cx} {k : Nat} {x n : Str} {c : Addr} {i : Nat} {h : SW} {b₀ : Stmt} {suite : List Stmt} {np pos' : Pos} {hds : List ExceptHandler} {l : List (Addr × Option Nat × SW)} (hr : L2H.RoomH k X.A) (hm : X.mg x = some (.ref c)) (hN : X.N.Nodup) (hi : X.N[i]? = some n) (hln : X.env.kindOf n = some .local) (hsu : ∀ (a : Addr) (pn : List (Addr × Obj)), L2H.RoomH k (X.suite a pn).A → PSs (X.suite a pn) (b₀ :: suite) (tS X.K W0 h)) (r : ClsOk X hds l)
    (hg : Gl X x := by rfl) (hdb : (x == ("__debug__" : Str)) = false := by decide) : ClsOk X (.ExceptHandler (some (.Name x np)) (some n) (b₀ :: suite) pos' :: hds) ((c, some i, h) :: l) := .as hm hN hi hln (fun a pn => hsu a pn (roomS hr a pn)) r hg hdb
theorem ClsOk.to {X : Cx} {hds : List ExceptHandler} {l : List (Addr × Option Nat × SW)} (h : ClsOk X hds l) : Clauses X hds (l.map fun x => (Value.ref x.1, x.2.1, tS X.K W0 x.2.2)) := by
  induction h with
  | nil => exact .nil
  | only hm hsu r hg hdb ih => exact .only ⟨hg, hdb, .inl hm⟩ hsu ih
  | as hm hN hi hln hsu r hg hdb ih => exact .as ⟨hg, hdb, .inl hm⟩ hN hi hln hsu ih
section
variable {K : PySem.W.Frag} {H0 F0 : Hp} {A0 : List Addr} {s : PSt} {σ : L2.St} {T : List (PV × V)} {H : Hp}
theorem Wd.clr {oi : Option Nat} (w : Wd K H0 F0 A0 s σ T H) : Wd K H0 F0 A0 (clrO oi s) (stI oi none σ) T H := by
  cases oi with
  | none => exact w
  | some i =>
    obtain ⟨F, A, w⟩ := w
    refine ⟨F, A, w.rel rfl ?_ fun j v e => ?_⟩
    · show (s.r.set i none).length = (σ.set i none).length
      rw [List.length_set, List.length_set]
      exact w.sl
    · have e : (s.r.set i none)[j]? = some (some v) := e
      have ne : i ≠ j := fun z => by
        subst z
        by_cases hl : i < s.r.length
        · rw [List.getElem?_set_self hl] at e; cases e
        · rw [List.getElem?_eq_none (by rw [List.length_set]; omega)] at e; cases e
      rw [List.getElem?_set_ne ne] at e
      exact ⟨e, fun u hu => by show (σ.set i none)[j]? = _; rw [List.getElem?_set_ne ne]; exact hu⟩
theorem wish_of {W : WX} {D : Ends} {kx : KX} {k : PEnds} (xl : XL K H0 F0 A0 T W kx) (q1 : ∀ s', k.nx s' → ∀ σ' H', Wd K H0 F0 A0 s' σ' T H' → D.nx σ' H') (q2 : ∀ v s', k.rt v s' → ∀ u σ' H', Wd K H0 F0 A0 s' σ' ((v, u) :: T) H' → D.rt u H')
    (q3 : ∀ s', k.bk s' → ∀ σ' H', Wd K H0 F0 A0 s' σ' T H' → D.bk σ' H') (q4 : ∀ s', k.ct s' → ∀ σ' H', Wd K H0 F0 A0 s' σ' T H' → D.ct σ' H') (x : XV) (s' : PSt) (σ' : L2.St) (H' : Hp) (d : Option Addr) (w : Wd K H0 F0 A0 s' σ' ((.xd x.fs, dV d) :: T) H') :
    ∀ cl : List (Addr × Option Nat × SW), tryM (mxK K) cl x s' kx k → wishes K W D (cl.map fun x => (Value.ref x.1, x.2.1, tS K W0 x.2.2)) (.ref x.C) d σ' H'
  | [], h => xl x s' h σ' H' d w
  | (c, oi, h) :: r, ⟨b, hb, yes, no⟩ => by
    refine ⟨b, mx_exm hb, fun e a oe ha hz hf => ?_, fun e => wish_of xl q1 q2 q3 q4 x s' σ' H' d w r (no e)⟩
    obtain ⟨F, A, w⟩ := w
    obtain ⟨d', ed, hd⟩ := (show PVOk K F A (.xd x.fs) (dV d) from w.tm _ List.mem_cons_self)
    have e' : d' = d := by
      cases d' <;> cases d <;> first | rfl | (cases ed; done) | (cases ed; rfl)
    subst e'
    have fa : F a = none := w.fz.g.free ha
    have w2 := (w.sub (T' := T) fun t m => List.mem_cons_of_mem _ m).newD (o := excO a oe) ha
    have pe : PVOk K (upd F a (excO a oe)) A (.exc x) (.ref a) := ⟨a, oe, d', rfl, upd_same, hz, hf, hd.same (same_new fa)⟩
    refine ⟨H0, F0, A0, stO oi (.exc x) s', T, fun _ _ => False, clrE oi k, ?_, XL.none, yes e, fun s1 h1 σ1 H1 w1 => q1 _ h1 _ _ w1.clr, q2, fun s1 h1 σ1 H1 w1 => q3 _ h1 _ _ w1.clr, fun s1 h1 σ1 H1 w1 => q4 _ h1 _ _ w1.clr⟩
    cases oi with
    | none => exact ⟨_, A, w2⟩
    | some i => exact ⟨_, A, w2.st pe⟩
end
section
variable {X : Cx} {W : WX} {body : List Stmt} {hd0 : ExceptHandler} {hds : List ExceptHandler} {cl : List (Addr × Option Nat × SW)} {pos p : Pos} {wb : SW} {a e : Expr} {we : EW}
theorem s_try (hst : X.stack = X.env :: X.outer) (hfr : X.env.frame = some X.env.locals) (hex : X.ex = []) (tk : Takes X W)
    (hbody : ∀ (W' : WX) (pn : List (Addr × Obj)) (xe : Value → Shared → Prop), Takes (X.tr pn xe) W' → PassesOwn (model X.prog X.w) X.A X.env xe → PSs (X.tr pn xe) body (tS X.K W' wb))
    (hcl : ClsOk X (hd0 :: hds) cl) : PS X (.Try body (hd0 :: hds) [] [] pos) (tS X.K W (wTry (mxK X.K) wb cl)) := by
  refine PS.imp (ps_tryT hst hfr hex tk hbody hcl.to) fun D σ H ⟨H0, F0, A0, s, T, kx, k, w, xl, h, q1, q2, q3, q4⟩ => ?_
  exact ⟨H0, F0, A0, s, T, _, k, w, fun x s' hx σ' H' d w' => wish_of xl q1 q2 q3 q4 x s' σ' H' d w' cl hx, h, q1, q2, q3, q4⟩
/-- isinstance of what was caught -/
theorem isE_of {c : V} {σ : L2.St} {H : Hp} {Q : VK} (h : tE X.K W (wIsE (mxK X.K) c we) σ H Q) : tE X.K W we σ H fun x H1 => rIsT X.K [x, c] H1 Q := by
  obtain ⟨H0, F0, A0, s, T, kx, k, w, xl, h, q⟩ := h
  refine un_of w xl h fun x s1 u H1 h1 w1 => ?_
  obtain ⟨y, b, rfl, hb, hk⟩ := h1
  obtain ⟨F, A, w1⟩ := w1
  obtain ⟨xc, cv, hcv, hkit⟩ := mx_kit hb
  obtain ⟨a, oe, d, rfl, hx, hz, hf, hd⟩ := (show PVOk X.K F A (.exc y) u from w1.tm _ List.mem_cons_self)
  refine ⟨a, y.C, oe, d, c, cv, b, rfl, ⟨w1.fz.g _ _ hx, hz, hf, ?_⟩, xc, hcv, hkit, q _ _ hk _ H1 ⟨F, A, (w1.sub fun t h => List.mem_cons_of_mem _ h).push (.bl _)⟩⟩
  cases hy : y.fs with
  | none => rw [hy] at hd; exact .inl hd
  | some l =>
    rw [hy] at hd
    obtain ⟨dd, vl, h1, h2, _⟩ := hd
    exact .inr ⟨dd, vl, h1, w1.fz.g _ _ h2⟩
theorem e_isE {x : Str} {C : Addr} {q1 : Pos} (hi : X.mg "isinstance" = none) (hm : X.mg x = some (.ref C)) (ha : PE X a (tE X.K W we)) (hgx : Gl X x := by rfl) (hg : Gl X "isinstance" := by rfl) (hdb : (x == ("__debug__" : Str)) = false := by decide)
    (he : starEach [a, .Name x q1] X.env = (false, eval a X.env) :: starEach [.Name x q1] X.env := by rfl) (he2 : starEach [.Name x q1] X.env = (false, eval (.Name x q1) X.env) :: starEach [] X.env := by rfl) (hpl : (backTo pos (starEach [.Name x q1] X.env)).any (·.1) = false := by rfl) :
    PE X (.Call (.Name "isinstance" p) [a, .Name x q1] [] pos) (tE X.K W (wIsE (mxK X.K) (.ref C) we)) := by
  have pt : PE X (.Name x q1) (tC (.ref C)) := pe_glob hgx hm rfl hdb
  exact PE.imp (pe_callB call_isT hg hi (by decide +kernel) (pa_cons ha (pa_cons pt pa_nil he2) he) (he := he) (hpl := hpl)) fun σ H Q h => isE_of h
theorem e_isEB {x : Str} {B : String} {q1 : Pos} (hi : X.mg "isinstance" = none) (hm : X.mg x = none) (hb : bootBuiltins x = some (.type B)) (ha : PE X a (tE X.K W we)) (hgx : Gl X x := by rfl) (hg : Gl X "isinstance" := by rfl) (hn : x ≠ "__name__" := by decide) (hdb : (x == ("__debug__" : Str)) = false := by decide)
    (he : starEach [a, .Name x q1] X.env = (false, eval a X.env) :: starEach [.Name x q1] X.env := by rfl) (he2 : starEach [.Name x q1] X.env = (false, eval (.Name x q1) X.env) :: starEach [] X.env := by rfl) (hpl : (backTo pos (starEach [.Name x q1] X.env)).any (·.1) = false := by rfl) :
    PE X (.Call (.Name "isinstance" p) [a, .Name x q1] [] pos) (tE X.K W (wIsE (mxK X.K) (.ty B) we)) := by
  have pt : PE X (.Name x q1) (tC (.ty B)) := pe_bltn hgx hm hb rfl hn hdb
  exact PE.imp (pe_callB call_isT hg hi (by decide +kernel) (pa_cons ha (pa_cons pt pa_nil he2) he) (he := he) (hpl := hpl)) fun σ H Q h => isE_of h
end
end PW
namespace PW
open PySem L2
/-! ### lists and tuples with owned things in them -/
section
variable {K : PySem.W.Frag} {F : Hp} {A : List Addr}
theorem PVAll.len : ∀ {ps : List PV} {us : List V}, PVAll K F A ps us → us.length = ps.length
  | [], [], _ => rfl
  | _ :: _, _ :: _, ⟨_, r⟩ => congrArg Nat.succ (PVAll.len r)
  | [], _ :: _, h => h.elim
  | _ :: _, [], h => h.elim
theorem PVAll.at : ∀ {ps : List PV} {us : List V}, PVAll K F A ps us → ∀ (i : Nat) v, ps[i]? = some v → ∃ u, us[i]? = some u ∧ PVOk K F A v u
  | [], [], _, _, _, e => by simp at e
  | p :: ps, u :: us, ⟨h, _⟩, 0, v, e => by
    have e : p = v := Option.some.inj e
    subst e
    exact ⟨u, rfl, h⟩
  | _ :: _, _ :: _, ⟨_, r⟩, i + 1, v, e => PVAll.at r i v e
  | [], _ :: _, h, _, _, _ => h.elim
  | _ :: _, [], h, _, _, _ => h.elim
theorem PVAll.of : ∀ {ps : List PV} {us : List V} {T : List (PV × V)}, us.length = ps.length → (∀ t ∈ ps.zip us, PVOk K F A t.1 t.2) → PVAll K F A ps us
  | [], [], _, _, _ => True.intro
  | p :: ps, u :: us, T, e, h => ⟨h (p, u) List.mem_cons_self, PVAll.of (T := T) (Nat.succ.inj e) fun t m => h t (List.mem_cons_of_mem _ m)⟩
  | [], _ :: _, _, e, _ => nomatch e
  | _ :: _, [], _, e, _ => nomatch e
theorem PVAll.app : ∀ {ps : List PV} {us : List V} {qs : List PV} {vs : List V}, PVAll K F A ps us → PVAll K F A qs vs → PVAll K F A (ps ++ qs) (us ++ vs)
  | [], [], _, _, _, h => h
  | _ :: _, _ :: _, _, _, ⟨h, r⟩, q => ⟨h, PVAll.app r q⟩
  | [], _ :: _, _, _, h, _ => h.elim
  | _ :: _, [], _, _, h, _ => h.elim
theorem PVAll.tk : ∀ {ps : List PV} {us : List V} (n : Nat), PVAll K F A ps us → PVAll K F A (ps.take n) (us.take n)
  | _, _, 0, _ => by rw [List.take_zero, List.take_zero]; exact True.intro
  | [], [], _ + 1, _ => True.intro
  | _ :: _, _ :: _, n + 1, ⟨h, r⟩ => ⟨h, PVAll.tk n r⟩
  | [], _ :: _, _ + 1, h => h.elim
  | _ :: _, [], _ + 1, h => h.elim
theorem PVAll.dr : ∀ {ps : List PV} {us : List V} (n : Nat), PVAll K F A ps us → PVAll K F A (ps.drop n) (us.drop n)
  | _, _, 0, h => h
  | [], [], _ + 1, _ => True.intro
  | _ :: _, _ :: _, n + 1, ⟨_, r⟩ => PVAll.dr n r
  | [], _ :: _, _ + 1, h => h.elim
  | _ :: _, [], _ + 1, h => h.elim
theorem PVAll.dl : ∀ {vs : List V} {xs : List PyData}, DqAll K F vs xs → PVAll K F A (xs.map PV.d) vs
  | _, _, .nil => True.intro
  | _, _, .cons h r => ⟨h, PVAll.dl r⟩
theorem PVAll.ati {ps : List PV} {us : List V} {i : Int} {v : PV} (h : PVAll K F A ps us) (e : atI ps i = some v) : ∃ u, atI us i = some u ∧ PVOk K F A v u := by
  unfold atI at e ⊢
  rw [h.len]
  cases hx : ixN ps.length i with
  | none => rw [hx] at e; cases e
  | some j =>
    rw [hx] at e
    exact h.at j v e
variable {H0 F0 : Hp} {A0 : List Addr} {s : PSt} {σ : L2.St} {T : List (PV × V)} {H : Hp}
theorem mown_at {u : V} {n : Nat} {ps : List PV} (w : WdF K H0 F0 A0 s σ T H F A) (h : (PV.own n, u) ∈ T) (ho : s.o[n]? = some (.ml ps)) : ∃ p vs, A[n]? = some p ∧ u = .ref p ∧ F p = none ∧ H p = some (.lst vs) ∧ PVAll K F A ps vs := by
  obtain ⟨p, hp, e⟩ := w.tm _ h
  obtain ⟨f, vs, h1, h2⟩ := w.oc n p _ hp ho
  exact ⟨p, vs, hp, e, f, h1, h2⟩
end
/-- the things in a mixed list or tuple -/
def mitems (s : PSt) : PV → Option (List PV)
  | .tp ps => some ps
  | .own n => match s.o[n]? with
    | some (.ml ps) => some ps
    | _ => none
  | _ => none
theorem mitems_own {s : PSt} {n : Nat} {ps : List PV} (h : mitems s (.own n) = some ps) : s.o[n]? = some (.ml ps) := by
  have h : (match s.o[n]? with | some (.ml ps) => some ps | _ => none) = some ps := h
  split at h
  · rename_i e; cases h; exact e
  · cases h
/-- the things of a tuple -/
def titems : PV → Option (List PV)
  | .tp ps => some ps
  | .d (.tuple xs) => some (xs.map PV.d)
  | _ => none
def wLstM (ws : AW) : EW := fun kx s k => ws kx s fun vs s1 => vs.length ≤ sizeLine ∧ k (.own s1.o.length) ⟨s1.r, s1.o ++ [.ml vs]⟩
def wTupM (ws : AW) : EW := fun kx s k => ws kx s fun vs s1 => vs.length ≤ sizeLine ∧ k (.tp vs) s1
def wIxM (wa wb : EW) : EW := fun kx s k => wa kx s fun x s1 => wb kx s1 fun y s2 => ∃ ps i v, mitems s2 x = some ps ∧ dat s2 y = some (.int i) ∧ atI ps i = some v ∧ k v s2
def wSlM (wa : EW) (wl wh : OW) : EW := fun kx s k => wa kx s fun x s1 => wl kx s1 fun lo s2 => wh kx s2 fun hi s3 => ∃ n ps, x = .own n ∧ s3.o[n]? = some (.ml ps) ∧ k (.own s3.o.length) ⟨s3.r, s3.o ++ [.ml (cutD ps lo hi)]⟩
def wLenM (wa : EW) : EW := fun kx s k => wa kx s fun x s1 => ∃ ps, mitems s1 x = some ps ∧ k (.d (.int ps.length)) s1
/-- m == [], m != [] -/
def wAppM (wo we : EW) : EW := fun kx s k => wo kx s fun x s1 => ∃ n ws, x = .own n ∧ s1.o[n]? = some (.ml ws) ∧ we kx s1 fun y s2 => ∃ ps, s2.o[n]? = some (.ml ps) ∧ ps.length < sizeLine ∧ k (.d .none) ⟨s2.r, s2.o.set n (.ml (ps ++ [y]))⟩
def wPopM (wo : EW) : EW := fun kx s k => wo kx s fun x s1 => ∃ n ps v, x = .own n ∧ s1.o[n]? = some (.ml ps) ∧ ps[ps.length - 1]? = some v ∧ k v ⟨s1.r, s1.o.set n (.ml ps.dropLast)⟩
/-- the truth of a mixed list -/
def wTruM (wa : EW) : TW := fun kx s k => wa kx s fun x s1 => ∃ n ps, x = .own n ∧ s1.o[n]? = some (.ml ps) ∧ k (!ps.isEmpty) s1
abbrev GWM := PV → PSt → (PSt → Prop) → Prop
def gNM (i : Nat) : GWM := fun v s k => k (s.st i v)
abbrev GWMs := List PV → PSt → (PSt → Prop) → Prop
def gTM (n : Nat) (gs : GWMs) : GWM := fun v s k => ∃ ps, titems v = some ps ∧ ps.length = n ∧ gs ps s k
def gsNilM : GWMs := fun ps s k => ps = [] ∧ k s
def gsConsM (g : GWM) (gs : GWMs) : GWMs := fun ps s k => ∃ v r, ps = v :: r ∧ g v s fun s1 => gs r s1 k
def wUnpM (we : EW) (g : GWM) : SW := fun kx s k => we kx s fun v s1 => g v s1 k.nx
def wForM (we : EW) (g : GWM) (b : SW) : SW := fun kx s k => we kx s fun v s0 => ∃ n ps, v = .own n ∧ s0.o[n]? = some (.ml ps) ∧ ∃ I : Nat → PSt → Prop, I 0 s0 ∧ (∀ j s1, j ≤ ps.length → I j s1 → s1.o[n]? = some (.ml ps)) ∧ (∀ j x s1, ps[j]? = some x → I j s1 → g x s1 fun s2 =>
  b kx s2 { k with nx := fun s3 => I (j + 1) s3 ∨ I (j + 1) (s3.trim s0.o.length), ct := fun s3 => I (j + 1) s3 ∨ I (j + 1) (s3.trim s0.o.length), bk := k.nx }) ∧ ∀ s1, I ps.length s1 → k.nx s1
/-- [e for t in m if ..], m a mixed list -/
def wLcM (wl : EW) (g : GWM) (tt : TW) (we : EW) (vs : List Nat) : EW := fun kx s k => wl kx s fun v s1 => ∃ n ps, v = .own n ∧ s1.o[n]? = some (.ml ps) ∧ ∃ I : Nat → List PyData → PSt → Prop, I 0 [] (s1.wipe vs) ∧ (∀ j acc s2, j ≤ ps.length → I j acc s2 → s2.o[n]? = some (.ml ps)) ∧
  (∀ j x acc s2, ps[j]? = some x → s2.o.length = s1.o.length → I j acc s2 → g x ⟨s2.r, s2.o ++ [.dl acc]⟩ fun s3 => tt (fun _ _ => False) s3 fun b s4 =>
    (b = true → we (fun _ _ => False) s4 fun y s5 => frz y s5 fun d s6 => s6.o[s1.o.length]? = some (.dl acc) ∧ acc.length < sizeLine ∧ I (j + 1) (acc ++ [d]) ((s6.trim s1.o.length).wipe vs)) ∧
    (b = false → s4.o[s1.o.length]? = some (.dl acc) ∧ I (j + 1) acc ((s4.trim s1.o.length).wipe vs))) ∧
  ∀ acc s2, s2.o.length = s1.o.length → I ps.length acc s2 → k (.own s1.o.length) ⟨s2.r, s2.o ++ [.dl acc]⟩
section
variable {X : Cx} {W : WX} {a b e o wo_e : Expr} {es : List Expr} {wa wb we wo : EW} {ws : AW} {wl wh : OW} {pos p : Pos}
theorem e_lstM (h : PA X es (tA X.K W ws)) : PE X (.List es pos) (tE X.K W (wLstM ws)) := by
  refine PE.imp (pe_lst h) fun σ H Q ⟨H0, F0, A0, s, T, kx, k, w, xl, h, q⟩ => ar_of w xl h fun vs s1 us H1 h1 e w1 => ?_
  obtain ⟨hz, hk⟩ := h1
  refine ⟨by rw [e]; exact hz, fun n hn => ?_⟩
  obtain ⟨F, A, w1⟩ := w1
  have w2 := (w1.sub (T' := T) fun t h => List.mem_append_right _ h).newO (o := .lst us) (c := .ml vs) hn fun fp => ⟨fp, us, upd_same, (PVAll.of (T := T) e fun t m => (w1.tm t (List.mem_append_left _ m)).mono (Same.refl _) (List.prefix_append _ _))⟩
  exact q _ _ hk _ _ ⟨F, _, w2.push (top_at w1 n F)⟩
theorem e_tupM {x1} (h : PA X es (tA X.K W ws)) : PE X (.Tuple es x1 pos) (tE X.K W (wTupM ws)) := by
  refine PE.imp (pe_tup h) fun σ H Q ⟨H0, F0, A0, s, T, kx, k, w, xl, h, q⟩ => ar_of w xl h fun vs s1 us H1 h1 e w1 => ?_
  obtain ⟨hz, hk⟩ := h1
  refine ⟨by rw [e]; exact hz, fun p hp => ?_⟩
  obtain ⟨F, A, w1⟩ := w1
  have w2 := (w1.sub (T' := T) fun t h => List.mem_append_right _ h).newD (o := .tup us) hp
  have pa : PVAll X.K (upd F p (.tup us)) A vs us := PVAll.of (T := T) e fun t m => (w1.tm t (List.mem_append_left _ m)).mono (same_new (w1.fz.g.free hp)) (List.prefix_refl _)
  exact q _ _ hk _ _ ⟨_, A, w2.push ⟨p, us, rfl, SqT.of upd_same, pa⟩⟩
theorem e_ixM (ha : PE X a (tE X.K W wa)) (hb : PE X b (tE X.K W wb)) (hs : PlainIx b := by exact fun _ _ => rfl) : PE X (.Subscript a b pos) (tE X.K W (wIxM wa wb)) := by
  refine PE.imp (pe_ix ix_seq ha hb hs) fun σ H Q ⟨H0, F0, A0, s, T, kx, k, w, xl, h, q⟩ => tOp_of w xl h fun x y s2 u v H2 hR w2 => ?_
  obtain ⟨ps, i, z, hx, hi, ez, hk⟩ := hR
  obtain ⟨F, A, w2⟩ := w2
  have ev := dp_int (dat_ok w2 (w2.tm _ List.mem_cons_self) hi)
  have w3 := w2.sub (T' := T) fun t h => List.mem_cons_of_mem _ (List.mem_cons_of_mem _ h)
  cases x with
  | own n =>
    obtain ⟨p, vs, hp, rfl, _, h1, h2⟩ := mown_at w2 (List.mem_cons_of_mem _ List.mem_cons_self) (mitems_own hx)
    obtain ⟨t, h3, h4⟩ := h2.ati ez
    exact .inl ⟨p, vs, i, t, rfl, ev, SqL.of h1, h3, q _ _ hk t H2 ⟨F, A, w3.push h4⟩⟩
  | tp qs =>
    cases hx
    obtain ⟨p, us, rfl, h1, h2⟩ := (show PVOk X.K F A (.tp ps) u from w2.tm _ (List.mem_cons_of_mem _ List.mem_cons_self))
    obtain ⟨t, h3, h4⟩ := h2.ati ez
    exact .inr (.inl ⟨p, us, i, t, rfl, ev, same_t w2.fz.g h1, h3, q _ _ hk t H2 ⟨F, A, w3.push h4⟩⟩)
  | _ => cases hx
theorem e_lenM (hm : X.mg "len" = none) (ha : PE X a (tE X.K W wa)) (hg : Gl X "len" := by rfl) (he : starEach [a] X.env = (false, eval a X.env) :: starEach [] X.env := by rfl) (hpl : (backTo pos (starEach [] X.env)).any (·.1) = false := by rfl) :
    PE X (.Call (.Name "len" p) [a] [] pos) (tE X.K W (wLenM wa)) := by
  refine PE.imp (pe_callB call_len hg hm PySem.boot_len (pa_cons ha pa_nil he) (he := he) (hpl := hpl)) fun σ H Q ⟨H0, F0, A0, s, T, kx, k, w, xl, h, q⟩ => cb1_of w xl h fun x s1 u H1 h1 w1 => ?_
  obtain ⟨ps, hx, hk⟩ := h1
  obtain ⟨F, A, w1⟩ := w1
  have w2 := w1.sub (T' := T) fun t h => List.mem_cons_of_mem _ h
  cases x with
  | own n =>
    obtain ⟨p, vs, hp, rfl, _, h1, h2⟩ := mown_at w1 List.mem_cons_self (mitems_own hx)
    exact ⟨_, _, rfl, .inl ⟨_, SqL.of h1, h2.len.symm⟩, q _ _ hk _ H1 ⟨F, A, w2.push (.int _)⟩⟩
  | tp qs =>
    cases hx
    obtain ⟨p, us, rfl, h1, h2⟩ := (show PVOk X.K F A (.tp ps) u from w1.tm _ List.mem_cons_self)
    exact ⟨_, _, rfl, .inr ⟨_, same_t w1.fz.g h1, h2.len.symm⟩, q _ _ hk _ H1 ⟨F, A, w2.push (.int _)⟩⟩
  | _ => cases hx
end
end PW
namespace PW
open PySem L2
section
variable {X : Cx} {W : WX} {a b e o wo_e : Expr} {es : List Expr} {wa wb we wo : EW} {ws : AW} {wl wh : OW} {pos p : Pos}
theorem e_slM {lo hi : Option Expr} {p2 : Pos} (he : PE X e (tE X.K W we)) (hl : PO X lo (tO X.K W wl)) (hu : PO X hi (tO X.K W wh)) : PE X (.Subscript e (.Slice lo hi none p2) pos) (tE X.K W (wSlM we wl wh)) := by
  refine PE.imp (pe_slice (sl_list.or (sl_tupA.or sl_str)) he hl hu) fun σ H Q ⟨H0, F0, A0, s, T, kx, k, w, xl, h, q⟩ => un_of w xl h fun x s1 u H1 h1 w1 => ?_
  refine ⟨H0, F0, A0, s1, (x, u) :: T, kx, _, w1, xl.push, h1, fun lo s2 h2 H2 w2 => ?_⟩
  refine ⟨H0, F0, A0, s2, (x, u) :: T, kx, _, w2, xl.push, h2, fun hi s3 h3 H3 w3 => ?_⟩
  obtain ⟨n, ps, rfl, ho, hk⟩ := h3
  obtain ⟨F, A, w3⟩ := w3
  obtain ⟨p, vs, hp, rfl, _, h1, h2⟩ := mown_at w3 List.mem_cons_self ho
  have w4 := w3.sub (T' := T) fun t h => List.mem_cons_of_mem _ h
  refine .inl ⟨p, vs, rfl, SqL.of h1, fun m hm => q _ _ hk _ _ ⟨F, _, (w4.newO (o := .lst (cutV vs lo hi)) (c := .ml (cutD ps lo hi)) hm fun fp => ⟨fp, _, upd_same, ?_⟩).push (top_at w4 m F)⟩⟩
  have e2 : cutV vs lo hi = (vs.drop (HT.sIx ps.length 0 lo)).take (HT.sIx ps.length ps.length hi - HT.sIx ps.length 0 lo) := by
    unfold cutV
    rw [h2.len]
  rw [e2]
  exact ((h2.dr _).tk _).mono (Same.refl _) (List.prefix_append _ _)
theorem e_appM {apos : Pos} (ho : PE X wo_e (tE X.K W wo)) (ha : PE X a (tE X.K W wa))
    (hbase : attributeBase wo_e "append" X.env (eval wo_e X.env) = eval wo_e X.env := by rfl)
    (hfew : ((backTo pos (starEach [a] X.env)).all (fun x => !x.1) && (backToKw pos (keywordEach [] X.env)).all (fun x => x.1.isSome)
      && decide ([a].length + ([] : List Keyword).length + (if ([] : List Keyword).isEmpty then 0 else 1) < 30)) = true := by rfl)
    (hline : (apos.endLine == pos.line) = true := by rfl) (hs : starEach [a] X.env = (false, eval a X.env) :: starEach [] X.env := by rfl) (hplain : (backTo pos (starEach [] X.env)).any (·.1) = false := by rfl) :
    PE X (.Call (.Attribute wo_e "append" apos) [a] [] pos) (tE X.K W (wAppM wo wa)) := by
  refine PE.imp (pe_bm PySem.F.plainAttrs_list PySem.F.slot_list_append PySem.F.type_list_append mt_append ho (pa_cons ha pa_nil hs) hbase hfew hline hs hplain) fun σ H Q ⟨H0, F0, A0, s, T, kx, k, w, xl, h, q⟩ => ?_
  refine ⟨H0, F0, A0, s, T, kx, _, w, xl, h, fun x s1 h1 u H1 w1 => ?_⟩
  obtain ⟨n, ws, rfl, ow, h1⟩ := h1
  have ty : tyV X.K "list" u H1 := by
    obtain ⟨F, A, w1⟩ := w1
    obtain ⟨p, vs, hp, rfl, _, hv, _⟩ := mown_at w1 List.mem_cons_self ow
    exact .inl ⟨rfl, vs, SqL.of hv⟩
  refine ⟨ty, H0, F0, A0, s1, _, kx, _, w1, xl.push, h1, fun y s2 h2 v H2 w2 => ?_⟩
  obtain ⟨ps, ox, hz, hk⟩ := h2
  obtain ⟨F, A, w3⟩ := w2
  obtain ⟨p, vs, hp, rfl, fp, hv, hd⟩ := mown_at w3 (List.mem_cons_of_mem _ List.mem_cons_self) ox
  have pv := w3.tm (y, v) List.mem_cons_self
  refine ⟨p, vs, v, rfl, rfl, hv, by rw [hd.len]; exact hz, q _ _ hk _ _ ⟨F, A, ((w3.sub (T' := T) fun t h => List.mem_cons_of_mem _ (List.mem_cons_of_mem _ h)).wrO (o := .lst (vs ++ [v])) (c := .ml (ps ++ [y])) hp fp (List.getElem?_eq_some_iff.mp ox).1 ⟨fp, _, upd_same, hd.app ⟨pv, True.intro⟩⟩).push .non⟩⟩
theorem e_popM {apos : Pos} (ho : PE X wo_e (tE X.K W wo)) (hbase : attributeBase wo_e "pop" X.env (eval wo_e X.env) = eval wo_e X.env := by rfl) (hline : (apos.endLine == pos.line) = true := by rfl) :
    PE X (.Call (.Attribute wo_e "pop" apos) [] [] pos) (tE X.K W (wPopM wo)) := by
  refine PE.imp (pe_bm0 PySem.F.plainAttrs_list PySem.F.slot_list_pop PySem.F.type_list_pop mt_pop ho hbase hline) fun σ H Q ⟨H0, F0, A0, s, T, kx, k, w, xl, h, q⟩ => ?_
  refine ⟨H0, F0, A0, s, T, kx, _, w, xl, h, fun x s1 h1 u H1 w1 => ?_⟩
  obtain ⟨n, ps, z, rfl, ox, hl, hk⟩ := h1
  obtain ⟨F, A, w1⟩ := w1
  obtain ⟨p, vs, hp, rfl, fp, hv, hd⟩ := mown_at w1 List.mem_cons_self ox
  obtain ⟨v, e1, e2⟩ := hd.at _ _ hl
  rw [← hd.len] at e1
  have pd : PVAll X.K F A ps.dropLast vs.dropLast := by
    rw [List.dropLast_eq_take, List.dropLast_eq_take, hd.len]
    exact hd.tk _
  exact ⟨.inl ⟨rfl, vs, SqL.of hv⟩, p, vs, v, rfl, rfl, hv, e1, q _ _ hk _ _ ⟨F, A, ((w1.sub (T' := T) fun t h => List.mem_cons_of_mem _ h).wrO (o := .lst vs.dropLast) (c := .ml ps.dropLast) hp fp (List.getElem?_eq_some_iff.mp ox).1 ⟨fp, _, upd_same, pd⟩).push e2⟩⟩
theorem t_truM (ha : PE X a (tE X.K W wa)) (he : ∀ whole, isTrue a X.env whole = (do let v ← whole; standAt a.pos; holding [v] (truthy v)) := by intro _; rfl) : PT X a (tT X.K W (wTruM wa)) := by
  refine PT.imp (pt_truth ha he) fun σ H Q ⟨H0, F0, A0, s, T, kx, k, w, xl, h, q⟩ => un_of w xl h fun x s1 u H1 h1 w1 => ?_
  obtain ⟨n, ps, rfl, ho, hk⟩ := h1
  obtain ⟨F, A, w1⟩ := w1
  obtain ⟨p, vs, hp, rfl, _, h1, h2⟩ := mown_at w1 List.mem_cons_self ho
  refine ⟨_, .inl ⟨_, SqL.of h1, ?_⟩, q _ s1 hk H1 ⟨F, A, w1.sub fun t h => List.mem_cons_of_mem _ h⟩⟩
  have := h2.len
  cases vs <;> cases ps <;> first | rfl | (cases this; done)
/-! targets -/
def tGM (K : PySem.W.Frag) (L : List Nat) (g : GWM) : TG := fun v σ H Q => ∃ H0 F0 A0 s T x k, Wd K H0 F0 A0 s σ T H ∧ (x, v) ∈ T ∧ g x s k ∧ ∀ s', k s' → ∀ σ' H', OutL L σ σ' → Wd K H0 F0 A0 s' σ' T H' → Q σ' H'
def tGMs (K : PySem.W.Frag) (L : List Nat) (g : GWMs) : TGs := fun vs σ H Q => ∃ H0 F0 A0 s T xs k, Wd K H0 F0 A0 s σ T H ∧ vs.length = xs.length ∧ (∀ t ∈ xs.zip vs, t ∈ T) ∧ g xs s k ∧ ∀ s', k s' → ∀ σ' H', OutL L σ σ' → Wd K H0 F0 A0 s' σ' T H' → Q σ' H'
theorem g_nameM {i : Nat} {x : Str} (hN : X.N.Nodup) (hi : X.N[i]? = some x) (hx : Loc X.env.scope x) (hf : X.fn x = true ∨ X.env.scope.names.lookup x = some .local := by first | exact .inl rfl | exact .inr rfl | assumption) : PG X (.Name x pos) (tGM X.K [i] (gNM i)) := by
  refine PG.imp (pg_name hN hi hx hf) fun v σ H Q ⟨H0, F0, A0, s, T, x, k, w, m, h, q⟩ => ?_
  obtain ⟨F, A, w⟩ := w
  exact q _ h _ H ⟨by rw [List.length_set], fun j hj => List.getElem?_set_ne (fun e => hj (by rw [e]; exact List.mem_cons_self))⟩ ⟨F, A, w.st (w.tm _ m)⟩
theorem gs_nilM : PGs X [] (tGMs X.K [] gsNilM) := by
  refine PGs.imp pgs_nil fun vs σ H Q ⟨H0, F0, A0, s, T, xs, k, w, e, m, ⟨hx, h⟩, q⟩ => ?_
  subst hx
  exact ⟨List.eq_nil_of_length_eq_zero e, q s h σ H ⟨rfl, fun _ _ => rfl⟩ w⟩
theorem gs_consM {es : List Expr} {g1 : GWM} {g2 : GWMs} {L1 L2 : List Nat} (h1 : PG X e (tGM X.K L1 g1)) (h2 : PGs X es (tGMs X.K L2 g2)) (hs : (assignEach (e :: es) X.env).map (·.2) = assign e X.env :: (assignEach es X.env).map (·.2) := by rfl) : PGs X (e :: es) (tGMs X.K (L1 ++ L2) (gsConsM g1 g2)) := by
  refine PGs.imp (pgs_cons h1 h2 hs) fun vs σ H Q ⟨H0, F0, A0, s, T, xs, k, w, e, m, ⟨x, r, hx, h⟩, q⟩ => ?_
  subst hx
  cases vs with
  | nil => cases e
  | cons v vs =>
    refine ⟨v, vs, rfl, H0, F0, A0, s, T, x, _, w, m _ List.mem_cons_self, h, fun s' h' σ' H' l' w' => ?_⟩
    exact ⟨H0, F0, A0, s', T, r, k, w', Nat.succ.inj e, fun t ht => m t (List.mem_cons_of_mem _ ht), h', fun s2 h2 σ2 H2 l2 w2 => q s2 h2 σ2 H2 ⟨l2.1.trans l'.1, fun j hj => (l2.2 j fun z => hj (List.mem_append_right _ z)).trans (l'.2 j fun z => hj (List.mem_append_left _ z))⟩ w2⟩
theorem PVAll.zip {K : PySem.W.Frag} {F : Hp} {A : List Addr} : ∀ {ps : List PV} {us : List V}, PVAll K F A ps us → ∀ t ∈ ps.zip us, PVOk K F A t.1 t.2
  | [], _, _, _, m => nomatch m
  | p :: ps, u :: us, ⟨h, r⟩, t, m => by
    rcases List.mem_cons.mp m with e | m
    · rw [e]; exact h
    · exact PVAll.zip r t m
  | _ :: _, [], h, _, _ => h.elim
theorem g_tupM {es : List Expr} {kk n : Nat} {gs : GWMs} {L : List Nat} (hc : X.calm = true) (h : PGs X es (tGMs X.K L gs)) (hn : (assignEach es X.env).length = n := by rfl) (hst : (assignEach es X.env).findIdx? (·.1) = none := by rfl) : PG X (.Tuple es kk pos) (tGM X.K L (gTM n gs)) := by
  refine PG.imp (pg_tup hc h hn hst) fun v σ H Q ⟨H0, F0, A0, s, T, x, k, w, m, ⟨ps, hx, hl, h⟩, q⟩ => ?_
  obtain ⟨F, A, w⟩ := w
  have pv := w.tm _ m
  have got : ∃ a us, v = .ref a ∧ SqT X.K H a us ∧ PVAll X.K F A ps us := by
    cases x with
    | tp qs =>
      cases hx
      obtain ⟨a, us, e, h1, h2⟩ := pv
      exact ⟨a, us, e, same_t w.fz.g h1, h2⟩
    | d y =>
      cases y with
      | tuple xs =>
        cases hx
        obtain ⟨a, us, e, h1, h2⟩ := itemsT_ok w pv rfl
        exact ⟨a, us, e, h1, PVAll.dl h2⟩
      | _ => cases hx
    | _ => cases hx
  obtain ⟨a, us, e1, h1, h2⟩ := got
  refine ⟨a, us, e1, h1, h2.len.trans hl, H0, F0, A0, s, ps.zip us ++ T, ps, k, ⟨F, A, w.tms fun t ht => ?_⟩, h2.len, fun t ht => List.mem_append_left _ ht, h, fun s' h' σ' H' l' w' => q s' h' σ' H' l' (w'.sub fun t ht => List.mem_append_right _ ht)⟩
  rcases List.mem_append.mp ht with z | z
  · exact h2.zip t z
  · exact w.tm t z
theorem s_unpM {tg : Expr} {L : List Nat} {g : GWM} (he : PE X e (tE X.K W we)) (hg : PG X tg (tGM X.K L g)) (hs : swapsWithSole [tg] e pos.line X.env = pure false := by rfl) (hw : swappedStores [tg] e X.env = pure none := by rfl)
    (h1 : (assignEach [tg] X.env).map (·.2) = [assign tg X.env] := by rfl) : PS X (.Assign [tg] e pos) (tS X.K W (wUnpM we g)) := by
  refine PS.imp (ps_asg he hg hs hw h1) fun D σ H ⟨H0, F0, A0, s, T, kx, k, w, xl, h, q1, q2, q3, q4⟩ => ?_
  refine ⟨H0, F0, A0, s, T, kx, _, w, xl, h, fun v s' h' u H' w' => ?_⟩
  exact ⟨H0, F0, A0, s', _, v, k.nx, w', List.mem_cons_self, h', fun s3 h3 σ3 H3 _ w3 => q1 s3 h3 σ3 H3 w3.pop⟩
/-! loops -/
theorem ml_go {K : PySem.W.Frag} {H0 F0 : Hp} {A0 : List Addr} {s : PSt} {σ : L2.St} {T : List (PV × V)} {H F : Hp} {A : List Addr} {n : Nat} {a : Addr} {ps : List PV} (w : WdF K H0 F0 A0 s σ T H F A) (m : (PV.own n, V.ref a) ∈ T) (ho : s.o[n]? = some (.ml ps)) (i : Nat) :
    (i < ps.length → (Itl K a).go i H) ∧ (ps.length ≤ i → (Itl K a).stop i H) ∧ (i < ps.length → ∀ x H', (Itl K a).yld i H x H' → H' = H ∧ ∃ v, ps[i]? = some v ∧ PVOk K F A v x) := by
  obtain ⟨p, vs, hp, e, _, h1, h2⟩ := mown_at w m ho
  cases e
  have hl := h2.len
  refine ⟨fun hi => ⟨vs, vs[i]'(by omega), SqL.of h1, List.getElem?_eq_getElem (by omega)⟩, fun hi => ⟨vs, SqL.of h1, by omega⟩, fun hi x H' hy => ?_⟩
  obtain ⟨rfl, hx⟩ := hy
  have e1 := hx vs (SqL.of h1)
  have e2 : ps[i]? = some ps[i] := List.getElem?_eq_getElem hi
  obtain ⟨u, e3, pv⟩ := h2.at i _ e2
  rw [e1] at e3
  cases e3
  exact ⟨rfl, _, e2, pv⟩
theorem s_forM {tg iter : Expr} {body : List Stmt} {L : List Nat} {g : GWM} {b : SW} (hp : PassesOwn (model X.prog X.w) X.A X.env X.xe) (hc : X.calm = true) (hi : PE X iter (tE X.K W we)) (hg : PG X tg (tGM X.K L g)) (hb : PSs X body (tS X.K W b))
    (hs : ∀ v, foldedSetIterable iter X.env v = pure v := by intro _; rfl) : PS X (.For tg iter body [] pos) (tS X.K W (wForM we g b)) := by
  refine PS.imp (ps_for hp hc (pi_list hi) hg hb hs) fun D σ H ⟨H0, F0, A0, s, T, kx, k, w, xl, h, q1, q2, q3, q4⟩ => ?_
  refine un_of w xl h fun v s0 u H1 h0 w1 => ?_
  obtain ⟨n, ps, rfl, o0, I, i0, hC, turn, fin⟩ := h0
  obtain ⟨a, rfl, vs0, hv0⟩ : ∃ a, u = .ref a ∧ ∃ vs, H1 a = some (.lst vs) := by
    obtain ⟨F, A, w1⟩ := w1
    obtain ⟨p, vs, _, e, _, h1, _⟩ := mown_at w1 List.mem_cons_self o0
    exact ⟨p, e, vs, h1⟩
  have lt := w1.own_lt
  refine ⟨a, rfl, ⟨vs0, SqL.of hv0⟩, fun i m σ' H' => m = ps.length - i ∧ i ≤ ps.length ∧ ∃ s', Wd X.K H0 F0 A0 s' σ' ((.own n, .ref a) :: T) H' ∧ I i s', ⟨_, rfl, Nat.zero_le _, s0, w1, i0⟩, ?_⟩
  rintro i m σ2 H2 ⟨rfl, hi, s2, ⟨F, A, w2⟩, i2⟩
  obtain ⟨j1, j2, j3⟩ := ml_go w2 List.mem_cons_self (hC i s2 hi i2) i
  by_cases hlt : i < ps.length
  · refine .inr ⟨j1 hlt, fun σ' H' => ∃ s', Wd X.K H0 F0 A0 s' σ' ((.own n, .ref a) :: T) H' ∧ I (i + 1) s', fun σ' H' ⟨s', w', i'⟩ => ⟨ps.length - (i + 1), by omega, rfl, hlt, s', w', i'⟩, fun x H' hy => ?_⟩
    obtain ⟨rfl, d, hd, pv⟩ := j3 hlt x H' hy
    refine ⟨H0, F0, A0, s2, _, d, _, ⟨F, A, w2.push pv⟩, List.mem_cons_self, turn i d s2 hd i2, fun s4 h4 σ4 H4 _ w4 => ?_⟩
    have nx : ∀ s3, (I (i + 1) s3 ∨ I (i + 1) (s3.trim s0.o.length)) → ∀ σ' H', Wd X.K H0 F0 A0 s3 σ' ((d, x) :: (.own n, .ref a) :: T) H' → ∃ s', Wd X.K H0 F0 A0 s' σ' ((.own n, .ref a) :: T) H' ∧ I (i + 1) s' := fun s3 h3 σ' H' w3 => by
      rcases h3 with h3 | h3
      · exact ⟨s3, w3.pop, h3⟩
      · exact ⟨_, w3.pop.trim lt.1 lt.2, h3⟩
    refine ⟨H0, F0, A0, s4, _, kx, _, w4, xl.more fun t ht => List.mem_cons_of_mem _ (List.mem_cons_of_mem _ ht), h4, nx, fun v s' h' u σ' H' w' => q2 v s' h' u σ' H' (w'.sub fun t ht => ?_), fun s' h' σ' H' w' => q1 s' h' σ' H' (w'.sub fun t ht => List.mem_cons_of_mem _ (List.mem_cons_of_mem _ ht)), nx⟩
    rcases List.mem_cons.mp ht with e | ht
    · rw [e]; exact List.mem_cons_self
    · exact List.mem_cons_of_mem _ (List.mem_cons_of_mem _ (List.mem_cons_of_mem _ ht))
  · have e : i = ps.length := by omega
    subst e
    exact .inl ⟨j2 (Nat.le_refl _), q1 s2 (fin s2 i2) σ2 H2 ⟨F, A, w2.sub fun t ht => List.mem_cons_of_mem _ ht⟩⟩
end
end PW
namespace PW
open PySem L2
theorem ml_app {s : PSt} {n : Nat} {ps : List PV} {x : List OC} (h : s.o[n]? = some (.ml ps)) : (⟨s.r, s.o ++ x⟩ : PSt).o[n]? = some (.ml ps) := by
  show (s.o ++ x)[n]? = some (.ml ps)
  rw [List.getElem?_append_left (List.getElem?_eq_some_iff.mp h).1]
  exact h
section
variable {X : Cx} {W : WX} {elt tg iter c : Expr} {ifs : List Expr} {scope : Scope} {own : List (Str × Nat)} {pos : Pos} {wl : EW} {g : GWM} {tt : TW} {we : EW} {L : List Nat}
theorem lcM_of (hL : ∀ i ∈ L, i ∈ own.map (·.2)) {σ : St} {H : Hp} {Q : VK} (h : tE X.K W (wLcM wl g tt we (own.map (·.2))) σ H Q) : tLc (iList X.K (tE X.K W wl)) (tGM X.K L g) (tT X.K W0 tt) (tE X.K W0 we) (own.map (·.2)) σ H Q := by
  obtain ⟨H0, F0, A0, s, T, kx, k, w, xl, h, q⟩ := h
  generalize own.map (·.2) = vs at *
  refine un_of w xl h fun v s1 u H1 h1 w1 => ?_
  obtain ⟨m0, xs, rfl, o0, I, i0, hC, turn, fin⟩ := h1
  obtain ⟨a, rfl, vs0, hv0⟩ : ∃ a, u = .ref a ∧ ∃ vs, H1 a = some (.lst vs) := by
    obtain ⟨F, A, w1⟩ := w1
    obtain ⟨p, vs, _, e, _, h1, _⟩ := mown_at w1 List.mem_cons_self o0
    exact ⟨p, e, vs, h1⟩
  refine ⟨a, rfl, ⟨vs0, SqL.of hv0⟩, fun D hD => ?_⟩
  have lt := w1.own_lt
  -- the word between the turns
  refine ⟨fun i m H' => m = xs.length - i ∧ i ≤ xs.length ∧ ∃ s2 acc, s2.o.length = s1.o.length ∧ I i acc s2 ∧ Wd X.K H0 F0 A0 ⟨s2.r, s2.o ++ [.dl acc]⟩ (wipe σ vs) ((.own s1.o.length, .ref D) :: ((PV.own m0, V.ref a) :: T)) H', ⟨_, rfl, Nat.zero_le _, s1.wipe vs, [], by rw [(wipe_r s1 vs).1], i0, ?_⟩, ?_⟩
  · obtain ⟨F, A, w1⟩ := w1
    have w2 := w1.newL hD .nil
    have w3 := w2.push (top_at w1 D F)
    obtain ⟨e1, e2, e3⟩ := wipe_r s1 vs
    refine ⟨F, _, w3.rel (s' := ⟨(s1.wipe vs).r, (s1.wipe vs).o ++ [.dl []]⟩) (by rw [e1]) ?_ fun i v e => ?_⟩
    · show (s1.wipe vs).r.length = _
      rw [e2, wipe_len]; exact w1.sl
    · obtain ⟨a, b⟩ := e3 i v e
      exact ⟨a, fun u hu => by rw [wipe_out b]; exact hu⟩
  · rintro i m H2 ⟨rfl, hi, s2, acc, hn, i2, ⟨F, A, w2⟩⟩
    obtain ⟨j1, j2, j3⟩ := ml_go w2 (List.mem_cons_of_mem _ List.mem_cons_self) (ml_app (hC i acc s2 hi i2)) i
    by_cases hlt : i < xs.length
    · refine .inr ⟨j1 hlt, fun H' => ∃ s2 acc, s2.o.length = s1.o.length ∧ I (i + 1) acc s2 ∧ Wd X.K H0 F0 A0 ⟨s2.r, s2.o ++ [.dl acc]⟩ (wipe σ vs) ((.own s1.o.length, .ref D) :: ((PV.own m0, V.ref a) :: T)) H', fun H' ⟨s', a', e', i', w'⟩ => ⟨xs.length - (i + 1), by omega, rfl, hlt, s', a', e', i', w'⟩, fun x H' hy => ?_⟩
      obtain ⟨rfl, d, hd, pv⟩ := j3 hlt x H' hy
      have w3 := w2.push pv
      have lT : ∀ t ∈ (PV.own s1.o.length, V.ref D) :: ((PV.own m0, V.ref a) :: T), t.1.lt (s1.o.length + 1) = true := fun t ht => by
        rcases List.mem_cons.mp ht with z | z
        · subst z; exact decide_eq_true (Nat.lt_succ_self _)
        · exact lt_mono (Nat.le_succ _) (lt.2 t z)
      -- a state behind the turn, cut to the length
      have back : ∀ (s6 : PSt) (σ2 : St) (H4 : Hp) (a' : List PyData), wipe σ2 vs = wipe σ vs → s6.o[s1.o.length]? = some (.dl a') → Wd X.K H0 F0 A0 s6 σ2 ((.own s1.o.length, .ref D) :: ((PV.own m0, V.ref a) :: T)) H4 →
          Wd X.K H0 F0 A0 ⟨((s6.trim s1.o.length).wipe vs).r, ((s6.trim s1.o.length).wipe vs).o ++ [.dl a']⟩ (wipe σ vs) ((.own s1.o.length, .ref D) :: ((PV.own m0, V.ref a) :: T)) H4 := fun s6 σ2 H4 a' hw ho w6 => by
        have w7 := w6.trim (m := s1.o.length + 1) (by have := lt.1; omega) lT
        obtain ⟨F7, A7, w7⟩ := w7
        obtain ⟨e1, e2, e3⟩ := wipe_r (s6.trim s1.o.length) vs
        refine ⟨F7, A7, w7.relO ?_ (fun n c hc => ?_) ?_ fun j v e => ?_⟩
        · show (((s6.trim s1.o.length).wipe vs).o ++ [OC.dl a']).length = (cutL (s1.o.length + 1) s6.o).length
          rw [e1, List.length_append, cutL_len]
          show (cutL s1.o.length s6.o).length + 1 = _
          rw [cutL_len]
          have := (List.getElem?_eq_some_iff.mp ho).1
          omega
        · have hc : (((s6.trim s1.o.length).wipe vs).o ++ [OC.dl a'])[n]? = some c := hc
          show c = .no ∨ (cutL (s1.o.length + 1) s6.o)[n]? = some c
          have hlen : (cutL s1.o.length s6.o).length = s1.o.length := by
            rw [cutL_len]
            have := (List.getElem?_eq_some_iff.mp ho).1
            omega
          rw [e1] at hc
          have hc : (cutL s1.o.length s6.o ++ [OC.dl a'])[n]? = some c := hc
          rcases Nat.lt_or_ge n s1.o.length with hn | hn
          · rw [List.getElem?_append_left (by rw [hlen]; exact hn)] at hc
            obtain ⟨_, c0, h3, rfl⟩ := cutL_at hc
            rcases ocut_is (m := s1.o.length) c0 with z | z
            · exact .inl z
            · refine .inr ?_
              unfold cutL
              rw [List.getElem?_map, List.getElem?_take, if_pos (Nat.lt_succ_of_lt hn), h3, z]
              show some (OC.cut (s1.o.length + 1) c0) = some c0
              rcases ocut_up (Nat.le_succ s1.o.length) z with y | y
              · exact congrArg some y
              · subst y; rfl
          · rw [List.getElem?_append_right (by rw [hlen]; exact hn), hlen] at hc
            have e : n = s1.o.length := by
              cases hk : n - s1.o.length with
              | zero => omega
              | succ k => rw [hk] at hc; cases hc
            subst e
            rw [Nat.sub_self] at hc
            cases hc
            refine .inr ?_
            unfold cutL
            rw [List.getElem?_map, List.getElem?_take, if_pos (Nat.lt_succ_self _), ho]
            rfl
        · show ((s6.trim s1.o.length).wipe vs).r.length = _
          rw [e2, ← hw, wipe_len, ← w7.sl]
          show (s6.r.map _).length = (s6.r.map _).length
          rw [List.length_map, List.length_map]
        · obtain ⟨a, b⟩ := e3 j v e
          refine ⟨?_, fun u hu => by rw [← hw, wipe_out b]; exact hu⟩
          have a : (s6.r.map (cutP s1.o.length))[j]? = some (some v) := a
          show (s6.r.map (cutP (s1.o.length + 1)))[j]? = some (some v)
          rw [List.getElem?_map] at a ⊢
          cases hr : s6.r[j]? with
          | none => rw [hr] at a; cases a
          | some o =>
            rw [hr] at a
            obtain ⟨rfl, hl⟩ := cutP_is (Option.some.inj a)
            exact congrArg some (cutP_of (lt_mono (Nat.le_succ _) hl))
      refine ⟨H0, F0, A0, _, _, d, _, ⟨F, A, w3⟩, List.mem_cons_self, turn i d acc s2 hd hn i2, fun s3 h3 σ2 H3 l3 w4 => ?_⟩
      have hw := wipe_eq l3 hL
      refine ⟨hw, H0, F0, A0, s3, _, _, _, w4, XL.none, h3, fun b s4 h4 H4 w5 => ?_⟩
      cases b with
      | false =>
        obtain ⟨ho, hI⟩ := h4.2 rfl
        refine iteF ⟨_, acc, ?_, hI, back s4 σ2 H4 acc hw ho w5.pop⟩
        rw [(wipe_r _ vs).1]
        show (cutL s1.o.length s4.o).length = _
        rw [cutL_len]
        have := (List.getElem?_eq_some_iff.mp ho).1
        omega
      | true =>
        refine iteT ⟨H0, F0, A0, s4, _, _, _, w5, XL.none, h4.1 rfl, fun y s5 h5 u H5 w6 => ?_⟩
        obtain ⟨dd, s6, h6, w7⟩ := frz_ok w6 h5
        obtain ⟨ho, hz, hI⟩ := h6
        obtain ⟨F8, A8, w8⟩ := w7
        obtain ⟨p, vs', hp, ep, hv, hdq⟩ := own_at w8 (List.mem_cons_of_mem _ (List.mem_cons_of_mem _ List.mem_cons_self)) ho
        cases ep
        have du : Dq X.K F8 u dd := w8.tm (.d dd, u) List.mem_cons_self
        refine ⟨vs', hv, by rw [hdq.len]; exact hz, _, acc ++ [dd], ?_, hI, ?_⟩
        · rw [(wipe_r _ vs).1]
          show (cutL s1.o.length s6.o).length = _
          rw [cutL_len]
          have := (List.getElem?_eq_some_iff.mp ho).1
          omega
        · have w9 := (w8.sub (T' := (.own s1.o.length, .ref D) :: ((PV.own m0, V.ref a) :: T)) fun t h => List.mem_cons_of_mem _ (List.mem_cons_of_mem _ h)).wr hp ho (hdq.app (.cons du .nil))
          have b := back ⟨s6.r, s6.o.set s1.o.length (.dl (acc ++ [dd]))⟩ σ2 _ (acc ++ [dd]) hw (by
            show (s6.o.set s1.o.length _)[s1.o.length]? = _
            rw [List.getElem?_set_self (List.getElem?_eq_some_iff.mp ho).1]) ⟨F8, A8, w9⟩
          have e : (((⟨s6.r, s6.o.set s1.o.length (.dl (acc ++ [dd]))⟩ : PSt).trim s1.o.length).wipe vs) = ((s6.trim s1.o.length).wipe vs) := by
            have : (⟨s6.r, s6.o.set s1.o.length (.dl (acc ++ [dd]))⟩ : PSt).trim s1.o.length = s6.trim s1.o.length := by
              unfold PSt.trim cutL
              show (⟨s6.r.map _, ((s6.o.set s1.o.length _).take s1.o.length).map _⟩ : PSt) = ⟨s6.r.map _, (s6.o.take s1.o.length).map _⟩
              rw [List.take_set_of_le (Nat.le_refl _)]
            rw [this]
          rw [e] at b
          exact b
    · have e : i = xs.length := by omega
      subst e
      refine .inl ⟨j2 (Nat.le_refl _), q _ _ (fin acc s2 hn i2) (.ref D) H2 ⟨F, A, (w2.rel rfl ?_ fun i v e => ⟨e, fun u hu => (wipe_some hu).1⟩).sub fun t ht => ?_⟩⟩
      · have := w2.sl
        rw [wipe_len] at this
        exact this
      · rcases List.mem_cons.mp ht with e | ht
        · rw [e]; exact List.mem_cons_self
        · exact List.mem_cons_of_mem _ (List.mem_cons_of_mem _ ht)
theorem e_lcM (hc : X.calm = true) (hN : X.N.Nodup) (hi : PE X iter (tE X.K W wl)) (ok : BlkOk X.N X.env.scope scope own) (hL : ∀ i ∈ L, i ∈ own.map (·.2))
    (hg : ∀ (s : Shared) (H : Hp) (C : Addr) (cl : List (Str × Addr)) (fp : List Addr), PG (X.blk s H scope (compEnvC scope cl C X.env) fp) tg (tGM X.K L g)) (ht : ∀ (s : Shared) (H : Hp) (C : Addr) (cl : List (Str × Addr)) (fp : List Addr), PTs (X.blk s H scope (compEnvC scope cl C X.env) fp) ifs (tT X.K W0 tt))
    (he : ∀ (s : Shared) (H : Hp) (C : Addr) (cl : List (Str × Addr)) (fp : List Addr), PE (X.blk s H scope (compEnvC scope cl C X.env) fp) elt (tE X.K W0 we)) (hs : ∀ x, foldedSetIterable iter X.env x = pure x := by intro _; rfl) :
    PE X (.ListComp elt [⟨tg, iter, ifs, 0⟩] scope pos) (tE X.K W (wLcM wl g tt we (own.map (·.2)))) :=
  PE.imp (pe_lc hc hN (pi_list hi) ok hg ht he hs) fun σ H Q h => lcM_of hL h
/-- name = [..] on one line -/
theorem s_setLcM {i : Nat} {y : Str} {py spos : Pos} (hc : X.calm = true) (hN : X.N.Nodup) (hy : X.N[i]? = some y) (hyl : X.env.scope.names.lookup y = some .local)
    (hsw : swapsWith (.ListComp elt [⟨tg, iter, ifs, 0⟩] scope pos) (some (.Name y py)) spos.line X.env = pure true) (hi : PE X iter (tE X.K W wl)) (ok : BlkOk X.N X.env.scope scope own) (hL : ∀ i ∈ L, i ∈ own.map (·.2))
    (hg : ∀ (s : Shared) (H : Hp) (C : Addr) (cl : List (Str × Addr)) (fp : List Addr), PG (X.blk s H scope (compEnvC scope cl C X.env) fp) tg (tGM X.K L g)) (ht : ∀ (s : Shared) (H : Hp) (C : Addr) (cl : List (Str × Addr)) (fp : List Addr), PTs (X.blk s H scope (compEnvC scope cl C X.env) fp) ifs (tT X.K W0 tt))
    (he : ∀ (s : Shared) (H : Hp) (C : Addr) (cl : List (Str × Addr)) (fp : List Addr), PE (X.blk s H scope (compEnvC scope cl C X.env) fp) elt (tE X.K W0 we)) (hs : ∀ x, foldedSetIterable iter X.env x = pure x := by intro _; rfl) :
    PS X (.Assign [.Name y py] (.ListComp elt [⟨tg, iter, ifs, 0⟩] scope pos) spos) (tS X.K W (wAsg (wLcM wl g tt we (own.map (·.2))) i)) := by
  refine PS.imp (ps_setLc hc hN hy hyl hsw (pi_list hi) ok hg ht he hs) fun D σ H ⟨H0, F0, A0, s, T, kx, k, w, xl, h, q1, q2, q3, q4⟩ => ?_
  refine lcM_of hL ⟨H0, F0, A0, s, T, kx, _, w, xl, h, fun v s' h' u H' w' => ?_⟩
  obtain ⟨F, A, w'⟩ := w'
  exact q1 _ h' _ H' ⟨F, A, (w'.sub fun t h => List.mem_cons_of_mem _ h).st (w'.tm _ List.mem_cons_self)⟩
end
end PW
namespace PW
open PySem PySem.Spec PyProof.Rows L2
section
variable {X : Cx} {W : WX} {e o : Expr} {we wo : EW} {pos p : Pos} {y z : Str} {j k : Nat} {c0 c1 p2 : Pos} {i : Int}
/-- the slice e[:i], i written: behind it a token is out -/
theorem peu_head {r : V → Option Int → Option Int → Hp → VK → Prop} {te : TE} (hr : SlR X r) (he : PE X e te) : PEU X (.Subscript e (.Slice none (some (.Constant (.int i) j c0)) none p2) pos) (tSl r te tNoPart (tPart (tC (.int i)))) := by
  intro pins s σ H Q I h
  refine Subscript_ (thn (he.run pins s σ H _ I h) fun v s1 ⟨x, H1, I1, r1, q1⟩ => ?_)
  refine wpAny_Slice ?_
  rw [evalPart_none]
  refine wpAny_pure ?_
  rw [evalPart_some]
  refine wpAny_Constant_int ?_
  refine wpAny_pure ?_
  obtain ⟨i', e', q2⟩ := q1
  cases e'
  have I2 : Inv X pins σ H1 { s1 with toks := s1.toks + 1 } := I1.tok _
  have I3 : Inv X pins σ H1 { s1 with toks := s1.toks + 1, heap := s1.heap.push { cls := .type "slice", data := .fields #[.none, .int i s1.toks, .none] } } := I2.kept (t' := s1.toks + 1) fun b ob q => Heap.get?_push_of_some _ q
  obtain ⟨T, id, hT, ht, hg⟩ := hr pins { s1 with toks := s1.toks + 1, heap := s1.heap.push { cls := .type "slice", data := .fields #[.none, .int i s1.toks, .none] } } σ H1 x v .none (.int i s1.toks) none (some i) s1.heap.objs.size Q I3 r1 (Heap.IsSliceOf.new ..) .none (.int i s1.toks) q2
  have fin : wpAny (model X.prog X.w) X.A (subscriptTail e (.Slice none (some (.Constant (.int i) j c0)) none p2) v (.ref s1.heap.objs.size)) (EP X pins σ Q) X.xe { s1 with toks := s1.toks + 1, heap := s1.heap.push { cls := .type "slice", data := .fields #[.none, .int i s1.toks, .none] } } :=
    tail_any (ops := [.ref s1.heap.objs.size, v]) ht hT hg (by with_unfolding_all rfl)
  exact wpAny_mono (wpAny_toks_of (n := 1) (Nat.succ_le_succ (Nat.zero_le _)) fin) (fun _ _ q => q) fun _ _ q => q.2
theorem eu_head (he : PE X e (tE X.K W we)) : PEU X (.Subscript e (.Slice none (some (.Constant (.int i) j c0)) none p2) pos) (tE X.K W (wSl we wNoPart (wPart (wC (.int i))))) := by
  intro pins s σ H Q I h
  refine peu_head (sl_list.or (sl_tupA.or sl_str)) he pins s σ H Q I ?_
  exact tE_mono (sl_of h) fun v H' h => ⟨i, rfl, tO_int (tO_none h)⟩
/-- o.replace(y, z), a token being out behind o -/
theorem e_replU {apos : Pos} (ho : PEU X o (tE X.K W wo)) (hyz : (y == z) = false := by decide)
    (hst : starEach [.Constant (.str y) j c0, .Constant (.str z) k c1] X.env = [(false, eval (.Constant (.str y) j c0) X.env), (false, eval (.Constant (.str z) k c1) X.env)] := by rfl)
    (hbase : attributeBase o "replace" X.env (eval o X.env) = eval o X.env := by rfl) (hline : (apos.endLine == pos.line) = true := by rfl) :
    PE X (.Call (.Attribute o "replace" apos) [.Constant (.str y) j c0, .Constant (.str z) k c1] [] pos) (tE X.K W (wRepl y z wo)) := by
  refine ⟨fun pins s σ H Q I ⟨H0, F0, A0, s0, T, kx, kk, w, xl, h, q⟩ => ?_⟩
  refine PySem.Call_method2 hbase hst hline (wpAny_mono (ho pins s σ H (fun v H1 => ∃ x, v = .str x ∧ x.length + (x.length + 1) * z.length ≤ 16777216 ∧ Q (.str (Txt.replace x y z)) H1) I ⟨H0, F0, A0, s0, T, kx, _, w, xl, h, fun x s1 h1 u H1 w1 => ?_⟩) (fun v s1 q => ?_) fun _ _ z => z)
  · obtain ⟨z0, rfl, hz, hk⟩ := h1
    cases str_at w1 List.mem_cons_self
    obtain ⟨F, A, w1⟩ := w1
    exact ⟨z0, rfl, hz, q _ _ hk _ H1 ⟨F, A, (w1.sub fun t h => List.mem_cons_of_mem _ h).push (.str _)⟩⟩
  obtain ⟨hk, v', H1, I1, r1, x, e1, hb, q⟩ := q
  subst e1
  obtain ⟨tx, e2⟩ := r1
  subst e2
  refine ⟨"str", _, PySem.F.plainAttrs_str, PySem.F.slot_str_replace, PySem.F.type_str_replace, typeIs_str _ _ _, (fun _ e => nomatch e), Calls.callWith_builtin rfl (Calls.evalArgs_plain (Calls.spliced_cons ?_))⟩
  refine Calls.Constant_str (Calls.spliced_cons (Calls.Constant_str (Calls.spliced_nil ?_)))
  exact PySem.SC.replace (show s1.toks ≠ 0 by omega) (show s1.toks + 1 ≠ 0 by omega) (show s1.toks ≠ s1.toks + 1 by omega) hyz hb fun t' k => ⟨.str (Txt.replace x y z), H1, I1.tok k, ⟨t', rfl⟩, q⟩
end
end PW

namespace PW
open PySem L2
/-! ### calls that are lent the whole heap; recursion -/
/-- H without the things in A -/
def lendA (H : Hp) (A : List Addr) : Hp := fun b => if b ∈ A then none else H b
theorem lendA_out {H : Hp} {A : List Addr} {b : Addr} (h : b ∉ A) : lendA H A b = H b := if_neg h
theorem lendA_in {H : Hp} {A : List Addr} {b : Addr} (h : b ∈ A) : lendA H A b = none := if_pos h
section
variable {K : PySem.W.Frag} {H0 F0 : Hp} {A0 : List Addr} {s : PSt} {σ : L2.St} {T : List (PV × V)} {H F : Hp} {A : List Addr}
theorem WdF.afterH {s' : PSt} {σ' : L2.St} {T' : List (PV × V)} {H' F' : Hp} {A' : List Addr} (w : WdF K H0 F0 A0 s σ T H F A) (z : WdF K (lendA H A) F A s' σ' T' H' F' A') : WdF K H0 F0 A0 ⟨s.r, s'.o⟩ σ T H' F' A' where
  fz := ⟨w.fz.f.trans z.fz.f, z.fz.g, fun a u e => z.fz.h a u (by
      rw [lendA_out fun ha => by rw [(w.ad a ha).1] at e; cases e]
      exact w.fz.h a u e), fun p h1 h2 => z.fz.n p (by
      rw [lendA_out fun ha => h1 (w.ad p ha).1]
      exact fun e => h1 (w.fz.h.free e)) (w.fz.n p h1 h2)⟩
  pre := w.pre.trans z.pre
  len := z.len
  nd := z.nd
  ad := fun q hq => ⟨by
    by_cases h : q ∈ A
    · exact (w.ad q h).1
    · have := (z.ad q hq).1
      rw [lendA_out h] at this
      exact w.fz.h.free this, (z.ad q hq).2⟩
  oc := z.oc
  sl := w.sl
  pv := fun i v h => by
    obtain ⟨u, a, b⟩ := w.pv i v h
    exact ⟨u, a, b.mono z.fz.f z.pre⟩
  tm := fun t ht => (w.tm t ht).mono z.fz.f z.pre
theorem WdF.forH (w : WdF K H0 F0 A0 s σ T H F A) (xs : List PV) (us : List V) (e : us.length = xs.length) (ht : ∀ t ∈ xs.zip us, t ∈ T) : WdF K (lendA H A) F A ⟨xs.map some, s.o⟩ (us.map some) [] H F A where
  fz := ⟨Same.refl _, w.fz.g, fun a u h => by
    by_cases ha : a ∈ A
    · rw [lendA_in ha] at h; cases h
    · rw [lendA_out ha] at h; exact h, fun _ _ h => h⟩
  pre := List.prefix_refl _
  len := w.len
  nd := w.nd
  ad := fun p hp => ⟨lendA_in hp, (w.ad p hp).2⟩
  oc := w.oc
  sl := by show (xs.map some).length = (us.map some).length; rw [List.length_map, List.length_map, e]
  pv := fun i v hv => by
    have hv : (xs.map some)[i]? = some (some v) := hv
    rw [List.getElem?_map] at hv
    cases hx : xs[i]? with
    | none => rw [hx] at hv; cases hv
    | some y =>
      rw [hx] at hv
      have hv : some y = some v := Option.some.inj hv
      cases hv
      have hi : i < xs.length := (List.getElem?_eq_some_iff.mp hx).1
      have hu : us[i]? = some us[i] := List.getElem?_eq_getElem (by rw [e]; exact hi)
      refine ⟨us[i], by rw [List.getElem?_map, hu]; rfl, ?_⟩
      have hz : (xs.zip us)[i]? = some (v, us[i]) := by
        rw [List.getElem?_zip_eq_some]
        exact ⟨hx, hu⟩
      exact w.tm _ (ht _ (List.mem_of_getElem? hz))
  tm := fun _ z => nomatch z
end
/-- f(a, ..): the whole heap is lent -/
def wCallH (S : FS) (ws : AW) : EW := fun kx s k => ws kx s fun vs s1 => S vs s1.o
  (fun r o => match r with | .d z => k (.d z) ⟨s1.r, o⟩ | .new zs => k (.own o.length) ⟨s1.r, o ++ [.dl zs]⟩) (fun x o => kx x ⟨s1.r, o⟩)
section
variable {X : Cx} {W : WX} {k j : Nat} {ps : List Str} {S : FS} {x : Str} {p pos : Pos} {e : Expr} {es : List Expr} {ws : AW} {f : Addr} {fd : FuncData}
theorem e_callH (F : FnOk X.prog X.w X.K X.mg X.base (L2.CX X.prog X.w) k f fd ps (spOf X.K S)) (tk : Takes X W) (hr : Room k X.A) (hg : Gl X x) (hm : X.mg x = some (.ref f)) (hk : PySem.W.keepIn X.K (.ref f) = true) (hb : Binds X.K fd ps [])
    (ha : PA X (e :: es) (tA X.K W ws)) (hdb : (x == ("__debug__" : Str)) = false := by decide) (he : starEach (e :: es) X.env = (false, eval e X.env) :: starEach es X.env := by rfl) (hpl : (backTo pos (starEach es X.env)).any (·.1) = false := by rfl) :
    PE X (.Call (.Name x p) (e :: es) [] pos) (tE X.K W (wCallH S ws)) := by
  refine PE.imp (pe_callS F hr hg hm hk hb (fun σ => passAt tk σ) ha hdb he hpl) fun σ H Q ⟨H0, F0, A0, s, T, kx, kk, w, xl, h, q⟩ => ar_of w xl h fun vs s1 us H1 hS e1 w1 => ?_
  obtain ⟨F1, A, w1⟩ := w1
  have w3 := w1.sub (T' := T) fun t h => List.mem_append_right _ h
  refine ⟨lendA H1 A, F1, A, vs, s1.o, _, _, ⟨F1, A, w1.forH vs us e1 fun t h => List.mem_append_left _ h⟩, w1.len, hS, fun r o hr ho v H' ret => ?_, fun y o hx ho d H' w' => ?_⟩
  · cases r with
    | d z =>
      obtain ⟨F', A', w'⟩ := ret
      have dz : Dq X.K F' v z := w'.tm (.d z, v) List.mem_cons_self
      exact q _ _ hr v H' ⟨F', A', (w3.afterH w').push dz⟩
    | new zs =>
      obtain ⟨F', A', w'⟩ := ret
      have t := w'.tm (.own o.length, v) List.mem_cons_self
      exact q _ _ hr v H' ⟨F', A', (w3.afterH w').push t⟩
  · obtain ⟨F', A', w'⟩ := w'
    have px : PVOk X.K F' A' (.xd y.fs) (dV d) := w'.tm (.xd y.fs, dV d) List.mem_cons_self
    exact xl y _ hx σ H' d ⟨F', A', (w3.afterH w').push px⟩
theorem c_callH (C : Cal X.prog X.w X.K X.mg X.base k x ps S) (tk : Takes X W) (hr : Room j X.A) (ha : PA X (e :: es) (tA X.K W ws)) (hk : k ≤ j := by decide) (hg : Gl X x := by rfl)
    (hdb : (x == ("__debug__" : Str)) = false := by decide) (he : starEach (e :: es) X.env = (false, eval e X.env) :: starEach es X.env := by rfl) (hpl : (backTo pos (starEach es X.env)).any (·.1) = false := by rfl) :
    PE X (.Call (.Name x p) (e :: es) [] pos) (tE X.K W (wCallH S ws)) := by
  obtain ⟨f, fd, F, m, kp, b⟩ := C.ex
  exact e_callH F tk (hr.mono hk) hg m kp b ha hdb he hpl
end
section
variable {P : Program} {w : World} {K : PySem.W.Frag} {mg : Str → Option Value} {base : Heap}
/-- a def of which nothing is promised -/
theorem Dfd.cal0 {x : Str} {ps : List Str} {st : Stmt} {k : Nat} {S : FS} (D : Dfd K mg x ps st) (z : ∀ args o r e, ¬ S args o r e) : Cal P w K mg base k x ps S := by
  obtain ⟨f, fd, F, m, b⟩ := D.ex
  refine ⟨f, fd, ⟨fun vs H Q E h => ?_, fun A outer s H args us vs Q E _ _ _ _ h => ?_⟩, m, F.kp, b⟩
  · obtain ⟨_, _, _, _, _, _, _, _, _, h, _⟩ := h
    exact (z _ _ _ _ h).elim
  · obtain ⟨_, _, _, _, _, _, _, _, _, h, _⟩ := h
    exact (z _ _ _ _ h).elim
end
end PW
namespace PW
open PySem L2 PyProof.Rows
/-! ### x in t, t a tuple whose items are data of any depth -/
section
variable {X : Cx} {W : WX} {a b : Expr} {wa wb : EW} {pos : Pos}
def rInTD (K : PySem.W.Frag) (n : Bool) : R2 := fun x y H Q => ∃ d ds, Dp K H x d ∧ Dp K H y (.tuple ds) ∧ SeqAt.shaped d = true ∧ SeqAt.shaped (.tuple ds) = true ∧ Q (.bl (if n then !(ds.any fun z => PyData.eqv z d) else ds.any fun z => PyData.eqv z d)) H
theorem op_inTD (hu : X.A.units + 65 < cLine) : OpR X (compareOp .In) (rInTD X.K false) := by
  intro pins s σ H x y v u Q I rx ry h
  obtain ⟨d, ds, hd, he, sd, se, q⟩ := h
  obtain ⟨as, r1⟩ := Dp.reads I d x v hd rx
  obtain ⟨bs, r2⟩ := Dp.reads I (.tuple ds) y u he ry
  exact SeqAt.in_tuple_reads r2 r1 (SeqAt.canLay_of_shaped se) (SeqAt.canLay_of_shaped sd) (room_in_shaped sd hu) ⟨.bl _, H, I, rfl, q⟩
theorem op_notInTD (hu : X.A.units + 65 < cLine) : OpR X (compareOp .NotIn) (rInTD X.K true) := by
  intro pins s σ H x y v u Q I rx ry h
  obtain ⟨d, ds, hd, he, sd, se, q⟩ := h
  obtain ⟨as, r1⟩ := Dp.reads I d x v hd rx
  obtain ⟨bs, r2⟩ := Dp.reads I (.tuple ds) y u he ry
  exact SeqAt.notIn_tuple_reads r2 r1 (SeqAt.canLay_of_shaped se) (SeqAt.canLay_of_shaped sd) (room_in_shaped sd hu) ⟨.bl _, H, I, rfl, q⟩
def rInTP (n : Bool) : PyData → PyData → (PyData → Prop) → Prop := fun a b q => ∃ ys, b = .tuple ys ∧ SeqAt.shaped a = true ∧ SeqAt.shaped (.tuple ys) = true ∧ q (.bool (if n then !inD a ys else inD a ys))
theorem ok_inTP {K : PySem.W.Frag} {n : Bool} : ROk K (rInTD K n) (rInTP n) := by
  intro u v x y H Q P hx hy h q
  obtain ⟨ys, rfl, h1, h2, h3⟩ := h
  exact ⟨x, ys, hx, hy, h1, h2, q _ _ h3 rfl⟩
abbrev wInT := wOp (rInTP false)
abbrev wNotInT := wOp (rInTP true)
theorem e_inT (hu : X.A.units + 65 < cLine) (hm : behindInMarks .In b = false) (ha : PE X a (tE X.K W wa)) (hb : PE X b (tE X.K W wb)) : PE X (.Compare a [.In] [b] pos) (tE X.K W (wInT wa wb)) := e_cmp (op_inTD hu) ok_inTP hm ha hb
theorem e_notInT (hu : X.A.units + 65 < cLine) (hm : behindInMarks .NotIn b = false) (ha : PE X a (tE X.K W wa)) (hb : PE X b (tE X.K W wb)) : PE X (.Compare a [.NotIn] [b] pos) (tE X.K W (wNotInT wa wb)) := e_cmp (op_notInTD hu) ok_inTP hm ha hb
theorem t_inT (hu : X.A.units + 65 < cLine) (hm : behindInMarks .In b = false) (ha : PE X a (tE X.K W wa)) (hb : PE X b (tE X.K W wb)) : PT X (.Compare a [.In] [b] pos) (tT X.K W (wB (wInT wa wb))) := t_op (op_inTD hu) ok_inTP hm ha hb
theorem t_notInT (hu : X.A.units + 65 < cLine) (hm : behindInMarks .NotIn b = false) (ha : PE X a (tE X.K W wa)) (hb : PE X b (tE X.K W wb)) : PT X (.Compare a [.NotIn] [b] pos) (tT X.K W (wB (wNotInT wa wb))) := t_op (op_notInTD hu) ok_inTP hm ha hb
end
end PW

namespace PW
open PySem L2
/-! ### all, any, sum, max of lists -/
theorem dqAll_bls {K : PySem.W.Frag} {H : Hp} : ∀ {bs : List Bool} {vs : List V}, DqAll K H vs (bs.map PyData.bool) → vs = bs.map V.bl
  | [], _, .nil => rfl
  | b :: bs, _, .cons h t => by
    cases h
    rw [dqAll_bls t]
    rfl
theorem dqAll_ints {K : PySem.W.Frag} {H : Hp} : ∀ {bs : List Int} {vs : List V}, DqAll K H vs (bs.map PyData.int) → vs = bs.map V.int
  | [], _, .nil => rfl
  | b :: bs, _, .cons h t => by
    cases h
    rw [dqAll_ints t]
    rfl
def wAll (wa : EW) : EW := fun kx s k => wa kx s fun x s1 => ∃ bs : List Bool, dat s1 x = some (.list (bs.map PyData.bool)) ∧ k (.d (.bool (bs.all id))) s1
def wAny (wa : EW) : EW := fun kx s k => wa kx s fun x s1 => ∃ bs : List Bool, dat s1 x = some (.list (bs.map PyData.bool)) ∧ k (.d (.bool (bs.any id))) s1
def wSum (wa : EW) : EW := fun kx s k => wa kx s fun x s1 => ∃ ns : List Int, dat s1 x = some (.list (ns.map PyData.int)) ∧ k (.d (.int ns.sum)) s1
def wMaxL (wa : EW) : EW := fun kx s k => wa kx s fun x s1 => ∃ ns : List Int, dat s1 x = some (.list (ns.map PyData.int)) ∧ 0 < ns.length ∧ ∀ m, m ∈ ns → (∀ y, y ∈ ns → y ≤ m) → k (.d (.int m)) s1
def wMinL (wa : EW) : EW := fun kx s k => wa kx s fun x s1 => ∃ ns : List Int, dat s1 x = some (.list (ns.map PyData.int)) ∧ 0 < ns.length ∧ ∀ m, m ∈ ns → (∀ y, y ∈ ns → m ≤ y) → k (.d (.int m)) s1
section
variable {X : Cx} {W : WX} {a : Expr} {wa : EW} {pos p : Pos}
theorem e_all (hc : X.calm = true) (hm : X.mg "all" = none) (ha : PE X a (tE X.K W wa)) (hg : Gl X "all" := by rfl) (he : starEach [a] X.env = (false, eval a X.env) :: starEach [] X.env := by rfl) (hpl : (backTo pos (starEach [] X.env)).any (·.1) = false := by rfl) :
    PE X (.Call (.Name "all" p) [a] [] pos) (tE X.K W (wAll wa)) := by
  refine PE.imp (pe_callB (cr_all hc) hg hm (by decide +kernel) (pa_cons ha pa_nil he) (he := he) (hpl := hpl)) fun σ H Q ⟨H0, F0, A0, s, T, kx, k, w, xl, h, q⟩ => cb1_of w xl h fun x s1 u H1 h1 w1 => ?_
  obtain ⟨bs, hd, hk⟩ := h1
  obtain ⟨F, A, w1⟩ := w1
  obtain ⟨pp, vs, rfl, h1, h2⟩ := items_ok w1 (w1.tm _ List.mem_cons_self) hd
  cases dqAll_bls h2
  exact ⟨pp, bs, rfl, h1, q _ _ hk _ _ ⟨F, A, (w1.sub (T' := T) fun t h => List.mem_cons_of_mem _ h).push (.bl _)⟩⟩
theorem e_any (hc : X.calm = true) (hm : X.mg "any" = none) (ha : PE X a (tE X.K W wa)) (hg : Gl X "any" := by rfl) (he : starEach [a] X.env = (false, eval a X.env) :: starEach [] X.env := by rfl) (hpl : (backTo pos (starEach [] X.env)).any (·.1) = false := by rfl) :
    PE X (.Call (.Name "any" p) [a] [] pos) (tE X.K W (wAny wa)) := by
  refine PE.imp (pe_callB (cr_any hc) hg hm (by decide +kernel) (pa_cons ha pa_nil he) (he := he) (hpl := hpl)) fun σ H Q ⟨H0, F0, A0, s, T, kx, k, w, xl, h, q⟩ => cb1_of w xl h fun x s1 u H1 h1 w1 => ?_
  obtain ⟨bs, hd, hk⟩ := h1
  obtain ⟨F, A, w1⟩ := w1
  obtain ⟨pp, vs, rfl, h1, h2⟩ := items_ok w1 (w1.tm _ List.mem_cons_self) hd
  cases dqAll_bls h2
  exact ⟨pp, bs, rfl, h1, q _ _ hk _ _ ⟨F, A, (w1.sub (T' := T) fun t h => List.mem_cons_of_mem _ h).push (.bl _)⟩⟩
theorem e_sum (hc : X.calm = true) (hm : X.mg "sum" = none) (ha : PE X a (tE X.K W wa)) (hg : Gl X "sum" := by rfl) (he : starEach [a] X.env = (false, eval a X.env) :: starEach [] X.env := by rfl) (hpl : (backTo pos (starEach [] X.env)).any (·.1) = false := by rfl) :
    PE X (.Call (.Name "sum" p) [a] [] pos) (tE X.K W (wSum wa)) := by
  refine PE.imp (pe_callB (cr_sum hc) hg hm (by decide +kernel) (pa_cons ha pa_nil he) (he := he) (hpl := hpl)) fun σ H Q ⟨H0, F0, A0, s, T, kx, k, w, xl, h, q⟩ => cb1_of w xl h fun x s1 u H1 h1 w1 => ?_
  obtain ⟨bs, hd, hk⟩ := h1
  obtain ⟨F, A, w1⟩ := w1
  obtain ⟨pp, vs, rfl, h1, h2⟩ := items_ok w1 (w1.tm _ List.mem_cons_self) hd
  cases dqAll_ints h2
  exact ⟨pp, bs, rfl, h1, q _ _ hk _ _ ⟨F, A, (w1.sub (T' := T) fun t h => List.mem_cons_of_mem _ h).push (.int _)⟩⟩
theorem e_maxL (hc : X.calm = true) (hm : X.mg "max" = none) (ha : PE X a (tE X.K W wa)) (hg : Gl X "max" := by rfl) (he : starEach [a] X.env = (false, eval a X.env) :: starEach [] X.env := by rfl) (hpl : (backTo pos (starEach [] X.env)).any (·.1) = false := by rfl) :
    PE X (.Call (.Name "max" p) [a] [] pos) (tE X.K W (wMaxL wa)) := by
  refine PE.imp (pe_callB (cr_max hc) hg hm (by decide +kernel) (pa_cons ha pa_nil he) (he := he) (hpl := hpl)) fun σ H Q ⟨H0, F0, A0, s, T, kx, k, w, xl, h, q⟩ => cb1_of w xl h fun x s1 u H1 h1 w1 => ?_
  obtain ⟨bs, hd, h0, hk⟩ := h1
  obtain ⟨F, A, w1⟩ := w1
  obtain ⟨pp, vs, rfl, h1, h2⟩ := items_ok w1 (w1.tm _ List.mem_cons_self) hd
  cases dqAll_ints h2
  exact ⟨pp, bs, rfl, h1, h0, fun m e1 e2 => q _ _ (hk m e1 e2) _ _ ⟨F, A, (w1.sub (T' := T) fun t h => List.mem_cons_of_mem _ h).push (.int _)⟩⟩
theorem e_minL (hc : X.calm = true) (hm : X.mg "min" = none) (ha : PE X a (tE X.K W wa)) (hg : Gl X "min" := by rfl) (he : starEach [a] X.env = (false, eval a X.env) :: starEach [] X.env := by rfl) (hpl : (backTo pos (starEach [] X.env)).any (·.1) = false := by rfl) :
    PE X (.Call (.Name "min" p) [a] [] pos) (tE X.K W (wMinL wa)) := by
  refine PE.imp (pe_callB (cr_min hc) hg hm (by decide +kernel) (pa_cons ha pa_nil he) (he := he) (hpl := hpl)) fun σ H Q ⟨H0, F0, A0, s, T, kx, k, w, xl, h, q⟩ => cb1_of w xl h fun x s1 u H1 h1 w1 => ?_
  obtain ⟨bs, hd, h0, hk⟩ := h1
  obtain ⟨F, A, w1⟩ := w1
  obtain ⟨pp, vs, rfl, h1, h2⟩ := items_ok w1 (w1.tm _ List.mem_cons_self) hd
  cases dqAll_ints h2
  exact ⟨pp, bs, rfl, h1, h0, fun m e1 e2 => q _ _ (hk m e1 e2) _ _ ⟨F, A, (w1.sub (T' := T) fun t h => List.mem_cons_of_mem _ h).push (.int _)⟩⟩
end
end PW
namespace PW
open PySem L2
/-! ### zip of two tuples -/
def wZpT (wa wb : EW) : IW := fun kx s k => wa kx s fun v s1 => wb kx s1 fun u s2 => ∃ xs ys, v = .d (.tuple xs) ∧ u = .d (.tuple ys) ∧ k (zipD xs ys) none s2
theorem it_zipT {K : PySem.W.Frag} {a b : Addr} {xs ys : List PyData} : ItOk K (RZ.ItzT K a b) [(.d (.tuple xs), .ref a), (.d (.tuple ys), .ref b)] none (zipD xs ys) := by
  intro H0 F0 A0 s σ T H F A w ht _ i
  have p : PVOk K F A (.d (.tuple xs)) (.ref a) := w.tm _ (ht _ List.mem_cons_self)
  have p' : PVOk K F A (.d (.tuple ys)) (.ref b) := w.tm _ (ht _ (List.mem_cons_of_mem _ List.mem_cons_self))
  obtain ⟨a', vs, e, h1, h2⟩ := itemsT_ok w p rfl
  obtain ⟨b', ws, e', h1', h2'⟩ := itemsT_ok w p' rfl
  cases e
  cases e'
  have hl := h2.len
  have hl' := h2'.len
  rw [zipD_len]
  refine ⟨fun hi => ⟨vs, ws, vs[i]'(by omega), ws[i]'(by omega), h1, h1', List.getElem?_eq_getElem (by omega), List.getElem?_eq_getElem (by omega)⟩, fun hi => ⟨vs, ws, h1, h1', by omega⟩, fun _ x H' hy => ?_⟩
  obtain ⟨t, y, z, rfl, ht, rfl, hx, hz⟩ := hy
  obtain ⟨d, hd, dq⟩ := h2.get i y (hx vs h1)
  obtain ⟨d', hd', dq'⟩ := h2'.get i z (hz ws h1')
  have sn := same_new (o := .tup [y, z]) (w.fz.g.free ht)
  exact ⟨.tuple [d, d'], zipD_get _ _ _ _ _ hd hd', _, (w.newD (o := .tup [y, z]) ht).push (.tup (SqT.of upd_same) (.cons (dq_same sn dq) (.cons (dq_same sn dq') .nil)))⟩
section
variable {X : Cx} {W : WX} {a b : Expr} {wa wb : EW} {pos p : Pos}
theorem i_zipT {elts : List Expr} {kk : Nat} {tpos : Pos} (hm : X.mg "zip" = none) (ha : PE X a (tE X.K W wa)) (hb : PE X b (tE X.K W wb)) (hg : Gl X "zip" := by rfl) (hs : starEach [a, b] X.env = (false, eval a X.env) :: starEach [b] X.env := by rfl) (hs2 : starEach [b] X.env = (false, eval b X.env) :: starEach [] X.env := by rfl) (hpl : (backTo pos (starEach [b] X.env)).any (·.1) = false := by rfl) :
    PI X (.Tuple elts kk tpos) (.Call (.Name "zip" p) [a, b] [] pos) (tI X.K W (wZpT wa wb)) := by
  refine PI.imp (RZ.pi_zipA hg hm (pa_cons ha (pa_cons hb pa_nil hs2) hs) hs hpl) fun σ H R ⟨H0, F0, A0, s, T, kx, k, w, xl, h, q⟩ => un_of w xl h fun v s1 u H1 h1 w1 => ?_
  refine ⟨H0, F0, A0, s1, _, kx, _, w1, xl.push, h1, fun v2 s2 h2 u2 H2 w2 => ?_⟩
  obtain ⟨xs, ys, rfl, rfl, h2⟩ := h2
  obtain ⟨F, A, w5⟩ := id w2
  have p1 : PVOk X.K F A (.d (.tuple xs)) u := w5.tm _ (List.mem_cons_of_mem _ List.mem_cons_self)
  have p2 : PVOk X.K F A (.d (.tuple ys)) u2 := w5.tm _ List.mem_cons_self
  obtain ⟨a, vs, rfl, i3, i4⟩ := itemsT_ok w5 p1 rfl
  obtain ⟨b, ws, rfl, j3, j4⟩ := itemsT_ok w5 p2 rfl
  refine ⟨a, b, vs, ws, rfl, .inr ⟨i3, j3, q _ _ _ h2 _ [(.d (.tuple xs), .ref a), (.d (.tuple ys), .ref b)] H2 (w2.sub fun t ht => ?_) it_zipT⟩⟩
  rcases List.mem_cons.mp ht with e | ht
  · rw [e]; exact List.mem_cons_of_mem _ List.mem_cons_self
  · rcases List.mem_cons.mp ht with e | ht
    · rw [e]; exact List.mem_cons_self
    · exact List.mem_cons_of_mem _ (List.mem_cons_of_mem _ ht)
end
end PW

namespace PW
open PySem L2 PySem.Spec PyProof.Rows
/-! ### l.count(x), the items data of any depth -/
section
variable {X : Cx} {W : WX} {a wo_e : Expr} {wa wo : EW} {pos : Pos}
def rCntD (K : PySem.W.Frag) : V → List V → Hp → VK → Prop := fun x xs H Q => ∃ (a : Addr) (y : V) (d : PyData) (ds : List PyData), x = V.ref a ∧ xs = [y] ∧ Dp K H (V.ref a) (.list ds) ∧ Dp K H y d ∧
  SeqAt.shaped (.list ds) = true ∧ SeqAt.shaped d = true ∧ Q (.int ((ds.countP fun z => PyData.eqv z d : Nat))) H
theorem mt_lcountD (hu : X.A.units + 65 < cLine) : MtR X "list.count" (rCntD X.K) := by
  intro pins s σ H x xs v us Q I rx rxs h
  obtain ⟨a, y, d, ds, rfl, rfl, hl, hy, sl, sd, q⟩ := h
  cases rx
  cases rxs with
  | cons ry rt =>
    rename_i uy ut
    cases rt
    obtain ⟨bs, r1⟩ := Dp.reads I d y uy hy ry
    have hxs : PyData.canLayAll0 ds = true := SeqAt.canLay_of_shaped sl
    have hroom : X.A.units + 1 + min (PyData.depthAll ds) d.depth < cLine := room_in_shaped sd hu
    cases hl with
    | lst hs ha =>
      obtain ⟨its, rv, ⟨⟨cls, dd, data, sls⟩, n, ho, hc, hdn, hdt⟩, hlen⟩ := I.list hs
      simp only at hc hdt
      subst hc hdt
      obtain ⟨as, h4⟩ := Dp.readsAll I ds _ its ha rv
      have hmap : its.map (SeqAt.readOf s.heap) = ds := SeqAt.readsAll_map ds its as hxs h4
      refine call_meets PySem.F.slot_list_count ⟨_, ho, rfl⟩ PySem.F.entry_list_count (PySem.F.args_list_count_2 _ _)
        (SeqAt.list_countAt a its.toArray n dd sls uy (fun u => PyData.eqv (SeqAt.readOf s.heap u) d)) ⟨ho, SeqAt.items_eqAt (vs := its.toArray) (show ReadsAll s.heap its.toArray.toList ds as from h4) r1 hxs (SeqAt.canLay_of_shaped sd) hroom, ?_⟩
      have ec : its.toArray.toList.countP (fun u => PyData.eqv (SeqAt.readOf s.heap u) d) = ds.countP fun z => PyData.eqv z d := by
        rw [← hmap, List.countP_map]
        rfl
      refine ⟨.int ((ds.countP fun z => PyData.eqv z d : Nat)), H, I.tok _, ⟨s.toks, ?_⟩, q⟩
      show Value.int ((its.toArray.toList.countP (fun u => PyData.eqv (SeqAt.readOf s.heap u) d) : Nat) : Int) s.toks = _
      rw [ec]
def wCount (wo we : EW) : EW := fun kx s k => wo kx s fun x s1 => (∃ xs, dat s1 x = some (.list xs)) ∧ we kx s1 fun y s2 => ∃ xs b, dat s2 x = some (.list xs) ∧ dat s2 y = some b ∧ SeqAt.shaped (.list xs) = true ∧ SeqAt.shaped b = true ∧ k (.d (.int ((xs.countP fun z => PyData.eqv z b : Nat)))) s2
theorem e_count {apos : Pos} (hu : X.A.units + 65 < cLine) (ho : PE X wo_e (tE X.K W wo)) (ha : PE X a (tE X.K W wa))
    (hbase : attributeBase wo_e "count" X.env (eval wo_e X.env) = eval wo_e X.env := by rfl)
    (hfew : ((backTo pos (starEach [a] X.env)).all (fun x => !x.1) && (backToKw pos (keywordEach [] X.env)).all (fun x => x.1.isSome)
      && decide ([a].length + ([] : List Keyword).length + (if ([] : List Keyword).isEmpty then 0 else 1) < 30)) = true := by rfl)
    (hline : (apos.endLine == pos.line) = true := by rfl) (hs : starEach [a] X.env = (false, eval a X.env) :: starEach [] X.env := by rfl) (hplain : (backTo pos (starEach [] X.env)).any (·.1) = false := by rfl) :
    PE X (.Call (.Attribute wo_e "count" apos) [a] [] pos) (tE X.K W (wCount wo wa)) := by
  refine PE.imp (pe_bm PySem.F.plainAttrs_list PySem.F.slot_list_count PySem.F.type_list_count (mt_lcountD hu) ho (pa_cons ha pa_nil hs) hbase hfew hline hs hplain) fun σ H Q ⟨H0, F0, A0, s, T, kx, k, w, xl, h, q⟩ => ?_
  refine ⟨H0, F0, A0, s, T, kx, _, w, xl, h, fun x s1 h1 u H1 w1 => ?_⟩
  obtain ⟨⟨ws, ow⟩, h1⟩ := h1
  have ty : tyV X.K "list" u H1 := by
    obtain ⟨F, A, w1⟩ := w1
    obtain ⟨p, vs, rfl, hv, _⟩ := items_ok w1 (w1.tm _ List.mem_cons_self) ow
    exact .inl ⟨rfl, vs, hv⟩
  refine ⟨ty, H0, F0, A0, s1, _, kx, _, w1, xl.push, h1, fun y s2 h2 v H2 w2 => ?_⟩
  obtain ⟨xs, b, ox, oy, sh1, sh2, hk⟩ := h2
  obtain ⟨F, A, w3⟩ := w2
  obtain ⟨p, vs, rfl, hv, hd⟩ := items_ok w3 (w3.tm _ (List.mem_cons_of_mem _ List.mem_cons_self)) ox
  have e1 := dat_ok w3 (w3.tm _ (List.mem_cons_of_mem _ List.mem_cons_self)) ox
  have e2 := dat_ok w3 (w3.tm _ List.mem_cons_self) oy
  exact ⟨p, v, b, xs, rfl, rfl, e1, e2, sh1, sh2, q _ _ hk _ _ ⟨F, A, (w3.sub (T' := T) fun t h => List.mem_cons_of_mem _ (List.mem_cons_of_mem _ h)).push (.int _)⟩⟩
end
end PW
namespace PW
open PySem L2
/-! ### list(range(..)) -/
def wLRg1 (wa : EW) : EW := fun kx s k => wa kx s fun x s1 => ∃ n : Int, x = .d (.int n) ∧ RgOk 0 n ∧ k (.own s1.o.length) ⟨s1.r, s1.o ++ [.dl (intsD 0 n.toNat)]⟩
def wLRg2 (wa wb : EW) : EW := fun kx s k => wa kx s fun x s1 => wb kx s1 fun y s2 => ∃ i j : Int, x = .d (.int i) ∧ y = .d (.int j) ∧ RgOk i j ∧ k (.own s2.o.length) ⟨s2.r, s2.o ++ [.dl (intsD i (j - i).toNat)]⟩
theorem rgV_dq {K : PySem.W.Frag} {H : Hp} (a b : Int) : DqAll K H (rgV a b) (intsD a (b - a).toNat) := by
  have key : ∀ l : List Nat, DqAll K H (l.map fun i => V.int (a + (i : Nat))) (l.map fun i => PyData.int (a + (i : Nat))) := by
    intro l
    induction l with
    | nil => exact .nil
    | cons i l ih => exact .cons (.int _) ih
  exact key _
section
variable {X : Cx} {W : WX} {a b : Expr} {wa wb : EW} {p pos p2 pos2 : Pos}
theorem e_lrg1 (hc : X.calm = true) (hm : X.mg "list" = none) (hm2 : X.mg "range" = none) (ha : PE X a (tE X.K W wa)) (hg : Gl X "list" := by rfl) (hg2 : Gl X "range" := by rfl)
    (na : starEach [a] X.env = (false, eval a X.env) :: starEach [] X.env := by rfl) (nb : starEach [Expr.Call (.Name "range" p2) [a] [] pos2] X.env = (false, eval (.Call (.Name "range" p2) [a] [] pos2) X.env) :: starEach [] X.env := by rfl) :
    PE X (.Call (.Name "list" p) [.Call (.Name "range" p2) [a] [] pos2] [] pos) (tE X.K W (wLRg1 wa)) := by
  refine PE.imp (pe_listRg hc hg hm (prg_1 hg2 hm2 ha na) nb) fun σ H Q ⟨H0, F0, A0, s, T, kx, k, w, xl, h, q⟩ => un_of w xl h fun x s1 u H1 h1 w1 => ?_
  obtain ⟨n, rfl, hok, hk⟩ := h1
  obtain ⟨F, A, w1⟩ := w1
  have pu : Dq X.K F u (.int n) := w1.tm _ List.mem_cons_self
  cases pu
  refine ⟨n, rfl, hok, fun q1 hq => ?_⟩
  have w2 := w1.sub (T' := T) fun t h => List.mem_cons_of_mem _ h
  have dq := rgV_dq (K := X.K) (H := F) 0 n
  rw [show n - 0 = n from by omega] at dq
  exact q _ _ hk _ _ ⟨F, _, (w2.newL hq dq).push (top_at w2 q1 F)⟩
theorem e_lrg2 (hc : X.calm = true) (hm : X.mg "list" = none) (hm2 : X.mg "range" = none) (ha : PE X a (tE X.K W wa)) (hb : PE X b (tE X.K W wb)) (hg : Gl X "list" := by rfl) (hg2 : Gl X "range" := by rfl)
    (na : starEach [a, b] X.env = (false, eval a X.env) :: starEach [b] X.env := by rfl) (nb : starEach [b] X.env = (false, eval b X.env) :: starEach [] X.env := by rfl) (hp : (backTo pos2 (starEach [b] X.env)).any (·.1) = false := by rfl)
    (nc : starEach [Expr.Call (.Name "range" p2) [a, b] [] pos2] X.env = (false, eval (.Call (.Name "range" p2) [a, b] [] pos2) X.env) :: starEach [] X.env := by rfl) :
    PE X (.Call (.Name "list" p) [.Call (.Name "range" p2) [a, b] [] pos2] [] pos) (tE X.K W (wLRg2 wa wb)) := by
  refine PE.imp (pe_listRg hc hg hm (prg_2 hg2 hm2 ha hb na nb hp) nc) fun σ H Q ⟨H0, F0, A0, s, T, kx, k, w, xl, h, q⟩ => un_of w xl h fun x s1 u H1 h1 w1 => ?_
  refine ⟨H0, F0, A0, s1, _, kx, _, w1, xl.push, h1, fun y s2 h2 v H2 w2 => ?_⟩
  obtain ⟨i, j, rfl, rfl, hok, hk⟩ := h2
  obtain ⟨F, A, w2⟩ := w2
  have pu : Dq X.K F u (.int i) := w2.tm _ (List.mem_cons_of_mem _ List.mem_cons_self)
  have pv : Dq X.K F v (.int j) := w2.tm _ List.mem_cons_self
  cases pu
  cases pv
  refine ⟨i, j, rfl, rfl, hok, fun q1 hq => ?_⟩
  have w3 := w2.sub (T' := T) fun t h => List.mem_cons_of_mem _ (List.mem_cons_of_mem _ h)
  exact q _ _ hk _ _ ⟨F, _, (w3.newL hq (rgV_dq i j)).push (top_at w3 q1 F)⟩
end
end PW
namespace PW
open PySem L2
/-! ### isinstance(x, (A, B)) -/
section
variable {X : Cx} {W : WX} {a : Expr} {wa : EW} {pos p : Pos}
theorem kit_two {K : PySem.W.Frag} {d t u : String} {r r' : Bool} (h1 : kitB d t = some r) (h2 : kitB d u = some r') : PySem.W.kitAny K (.type d) [.type t, .type u] = some (r || r') := by
  have e1 := kit_ty (K := K) h1
  have e2 := kit_ty (K := K) h2
  unfold PySem.W.kitAny
  rw [e1]
  cases r with
  | true => rfl
  | false =>
    show PySem.W.kitAny K (.type d) [.type u] = _
    unfold PySem.W.kitAny
    rw [e2]
    cases r' <;> rfl
theorem e_isi2 {x y : Str} {T U : String} {q1 q2 q3 : Pos} {kk : Nat} (hm : X.mg "isinstance" = none) (hT : X.mg x = none) (hU : X.mg y = none) (hb : bootBuiltins x = some (.type T)) (hb2 : bootBuiltins y = some (.type U)) (ha : PE X a (tE X.K W wa)) (hgT : Gl X x := by rfl) (hgU : Gl X y := by rfl) (hg : Gl X "isinstance" := by rfl)
    (hn : x ≠ "__name__" := by decide) (hd : (x == ("__debug__" : Str)) = false := by decide) (hn2 : y ≠ "__name__" := by decide) (hd2 : (y == ("__debug__" : Str)) = false := by decide)
    (he : starEach [a, .Tuple [.Name x q1, .Name y q2] kk q3] X.env = (false, eval a X.env) :: starEach [.Tuple [.Name x q1, .Name y q2] kk q3] X.env := by rfl) (he2 : starEach [.Tuple [.Name x q1, .Name y q2] kk q3] X.env = (false, eval (.Tuple [.Name x q1, .Name y q2] kk q3) X.env) :: starEach [] X.env := by rfl)
    (hs : starEach [.Name x q1, .Name y q2] X.env = (false, eval (.Name x q1) X.env) :: starEach [.Name y q2] X.env := by rfl) (hs2 : starEach [.Name y q2] X.env = (false, eval (.Name y q2) X.env) :: starEach [] X.env := by rfl)
    (hpl : (backTo pos (starEach [.Tuple [.Name x q1, .Name y q2] kk q3] X.env)).any (·.1) = false := by rfl) :
    PE X (.Call (.Name "isinstance" p) [a, .Tuple [.Name x q1, .Name y q2] kk q3] [] pos) (tE X.K W (wIsi2 T U wa)) := by
  have pt : PE X (.Name x q1) (tC (.ty T)) := pe_bltn hgT hT hb rfl hn hd
  have pu : PE X (.Name y q2) (tC (.ty U)) := pe_bltn hgU hU hb2 rfl hn2 hd2
  refine PE.imp (pe_callB call_isiT hg hm (by decide +kernel) (pa_cons ha (pa_cons (pe_tup (pa_cons pt (pa_cons pu pa_nil hs2) hs)) pa_nil he2) he) (he := he) (hpl := hpl)) fun σ H Q ⟨H0, F0, A0, s, T', kx, k, w, xl, h, q⟩ => ?_
  refine un_of w xl h fun x s1 u H1 h1 w1 => ?_
  obtain ⟨d, r, r', hd, hk, hk2, hq⟩ := h1
  obtain ⟨F, A, w1⟩ := w1
  refine ⟨by show 2 ≤ sizeLine; decide, fun q0 hq0 => ?_⟩
  have w2 := w1.newD (o := .tup [.ty T, .ty U]) hq0
  exact ⟨u, q0, [.ty T, .ty U], _, [.type T, .type U], _, rfl, upd_same, .cons (.ty T) (.cons (.ty U) .nil), tyx_pv w2 (w2.tm _ List.mem_cons_self) hd, kit_two hk hk2, q _ _ hq _ _ ⟨_, A, (w2.sub fun t h => List.mem_cons_of_mem _ h).push (.bl _)⟩⟩
end
end PW

namespace PW
open PySem L2 PySem.Spec PyProof.Rows
/-! ### max(l, default=n) -/
section
variable {pg : Program} {wo : World} {Ar : Around} {Rr : Result → Shared → Prop} {It : Addr} {fa wa : List Addr} {mm : Nat} {Pv : Nat → Value → Prop} {Sg : Nat → Heap → Prop}
theorem mxd_loop (Wk : Walks pg wo Ar.in1 It fa wa mm Pv Sg) (g : Nat → Nat → Bool) (cmp : CmpOf pg wo Ar.in1 .Gt Pv g) (B : Addr) (nB : B ∉ fa) (kw : List (Str × Value)) :
    ∀ (k j : Nat) (t : Shared) (u : Value) (e : Nat), mm - (j + 1) = k → j + 1 ≤ mm → Sg (j + 1) t.heap → Pv (argBest g j) u →
    t.heap.get? B = some { cls := .type "list", dict := none, data := .seq #[u, u] e, slots := #[] } →
    (∀ z h' tk, Pv (argBest g (mm - 1)) z → (∀ b o, b ∉ wa → b ≠ B → t.heap.get? b = some o → h'.get? b = some o) → Rr (.ok (.ret z)) { t with heap := h', toks := tk }) →
    codeAny (model pg wo) Ar (.builtin "max.loop" ⟨[.ref It, .none, .ref B], kw⟩) Rr t := by
  have nW : B ∉ wa := fun z => nB (Wk.sub _ z)
  have nm : (toString "max" ++ toString ".loop" : String) = "max.loop" := by decide
  intro k
  induction k with
  | zero =>
    intro j t u e hk hj sg pu eB fin
    have hm : j + 1 = mm := by omega
    refine codeAny_builtin PySem.F.entry_max_loop ?_
    rw [Around.under_plainId PySem.F.plain_max_loop _]
    show wpAny _ Ar.in1 (seqItems? (.ref B) >>= _) _ _ t
    refine wpAny_bind (wpAny_seqItems eB rfl ?_)
    show wpAny _ Ar.in1 (tryCatch (pyNext (.ref It)) _ >>= _) _ _ t
    refine wpAny_bind (wpAny_tryCatch (Wk.done t _ _ (hm ▸ sg) fun h' tk kp => ?_))
    have eB' := kp B _ nW eB
    show wpAny _ Ar.in1 (updateSeq B (fun _ => #[]) >>= _) _ _ _
    refine wpAny_bind ?_
    refine wpAny_updateSeq eB' rfl (wpAny_bind (wpAny_letGo (wpAny_pure ?_)))
    exact fin u _ tk (by rw [← hm]; exact pu) fun b o h1 h2 h3 => (Heap.get?_update_other _ _ (Ne.symm h2)).trans (kp b o h1 h3)
  | succ k ih =>
    intro j t u e hk hj sg pu eB fin
    have lt : j + 1 < mm := by omega
    refine codeAny_builtin PySem.F.entry_max_loop ?_
    rw [Around.under_plainId PySem.F.plain_max_loop _]
    show wpAny _ Ar.in1 (seqItems? (.ref B) >>= _) _ _ t
    refine wpAny_bind (wpAny_seqItems eB rfl ?_)
    show wpAny _ Ar.in1 (tryCatch (pyNext (.ref It)) _ >>= _) _ _ t
    refine wpAny_bind (wpAny_tryCatch (Wk.item (j + 1) t _ _ lt sg fun v h' tk pv sg' kp => ?_))
    have eB' := kp B _ nW eB
    show wpAny _ Ar.in1 (tryCatch (holding [v, v] (richCompare .Gt v u >>= _)) _ >>= _) _ _ _
    refine wpAny_bind (wpAny_tryCatch (wpAny_holding (wpAny_bind (cmp (j + 1) (argBest g j) v u _ _ _ pv pu ?_))))
    refine wpAny_bind (wpAny_holding (wpAny_truthy_bool ?_))
    refine wpAny_bind (wpAny_letGo (wpAny_pure ?_))
    cases hg : g (j + 1) (argBest g j) with
    | true =>
      simp only [if_true]
      refine wpAny_bind ?_
      refine wpAny_updateSeq eB' rfl (wpAny_bind (wpAny_letGo ?_))
      rw [nm]
      refine wpAny_pure ⟨plainId_quiet PySem.F.plain_max_loop _, ih (j + 1) _ v _ (by omega) lt (Wk.frame _ _ _ sg' fun b hb o e => ?_) (by simp only [argBest, hg, if_true]; exact pv) (Heap.get?_update_self _ eB' rfl) fun z h2 tk2 hz kp2 => ?_⟩
      · exact (Heap.get?_update_other _ _ (fun h : B = b => nB (by rw [h]; exact hb))).trans e
      · exact fin z h2 tk2 hz fun b o h1 h2 h3 => kp2 b o h1 h2 ((Heap.get?_update_other _ _ (Ne.symm h2)).trans (kp b o h1 h3))
    | false =>
      simp only [Bool.false_eq_true, if_false]
      refine wpAny_bind (wpAny_letGo ?_)
      rw [nm]
      refine wpAny_pure ⟨plainId_quiet PySem.F.plain_max_loop _, ih (j + 1) _ u e (by omega) lt sg' (by simp only [argBest, hg, Bool.false_eq_true, if_false]; exact pu) eB' fun z h2 tk2 hz kp2 => ?_⟩
      exact fin z h2 tk2 hz fun b o h1 h2 h3 => kp2 b o h1 h2 (kp b o h1 h3)
theorem mxd_first (Wk : Walks pg wo Ar.in1 It fa wa mm Pv Sg) (g : Nat → Nat → Bool) (cmp : CmpOf pg wo Ar.in1 .Gt Pv g) (B : Addr) (nB : B ∉ fa) (nm0 : Str) (dv : Value) {t : Shared} {e : Nat} (sg : Sg 0 t.heap)
    (eB : t.heap.get? B = some { cls := .type "list", dict := none, data := .seq #[] e, slots := #[] })
    (f0 : mm = 0 → ∀ h' tk, (∀ b o, b ∉ wa → b ≠ B → t.heap.get? b = some o → h'.get? b = some o) → Rr (.ok (.ret dv)) { t with heap := h', toks := tk })
    (fin : 0 < mm → ∀ z h' tk, Pv (argBest g (mm - 1)) z → (∀ b o, b ∉ wa → b ≠ B → t.heap.get? b = some o → h'.get? b = some o) → Rr (.ok (.ret z)) { t with heap := h', toks := tk }) :
    codeAny (model pg wo) Ar (.builtin "max.loop" ⟨[.ref It, .none, .ref B], [(nm0, dv)]⟩) Rr t := by
  have nW : B ∉ wa := fun z => nB (Wk.sub _ z)
  have nm : (toString "max" ++ toString ".loop" : String) = "max.loop" := by decide
  refine codeAny_builtin PySem.F.entry_max_loop ?_
  rw [Around.under_plainId PySem.F.plain_max_loop _]
  show wpAny _ Ar.in1 (seqItems? (.ref B) >>= _) _ _ t
  refine wpAny_bind (wpAny_seqItems eB rfl ?_)
  show wpAny _ Ar.in1 (tryCatch (pyNext (.ref It)) _ >>= _) _ _ t
  rcases Nat.eq_zero_or_pos mm with h0 | h0
  · refine wpAny_bind (wpAny_tryCatch (Wk.done t _ _ (h0 ▸ sg) fun h' tk kp => ?_))
    show wpAny _ Ar.in1 (rule _ >>= _) _ _ _
    refine wpAny_bind (wpAny_rule (wpAny_pure ?_))
    exact f0 h0 h' tk fun b o h1 _ h3 => kp b o h1 h3
  · refine wpAny_bind (wpAny_tryCatch (Wk.item 0 t _ _ h0 sg fun v h' tk pv sg' kp => ?_))
    have eB' := kp B _ nW eB
    show wpAny _ Ar.in1 (updateSeq B (fun _ => #[v, v]) >>= _) _ _ _
    refine wpAny_bind ?_
    refine wpAny_updateSeq eB' rfl ?_
    rw [nm]
    refine wpAny_pure ⟨plainId_quiet PySem.F.plain_max_loop _, mxd_loop Wk g cmp B nB _ _ 0 _ v _ rfl h0 (Wk.frame _ _ _ sg' fun b hb o e => ?_) pv (Heap.get?_update_self _ eB' rfl) fun z h2 tk2 hz kp2 => ?_⟩
    · exact (Heap.get?_update_other _ _ (fun h : B = b => nB (by rw [h]; exact hb))).trans e
    · exact fin h0 z h2 tk2 hz fun b o h1 h2 h3 => kp2 b o h1 h2 ((Heap.get?_update_other _ _ (Ne.symm h2)).trans (kp b o h1 h3))
end
section
variable {pg : Program} {wo : World} {Ar : Around} {Ex : Value → Shared → Prop} {t : Shared} {l : Addr}
theorem call_tree_kw {id : String} {b : Builtin} {xs : List Value} {kw : List (Str × Value)} {Q : Value → Shared → Prop} (hk : builtinKind id = none) (hp : plainId id = true) (hb : entryFor table id = some b) (ha : argsOk id ⟨xs, kw⟩)
    (hc : wpAny (model pg wo) Ar.in1 (b ⟨xs, kw⟩) (fun z q => match z with
      | .done y => (match (Except.ok y : Result) with | .ok (.ret v) => Q v q | .ok _ => False | .error x => Ex x q)
      | .again c => c.quiet = true ∧ codeAny (model pg wo) Ar c (fun r q => match r with | .ok (.ret v) => Q v q | .ok _ => False | .error x => Ex x q) q) Ex t) :
    wpAny (model pg wo) Ar (call (.builtin id) xs kw) Q Ex t := by
  refine wpAny_call (codeAny_call_builtin hp hb ?_)
  simp only [checkBuiltinCall, hk]
  cases hsg : Manifest.signature? id with
  | none => exact wpAny_pure hc
  | some sg =>
    simp only [argsOk, hsg] at ha
    have h2 : Bind.checkArgs id sg ⟨xs, kw⟩ = pure () := ha
    show wpAny _ _ (Bind.checkArgs id sg ⟨xs, kw⟩) _ _ t
    rw [h2]
    exact wpAny_pure hc
theorem args_maxd (a b : Value) : argsOk "max" ⟨[a], [(Str.ofString "default", b)]⟩ := by unfold argsOk; kernel_rfl
theorem mxd_ints {xs : Array (Int × Tok)} {dv : Value} {Q : Value → Shared → Prop} (hh : Ar.handled = none) (hl : t.heap.IsList l (intItems xs))
    (h0 : xs.size = 0 → ∀ h' tk, (∀ b o, t.heap.get? b = some o → h'.get? b = some o) → Q dv { t with heap := h', toks := tk })
    (h : 0 < xs.size → ∀ v h' tk, (intItems xs)[argBest (fun i j => decide (numAt xs i > numAt xs j)) (xs.size - 1)]? = some v → (∀ b o, t.heap.get? b = some o → h'.get? b = some o) → Q v { t with heap := h', toks := tk }) :
    wpAny (model pg wo) Ar (call (.builtin "max") [.ref l] [(Str.ofString "default", dv)]) Q Ex t := by
  have nm : (toString "max" ++ toString ".loop" : String) = "max.loop" := by decide
  refine call_tree_kw PySem.F.kind_max PySem.F.plain_max PySem.F.entry_max (args_maxd _ _) ?_
  show wpAny _ Ar.in1 (Builtin.Builtins.bindParams "max" ["key", "default"] 0 ⟨[], [(Str.ofString "default", dv)]⟩ >>= _) _ _ t
  refine wpAny_bind (wpAny_of_eq (show Builtin.Builtins.bindParams "max" ["key", "default"] 0 ⟨[], [(Str.ofString "default", dv)]⟩ = pure [none, some dv] from rfl) ?_)
  refine wpAny_bind (wpAny_pure ?_)
  refine wpAny_bind (iter_intList hl fun s₂ e st hfp hlI => ?_)
  subst e
  refine wpAny_bind (wpAny_newObj_type ?_)
  have Wk := Walks.list (prog := pg) (w := wo) (A := Ar.in1) hh _ l hlI (intItems xs)
  rw [nm]
  refine wpAny_pure ⟨plainId_quiet PySem.F.plain_max_loop _, mxd_first Wk _ (CmpOf.ints_gt (numAt xs) (fun _ _ => intItems_at)) _ (fun hm => Nat.lt_irrefl _ (hfp _ hm)) _ dv (Wk.frame _ _ _ st fun b _ o e => Heap.get?_push_of_some _ e) (Heap.get?_push_size _ rfl) (fun z h' tk hk => ?_) fun z v h' tk hP hk => ?_⟩
  · exact h0 (by simpa [intItems] using z) h' tk (old_kept fun b o hb e => hk b o hb (Nat.ne_of_lt (Heap.lt_size e)) (Heap.get?_push_of_some _ e))
  · exact h (by simpa [intItems] using z) v h' tk (by simpa [intItems] using hP) (old_kept fun b o hb e => hk b o hb (Nat.ne_of_lt (Heap.lt_size e)) (Heap.get?_push_of_some _ e))
end
/-- the greatest of them, or else d -/
def rMaxDf (K : PySem.W.Frag) : List V → List V → Hp → VK → Prop := fun vs zs H Q => ∃ (a : Addr) (ns : List Int) (d : Int), vs = [V.ref a] ∧ zs = [V.int d] ∧ SqL K H a (ns.map V.int) ∧ (ns = [] → Q (.int d) H) ∧ ∀ m, m ∈ ns → (∀ y, y ∈ ns → y ≤ m) → Q (.int m) H
theorem cr_maxDf {X : Cx} (hc : X.calm = true) : CallRK X (.builtin "max") [Str.ofString "default"] (rMaxDf X.K) := by
  intro pins s σ H vs zs us ws Q I r rz h
  obtain ⟨a, ns, d, rfl, rfl, hs, q0, q⟩ := h
  obtain ⟨its, rv, hl, _⟩ := I.list hs
  obtain rfl := Vals.ref1 r
  obtain ⟨w1, rfl, e1⟩ := vals1 rz
  obtain ⟨t1, rfl⟩ : ∃ t, w1 = Value.int d t := e1
  have hi := rv.ints
  obtain ⟨xs, e⟩ := hi.allInts.items
  have hn : numsOf (intItems xs).toList = ns := by rw [← e]; exact hi.numsOf
  rw [nums_intItems] at hn
  subst hn
  have hl := hl.isList
  rw [e] at hl
  refine mxd_ints (I.ok.hd hc) hl (fun z h' tk hk => ?_) fun z v h' tk hv hk => ?_
  · exact ⟨.int _, H, I.kept hk, ⟨_, rfl⟩, q0 (by rw [List.map_eq_nil_iff]; exact List.eq_nil_of_length_eq_zero (by simpa using z))⟩
  · obtain ⟨t, rfl⟩ := intItems_at hv
    obtain ⟨h1, h2⟩ := argBest_gt (numAt xs) (xs.size - 1)
    refine ⟨.int _, H, I.kept hk, ⟨_, rfl⟩, q _ ?_ fun a ha => ?_⟩
    · rw [numAt_eq]; exact PySem.getD_mem (by rw [List.length_map, Array.length_toList]; omega)
    · obtain ⟨j, hj, rfl⟩ := mem_getD ha
      rw [List.length_map, Array.length_toList] at hj
      rw [← numAt_eq]; exact h2 j (by omega)
/-- max(l, default=d) -/
def wMaxDf (wa : EW) (d : Int) : EW := fun kx s k => wa kx s fun x s1 => ∃ ns : List Int, dat s1 x = some (.list (ns.map PyData.int)) ∧ (ns = [] → k (.d (.int d)) s1) ∧ ∀ m, m ∈ ns → (∀ y, y ∈ ns → y ≤ m) → k (.d (.int m)) s1
end PW

namespace PW
open PySem L2
/-! ### branches by plain propositions -/
theorem br_p {P A B : Prop} [Decidable P] (a : P → A) (b : ¬ P → B) : (decide P = true → A) ∧ (decide P = false → B) := ⟨fun z => a (of_decide_eq_true z), fun z => b (of_decide_eq_false z)⟩
theorem br_eqI {i j : Int} {A B : Prop} (a : i = j → A) (b : i ≠ j → B) : (PyData.eqv (.int i) (.int j) = true → A) ∧ (PyData.eqv (.int i) (.int j) = false → B) := by
  have e : PyData.eqv (.int i) (.int j) = decide (i = j) := rfl
  rw [e]
  exact br_p a b
theorem br_neI {i j : Int} {A B : Prop} (a : i ≠ j → A) (b : i = j → B) : ((!PyData.eqv (.int i) (.int j)) = true → A) ∧ ((!PyData.eqv (.int i) (.int j)) = false → B) := by
  have e : PyData.eqv (.int i) (.int j) = decide (i = j) := rfl
  rw [e]
  by_cases h : i = j
  · rw [decide_eq_true h]; exact ⟨(fun z => nomatch z), fun _ => b h⟩
  · rw [decide_eq_false h]; exact ⟨fun _ => a h, (fun z => nomatch z)⟩
theorem br_b {c : Bool} {A B : Prop} (a : c = true → A) (b : c = false → B) : (c = true → A) ∧ (c = false → B) := ⟨a, b⟩
section
variable {X : Cx} {W : WX} {a : Expr} {wa : EW} {pos : Pos}
/-- x is True, of a bool -/
theorem e_isT {j : Nat} {pos' : Pos} (ha : PE X a (tE X.K W wa)) : PE X (.Compare a [.Is] [.Constant (.bool true) j pos'] pos) (tE X.K W (wIsT wa)) := by
  refine PE.imp (pe_cmpR op_isBl ha pe_bl rfl) fun σ H Q ⟨H0, F0, A0, s, T, kx, k, w, xl, h, q⟩ => un_of w xl h fun x s1 u H1 h1 w1 => ?_
  obtain ⟨b, rfl, hk⟩ := h1
  obtain ⟨F, A, w1⟩ := w1
  cases dp_bl (dq_dp (w1.tm _ List.mem_cons_self))
  refine ⟨b, true, rfl, rfl, ?_⟩
  rw [show decide (b = true) = b by cases b <;> rfl]
  exact q _ _ hk _ H1 ⟨F, A, (w1.sub fun t h => List.mem_cons_of_mem _ h).push (.bl _)⟩
theorem t_isT {j : Nat} {pos' : Pos} (ha : PE X a (tE X.K W wa)) : PT X (.Compare a [.Is] [.Constant (.bool true) j pos'] pos) (tT X.K W (wB (wIsT wa))) := by
  refine PT.imp (pt_cmpR op_isBl ha pe_bl rfl) fun σ H Q ⟨H0, F0, A0, s, T, kx, k, w, xl, h, q⟩ => un_of w xl h fun x s1 u H1 h1 w1 => ?_
  obtain ⟨b, rfl, c, e, hk⟩ := h1
  obtain ⟨F, A, w1⟩ := w1
  cases dp_bl (dq_dp (w1.tm _ List.mem_cons_self))
  injection e with e
  injection e with e
  subst e
  refine ⟨b, true, rfl, rfl, b, by rw [show decide (b = true) = b by cases b <;> rfl], q _ _ hk H1 ⟨F, A, w1.sub fun t h => List.mem_cons_of_mem _ h⟩⟩
end
/-- int(x) of a text of figures -/
def wIntS (wa : EW) : EW := fun kx s k => wa kx s fun x s1 => ∃ z n, x = .d (.str z) ∧ PySem.intText? z = some n ∧ z.length ≤ 640 ∧ k (.d (.int n)) s1
section
variable {X : Cx} {W : WX} {a : Expr} {wa : EW} {pos p : Pos}
theorem e_intS (hm : X.mg "int" = none) (ha : PE X a (tE X.K W wa)) (hg : Gl X "int" := by rfl) (he : starEach [a] X.env = (false, eval a X.env) :: starEach [] X.env := by rfl) (hpl : (backTo pos (starEach [] X.env)).any (·.1) = false := by rfl) :
    PE X (.Call (.Name "int" p) [a] [] pos) (tE X.K W (wIntS wa)) := by
  refine PE.imp (pe_callTy call_int_str hg hm (by decide +kernel) (pa_cons ha pa_nil he) (he := he) (hpl := hpl)) fun σ H Q ⟨H0, F0, A0, s, T, kx, k, w, xl, h, q⟩ => cb1_of w xl h fun x s1 u H1 h1 w1 => ?_
  obtain ⟨F, A, w1⟩ := w1
  have w2 := w1.sub (T' := T) fun t h => List.mem_cons_of_mem _ h
  obtain ⟨z, n, rfl, e, hl, hk⟩ := h1
  cases dp_str (dq_dp (w1.tm _ List.mem_cons_self))
  exact ⟨z, n, rfl, e, hl, q _ _ hk _ H1 ⟨F, A, w2.push (.int _)⟩⟩
theorem e_maxDf {d : Int} {j : Nat} {p1 p2 : Pos} (hc : X.calm = true) (hm : X.mg "max" = none) (ha : PE X a (tE X.K W wa)) (hg : Gl X "max" := by rfl)
    (he2 : starEach [a] X.env = (false, eval a X.env) :: starEach [] X.env := by rfl) (he : backTo pos (starEach [a] X.env) = (false, eval a X.env) :: backTo pos (starEach [] X.env) := by rfl) (hpl : (backTo pos (starEach [a] X.env)).any (·.1) = false := by rfl)
    (hall : (backToKw pos (keywordEach [⟨some "default", .Constant (.int d) j p1, p2⟩] X.env)).all (·.1.isSome) = true := by rfl) (hnone : (backToKw pos (keywordEach [⟨some "default", .Constant (.int d) j p1, p2⟩] X.env)).any (·.1.isNone) = false := by rfl)
    (hks : (backToKw pos (keywordEach [⟨some "default", .Constant (.int d) j p1, p2⟩] X.env)).filterMap (·.1) = [Str.ofString "default"] := by rfl) :
    PE X (.Call (.Name "max" p) [a] [⟨some "default", .Constant (.int d) j p1, p2⟩] pos) (tE X.K W (wMaxDf wa d)) := by
  refine PE.imp (pe_callBK (cr_maxDf hc) hg hm (by decide +kernel) (pa_cons ha pa_nil he2) (pk_cons pe_int pk_nil) (he := he) (hpl := hpl) (hall := hall) (hnone := hnone) (hks := hks)) fun σ H Q ⟨H0, F0, A0, s, T, kx, k, w, xl, h, q⟩ => un_of w xl h fun x s1 u H1 h1 w1 => ?_
  obtain ⟨ns, hd, h0, hk⟩ := h1
  obtain ⟨F, A, w1⟩ := w1
  obtain ⟨pp, vs, rfl, i1, i2⟩ := items_ok w1 (w1.tm _ List.mem_cons_self) hd
  cases dqAll_ints i2
  exact ⟨pp, ns, d, rfl, rfl, i1, fun z => q _ _ (h0 z) _ _ ⟨F, A, (w1.sub (T' := T) fun t h => List.mem_cons_of_mem _ h).push (.int _)⟩, fun m e1 e2 => q _ _ (hk m e1 e2) _ _ ⟨F, A, (w1.sub (T' := T) fun t h => List.mem_cons_of_mem _ h).push (.int _)⟩⟩
end
/-- a, b = l of a list -/
def gL (n : Nat) (gs : GWs) : GW := fun x s k => ∃ xs, x = .list xs ∧ xs.length = n ∧ gs xs s k
section
variable {X : Cx} {W : WX} {pos p : Pos}
theorem zip_okD {K : PySem.W.Frag} {F : Hp} {A : List Addr} : ∀ {vs : List V} {xs : List PyData}, DqAll K F vs xs → ∀ t ∈ (xs.map PV.d).zip vs, PVOk K F A t.1 t.2
  | _, _, .nil, t, m => nomatch m
  | _, _, .cons h r, t, m => by
    rcases List.mem_cons.mp m with e | m
    · rw [e]; exact h
    · exact zip_okD r t m
theorem g_lst {es : List Expr} {kk n : Nat} {gs : GWs} {L : List Nat} (hc : X.calm = true) (h : PGs X es (tGs X.K L gs)) (hn : (assignEach es X.env).length = n := by rfl) (hst : (assignEach es X.env).findIdx? (·.1) = none := by rfl) : PG X (.Tuple es kk pos) (tG X.K L (gL n gs)) := by
  refine PG.imp (pg_lst hc h hn hst) fun v σ H Q ⟨H0, F0, A0, s, T, x, k, w, m, ⟨xs, hx, hl, h⟩, q⟩ => ?_
  subst hx
  obtain ⟨F, A, w⟩ := w
  have pv : PVOk X.K F A (.d (.list xs)) v := w.tm _ m
  obtain ⟨p, vs, e1, h1, h2⟩ := items_ok w pv rfl
  refine ⟨p, vs, e1, h1, h2.len.trans hl, H0, F0, A0, s, (xs.map PV.d).zip vs ++ T, xs, k, ⟨F, A, w.tms fun t ht => ?_⟩, h2.len, fun t ht => List.mem_append_left _ ht, h, fun s' h' σ' H' l' w' => q s' h' σ' H' l' (w'.sub fun t ht => List.mem_append_right _ ht)⟩
  rcases List.mem_append.mp ht with z | z
  · exact zip_okD h2 t z
  · exact w.tm t z
end
end PW
namespace PW
open PySem L2 PySem.Spec PyProof.Rows
/-! ### defs with a default -/
structure DfdD (K : PySem.W.Frag) (mg : Str → Option Value) (x : Str) (ps : List Str) (st : Stmt) (dvs : List V) : Prop where
  ex : ∃ f fd ds, FunD K x x (defArgs st) (defBody st) (defScope st) dvs [] f fd ∧ mg x = some (.ref f) ∧ Binds K fd ps [] ∧ Binds K fd ps ds ∧ Vals dvs ds
/-- a def that may be called with its defaults left out -/
structure CalD (P : Program) (w : World) (K : PySem.W.Frag) (mg : Str → Option Value) (base : Heap) (k : Nat) (x : Str) (ps : List Str) (S : FS) (dvs : List V) : Prop where
  ex : ∃ f fd ds, FnOk P w K mg base (L2.CX P w) k f fd ps (spOf K S) ∧ mg x = some (.ref f) ∧ PySem.W.keepIn K (.ref f) = true ∧ Binds K fd ps [] ∧ Binds K fd ps ds ∧ Vals dvs ds
section
variable {P : Program} {w : World} {K : PySem.W.Frag} {mg : Str → Option Value} {base : Heap}
theorem CalD.cal {k : Nat} {x : Str} {ps : List Str} {S : FS} {dvs : List V} (C : CalD P w K mg base k x ps S dvs) : Cal P w K mg base k x ps S := by
  obtain ⟨f, fd, ds, F, m, kp, b, _⟩ := C.ex
  exact ⟨f, fd, F, m, kp, b⟩
theorem DfdD.calD {x : Str} {ps N : List Str} {st : Stmt} {k : Nat} {S : FS} {wb : SW} {dvs : List V} (D : DfdD K mg x ps st dvs) (Sc : FnScope N ps (defScope st)) (len : ∀ args o r e, S args o r e → args.length = ps.length)
    (body : ∀ (f : Addr) (cdv : Value) (A : Around) (outer : List Env) (s : Shared) (H : Hp) (E : XK), Room k (A.deeper (envOfC x (defScope st) s.heap.objs.size f cdv)) →
      PSs (cxOf (L2.CX P w) P w K mg base N x (defScope st) f cdv A outer s H E) (defBody st) (tS K (fun cls d _ H => E cls d H) wb))
    (pure : ∀ args o ret exc, S args o ret exc → wb (fun x s => exc x (cutL o.length s.o)) (pst0 args o N.length) (bodyE o.length ret)) : CalD P w K mg base (k + 1) x ps S dvs := by
  obtain ⟨f, fd, ds, F, m, b, b2, hv⟩ := D.ex
  exact ⟨f, fd, ds, F.ok Sc (fn_len len) fun cdv A outer s H vs Q E hr h => ⟨_, body f cdv A outer s H E hr, fn_core pure vs H Q E h⟩, m, F.kp, b, b2, hv⟩
theorem dfdD_mk {x : Str} {ps : List Str} {st : Stmt} {f T : Addr} {h : Heap} {oc cT : Value} {od an dT : Option Addr} {osl slT : Array (Option Value)} {kV doc pm cdv ct : Value} {its : List Value} {n : Nat} {dvs : List V} (X : K.In h) (G : h.Ns mainGlobals mg)
    (a : PySem.W.nsIn K mainGlobals x = some (some (.ref f))) (l : K.lookup f = some ⟨oc, od, .func (PySem.W.fnOf x x (defArgs st) (defBody st) (defScope st) (.ref T) kV doc pm an cdv ct), osl⟩) (c : PySem.W.codeIn K cdv x = true) (k : PySem.W.keepIn K (.ref f) = true)
    (lT : K.lookup T = some ⟨cT, dT, .seq its.toArray n, slT⟩) (hv : Vals dvs its) (hne : dvs ≠ [])
    (hb : ∀ (T : Addr) (kV doc pm : Value) (an : Option Addr) (cdv ct : Value) (us is : List Value), us.length = ps.length → is.length = dvs.length → ∃ kk, bindArgs (PySem.W.fnOf x x (defArgs st) (defBody st) (defScope st) (.ref T) kV doc pm an cdv ct) ⟨us, []⟩ = seqItems? (.ref T) >>= kk ∧ kk (some is.toArray) = pure (ps.zip us))
    (hb2 : ∀ (T : Addr) (kV doc pm : Value) (an : Option Addr) (cdv ct : Value) (us is : List Value), (us ++ is).length = ps.length → is.length = dvs.length → ∃ kk, bindArgs (PySem.W.fnOf x x (defArgs st) (defBody st) (defScope st) (.ref T) kV doc pm an cdv ct) ⟨us, []⟩ = seqItems? (.ref T) >>= kk ∧ kk (some is.toArray) = pure (ps.zip (us ++ is))) : DfdD K mg x ps st dvs := by
  refine ⟨f, _, its, ⟨⟨oc, od, .ref T, kV, doc, pm, an, cdv, ct, osl, rfl, l, c, .inr ⟨hne, T, _, its, n, rfl, lT, rfl, hv⟩, .inl rfl⟩, k⟩, PySem.W.mg_of X G a, fun s us Xs hl => ?_, fun s us Xs hl => ?_, hv⟩
  · rw [List.append_nil] at hl ⊢
    obtain ⟨kk, e1, e2⟩ := hb T kV doc pm an cdv ct us its hl hv.length.symm
    refine BindsTo.of_looks fun M => ?_
    rw [e1]
    exact looks_items Xs lT rfl (.of_pure e2)
  · obtain ⟨kk, e1, e2⟩ := hb2 T kV doc pm an cdv ct us its hl hv.length.symm
    refine BindsTo.of_looks fun M => ?_
    rw [e1]
    exact looks_items Xs lT rfl (.of_pure e2)
end
end PW

namespace PW
open PySem L2
/-! ### a def handed as a value, and called by a local name -/
section
variable {X : Cx} {W : WX} {k i : Nat} {ps : List Str} {x : Str} {p pos : Pos} {e : Expr} {es : List Expr} {ws : AW} {f : Addr} {fd : FuncData} {t : TA} {sp : Sp} {E : St → XK}
theorem pe_callLS (F : FnOk X.prog X.w X.K X.mg X.base (L2.CX X.prog X.w) k f fd ps sp) (hr : Room k X.A) (hN : X.N[i]? = some x) (hv : Vis X.env.scope x) (hk : PySem.W.keepIn X.K (.ref f) = true) (hb : Binds X.K fd ps [])
    (hx : ∀ σ, PassesAt (L2.CX X.prog X.w) X σ (E σ)) (ha : PA X (e :: es) t) (hdb : (x == ("__debug__" : Str)) = false) (hcd : (x == ("__classdict__" : Str)) = false)
    (he : starEach (e :: es) X.env = (false, eval e X.env) :: starEach es X.env) (hpl : (backTo pos (starEach es X.env)).any (·.1) = false) :
    PE X (.Call (.Name x p) (e :: es) [] pos) (fun σ H Q => σ[i]? = some (some (.ref f)) ∧ t σ H fun vs H1 => sp vs H1 Q (E σ)) := by
  refine ⟨fun pins s σ H Q I h => ?_⟩
  obtain ⟨hs, ht⟩ := h
  refine wpAny_Call_Name_kw (thn ((pe_var hN hv hdb hcd).run pins s σ H (fun v H1 => v = V.ref f ∧ H1 = H) I ⟨V.ref f, hs, rfl, rfl⟩) fun u s1 y => ?_)
  obtain ⟨v, H1, I1, r1, rfl, rfl⟩ := y
  cases r1
  exact PySem.W.callWith_K I.ok.mod.kin hk (thn (ha.run pos pins s1 σ H1 (fun vs H1 => sp vs H1 Q (E σ)) I1 ht) fun us s2 y => by
    obtain ⟨vs, H2, I2, r, q⟩ := y
    exact ⟨Inv.kIn I2, run_fnS F hr hb (hx σ) I2 r q⟩) he hpl
/-- a def of the top as a value -/
def wGl (u : V) : EW := fun _ s k => k (.gl u) s
theorem e_gl (hg : Gl X x) (hm : X.mg x = some (.ref f)) (hd : (x == ("__debug__" : Str)) = false := by decide) : PE X (.Name x pos) (tE X.K W (wGl (.ref f))) := by
  have h : PE X (.Name x pos) (tC (.ref f)) := pe_glob hg hm rfl hd
  refine PE.imp h fun σ H Q ⟨H0, F0, A0, s, T, kx, k, w, xl, hk, q⟩ => ?_
  obtain ⟨F, A, w⟩ := w
  exact q _ _ hk _ H ⟨F, A, w.push rfl⟩
/-- a call of what a local name holds -/
def wCallG (i : Nat) (S : Addr → FS → Prop) (ws : AW) : EW := fun kx s k => ∃ f sp, s.r[i]? = some (some (.gl (.ref f))) ∧ S f sp ∧ ws kx s fun vs s1 => prep vs s1 fun xs s2 => sp xs [] (fun r _ => match r with | .d z => k (.d z) s2 | .new zs => k (.own s2.o.length) ⟨s2.r, s2.o ++ [.dl zs]⟩) (fun x _ => kx x s2)
def CalA (P : Program) (w : World) (K : PySem.W.Frag) (mg : Str → Option Value) (base : Heap) (k : Nat) (f : Addr) (S : FS) : Prop := ∃ fd ps, FnOk P w K mg base (L2.CX P w) k f fd ps (spOf K S) ∧ PySem.W.keepIn K (.ref f) = true ∧ Binds K fd ps []
theorem e_callG {S : Addr → FS → Prop} (C : ∀ f sp, S f sp → ∃ j, j ≤ k ∧ CalA X.prog X.w X.K X.mg X.base j f sp) (tk : Takes X W) (hr : Room k X.A) (hN : X.N[i]? = some x) (hv : Vis X.env.scope x)
    (ha : PA X (e :: es) (tA X.K W ws)) (hdb : (x == ("__debug__" : Str)) = false := by decide) (hcd : (x == ("__classdict__" : Str)) = false := by decide) (he : starEach (e :: es) X.env = (false, eval e X.env) :: starEach es X.env := by rfl) (hpl : (backTo pos (starEach es X.env)).any (·.1) = false := by rfl) :
    PE X (.Call (.Name x p) (e :: es) [] pos) (tE X.K W (wCallG i S ws)) := by
  refine ⟨fun pins s0 σ H Q I h => ?_⟩
  obtain ⟨H0, F0, A0, s, T, kx, kk, w, xl, ⟨f, S', hf, hS', h⟩, q⟩ := h
  obtain ⟨j, hj, fd, ps, F, hk, hb⟩ := C f S' hS'
  have hσ : σ[i]? = some (some (.ref f)) := by
    obtain ⟨F1, A, w1⟩ := w
    obtain ⟨u, e2, p2⟩ := w1.pv i _ hf
    rw [e2]
    have : u = V.ref f := p2
    rw [this]
  refine (pe_callLS F (hr.mono hj) hN hv hk hb (fun σ => passAt tk σ) ha hdb hcd he hpl).run pins s0 σ H Q I ⟨hσ, ar_of w xl h fun vs s1 us H1 h1 e1 w1 => ?_⟩
  obtain ⟨xs, s2, hS, e2, pl, w2⟩ := prep_ok vs us s1 T _ e1 w1 h1
  obtain ⟨F1, A, w2⟩ := w2
  have w3 := w2.sub (T' := T) fun t h => List.mem_append_right _ h
  refine ⟨H1, F1, [], xs, [], _, _, ⟨F1, [], ?_⟩, rfl, hS, fun r o hr ho v H' ret => ?_, fun y o hx ho d H' w' => ?_⟩
  · refine ⟨⟨Same.refl _, w2.fz.g, Same.refl _, fun p _ h => h⟩, List.prefix_refl _, rfl, List.nodup_nil, (fun _ z => nomatch z), (fun n p c z => by simp at z), (by rw [List.length_map, List.length_map, e2]), (fun i v hv => ?_), (fun _ z => nomatch z)⟩
    obtain ⟨u, a, b⟩ := args_wd w2 xs us e2 pl (fun t h => List.mem_append_left _ h) i v hv
    exact ⟨u, a, b _⟩
  · cases List.eq_nil_of_length_eq_zero ho
    cases r with
    | d z =>
      obtain ⟨F', A', w'⟩ := ret
      have dz : Dq X.K F' v z := w'.tm (.d z, v) List.mem_cons_self
      exact q _ _ hr v H' ⟨F', A, (w3.after w'.fz).push dz⟩
    | new zs =>
      obtain ⟨F', A', w'⟩ := ret
      obtain ⟨qq, hq, rfl⟩ := w'.tm (.own 0, v) List.mem_cons_self
      have ad := w'.ad qq (List.mem_of_getElem? hq)
      have oc := w'.oc 0 qq (.dl zs) hq rfl
      have w4 := w3.after w'.fz
      have nin : qq ∉ A := fun hA => (w2.ad qq hA).2 ad.1
      refine q _ _ hr _ H' ⟨F', A ++ [qq], (w4.addL (c := .dl zs) nin (w3.fz.h.free ad.1) ad.2 oc).push ⟨qq, ?_, rfl⟩⟩
      rw [← w4.len, List.getElem?_append_right (Nat.le_refl _), Nat.sub_self]
      rfl
  · obtain ⟨F', A', w'⟩ := w'
    have px : PVOk X.K F' A (.xd y.fs) (dV d) := w'.tm (.xd y.fs, dV d) List.mem_cons_self
    exact xl y s2 hx σ H' d ⟨F', A, (w3.after w'.fz).push px⟩
end
theorem Cal.ca {P : Program} {w : World} {K : PySem.W.Frag} {mg : Str → Option Value} {base : Heap} {k : Nat} {x : Str} {ps : List Str} {S : FS} {f : Addr} (C : Cal P w K mg base k x ps S) (hm : mg x = some (.ref f)) : CalA P w K mg base k f S := by
  obtain ⟨g, fd, F, m, kp, b⟩ := C.ex
  rw [hm] at m
  cases m
  exact ⟨fd, ps, F, kp, b⟩
/-! ### a list that is data, or owned and lent -/
def Ld (o : List OC) (v : PV) (xs : List PyData) : Prop := match v with
  | .d x => x = .list xs
  | .own n => o[n]? = some (.dl xs)
  | _ => False
def srcOf (v : PV) (xs : List PyData) : SrcO := match v with
  | .own n => some (n, xs)
  | _ => none
def wLX (we : EW) : IW := fun kx s k => we kx s fun v s1 => ∃ xs, Ld s1.o v xs ∧ k xs (srcOf v xs) s1
section
variable {X : Cx} {W : WX} {tg e : Expr} {we : EW}
theorem i_listX (he : PE X e (tE X.K W we)) : PI X tg e (tI X.K W (wLX we)) := by
  refine PI.imp (pi_list he) fun σ H R ⟨H0, F0, A0, s, T, kx, k, w, xl, h, q⟩ => un_of w xl h fun v s1 u H1 h1 w1 => ?_
  obtain ⟨xs, hl, h1⟩ := h1
  cases v with
  | d x =>
    have hl : x = .list xs := hl
    subst hl
    obtain ⟨v', ys, s2, h2, hs, w2⟩ := lst_ok (k := fun xs s => k xs none s) w1 ⟨xs, rfl, h1⟩
    obtain ⟨F, A, w3⟩ := id w2
    obtain ⟨a, vs, rfl, h3, h4⟩ := lsrc_ok w3 hs List.mem_cons_self
    exact ⟨a, rfl, ⟨vs, h3⟩, q _ _ _ h2 _ [(v', .ref a)] H1 w2 (it_list hs)⟩
  | own n =>
    have ho : s1.o[n]? = some (.dl xs) := hl
    obtain ⟨F, A, w3⟩ := id w1
    obtain ⟨p, vs, hp, rfl, h3, h4⟩ := own_at w3 List.mem_cons_self ho
    exact ⟨p, rfl, ⟨vs, SqL.of h3⟩, q _ _ _ h1 _ [(.own n, .ref p)] H1 w1 it_own⟩
  | scr _ => exact hl.elim
  | tp _ => exact hl.elim
  | gl _ => exact hl.elim
  | exc _ => exact hl.elim
  | xd _ => exact hl.elim
  | dk _ => exact hl.elim
end
theorem Ld.src {o : List OC} {v : PV} {xs : List PyData} {r : List (Option PV)} (h : Ld o v xs) : Src (srcOf v xs) ⟨r, o⟩ := by
  cases v with
  | own n => exact h
  | _ => trivial
theorem Ld.ty {o : List OC} {v : PV} {xs : List PyData} {r : List (Option PV)} (h : Ld o v xs) : tyPV ⟨r, o⟩ v = some "list" := by
  cases v with
  | d x => have h : x = .list xs := h; subst h; rfl
  | own n =>
    have h : o[n]? = some (.dl xs) := h
    unfold tyPV
    simp only [h]
    rfl
  | _ => exact h.elim
theorem Ld.app {o q : List OC} {v : PV} {xs : List PyData} (h : Ld o v xs) : Ld (o ++ q) v xs := by
  cases v with
  | d x => exact h
  | own n =>
    have h : o[n]? = some (.dl xs) := h
    show (o ++ q)[n]? = _
    rw [List.getElem?_append_left (List.getElem?_eq_some_iff.mp h).1, h]
  | _ => exact h.elim
end PW

namespace PW
open PySem PySem.Spec PyProof.Rows L2
section
variable {X : Cx} {o e : Expr} {es : List Expr} {to te : TE} {ta : TA} {f x : Str} {p p' p1 p2 pos : Pos} {C0 : Addr} {mc : Value}
/-- Base.__init__(self, ..), Base an own class that has ValueError's -/
theorem pe_meinit {pl : Sem Bool} (hg : Gl X x) (hm : X.mg x = some (.ref C0)) (hr : PySem.W.readsIn X.K C0 mc = true) (hs : PySem.W.specialIn X.K (.ref C0) "__getattribute__" = some (some (.builtin "type.__getattribute__")))
    (vV : PySem.W.findCls X.K (.ref C0) mc "__init__" = some (.val (.builtin "ValueError.__init__"))) (ha : PA X (e :: es) ta) (hdb : (x == ("__debug__" : Str)) = false := by decide)
    (hc : eval (.Call (.Attribute (.Name x p1) "__init__" p2) (e :: es) [] pos) X.env = (do
      let ov ← eval (.Name x p1) X.env
      standAt p2.atName
      let (f, first) ← holding [ov] (getMethod ov "__init__" pl)
      callWith pos f first (backTo pos (starEach (e :: es) X.env)) (backToKw pos (keywordEach [] X.env))) := by rfl)
    (he : starEach (e :: es) X.env = (false, eval e X.env) :: starEach es X.env := by rfl) (hpl : (backTo pos (starEach es X.env)).any (·.1) = false := by rfl) :
    PE X (.Call (.Attribute (.Name x p1) "__init__" p2) (e :: es) [] pos) (tVeI X.K ta) := by
  refine ⟨fun pins s σ H Q I h => ?_⟩
  refine PySem.W.methodCall_KW (ld_glob I hg hm ?_ hdb) hc
  obtain ⟨m, fr⟩ := I.fr
  refine PySem.W.method_of_cls fr I.ok.mod.kin hs ?_
  refine PySem.W.cls_value I.kIn hr vV (by decide +kernel) ?_
  show wpAny _ _ (callWith pos (Value.builtin "ValueError.__init__") [] (backTo pos (starEach (e :: es) X.env)) []) _ _ _
  refine PyProof.Rows.callWith_method1 (thn (ha.run pos pins _ σ H _ (I.tok _) h) fun us s1 ⟨vs, H1, I1, r1, a, C, ws, ev, hl, T, ea, q⟩ => ?_) he hpl
  subst ev
  cases r1 with
  | @cons _ u0 _ ur ra rw' =>
    obtain rfl : u0 = Value.ref a := ra
    have hlen : ur.length ≤ sizeLine := by
      rw [← Paired.length rw', sizeLine_eq]
      omega
    exact oinit_ok T I1 ea hlen fun s' J => ⟨.non, H1, J, rfl, q⟩
/-- what C.__init__(self, one, other) does: two fields put at self -/
def spInit (K : PySem.W.Frag) (C : Addr) (g1 g2 : Str) : Sp := fun vs H Q _ => ∃ (a : Addr) (y1 y2 : V), vs = [.ref a, y1, y2] ∧ OexC K C ∧ PySem.W.findIn K (.ref C) g1 = some none ∧ PySem.W.findIn K (.ref C) g2 = some none ∧ H a = some (exo a C none) ∧
  ∀ dx, H dx = none → dx ≠ a → Q .non (upd (upd (upd H dx (exd dx [(g1, y1)])) a (exo a C (some dx))) dx (exd dx [(g2, y2), (g1, y1)]))
theorem init2_core {K : PySem.W.Frag} {C : Addr} {g1 g2 : Str} {N : List Str} (hN : N.length = 3) (vs : List V) (H : Hp) (Q : VK) (E : XK) (z : V) (h : spInit K C g1 g2 vs H Q E) :
    ∃ (a : Addr) (y1 y2 : V), L2.start N vs = [some (.ref a), some y1, some y2] ∧ OexC K C ∧ H a = some (exo a C none) ∧
      tOst K g1 (tVar 0) (tVar 1) { nx := fun σ H' => tOst K g2 (tVar 0) (tVar 2) { nx := fun _ H' => Q .non H', rt := Q } σ H', rt := Q } (L2.start N vs) H := by
  obtain ⟨a, y1, y2, rfl, T, n1, n2, e, q⟩ := h
  have st : L2.start N [V.ref a, y1, y2] = [some (.ref a), some y1, some y2] := by
    show [V.ref a, y1, y2].map some ++ List.replicate (N.length - 3) none = _
    rw [hN]
    rfl
  refine ⟨a, y1, y2, st, T, e, ?_⟩
  rw [st]
  refine ⟨y1, rfl, .ref a, rfl, a, C, rfl, T, n1, .inl ⟨e, fun dx hd ne => ?_⟩⟩
  refine ⟨y2, rfl, .ref a, rfl, a, C, rfl, T, n2, .inr ⟨dx, [(g1, y1)], upd_same, ?_, (by show 1 ≤ 900; omega), q dx hd ne⟩⟩
  rw [upd_ne ne]
  exact upd_same
end
section
variable {P : Program} {w : World} {K : PySem.W.Frag} {mg : Str → Option Value} {base : Heap}
/-- the readings of an __init__ of three rows -/
def tInit2 (K : PySem.W.Frag) (msg g1 g2 : Str) : TS := tSeq (tDrop (tVeI K (tCons (tVar 0) (tCons (tC (.str msg)) tNil)))) (tSeq (tOst K g1 (tVar 0) (tVar 1)) (tOst K g2 (tVar 0) (tVar 2)))
theorem init2_ok {x qual msg g1 g2 : Str} {st : Stmt} {f C : Addr} {fd : FuncData} {N ps : List Str} {k : Nat} (F : Fun K x qual st f fd) (Sc : FnScope N ps (defScope st)) (hN : N.length = 3) (hp : ps.length = 3)
    (body : ∀ (cdv : Value) (A : Around) (outer : List Env) (s : Shared) (H : Hp) (E : XK), PSs (cxOf (L2.CX P w) P w K mg base N qual (defScope st) f cdv A outer s H E) (defBody st) (tInit2 K msg g1 g2)) :
    FnOk P w K mg base (L2.CX P w) (k + 1) f fd ps (spInit K C g1 g2) :=
  F.okX Sc (fun vs H Q E ⟨a, y1, y2, e, _⟩ => by rw [e, hp]; rfl) fun cdv A outer s H vs Q E hr h => ⟨_, body cdv A outer s H E, by
    obtain ⟨a, y1, y2, st, T, e, q⟩ := init2_core hN vs H Q E .non h
    have st1 : (L2.start N vs)[0]? = some (some (.ref a)) := by rw [st]; rfl
    exact ⟨.ref a, st1, a, C, [.str msg], rfl, (by show 1 ≤ 1000; omega), T, e, q⟩⟩
end
/-- raise C(e, ..), C's __init__ putting two fields -/
def wRaiseI (C : Addr) (g1 g2 : Str) (ws : AW) : SW := fun kx s _ => ws kx s fun vs s1 => frzs vs s1 fun xs s2 => ∃ y1 y2, xs = [y1, y2] ∧ kx ⟨C, some [(g2, y2), (g1, y1)]⟩ s2
section
variable {X : Cx} {W : WX} {e : Expr} {es : List Expr} {ws : AW} {x : Str} {p pos pos' : Pos} {C fI : Addr} {fd : FuncData} {ps : List Str} {k : Nat} {g1 g2 : Str}
theorem upd_two {H : Hp} {a d : Addr} {o1 o2 u u' v : HO} (hn : H a = none) (hd : d ≠ a) : upd (del (upd (upd (upd H a o1) d u) a o2 |> fun G => upd G d u') a) d v = upd H d v := by
  funext b
  unfold upd del
  by_cases h1 : b = d
  · simp [h1]
  · by_cases h2 : b = a
    · subst h2; simp [h1, hn]
    · simp [h1, h2]
theorem s_raiseI (hc : X.calm = true) (tk : Takes X W) (T : OexC X.K C) (n1 : PySem.W.findIn X.K (.ref C) g1 = some none) (n2 : PySem.W.findIn X.K (.ref C) g2 = some none)
    (iC : PySem.W.findIn X.K (.ref C) "__init__" = some (some (.ref fI))) (tI : PySem.W.typeIn X.K (.ref fI) = some (.type "function"))
    (F1 : FnOk X.prog X.w X.K X.mg X.base (L2.CX X.prog X.w) k fI fd ps (spInit X.K C g1 g2)) (hr : Room (k + 1) X.A) (hb : Binds X.K fd ps []) (hx : Passes (L2.CX X.prog X.w) X (fun _ _ _ => False)) (hg : Gl X x) (hm : X.mg x = some (.ref C)) (ha : PA X (e :: es) (tA X.K W ws))
    (hdb : (x == ("__debug__" : Str)) = false := by decide) (he : starEach (e :: es) X.env = (false, eval e X.env) :: starEach es X.env := by rfl) (hpl : (backTo pos (starEach es X.env)).any (·.1) = false := by rfl) :
    PS X (.Raise (some (.Call (.Name x p) (e :: es) [] pos)) none pos') (tS X.K W (wRaiseI C g1 g2 ws)) := by
  refine PS.imp (ps_raise hc tk (pmk_oex (dvs := []) (ds := []) T iC tI F1 hr hb .nil hx hg hm ha hdb he hpl)) fun D σ H ⟨H0, F0, A0, s, T1, kx, k, w, xl, h, q1, q2, q3, q4⟩ => ar_of w xl h fun vs s1 us H1 h1 e w1 => ?_
  obtain ⟨xs, s2, ⟨y1, y2, rfl, hk⟩, e2, w2⟩ := frzs_ok vs us s1 T1 _ e w1 h1
  obtain ⟨F, A, w2⟩ := w2
  have d := temps_dq _ us T1 e2 w2
  match us, e2, d, w2 with
  | [u1, u2], _, d, w2 =>
    refine ⟨by show 2 ≤ 1000; omega, fun a hn => ?_⟩
    refine ⟨a, u1, u2, rfl, T, n1, n2, upd_same, fun dx hd ne => ⟨rfl, dx, [(g2, u2), (g1, u1)], ?_, upd_same, ?_, ?_⟩⟩
    · rw [upd_ne (Ne.symm ne), upd_same]
    · rw [upd_ne ne] at hd; exact hd
    · have hd' : H1 dx = none := by rw [upd_ne ne] at hd; exact hd
      have w3 := (w2.newD (o := .xd [(g2, u2), (g1, u1)]) hd').sub (T' := T1) fun t h => List.mem_append_right _ h
      have hh := upd_two (H := H1) (a := a) (d := dx) (o1 := exo a C none) (o2 := exo a C (some dx)) (u := exd dx [(g1, u1)]) (u' := exd dx [(g2, u2), (g1, u1)]) (v := .xd [(g2, u2), (g1, u1)]) hn ne
      have hh2 : upd (del (upd (upd (upd (upd H1 a (exo a C none)) dx (exd dx [(g1, u1)])) a (exo a C (some dx))) dx (exd dx [(g2, u2), (g1, u1)])) a) dx (.xd [(g2, u2), (g1, u1)]) = upd H1 dx (.xd [(g2, u2), (g1, u1)]) := hh
      rw [hh2]
      cases d with | cons d1 dr => ?_
      cases dr with | cons d2 dn => ?_
      have fn := w2.fz.g.free hd'
      exact xl ⟨C, some [(g2, y2), (g1, y1)]⟩ s2 hk σ _ (some dx) ⟨_, A, w3.push ⟨some dx, rfl, dx, [(g2, u2), (g1, u1)], rfl, upd_same, rfl, dqAll_same (same_new fn) (.cons d2 (.cons d1 .nil))⟩⟩
end
/-! ### a field of a caught exception -/
theorem lookup_dq {K : PySem.W.Frag} {F : Hp} {f : Str} {y : PyData} : ∀ {vl : List (Str × V)} {l : List (Str × PyData)}, vl.map (·.1) = l.map (·.1) → DqAll K F (vl.map (·.2)) (l.map (·.2)) → l.lookup f = some y → ∃ v, vl.lookup f = some v ∧ Dq K F v y
  | [], [], _, _, h => nomatch h
  | (a, v) :: vl, (b, x) :: l, e, d, h => by
    cases d with | cons d1 dr => ?_
    have e1 : a = b := (List.cons.inj e).1
    subst e1
    rw [List.lookup_cons] at h ⊢
    by_cases hf : (f == a) = true
    · rw [hf] at h ⊢
      cases h
      exact ⟨v, rfl, d1⟩
    · have hf : (f == a) = false := by simpa using hf
      rw [hf] at h ⊢
      exact lookup_dq (List.cons.inj e).2 dr h
  | [], _ :: _, e, _, _ => nomatch e
  | _ :: _, [], e, _, _ => nomatch e
def wXf (C : Addr) (f : Str) (we : EW) : EW := fun kx s k => we kx s fun x s1 => ∃ y l d, x = .exc y ∧ y.C = C ∧ y.fs = some l ∧ l.lookup f = some d ∧ k (.d d) s1
section
variable {X : Cx} {W : WX} {e : Expr} {we : EW} {pos : Pos} {C : Addr} {f : Str}
theorem e_xf (T : XfC X.K C) (hno : PySem.W.findIn X.K (.ref C) f = some none) (he : PE X e (tE X.K W we)) (hb : attributeBase e f X.env (eval e X.env) = eval e X.env := by rfl) : PE X (.Attribute e f pos) (tE X.K W (wXf C f we)) := by
  refine PE.imp (pe_xfT he hb) fun σ H Q ⟨H0, F0, A0, s, T1, kx, k, w, xl, h, q⟩ => un_of w xl h fun x s1 u H1 h1 w1 => ?_
  obtain ⟨y, l, d, rfl, hC, hl, hd, hk⟩ := h1
  subst hC
  obtain ⟨F, A, w1⟩ := w1
  obtain ⟨a, oe, dd, rfl, hx, hz, hf, hxd⟩ := (show PVOk X.K F A (.exc y) u from w1.tm _ List.mem_cons_self)
  rw [hl] at hxd
  obtain ⟨d2, vl, rfl, h2, h3, h4⟩ := hxd
  obtain ⟨v, hv, dv⟩ := lookup_dq h3 h4 hd
  exact ⟨a, y.C, oe, d2, vl, v, rfl, ⟨w1.fz.g _ _ hx, hz, hf, .inr ⟨d2, vl, rfl, w1.fz.g _ _ h2⟩⟩, T, hno, w1.fz.g _ _ h2, hv, q _ _ hk _ H1 ⟨F, A, (w1.sub fun t h => List.mem_cons_of_mem _ h).push (v := .d d) dv⟩⟩
end
end PW
namespace PW
open PySem PySem.Spec PyProof.Rows L2
/-! ### an own exception class with an __init__ of two fields -/
structure CalI (P : Program) (w : World) (K : PySem.W.Frag) (mg : Str → Option Value) (base : Heap) (k : Nat) (x : Str) (C : Addr) (g1 g2 : Str) : Prop where
  ex : ∃ fI fd ps, OexC K C ∧ PySem.W.findIn K (.ref C) g1 = some none ∧ PySem.W.findIn K (.ref C) g2 = some none ∧ PySem.W.findIn K (.ref C) "__init__" = some (some (.ref fI)) ∧ PySem.W.typeIn K (.ref fI) = some (.type "function") ∧
    FnOk P w K mg base (L2.CX P w) k fI fd ps (spInit K C g1 g2) ∧ Binds K fd ps [] ∧ mg x = some (.ref C)
structure DfdI (K : PySem.W.Frag) (mg : Str → Option Value) (x qual : Str) (C : Addr) (g1 g2 : Str) (ps : List Str) (st : Stmt) : Prop where
  ex : ∃ fI fd, Fun K "__init__" qual st fI fd ∧ OexC K C ∧ PySem.W.findIn K (.ref C) g1 = some none ∧ PySem.W.findIn K (.ref C) g2 = some none ∧ PySem.W.findIn K (.ref C) "__init__" = some (some (.ref fI)) ∧ PySem.W.typeIn K (.ref fI) = some (.type "function") ∧
    Binds K fd ps [] ∧ mg x = some (.ref C)
theorem DfdI.cal {P : Program} {w : World} {K : PySem.W.Frag} {mg : Str → Option Value} {base : Heap} {x qual msg g1 g2 : Str} {C : Addr} {st : Stmt} {N ps : List Str} (D : DfdI K mg x qual C g1 g2 ps st) (Sc : FnScope N ps (defScope st)) (hN : N.length = 3) (hp : ps.length = 3)
    (body : ∀ (f : Addr) (cdv : Value) (A : Around) (outer : List Env) (s : Shared) (H : Hp) (E : XK), PSs (cxOf (L2.CX P w) P w K mg base N qual (defScope st) f cdv A outer s H E) (defBody st) (tInit2 K msg g1 g2)) : CalI P w K mg base 1 x C g1 g2 := by
  obtain ⟨fI, fd, F, T, n1, n2, i, t, b, m⟩ := D.ex
  exact ⟨fI, fd, ps, T, n1, n2, i, t, init2_ok (k := 0) F Sc hN hp (body fI), b, m⟩
section
variable {X : Cx} {W : WX} {k j : Nat} {e : Expr} {es : List Expr} {ws : AW} {x : Str} {p pos pos' : Pos} {C : Addr} {g1 g2 : Str}
theorem c_raiseI (c : CalI X.prog X.w X.K X.mg X.base k x C g1 g2) (hc : X.calm = true) (tk : Takes X W) (hr : Room j X.A) (ha : PA X (e :: es) (tA X.K W ws)) (hk : k + 1 ≤ j := by decide) (hg : Gl X x := by rfl)
    (hdb : (x == ("__debug__" : Str)) = false := by decide) (he : starEach (e :: es) X.env = (false, eval e X.env) :: starEach es X.env := by rfl) (hpl : (backTo pos (starEach es X.env)).any (·.1) = false := by rfl) :
    PS X (.Raise (some (.Call (.Name x p) (e :: es) [] pos)) none pos') (tS X.K W (wRaiseI C g1 g2 ws)) := by
  obtain ⟨fI, fd, ps, T, n1, n2, i, t, F, b, m⟩ := c.ex
  exact s_raiseI hc tk T n1 n2 i t F (hr.mono hk) b passL hg m ha hdb he hpl
end
/-- an own class that has ValueError's __init__ -/
structure BaseI (K : PySem.W.Frag) (mg : Str → Option Value) (x : Str) (C : Addr) : Prop where
  g : mg x = some (.ref C)
  r : PySem.W.readsIn K C (.type "type") = true
  s : PySem.W.specialIn K (.ref C) "__getattribute__" = some (some (.builtin "type.__getattribute__"))
  v : PySem.W.findCls K (.ref C) (.type "type") "__init__" = some (.val (.builtin "ValueError.__init__"))
def clsBody : Stmt → List Stmt
  | .ClassDef _ _ _ b _ _ _ _ _ _ _ => b
  | _ => []
abbrev iniS (st : Stmt) : Stmt := (clsBody st).getD 0 (.Pass ⟨0, 0, 0, 0⟩)
end PW

/-! sorted(l), l a list of tuples that begin with whole numbers, all of them unlike -/
namespace PSF
open PySem PySem.Spec PyProof.Rows SrtO
/-- a tuple that begins with the int k -/
def IsFst (h : Heap) (v : Value) (k : Int) : Prop := ∃ (a : Addr) (o : Obj) (t : Tok) (xs : List Value) (n : Nat), v = .ref a ∧ h.get? a = some o ∧ o.cls = .type "tuple" ∧ o.data = .seq (Value.int k t :: xs).toArray n
theorem IsFst.keeps {h h' : Heap} {v : Value} {k : Int} (x : IsFst h v k) (q : ∀ b o, h.get? b = some o → o.cls = .type "tuple" → h'.get? b = some o) : IsFst h' v k := by
  obtain ⟨a, o, t, xs, n, e, ho, hc, hd⟩ := x
  exact ⟨a, o, t, xs, n, e, q _ _ ho hc, hc, hd⟩
theorem swo_key (k : Value → Int) : Swo fun v u => decide (k v < k u) := by
  refine ⟨fun x y h => ?_, fun x y z h1 h2 => ?_⟩
  · have a := of_decide_eq_true h
    exact decide_eq_false (by omega)
  · have a := of_decide_eq_false h1
    have b := of_decide_eq_false h2
    exact decide_eq_false (by omega)
section
variable {prog : Program} {w : World} {A : Around} {E : Value → Shared → Prop} {s : Shared}
theorem lex_self {b fin : Bool} {Q : Bool → Shared → Prop} (hq : Q fin s) : ∀ (xs : List Value) (i : Nat), PySem.W.KatLex prog w A b fin Q (xs.zip xs) i s
  | [], i => PySem.W.kat_nil hq
  | x :: xs, i => PySem.W.kat_cons (SeqAt.EqAt.same x prog w _ _ (PySem.W.kat_yes (lex_self hq xs (i + 1))))
theorem fst_cmp {vs : List Value} {k : Value → Int} (hp : ∀ v ∈ vs, IsFst s.heap v (k v)) (hu : ∀ v ∈ vs, ∀ u ∈ vs, k v = k u → v = u) : Cmp prog w A s (tuples' true) (fun p => p.1 ∈ vs) (lt2 fun v u => decide (k v < k u)) := by
  intro p q hm hm'
  have h1 := hp _ hm
  have h2 := hp _ hm'
  have h3 := hu _ hm _ hm'
  show wpAny (model prog w) A (keyLt' (tuples' true) p.1 q.1) (fun r s' => s' = s ∧ r = decide (k p.1 < k q.1)) (fun _ _ => False) s
  by_cases e : k p.1 = k q.1
  · have e4 : decide (k p.1 < k q.1) = false := decide_eq_false (by omega)
    rw [e4, h3 e]
    obtain ⟨a', o', t', xs', n', e', ho', hc', hd'⟩ := h2
    rw [e']
    refine PySem.W.kat_lt ho' hd' ho' hd' ?_
    have e5 : decide ((Value.int (k q.1) t' :: xs').toArray.size < (Value.int (k q.1) t' :: xs').toArray.size) = false := decide_eq_false (Nat.lt_irrefl _)
    rw [e5]
    exact lex_self ⟨rfl, rfl⟩ _ 0
  · generalize k p.1 = x at h1 e ⊢
    generalize k q.1 = x' at h2 e ⊢
    obtain ⟨a, o, t, xs, n, e1, ho, hc, hd⟩ := h1
    obtain ⟨a', o', t', xs', n', e', ho', hc', hd'⟩ := h2
    rw [e1, e']
    refine PySem.W.kat_lt ho hd ho' hd' ?_
    show PySem.W.KatLex prog w A true _ _ ((.int x t, .int x' t') :: xs.zip xs') 0 s
    refine PySem.W.kat_cons (SeqAt.EqAt.int_int x t x' t' prog w _ _ ?_)
    refine PySem.W.kat_go (fun e1 => ?_) (fun e1 => ?_)
    · exact absurd (by simpa using e1) e
    · exact PySem.W.kat_no (oneLt_int ⟨rfl, rfl⟩)
theorem firsts {h : Heap} {k : Value → Int} : ∀ {vs : List Value}, (∀ v ∈ vs, IsFst h v (k v)) → ∃ fs, PySem.W.KatTups h vs fs ∧ fs.length = vs.length ∧ ∀ f, f ∈ fs → ∃ n t, f = Value.int n t
  | [], _ => ⟨[], PySem.W.KatTups.nil, rfl, fun f hf => by simp at hf⟩
  | v :: vs, x => by
    obtain ⟨fs, q, hl, hi⟩ := firsts fun u hu => x u (List.mem_cons_of_mem _ hu)
    obtain ⟨a, o, t, xs, n, e, ho, hc, hd⟩ := x v List.mem_cons_self
    rw [e]
    refine ⟨.int (k v) t :: fs, PySem.W.KatTups.cons ho hc hd (by simp) q, by simp [hl], fun f hf => ?_⟩
    rcases List.mem_cons.mp hf with rfl | hf
    · exact ⟨_, t, rfl⟩
    · exact hi f hf
theorem fst_sortable {a : Addr} {vs : List Value} {k : Value → Int} (h0 : 0 < vs.length) (hp : ∀ v ∈ vs, IsFst s.heap v (k v)) (hu : ∀ v ∈ vs, ∀ u ∈ vs, k v = k u → v = u) (ha : ∀ o, s.heap.get? a = some o → o.cls ≠ .type "tuple") : SortableO prog w A s a vs fun v u => decide (k v < k u) := by
  intro h' keep
  have hp' : ∀ v ∈ vs, IsFst h' v (k v) := fun v hm => (hp v hm).keeps fun b o e c => keep b o (fun z => by subst z; exact ha o e c) e
  obtain ⟨fs, h1, h2, h3⟩ := firsts hp'
  refine ⟨tuples' true, fun Q E hq => ?_, fst_cmp hp' hu⟩
  refine PySem.W.kat_kind (T := .type "int") h1 (by omega) (fun f hm => ?_) (by rfl) ?_
  · obtain ⟨x, t, rfl⟩ := h3 f hm
    exact PySem.W.Looks.now
  · have e : (Value.type "int" != Value.type "tuple") = true := by first | decide +kernel | rfl | decide
    rw [e]
    exact hq
theorem sorted_fst {l : Addr} {vs : List Value} {k : Value → Int} {Q : Value → Shared → Prop} (hl : s.heap.IsList l vs.toArray) (hz : vs.length ≤ sizeLine) (hp : ∀ v ∈ vs, IsFst s.heap v (k v)) (hu : ∀ v ∈ vs, ∀ u ∈ vs, k v = k u → v = u)
    (h : ∀ (h' : Heap) (d : Addr) (out : List Value), Srtd (fun v u => decide (k v < k u)) out → out.Perm vs → (∀ b o, s.heap.get? b = some o → h'.get? b = some o) → s.heap.objs.size ≤ d → (∃ n, h'.get? d = some (seqObj "list" out.toArray n)) → Q (.ref d) { s with heap := h' }) :
    wpAny (model prog w) A (call (.builtin "sorted") [.ref l]) Q E s := by
  refine sorted_ord (swo_key k) hl hz (fun h2 h₁ a ha kk => ?_) fun out hs hb => ?_
  · refine fst_sortable (s := { s with heap := h₁ }) (by omega) (fun v hm => (hp v hm).keeps fun b o e _ => (kk b o e).2) hu fun o e => ?_
    have e' : some o = some (seqObj "list" vs.toArray 0) := e.symm.trans ha
    cases e'
    intro c
    exact absurd (Value.type.inj c) (by decide)
  · exact h _ _ out hs hb.perm (fun b o e => sortedAll_old e) (Nat.le_succ _) (sortedAll_at s.heap vs out.toArray)
end
/-- the first int, read off the heap -/
def kOf (h : Heap) (v : Value) : Int := match v with
  | .ref a => match h.get? a with
    | some o => match o.data with
      | .seq xs _ => match xs.toList with
        | .int i _ :: _ => i
        | _ => 0
      | _ => 0
    | none => 0
  | _ => 0
theorem IsFst.kOf {h : Heap} {v : Value} {k : Int} (x : IsFst h v k) : PSF.kOf h v = k := by
  obtain ⟨a, o, t, xs, n, e, ho, hc, hd⟩ := x
  subst e
  simp only [PSF.kOf, ho, hd]
end PSF
namespace L2
open PySem PySem.Spec PyProof.Rows
/-- sorted(xs), its things told beside -/
def rSortF {α : Type} (K : PySem.W.Frag) (k : α → Int) : List V → Hp → VK → Prop := fun vs H Q => ∃ (a : Addr) (L : List (V × α)), vs = [V.ref a] ∧ SqL K H a (L.map (·.1)) ∧ (∀ z ∈ L, ∃ t us, z.1 = V.ref t ∧ SqT K H t (.int (k z.2) :: us)) ∧
  (L.map fun z => k z.2).Nodup ∧ ∀ (M : List (V × α)) p, M.Perm L → M.Pairwise (fun x y => k x.2 ≤ k y.2) → H p = none → Q (.ref p) (upd H p (.lst (M.map (·.1))))
section
variable {X : Cx}
theorem cr_sortF {α : Type} (k : α → Int) : CallR X (.builtin "sorted") (rSortF X.K k) := by
  intro pins s σ H vs us Q I r h
  obtain ⟨a, L, rfl, hs, hx, hnd, q⟩ := h
  obtain ⟨its, rv, hl, hz⟩ := I.list hs
  obtain ⟨u, rfl, ru⟩ := vals1 r
  obtain rfl : u = Value.ref a := ru
  have hlen : L.length = its.length := by have := rv.length; rwa [List.length_map] at this
  -- each thing beside its value
  have m2 : (L.zip its).map Prod.snd = its := List.map_snd_zip (by omega)
  have m1 : (L.zip its).map Prod.fst = L := List.map_fst_zip (by omega)
  have all : ∀ z ∈ L.zip its, z.1 ∈ L ∧ RelV z.1.1 z.2 ∧ PSF.IsFst s.heap z.2 (k z.1.2) ∧ ∃ t, z.1.1 = V.ref t := by
    intro z hz
    obtain ⟨j, hj⟩ := List.mem_iff_getElem?.mp hz
    obtain ⟨h1, h2⟩ := List.getElem?_zip_eq_some.mp hj
    have hm := List.mem_of_getElem? h1
    have h1' : (L.map (·.1))[j]? = some z.1.1 := by rw [List.getElem?_map, h1]; rfl
    obtain ⟨u, h5, h6⟩ := rv.get h1'
    have e : u = z.2 := Option.some.inj (h5.symm.trans h2)
    rw [e] at h6
    obtain ⟨t, us, e2, ht⟩ := hx _ hm
    refine ⟨hm, h6, ?_, t, e2⟩
    rw [e2] at h6
    obtain ⟨it2, r2, ⟨o, ho, hc, n, hd⟩, _⟩ := I.tuple ht
    cases r2 with
    | cons r3 r4 =>
      obtain ⟨t1, rfl⟩ := r3
      exact ⟨t, o, t1, _, n, h6, ho, hc, hd⟩
  have mem2 : ∀ v ∈ its, ∃ z ∈ L.zip its, z.2 = v := fun v hv => by
    rw [← m2] at hv
    obtain ⟨z, hz, e⟩ := List.mem_map.mp hv
    exact ⟨z, hz, e⟩
  have hk : ∀ z ∈ L.zip its, PSF.kOf s.heap z.2 = k z.1.2 := fun z hz => (all z hz).2.2.1.kOf
  have hnd2 : ((L.zip its).map fun z => k z.1.2).Nodup := by
    have e : ((L.zip its).map fun z => k z.1.2) = L.map fun z => k z.2 := by
      conv => rhs; rw [← m1]
      rw [List.map_map]; rfl
    rw [e]; exact hnd
  refine PSF.sorted_fst (k := PSF.kOf s.heap) hl.isList (by rw [← hlen]; rw [List.length_map] at hz; exact hz) (fun v hv => ?_) (fun v hv u hu e => ?_) fun h' d out h1 h2 kp hd hn => ?_
  · obtain ⟨z, hz, rfl⟩ := mem2 v hv
    rw [hk z hz]
    exact (all z hz).2.2.1
  · obtain ⟨z, hz, rfl⟩ := mem2 v hv
    obtain ⟨y, hy, rfl⟩ := mem2 u hu
    rw [hk z hz, hk y hy] at e
    obtain ⟨i, hi, rfl⟩ := List.mem_iff_getElem.mp hz
    obtain ⟨j, hj, rfl⟩ := List.mem_iff_getElem.mp hy
    have := (List.getElem_inj (i := i) (j := j) (h₀ := by rw [List.length_map]; exact hi) (h₁ := by rw [List.length_map]; exact hj) hnd2).mp (by rw [List.getElem_map, List.getElem_map]; exact e)
    subst this
    rfl
  · obtain ⟨zs, p1, p2⟩ := perm_lift Prod.snd h2 _ m2
    have allz : ∀ z ∈ zs, z ∈ L.zip its := fun z hz => p1.mem_iff.mp hz
    have e1 : Vals ((zs.map Prod.fst).map (·.1)) out := by
      rw [← p2, List.map_map]
      exact vals_maps _ _ zs fun z hz => (all z (allz z hz)).2.1
    obtain ⟨n, hn⟩ := hn
    have pm : (zs.map Prod.fst).Perm L := by have := p1.map Prod.fst; rwa [m1] at this
    refine ⟨.ref d, upd H d (.lst ((zs.map Prod.fst).map (·.1))), I.laid (t' := s.toks) kp hd ⟨?_, out, n, e1, hn⟩, rfl, q _ d pm ?_ (I.hok.fresh hd)⟩
    · rw [(pm.map (·.1)).length_eq]
      exact hz
    · have h1 : (zs.map Prod.snd).Pairwise (fun v u => decide (PSF.kOf s.heap u < PSF.kOf s.heap v) = false) := by rw [p2]; exact h1
      rw [List.pairwise_map] at h1
      rw [List.pairwise_map]
      refine List.Pairwise.imp_of_mem (fun {x y} hx hy h => ?_) h1
      have := of_decide_eq_false h
      rw [hk x (allz x hx), hk y (allz y hy)] at this
      omega
theorem cr_sortFd : CallR X (.builtin "sorted") (fun vs H Q => ∃ k : PyData → Int, rSortF X.K k vs H Q) := by
  rintro pins s σ H vs us Q I r ⟨k, h⟩
  exact cr_sortF k pins s σ H vs us Q I r h
end
end L2
namespace PW
open PySem L2 PySem.Spec PyProof.Rows
def wSortF (wa : EW) : EW := fun kx s k => wa kx s fun x s1 => ∃ (ds : List PyData) (f : PyData → Int), dat s1 x = some (.list ds) ∧ (∀ d ∈ ds, ∃ r, d = .tuple (.int (f d) :: r)) ∧ (ds.map f).Nodup ∧ ∀ ys : List PyData, ys.Perm ds → ys.Pairwise (fun x y => f x ≤ f y) → k (.own s1.o.length) ⟨s1.r, s1.o ++ [.dl ys]⟩
section
variable {X : Cx} {W : WX} {a : Expr} {wa : EW} {pos p : Pos}
theorem dqAll_of {K : PySem.W.Frag} {F : Hp} : ∀ (M : List (V × PyData)), (∀ z ∈ M, Dq K F z.1 z.2) → DqAll K F (M.map (·.1)) (M.map (·.2))
  | [], _ => .nil
  | z :: M, h => .cons (h z List.mem_cons_self) (dqAll_of M fun y hy => h y (List.mem_cons_of_mem _ hy))
theorem e_sortF (hm : X.mg "sorted" = none) (ha : PE X a (tE X.K W wa)) (hg : Gl X "sorted" := by rfl) (he : starEach [a] X.env = (false, eval a X.env) :: starEach [] X.env := by rfl) (hpl : (backTo pos (starEach [] X.env)).any (·.1) = false := by rfl) :
    PE X (.Call (.Name "sorted" p) [a] [] pos) (tE X.K W (wSortF wa)) := by
  refine PE.imp (pe_callB cr_sortFd hg hm (by decide +kernel) (pa_cons ha pa_nil he) (he := he) (hpl := hpl)) fun σ H Q ⟨H0, F0, A0, s, T, kx, k, w, xl, h, q⟩ => cb1_of w xl h fun x s1 u H1 h1 w1 => ?_
  obtain ⟨ds, f, hd, hf, hnd, hk⟩ := h1
  obtain ⟨F, A, w1⟩ := w1
  obtain ⟨a, vs, rfl, h1, h2⟩ := items_ok w1 (w1.tm _ List.mem_cons_self) hd
  have hl := h2.len
  have m1 : (vs.zip ds).map (·.1) = vs := List.map_fst_zip (by omega)
  have m2 : (vs.zip ds).map (·.2) = ds := List.map_snd_zip (by omega)
  have al : ∀ z ∈ vs.zip ds, z.2 ∈ ds ∧ Dq X.K F z.1 z.2 := fun z hz => by
    obtain ⟨j, hj⟩ := List.mem_iff_getElem?.mp hz
    obtain ⟨q1, q2⟩ := List.getElem?_zip_eq_some.mp hj
    obtain ⟨d, q3, q4⟩ := h2.get _ _ q1
    cases q3.symm.trans q2
    exact ⟨List.mem_of_getElem? q2, q4⟩
  refine ⟨f, a, vs.zip ds, rfl, (by rw [m1]; exact h1), (fun z hz => ?_), ?_, (fun M p hM hs hn => ?_)⟩
  · obtain ⟨hz1, hz2⟩ := al z hz
    obtain ⟨r, e⟩ := hf _ hz1
    obtain ⟨v, d⟩ := z
    have e : d = _ := e
    generalize hi : f d = i at e
    subst e
    cases hz2 with
    | tup t1 t2 =>
      cases t2 with
      | cons t3 t4 =>
        cases t3
        exact ⟨_, _, rfl, same_t w1.fz.g t1⟩
  · have : (vs.zip ds).map (fun z => f z.2) = ds.map f := by
      conv => rhs; rw [← m2]
      rw [List.map_map]; rfl
    rw [this]; exact hnd
  · have hperm : (M.map (·.2)).Perm ds := by have := hM.map (·.2); rwa [m2] at this
    refine q _ _ (hk _ hperm (by rw [List.pairwise_map]; exact hs)) _ _ ⟨F, A ++ [p], ?_⟩
    refine ((w1.sub (T' := T) fun t h => List.mem_cons_of_mem _ h).newL hn (dqAll_of M fun z hz => (al z (hM.mem_iff.mp hz)).2)).push ⟨p, ?_, rfl⟩
    rw [← w1.len, List.getElem?_append_right (Nat.le_refl _), Nat.sub_self]
    rfl
end
end PW

namespace PW
open PySem L2
def isLet (c : Nat) : Bool := decide (97 ≤ c) && decide (c ≤ 122)
def isFig (c : Nat) : Bool := decide (48 ≤ c) && decide (c ≤ 57)
def isSp (c : Nat) : Bool := decide (c = 32) || decide (c = 10)
/-- a sign that a text may hold -/
def gd (c : Nat) : Bool := decide (c = 10) || (decide (32 ≤ c) && decide (c ≤ 126) && !decide (c = 37))
theorem let_mem (c : Nat) : decide (c ∈ ("abcdefghijklmnopqrstuvwxyz" : Str).cps.toList) = isLet c := by
  have e : ("abcdefghijklmnopqrstuvwxyz" : Str).cps.toList = [97, 98, 99, 100, 101, 102, 103, 104, 105, 106, 107, 108, 109, 110, 111, 112, 113, 114, 115, 116, 117, 118, 119, 120, 121, 122] := by decide +kernel
  rw [e, Bool.eq_iff_iff]
  simp only [isLet, decide_eq_true_eq, Bool.and_eq_true, List.mem_cons, List.not_mem_nil, or_false]
  omega
theorem fig_mem (c : Nat) : decide (c ∈ ("0123456789" : Str).cps.toList) = isFig c := by
  have e : ("0123456789" : Str).cps.toList = [48, 49, 50, 51, 52, 53, 54, 55, 56, 57] := by decide +kernel
  rw [e, Bool.eq_iff_iff]
  simp only [isFig, decide_eq_true_eq, Bool.and_eq_true, List.mem_cons, List.not_mem_nil, or_false]
  omega
theorem sp_mem (c : Nat) : decide (c ∈ (" \n" : Str).cps.toList) = isSp c := by
  have e : (" \n" : Str).cps.toList = [32, 10] := by decide +kernel
  rw [e, Bool.eq_iff_iff]
  simp only [isSp, decide_eq_true_eq, Bool.or_eq_true, List.mem_cons, List.not_mem_nil, or_false]
theorem gd_in {c : Nat} (h : gd c = true) : (isLet c || (isFig c || (decide (c ∈ ("ABCDEFGHIJKLMNOPQRSTUVWXYZ" : Str).cps.toList) || decide (c ∈ (" !\"#$&'()*+,-./:;<=>?\x40[\\]^_`{|}~\n" : Str).cps.toList)))) = true := by
  have key : ∀ c, c < 127 → gd c = true → (isLet c || (isFig c || (decide (c ∈ ("ABCDEFGHIJKLMNOPQRSTUVWXYZ" : Str).cps.toList) || decide (c ∈ (" !\"#$&'()*+,-./:;<=>?\x40[\\]^_`{|}~\n" : Str).cps.toList)))) = true := by decide +kernel
  refine key c ?_ h
  unfold gd at h
  simp only [Bool.or_eq_true, Bool.and_eq_true, decide_eq_true_eq] at h
  omega
def gdT (l : List Nat) : Prop := ∀ c ∈ l, gd c = true
theorem gdT.app {a b : List Nat} (h : gdT a) (g : gdT b) : gdT (a ++ b) := fun c m => (List.mem_append.mp m).elim (h c) (g c)
theorem gdT.take {a : List Nat} (n : Nat) (h : gdT a) : gdT (a.take n) := fun c m => h c (List.mem_of_mem_take m)
theorem gdT.drop {a : List Nat} (n : Nat) (h : gdT a) : gdT (a.drop n) := fun c m => h c (List.mem_of_mem_drop m)
theorem gdT.ok {a : List Nat} (h : gdT a) : (dT a).canLay0 = true := by
  show (tx a).cps.all (· < 0x110000) = true
  rw [← Array.all_toList]
  rw [List.all_eq_true]
  intro c m
  have := h c m
  unfold gd at this
  simp only [Bool.or_eq_true, Bool.and_eq_true, decide_eq_true_eq] at this
  rw [decide_eq_true_eq]
  omega
/-- where a run of such signs ends -/
def runTo (p : Nat → Bool) : List Nat → Nat
  | [] => 0
  | c :: r => if p c then runTo p r + 1 else 0
theorem runTo_le (p : Nat → Bool) : ∀ l : List Nat, runTo p l ≤ l.length
  | [] => Nat.le_refl _
  | c :: r => by
    unfold runTo
    split
    · have := runTo_le p r; rw [List.length_cons]; omega
    · exact Nat.zero_le _
theorem runTo_drop (p : Nat → Bool) {l : List Nat} {e : Nat} (h : e < l.length) : runTo p (l.drop e) = if p l[e] then runTo p (l.drop (e + 1)) + 1 else 0 := by
  rw [List.drop_eq_getElem_cons h]
  rfl
theorem runTo_all (p : Nat → Bool) : ∀ (l : List Nat) (c : Nat), c ∈ l.take (runTo p l) → p c = true
  | [], c, h => by simp at h
  | a :: r, c, h => by
    unfold runTo at h
    split at h
    · rename_i e
      rw [List.take_succ_cons, List.mem_cons] at h
      rcases h with rfl | h
      · exact e
      · exact runTo_all p r c h
    · simp at h
theorem runTo_stop (p : Nat → Bool) : ∀ (l : List Nat) (c : Nat) (r : List Nat), l.drop (runTo p l) = c :: r → p c = false
  | [], c, r, h => by simp at h
  | a :: q, c, r, h => by
    unfold runTo at h
    split at h
    · exact runTo_stop p q c r (by simpa using h)
    · rename_i e
      rw [List.drop_zero] at h
      cases h
      simpa using e
/-- a leaf found: its word, its place -/
abbrev Lf := List Nat × Nat
def grp (c : Nat) : Nat := if isLet c then 1 else if isFig c then 2 else 0
def joins (F : List Lf) (p c : Nat) : Bool := match F.getLast? with
  | some (w, q) => decide (q + w.length = p) && decide (grp (w.headD 0) = grp c) && decide (grp c ≠ 0)
  | none => false
/-- one sign more -/
def stepS (F : List Lf) (p c : Nat) : List Lf := if isSp c then F else if joins F p c then match F.getLast? with
    | some (w, q) => F.dropLast ++ [(w ++ [c], q)]
    | none => F
  else F ++ [([c], p)]
def foldS : List Lf → Nat → List Nat → List Lf
  | F, _, [] => F
  | F, p, c :: r => foldS (stepS F p c) (p + 1) r
theorem foldS_app : ∀ (l m : List Nat) (F : List Lf) (p : Nat), foldS F p (l ++ m) = foldS (foldS F p l) (p + l.length) m
  | [], m, F, p => rfl
  | c :: r, m, F, p => by
    show foldS _ (p + 1) (r ++ m) = foldS (foldS _ (p + 1) r) _ m
    rw [foldS_app r m, List.length_cons]
    congr 1
    omega
theorem stepS_front {A B : List Lf} (h : B ≠ []) (p c : Nat) : stepS (A ++ B) p c = A ++ stepS B p c := by
  obtain ⟨B', x, rfl⟩ : ∃ B' x, B = B' ++ [x] := ⟨B.dropLast, B.getLast h, (List.dropLast_concat_getLast h).symm⟩
  unfold stepS joins
  rw [← List.append_assoc]
  simp only [List.getLast?_append, List.getLast?_singleton, Option.some_or, List.dropLast_concat]
  obtain ⟨w, q⟩ := x
  dsimp only
  split
  · rw [List.append_assoc]
  · split <;> simp
theorem stepS_ne {B : List Lf} (h : B ≠ []) (p c : Nat) : stepS B p c ≠ [] := by
  unfold stepS
  split
  · exact h
  · split
    · split
      · simp
      · exact h
    · simp
theorem foldS_front {A : List Lf} : ∀ (l : List Nat) (B : List Lf) (p : Nat), B ≠ [] → foldS (A ++ B) p l = A ++ foldS B p l
  | [], B, p, _ => rfl
  | c :: r, B, p, h => by
    show foldS (stepS (A ++ B) p c) (p + 1) r = _
    rw [stepS_front h, foldS_front r _ _ (stepS_ne h p c)]
    rfl
/-- the words found are whole: each ends no later than p -/
def Ok (F : List Lf) (p : Nat) : Prop := ∀ w q, (w, q) ∈ F → w ≠ [] ∧ q + w.length ≤ p ∧ gdT w ∧ (grp (w.headD 0) = 0 → w.length = 1)
theorem Ok.mono {F : List Lf} {p q : Nat} (h : Ok F p) (e : p ≤ q) : Ok F q := fun w a m => by
  obtain ⟨x, y, z⟩ := h w a m
  exact ⟨x, by omega, z⟩
theorem Ok.step {F : List Lf} {p c : Nat} (h : Ok F p) (g : gd c = true) : Ok (stepS F p c) (p + 1) := by
  unfold stepS
  split
  · exact h.mono (by omega)
  · split
    · rename_i hj
      split
      · rename_i w q e
        have hne : F ≠ [] := by rintro rfl; cases e
        rw [List.getLast?_eq_some_getLast hne] at e
        have e' : F.getLast hne = (w, q) := Option.some.inj e
        have hm : (w, q) ∈ F := e' ▸ List.getLast_mem hne
        obtain ⟨a, b, d, f⟩ := h w q hm
        unfold joins at hj
        rw [List.getLast?_eq_some_getLast hne, e'] at hj
        simp only [Bool.and_eq_true, decide_eq_true_eq] at hj
        intro w' q' m
        rcases List.mem_append.mp m with m | m
        · obtain ⟨x, y, z⟩ := h w' q' (List.dropLast_subset _ m)
          exact ⟨x, by omega, z⟩
        · have : (w', q') = (w ++ [c], q) := by simpa using m
          cases this
          refine ⟨by simp, by rw [List.length_append]; show q + (w.length + 1) ≤ p + 1; omega, d.app (fun x hx => by simp at hx; exact hx ▸ g), fun z => ?_⟩
          cases w with
          | nil => exact absurd rfl a
          | cons x r => exact absurd (hj.1.2.symm.trans z) hj.2
      · exact h.mono (by omega)
    · intro w' q' m
      rcases List.mem_append.mp m with m | m
      · obtain ⟨x, y, z⟩ := h w' q' m
        exact ⟨x, by omega, z⟩
      · have : (w', q') = ([c], p) := by simpa using m
        cases this
        exact ⟨by simp, by simp, fun x hx => by simp at hx; exact hx ▸ g, fun _ => rfl⟩
theorem Ok.fold : ∀ {l : List Nat} {F : List Lf} {p : Nat}, Ok F p → gdT l → Ok (foldS F p l) (p + l.length)
  | [], F, p, h, _ => h
  | c :: r, F, p, h, g => by
    have := Ok.fold (l := r) (h.step (g c (List.mem_cons_self))) (fun x m => g x (List.mem_cons_of_mem _ m))
    rw [List.length_cons]
    have e : p + 1 + r.length = p + (r.length + 1) := by omega
    rw [e] at this
    exact this
theorem nojoin_of {F : List Lf} {p c : Nat} (h : ∀ w q, (w, q) ∈ F → q + w.length < p) : joins F p c = false := by
  unfold joins
  split
  · rename_i w q e
    have hne : F ≠ [] := by rintro rfl; cases e
    rw [List.getLast?_eq_some_getLast hne] at e
    have e' : F.getLast hne = (w, q) := Option.some.inj e
    have hm : (w, q) ∈ F := e' ▸ List.getLast_mem hne
    have := h w q hm
    simp only [Bool.and_eq_false_imp, decide_eq_true_eq]
    intro a
    simp only [Bool.and_eq_true, decide_eq_true_eq] at a
    omega
  · rfl
theorem foldS_far {A : List Lf} : ∀ (l : List Nat) (p : Nat), (∀ w q, (w, q) ∈ A → q + w.length < p) → foldS A p l = A ++ foldS [] p l
  | [], p, _ => by show A = A ++ []; rw [List.append_nil]
  | c :: r, p, h => by
    have nj : joins ([] : List Lf) p c = false := rfl
    show foldS (stepS A p c) (p + 1) r = A ++ foldS (stepS [] p c) (p + 1) r
    unfold stepS
    split
    · exact foldS_far r (p + 1) fun w q m => by have := h w q m; omega
    · rw [nojoin_of h, nj]
      exact foldS_front r _ _ (by simp)
/-- a run of one group -/
theorem foldS_run {g : Nat} (hg : g ≠ 0) : ∀ (l : List Nat) (F : List Lf) (w : List Nat) (q p : Nat), q + w.length = p → grp (w.headD 0) = g → w ≠ [] → (∀ c ∈ l, grp c = g ∧ isSp c = false) → foldS (F ++ [(w, q)]) p l = F ++ [(w ++ l, q)]
  | [], F, w, q, p, _, _, _, _ => by show F ++ [(w, q)] = _; rw [List.append_nil]
  | c :: r, F, w, q, p, h, hw, hne, hl => by
    obtain ⟨h1, h2⟩ := hl c List.mem_cons_self
    have : stepS (F ++ [(w, q)]) p c = F ++ [(w ++ [c], q)] := by
      unfold stepS joins
      simp only [List.getLast?_append, List.getLast?_singleton, Option.some_or, List.dropLast_concat]
      rw [h2, hw, h1]
      simp [h, hg]
    show foldS (stepS (F ++ [(w, q)]) p c) (p + 1) r = _
    rw [this, foldS_run hg r F (w ++ [c]) q (p + 1) (by rw [List.length_append]; show q + (w.length + 1) = p + 1; omega) (by cases w with
      | nil => exact absurd rfl hne
      | cons x y => exact hw) (by simp) (fun x m => hl x (List.mem_cons_of_mem _ m)), List.append_assoc]
    rfl
theorem grp_let {c : Nat} (h : isLet c = true) : grp c = 1 ∧ isSp c = false ∧ isFig c = false := by
  unfold grp
  rw [if_pos h]
  unfold isLet at h
  simp only [Bool.and_eq_true, decide_eq_true_eq] at h
  refine ⟨rfl, ?_, ?_⟩
  · unfold isSp; simp only [Bool.or_eq_false_iff, decide_eq_false_iff_not]; omega
  · unfold isFig; rw [Bool.eq_false_iff]; simp only [ne_eq, Bool.and_eq_true, decide_eq_true_eq]; omega
theorem grp_fig {c : Nat} (h : isFig c = true) : grp c = 2 ∧ isSp c = false ∧ isLet c = false := by
  have h' := h
  unfold isFig at h
  simp only [Bool.and_eq_true, decide_eq_true_eq] at h
  have hl : isLet c = false := by unfold isLet; rw [Bool.eq_false_iff]; simp only [ne_eq, Bool.and_eq_true, decide_eq_true_eq]; omega
  refine ⟨?_, ?_, hl⟩
  · unfold grp; rw [hl, h']; rfl
  · unfold isSp; simp only [Bool.or_eq_false_iff, decide_eq_false_iff_not]; omega
theorem grp_1 {c : Nat} (h : grp c = 1) : isLet c = true := by
  unfold grp at h
  split at h
  · assumption
  · split at h <;> omega
theorem grp_2 {c : Nat} (h : grp c = 2) : isFig c = true := by
  unfold grp at h
  split at h
  · omega
  · split at h
    · assumption
    · omega
/-- nothing found so far goes on at p -/
def NJ (F : List Lf) (p : Nat) (l : List Nat) : Prop := ∀ c r, l = c :: r → joins F p c = false
theorem joins_last {F : List Lf} {w : List Nat} {q p c : Nat} : joins (F ++ [(w, q)]) p c = (decide (q + w.length = p) && decide (grp (w.headD 0) = grp c) && decide (grp c ≠ 0)) := by
  unfold joins
  simp only [List.getLast?_append, List.getLast?_singleton, Option.some_or]
/-- what one turn of the reading loop does at a letter, at a figure -/
theorem foldS_turn {g : Nat} (hg : g ≠ 0) {p : Nat → Bool} (hp : ∀ c, p c = true ↔ grp c = g) {F : List Lf} {a c : Nat} {r : List Nat} (nj : NJ F a (c :: r)) (hc : grp c = g) (hs : ∀ c, grp c = g → isSp c = false) :
    foldS F a (c :: r) = foldS (F ++ [(c :: r.take (runTo p r), a)]) (a + 1 + runTo p r) (r.drop (runTo p r)) ∧ NJ (F ++ [(c :: r.take (runTo p r), a)]) (a + 1 + runTo p r) (r.drop (runTo p r)) := by
  constructor
  · have h1 : stepS F a c = F ++ [([c], a)] := by
      unfold stepS
      rw [hs c hc, nj c r rfl]
      rfl
    show foldS (stepS F a c) (a + 1) r = _
    rw [h1]
    have h2 := foldS_app (r.take (runTo p r)) (r.drop (runTo p r)) (F ++ [([c], a)]) (a + 1)
    rw [List.take_append_drop] at h2
    rw [h2, foldS_run hg _ F [c] a (a + 1) rfl hc (by simp) (fun x m => by
      have := (hp x).mp (runTo_all p r x m)
      exact ⟨this, hs x this⟩), List.length_take, Nat.min_eq_left (runTo_le p r)]
    rfl
  · intro d s e
    rw [joins_last]
    have h3 := runTo_stop p r d s e
    have h4 : grp d ≠ g := fun z => by rw [(hp d).mpr z] at h3; cases h3
    have h5 : grp ((c :: r.take (runTo p r)).headD 0) = g := hc
    rw [h5]
    simp [Ne.symm h4]
theorem foldS_sp {F : List Lf} {a c : Nat} {r : List Nat} (h : isSp c = true) : foldS F a (c :: r) = foldS F (a + 1) r := by
  show foldS (stepS F a c) (a + 1) r = _
  unfold stepS
  rw [if_pos h]
theorem foldS_one {F : List Lf} {a c : Nat} {r : List Nat} (h : isSp c = false) (g : grp c = 0) : foldS F a (c :: r) = foldS (F ++ [([c], a)]) (a + 1) r := by
  show foldS (stepS F a c) (a + 1) r = _
  unfold stepS joins
  rw [h, g]
  cases F.getLast? with
  | none => rfl
  | some x => simp
end PW

namespace PW
open PySem L2
/-- lines with their ends -/
def mkLines : List (List Nat) → List (List Nat)
  | [] => []
  | [x] => if x = [] then [] else [x]
  | x :: y :: r => (x ++ [10]) :: mkLines (y :: r)
def linesL (l : List Nat) : List (List Nat) := mkLines (spl1 10 [] l)
theorem mkLines_eq : ∀ (ps : List (List Nat)) (h : ps ≠ []), mkLines ps = ps.dropLast.map (· ++ [10]) ++ (if ps.getLast h = [] then [] else [ps.getLast h])
  | [x], _ => rfl
  | x :: y :: r, _ => by
    show (x ++ [10]) :: mkLines (y :: r) = _
    rw [mkLines_eq (y :: r) (by simp)]
    rfl
/-- the leaves of lines -/
def lvs : Nat → List (List Nat) → List Lf
  | _, [] => []
  | b, x :: r => foldS [] b (x.take (idx 35 x)) ++ lvs (b + x.length) r
def leavesL (l : List Nat) : List Lf := lvs 0 (linesL l)
/-- the same, sign by sign with a flag -/
def fold2 : Bool → List Lf → Nat → List Nat → List Lf
  | _, F, _, [] => F
  | rem, F, p, c :: r => 
    let rem' := decide (c ≠ 10) && (rem || decide (c = 35))
    fold2 rem' (if rem' then F else stepS F p c) (p + 1) r
theorem fold2_rem : ∀ (l m : List Nat) (F : List Lf) (p : Nat), 10 ∉ l → fold2 true F p (l ++ m) = fold2 true F (p + l.length) m
  | [], m, F, p, _ => rfl
  | c :: r, m, F, p, h => by
    have hc : c ≠ 10 := fun e => h (e ▸ List.mem_cons_self)
    have e : (decide (c ≠ 10) && (true || decide (c = 35))) = true := by simp [hc]
    show fold2 (decide (c ≠ 10) && (true || decide (c = 35))) (if (decide (c ≠ 10) && (true || decide (c = 35))) = true then F else stepS F p c) (p + 1) (r ++ m) = _
    rw [e, if_pos rfl, fold2_rem r m F (p + 1) (fun x => h (List.mem_cons_of_mem _ x)), List.length_cons]
    congr 1
    omega
theorem stepS_10 (F : List Lf) (p : Nat) : stepS F p 10 = F := rfl
/-- up to the end of a line -/
theorem fold2_line : ∀ (l : List Nat) (F : List Lf) (p : Nat) (m : List Nat), 10 ∉ l → fold2 false F p (l ++ 10 :: m) = fold2 false (foldS F p ((l ++ [10]).take (idx 35 (l ++ [10])))) (p + l.length + 1) m
  | [], F, p, m, _ => by
    show fold2 false (stepS F p 10) (p + 1) m = _
    rfl
  | c :: r, F, p, m, h => by
    have hc : c ≠ 10 := fun e => h (e ▸ List.mem_cons_self)
    have hr : 10 ∉ r := fun x => h (List.mem_cons_of_mem _ x)
    show fold2 (decide (c ≠ 10) && (false || decide (c = 35))) (if (decide (c ≠ 10) && (false || decide (c = 35))) = true then F else stepS F p c) (p + 1) (r ++ 10 :: m) = _
    by_cases e : c = 35
    · subst e
      show fold2 true F (p + 1) (r ++ 10 :: m) = _
      rw [fold2_rem r _ F (p + 1) hr]
      show fold2 false (stepS F (p + 1 + r.length) 10) (p + 1 + r.length + 1) m = fold2 false F (p + (r.length + 1) + 1) m
      rw [stepS_10]
      congr 1
      omega
    · have e1 : (decide (c ≠ 10) && (false || decide (c = 35))) = false := by simp [e]
      have e2 : idx 35 (c :: r ++ [10]) = idx 35 (r ++ [10]) + 1 := by show (if c = 35 then 0 else idx 35 (r ++ [10]) + 1) = _; rw [if_neg e]
      rw [e1, if_neg (by simp), fold2_line r _ (p + 1) m hr, e2, List.length_cons]
      show _ = fold2 false (foldS (stepS F p c) (p + 1) ((r ++ [10]).take (idx 35 (r ++ [10])))) _ m
      congr 1
      omega
/-- the last line, that has no end -/
theorem fold2_last : ∀ (l : List Nat) (F : List Lf) (p : Nat), 10 ∉ l → fold2 false F p l = foldS F p (l.take (idx 35 l))
  | [], F, p, _ => rfl
  | c :: r, F, p, h => by
    have hc : c ≠ 10 := fun e => h (e ▸ List.mem_cons_self)
    have hr : 10 ∉ r := fun x => h (List.mem_cons_of_mem _ x)
    show fold2 (decide (c ≠ 10) && (false || decide (c = 35))) (if (decide (c ≠ 10) && (false || decide (c = 35))) = true then F else stepS F p c) (p + 1) r = _
    by_cases e : c = 35
    · subst e
      show fold2 true F (p + 1) r = _
      have := fold2_rem r [] F (p + 1) hr
      rw [List.append_nil] at this
      rw [this]
      rfl
    · have e1 : (decide (c ≠ 10) && (false || decide (c = 35))) = false := by simp [e]
      have e2 : idx 35 (c :: r) = idx 35 r + 1 := by show (if c = 35 then 0 else idx 35 r + 1) = _; rw [if_neg e]
      rw [e1, if_neg (by simp), fold2_last r _ (p + 1) hr, e2]
      rfl
theorem Ok.far {F : List Lf} {p q : Nat} (h : Ok F p) (e : p < q) : ∀ w a, (w, a) ∈ F → a + w.length < q := fun w a m => by
  obtain ⟨_, y, _⟩ := h w a m
  omega
theorem ok_nil (p : Nat) : Ok [] p := fun _ _ m => nomatch m
theorem Ok.app {F G : List Lf} {p : Nat} (h : Ok F p) (g : Ok G p) : Ok (F ++ G) p := fun w q m => (List.mem_append.mp m).elim (h w q) (g w q)
theorem line_ok {b : Nat} {x : List Nat} (g : gdT x) : Ok (foldS [] b (x.take (idx 35 x))) (b + x.length) := 
  (Ok.fold (l := x.take (idx 35 x)) (ok_nil b) (g.take _)).mono (by rw [List.length_take]; omega)
theorem fold_line (F : List Lf) (b k : Nat) (acc : List Nat) : foldS F b ((acc ++ [10]).take k) = foldS F b (acc.take k) := by
  rw [List.take_append, foldS_app]
  cases k - acc.length with
  | zero => rfl
  | succ n => rw [List.take_succ_cons, List.take_nil]; rfl
theorem fold2_text : ∀ (l acc : List Nat) (F : List Lf) (b : Nat), 10 ∉ acc → gdT acc → gdT l → (∀ w q, (w, q) ∈ F → q + w.length < b) → fold2 false F b (acc ++ l) = F ++ lvs b (mkLines (spl1 10 acc l))
  | [], acc, F, b, ha, ga, _, hF => by
    rw [List.append_nil, fold2_last acc F b ha, foldS_far _ b hF]
    show _ = F ++ lvs b (if acc = [] then [] else [acc])
    by_cases e : acc = []
    · subst e; rfl
    · rw [if_neg e]
      show _ = F ++ (_ ++ [])
      rw [List.append_nil]
  | c :: r, acc, F, b, ha, ga, gl, hF => by
    have gr : gdT r := fun x m => gl x (List.mem_cons_of_mem _ m)
    by_cases e : c = 10
    · subst e
      rw [fold2_line acc F b r ha, foldS_far _ b hF]
      have es : spl1 10 acc (10 :: r) = acc :: spl1 10 [] r := if_pos rfl
      have o1 : Ok (foldS [] b ((acc ++ [10]).take (idx 35 (acc ++ [10])))) (b + acc.length) := by
        rw [fold_line]
        exact (Ok.fold (ok_nil b) (ga.take _)).mono (by rw [List.length_take]; omega)
      have ih := fold2_text r [] (F ++ foldS [] b ((acc ++ [10]).take (idx 35 (acc ++ [10])))) (b + acc.length + 1) (by simp) (fun _ m => nomatch m) gr (fun w q m => by
        rcases List.mem_append.mp m with m | m
        · have := hF w q m; omega
        · exact o1.far (by omega) w q m)
      rw [List.nil_append] at ih
      rw [ih, es]
      obtain ⟨y, t, et⟩ : ∃ y t, spl1 10 [] r = y :: t := List.exists_cons_of_ne_nil (spl1_ne _ _ _)
      rw [et]
      show _ = F ++ (_ ++ lvs (b + (acc ++ [10]).length) (mkLines (y :: t)))
      rw [List.append_assoc, List.length_append]
      rfl
    · have es : spl1 10 acc (c :: r) = spl1 10 (acc ++ [c]) r := if_neg e
      rw [es]
      have := fold2_text r (acc ++ [c]) F b (by simp [ha, Ne.symm e]) (ga.app (fun x m => by simp at m; subst m; exact gl _ List.mem_cons_self)) gr hF
      rw [List.append_assoc] at this
      exact this
theorem leaves_fold {l : List Nat} (g : gdT l) : fold2 false [] 0 l = leavesL l := fold2_text l [] [] 0 (by simp) (fun _ m => nomatch m) g (fun _ _ m => nomatch m)
theorem Ok.fold2 : ∀ {l : List Nat} {b : Bool} {F : List Lf} {p : Nat}, Ok F p → gdT l → Ok (fold2 b F p l) (p + l.length)
  | [], b, F, p, h, _ => h
  | c :: r, b, F, p, h, g => by
    have h1 : Ok (if (decide (c ≠ 10) && (b || decide (c = 35))) = true then F else stepS F p c) (p + 1) := by
      split
      · exact h.mono (by omega)
      · exact h.step (g c List.mem_cons_self)
    have := Ok.fold2 (l := r) (b := decide (c ≠ 10) && (b || decide (c = 35))) h1 (fun x m => g x (List.mem_cons_of_mem _ m))
    rw [List.length_cons]
    have e : p + 1 + r.length = p + (r.length + 1) := by omega
    rw [e] at this
    exact this
theorem leaves_ok {l : List Nat} (g : gdT l) : Ok (leavesL l) l.length := by
  have := Ok.fold2 (l := l) (b := false) (ok_nil 0) g
  rw [leaves_fold g, Nat.zero_add] at this
  exact this
theorem lines_len : ∀ l acc : List Nat, (mkLines (spl1 10 acc l)).flatten = acc ++ l
  | [], acc => by
    show (if acc = [] then [] else [acc]).flatten = _
    by_cases e : acc = []
    · subst e; rfl
    · rw [if_neg e]; simp
  | c :: r, acc => by
    by_cases e : c = 10
    · subst e
      have es : spl1 10 acc (10 :: r) = acc :: spl1 10 [] r := if_pos rfl
      have ih := lines_len r []
      rw [es]
      obtain ⟨y, t, et⟩ : ∃ y t, spl1 10 [] r = y :: t := List.exists_cons_of_ne_nil (spl1_ne _ _ _)
      rw [et] at ih ⊢
      show ((acc ++ [10]) ++ (mkLines (y :: t)).flatten) = _
      rw [ih]
      simp
    · have es : spl1 10 acc (c :: r) = spl1 10 (acc ++ [c]) r := if_neg e
      rw [es, lines_len r]
      simp
theorem lines_flat (l : List Nat) : (linesL l).flatten = l := lines_len l []
end PW
namespace PW
open PySem L2
theorem runTo_app (P : Nat → Bool) : ∀ (R t : List Nat), (∀ x y, t = x :: y → P x = false) → runTo P (R ++ t) = runTo P R
  | [], t, h => by
    cases t with
    | nil => rfl
    | cons x y => show (if P x then _ else 0) = 0; rw [if_neg (by rw [h x y rfl]; simp)]
  | c :: r, t, h => by
    show (if P c then runTo P (r ++ t) + 1 else 0) = if P c then runTo P r + 1 else 0
    rw [runTo_app P r t h]
theorem turn_word {g : Nat} (hg : g ≠ 0) {P : Nat → Bool} (hp : ∀ c, P c = true ↔ grp c = g) (hs : ∀ c, grp c = g → isSp c = false) {F : List Lf} {b p c : Nat} {r t l : List Nat}
    (hl : l.drop p = c :: (r ++ t)) (ht : ∀ x y, t = x :: y → P x = false) (nj : NJ F (b + p) (c :: r)) (hc : grp c = g) (ok : Ok F (b + p)) (hgd : gdT l) :
    ∃ k, k ≤ r.length ∧ runTo P (l.drop p) = k + 1 ∧ (l.take (p + (k + 1))).drop p = c :: r.take k ∧ l.drop (p + (k + 1)) = r.drop k ++ t ∧
      foldS F (b + p) (c :: r) = foldS (F ++ [(c :: r.take k, b + p)]) (b + (p + (k + 1))) (r.drop k) ∧ NJ (F ++ [(c :: r.take k, b + p)]) (b + (p + (k + 1))) (r.drop k) ∧ Ok (F ++ [(c :: r.take k, b + p)]) (b + (p + (k + 1))) := by
  have hk := runTo_le P r
  have hd : gdT (c :: (r ++ t)) := hl ▸ hgd.drop p
  obtain ⟨h1, h2⟩ := foldS_turn hg hp nj hc hs
  have e : b + p + 1 + runTo P r = b + (p + (runTo P r + 1)) := by omega
  rw [e] at h1 h2
  refine ⟨runTo P r, hk, ?_, ?_, ?_, h1, h2, ?_⟩
  · rw [hl]
    show (if P c then runTo P (r ++ t) + 1 else 0) = _
    rw [if_pos ((hp c).mpr hc), runTo_app P r t ht]
  · rw [List.drop_take, hl]
    have : p + (runTo P r + 1) - p = runTo P r + 1 := by omega
    rw [this, List.take_succ_cons, List.take_append_of_le_length hk]
  · rw [← List.drop_drop, hl, List.drop_succ_cons, List.drop_append_of_le_length hk]
  · refine (ok.mono (by omega)).app fun w q m => ?_
    have : (w, q) = (c :: r.take (runTo P r), b + p) := by simpa using m
    cases this
    refine ⟨by simp, ?_, ?_, fun z => absurd (hc.symm.trans z) hg⟩
    · rw [List.length_cons, List.length_take]; omega
    · intro x m
      refine hd x ?_
      rcases List.mem_cons.mp m with rfl | m
      · exact List.mem_cons_self
      · exact List.mem_cons_of_mem _ (List.mem_append_left _ (List.mem_of_mem_take m))
theorem turn_one {F : List Lf} {b p c : Nat} {r t l : List Nat} (hl : l.drop p = c :: (r ++ t)) (hc : grp c = 0) (hs : isSp c = false) (ok : Ok F (b + p)) (hgd : gdT l) :
    (l.take (p + 1)).drop p = [c] ∧ l.drop (p + 1) = r ++ t ∧ foldS F (b + p) (c :: r) = foldS (F ++ [([c], b + p)]) (b + (p + 1)) r ∧ NJ (F ++ [([c], b + p)]) (b + (p + 1)) r ∧ Ok (F ++ [([c], b + p)]) (b + (p + 1)) := by
  have hd : gdT (c :: (r ++ t)) := hl ▸ hgd.drop p
  refine ⟨?_, ?_, foldS_one hs hc, fun d s _ => ?_, ?_⟩
  · rw [List.drop_take, hl]
    have : p + 1 - p = 1 := by omega
    rw [this]; rfl
  · rw [← List.drop_drop, hl]; rfl
  · rw [joins_last]
    show (_ && decide (grp c = grp d) && decide (grp d ≠ 0)) = false
    rw [hc]
    by_cases z : grp d = 0
    · simp [z]
    · simp [Ne.symm z]
  · refine (ok.mono (by omega)).app fun w q m => ?_
    have : (w, q) = ([c], b + p) := by simpa using m
    cases this
    exact ⟨by simp, by simp; omega, fun x m => by simp at m; subst m; exact hd _ List.mem_cons_self, fun _ => rfl⟩
theorem turn_sp {F : List Lf} {b p c : Nat} {r t l : List Nat} (hl : l.drop p = c :: (r ++ t)) (hs : isSp c = true) (ok : Ok F (b + p)) :
    l.drop (p + 1) = r ++ t ∧ foldS F (b + p) (c :: r) = foldS F (b + (p + 1)) r ∧ NJ F (b + (p + 1)) r ∧ Ok F (b + (p + 1)) := by
  refine ⟨?_, foldS_sp hs, fun d s _ => nojoin_of (ok.far (by omega)), ok.mono (by omega)⟩
  rw [← List.drop_drop, hl]; rfl
theorem sp_grp {c : Nat} (h : isSp c = true) : isLet c = false ∧ isFig c = false := by
  unfold isSp at h
  simp only [Bool.or_eq_true, decide_eq_true_eq] at h
  rcases h with rfl | rfl <;> exact ⟨rfl, rfl⟩
theorem grp_0 {c : Nat} (h1 : isLet c = false) (h2 : isFig c = false) : grp c = 0 := by unfold grp; rw [h1, h2]; rfl
theorem get_of_drop {l : List Nat} {p c : Nat} {r : List Nat} (h : l.drop p = c :: r) : ∃ hp : p < l.length, l[p] = c := by
  have hp : p < l.length := by
    rcases Nat.lt_or_ge p l.length with h1 | h1
    · exact h1
    · rw [List.drop_of_length_le h1] at h; cases h
  refine ⟨hp, ?_⟩
  rw [List.drop_eq_getElem_cons hp] at h
  cases h
  rfl
end PW
namespace PW
theorem stepS_len (F : List Lf) (p c : Nat) : (stepS F p c).length ≤ F.length + 1 := by
  unfold stepS
  split
  · omega
  · split
    · split
      · rw [List.length_append, List.length_dropLast, List.length_cons, List.length_nil]; omega
      · omega
    · rw [List.length_append, List.length_cons, List.length_nil]; omega
theorem foldS_len : ∀ (l : List Nat) (F : List Lf) (p : Nat), (foldS F p l).length ≤ F.length + l.length
  | [], F, p => Nat.le_refl _
  | c :: r, F, p => by
    have h1 := foldS_len r (stepS F p c) (p + 1)
    have h2 := stepS_len F p c
    show (foldS (stepS F p c) (p + 1) r).length ≤ _
    rw [List.length_cons]
    omega
theorem flat_take {Ls : List (List Nat)} {j : Nat} (h : j < Ls.length) : ((Ls.take (j + 1)).flatten).length = ((Ls.take j).flatten).length + Ls[j].length ∧ ((Ls.take j).flatten).length + Ls[j].length ≤ Ls.flatten.length := by
  have e : Ls.take (j + 1) = Ls.take j ++ [Ls[j]] := by rw [List.take_add_one, List.getElem?_eq_getElem h]; rfl
  have e1 : ((Ls.take (j + 1)).flatten).length = ((Ls.take j).flatten).length + Ls[j].length := by
    rw [e, List.flatten_append, List.length_append]
    simp
  refine ⟨e1, ?_⟩
  have : Ls.flatten = (Ls.take (j + 1)).flatten ++ (Ls.drop (j + 1)).flatten := by rw [← List.flatten_append, List.take_append_drop]
  rw [← e1, this, List.length_append]
  omega
end PW

namespace PW
open PySem L2
def eqv_strs (x y : Str) : PyData.eqv (.str x) (.str y) = (x == y) := by simp [PyData.eqv]
/-- what sort a word is of -/
abbrev rowD : List PyData := [.str "let", .str "set", .str "say", .str "read", .str "fault", .str "do", .str "if", .str "else", .str "while", .str "block", .str "with", .str "helper", .str "try", .str "catch", .str "finally", .str "end"]
def kindS (w : List Nat) : Str :=
  if isLet (w.headD 0) then (if inD (dT w) rowD || PyData.eqv (dT w) (.str "not") then "word" else if w.length ≤ 8 then "name" else "odd")
  else if isFig (w.headD 0) then (if w.length ≤ 6 ∧ (w.headD 0 ≠ 48 ∨ w.length = 1) then "number" else "odd")
  else if decide (w.headD 0 ∈ ("()[],=+-*<" : Str).cps.toList) then "sign" else "odd"
def leafD (x : Lf) : PyData := .tuple [.str (kindS x.1), dT x.1, .int (x.2 : Nat)]
/-- what comes of a text, or of what is none -/
def NeedT (N G : Addr) (v : PV) (q : List Nat → Prop) (e : Addr → Prop) : Prop :=
  (∃ l, v = .d (dT l) ∧ l.length ≤ 1000000 ∧ (gdT l → l.length ≤ 2000 → q l) ∧ (gdT l → 2000 < l.length → e G) ∧ (¬ gdT l → e N)) ∨ (∃ x, v = .d x ∧ kitB (tyD x) "str" = some false ∧ e N) ∨ (∃ kvs, v = .dk kvs ∧ e N)
theorem NeedT.imp {N G : Addr} {v : PV} {q q' : List Nat → Prop} {e e' : Addr → Prop} (h : NeedT N G v q e) (f : ∀ l, v = .d (dT l) → gdT l → l.length ≤ 2000 → q l → q' l) (g : ∀ C, e C → e' C) : NeedT N G v q' e' := by
  rcases h with ⟨l, rfl, hl, a, b, c⟩ | ⟨x, rfl, hx, c⟩ | ⟨kvs, rfl, c⟩
  · exact .inl ⟨l, rfl, hl, fun x y => f l rfl x y (a x y), fun x y => g _ (b x y), fun x => g _ (c x)⟩
  · exact .inr (.inl ⟨x, rfl, hx, g _ c⟩)
  · exact .inr (.inr ⟨kvs, rfl, g _ c⟩)
theorem NeedT.ok {N G : Addr} {l : List Nat} {q : List Nat → Prop} {e : Addr → Prop} (hg : gdT l) (hl : l.length ≤ 2000) (h : q l) : NeedT N G (.d (dT l)) q e :=
  .inl ⟨l, rfl, by omega, fun _ _ => h, fun _ z => by omega, fun z => absurd hg z⟩
theorem NeedT.arg {N G : Addr} {v : PV} {q : List Nat → Prop} {e : Addr → Prop} (h : NeedT N G v q e) : (∃ x, v = .d x) ∨ ∃ kvs, v = .dk kvs := by
  rcases h with ⟨l, rfl, _⟩ | ⟨x, rfl, _⟩ | ⟨kvs, rfl, _⟩
  · exact .inl ⟨_, rfl⟩
  · exact .inl ⟨_, rfl⟩
  · exact .inr ⟨_, rfl⟩
theorem in_gd {c : Nat} (h : (isLet c || (isFig c || (decide (c ∈ ("ABCDEFGHIJKLMNOPQRSTUVWXYZ" : Str).cps.toList) || decide (c ∈ (" !\"#$&'()*+,-./:;<=>?\x40[\\]^_`{|}~\n" : Str).cps.toList)))) = true) : gd c = true := by
  have k1 : ∀ c ∈ ("ABCDEFGHIJKLMNOPQRSTUVWXYZ" : Str).cps.toList, gd c = true := by decide +kernel
  have k2 : ∀ c ∈ (" !\"#$&'()*+,-./:;<=>?\x40[\\]^_`{|}~\n" : Str).cps.toList, gd c = true := by decide +kernel
  simp only [Bool.or_eq_true, decide_eq_true_eq] at h
  rcases h with h | h | h | h
  · unfold isLet at h
    unfold gd
    simp only [Bool.or_eq_true, Bool.and_eq_true, decide_eq_true_eq, Bool.not_eq_true', decide_eq_false_iff_not] at h ⊢
    omega
  · unfold isFig at h
    unfold gd
    simp only [Bool.or_eq_true, Bool.and_eq_true, decide_eq_true_eq, Bool.not_eq_true', decide_eq_false_iff_not] at h ⊢
    omega
  · exact k1 c h
  · exact k2 c h
def S_need_text (N G : Addr) : FS := fun args o ret exc => ∃ v, args = [v] ∧ o = [] ∧ NeedT N G v (fun _ => ret (.d .none) []) (fun C => exc ⟨C, none⟩ [])
def S_lines_of (N G : Addr) : FS := fun args o ret exc => ∃ v, args = [v] ∧ o = [] ∧ NeedT N G v (fun l => ret (.new ((linesL l).map dT)) []) (fun C => exc ⟨C, none⟩ [])
def S_run_end : FS := fun args o ret exc => ∃ (l : List Nat) (sg : Str) (a : Nat), args = [.d (dT l), .d (.int a), .d (.str sg)] ∧ o = [] ∧ a ≤ l.length ∧ l.length ≤ 10000 ∧ ret (.d (.int ((a + runTo (fun c => decide (c ∈ sg.cps.toList)) (l.drop a) : Nat) : Int))) []
def WF (w : List Nat) : Prop := w ≠ [] ∧ w.length ≤ 10000 ∧ (grp (w.headD 0) = 0 → w.length = 1)
def S_kind_of : FS := fun args o ret exc => ∃ w, args = [.d (dT w)] ∧ o = [] ∧ WF w ∧ ret (.d (.str (kindS w))) []
def S_leaves_in : FS := fun args o ret exc => ∃ (l : List Nat) (b : Nat), args = [.d (dT l), .d (.int b)] ∧ o = [] ∧ gdT l ∧ l.length ≤ 2000 ∧ ret (.new ((foldS [] b (l.take (idx 35 l))).map leafD)) []
def S_leaves_of (N G : Addr) : FS := fun args o ret exc => ∃ v, args = [v] ∧ o = [] ∧ NeedT N G v (fun l => ret (.new ((leavesL l).map leafD)) []) (fun C => exc ⟨C, none⟩ [])
theorem lit_e : ("" : Str) = tx [] := rfl
theorem lit_0 : ("0" : Str) = tx [48] := by decide +kernel
theorem lit_nl : ("\n" : Str) = tx [10] := by decide +kernel
local macro_rules
  | `(tactic| walk_at "sz") => `(tactic| first | omega | (simp only [lit_nl, tx_len, List.length_append, List.length_map, List.length_cons, List.length_nil, List.length_take, List.length_drop] <;> omega))
  | `(tactic| walk_at "go") => `(tactic| repeat (first | refine ⟨_, rfl, ?_⟩ | refine ⟨_, rfl, rfl, ?_⟩ | refine ⟨_, _, rfl, rfl, ?_⟩ | refine ⟨rfl, ?_⟩ | refine ⟨trivial, ?_⟩ | refine ⟨_, ix_hd, ?_⟩ | refine br_t rfl ?_ | refine br_f rfl ?_ | (refine ⟨le_sz ?_, ?_⟩; focus walk_at "sz") | (refine ⟨lt_sz ?_, ?_⟩; focus walk_at "sz") | (refine ⟨strLe_tx ?_, ?_⟩; focus walk_at "sz") | refine ⟨cmul_r rfl, ?_⟩ | refine ⟨cmul_l rfl, ?_⟩ | refine ⟨pos_ok rfl, ?_⟩ | refine ⟨cdiv_ok rfl, ?_⟩ | refine ⟨_, _, _, _, rfl, rfl, rfl, rfl, ?_⟩ | refine ⟨_, _, rfl, ?_⟩))
def w_need_text (C_TooGreat : Addr) (C_NoText : Addr) : SW :=
 (wSeq (wIfS (wNot (wB (wIsi "str" (wVar 0))))
  (wRaise C_NoText)
  wNext)
 (wSeq (wFor (wSt (wVar 0)) (gN 1)
  (wIfS (wAnd (wB (wNotIn (wVar 1) (wC (.str "abcdefghijklmnopqrstuvwxyz")))) (wAnd (wB (wNotIn (wVar 1) (wC (.str "0123456789")))) (wAnd (wB (wNotIn (wVar 1) (wC (.str "ABCDEFGHIJKLMNOPQRSTUVWXYZ")))) (wB (wNotIn (wVar 1) (wC (.str " !\"#$&'()*+,-./:;<=>?\x40[\\]^_`{|}~\n")))))))
  (wRaise C_NoText)
  wNext))
 (wIfS (wB (wGt (wLen (wVar 0)) (wC (.int 2000))))
  (wRaise C_TooGreat)
  wNext)))
def w_lines_of (C_TooGreat : Addr) (C_NoText : Addr) : SW :=
 (wSeq (wDrop (wCall (S_need_text C_NoText C_TooGreat) (wCons (wVar 0) wNil)))
 (wSeq (wAsg (wM1L rSplitD (wVar 0) (wC (.str "\n"))) 1)
 (wSeq (wAsg (wLc (wL (wSl (wVar 1) wNoPart (wPart (wNeg (wC (.int 1)))))) (gN 3) wYes (wAdd (wVar 3) (wC (.str "\n"))) [3]) 2)
 (wSeq (wIfS (wB (wNe (wIx (wVar 1) (wNeg (wC (.int 1)))) (wC (.str ""))))
  (wDrop (wApp (wVar 2) (wIx (wVar 1) (wNeg (wC (.int 1))))))
  wNext)
 (wRet (wVar 2))))))
def w_run_end : SW :=
 (wSeq (wAsg (wVar 1) 3)
 (wSeq (wWh (wAnd (wB (wLt (wVar 3) (wLen (wVar 0)))) (wB (wIn (wIx (wVar 0) (wVar 3)) (wVar 2))))
  (wAsg (wAdd (wVar 3) (wC (.int 1))) 3))
 (wRet (wVar 3))))
def w_kind_of : SW :=
 (wSeq (wIfS (wB (wIn (wIx (wVar 0) (wC (.int 0))) (wC (.str "abcdefghijklmnopqrstuvwxyz"))))
  (wSeq (wIfS (wOr (wB (wIn (wVar 0) (wC (PyData.tuple [(PyData.str "let"), (PyData.str "set"), (PyData.str "say"), (PyData.str "read"), (PyData.str "fault"), (PyData.str "do"), (PyData.str "if"), (PyData.str "else"), (PyData.str "while"), (PyData.str "block"), (PyData.str "with"), (PyData.str "helper"), (PyData.str "try"), (PyData.str "catch"), (PyData.str "finally"), (PyData.str "end")])))) (wB (wEq (wVar 0) (wC (.str "not")))))
  (wRet (wC (.str "word")))
  wNext)
 (wRet (wIf (wB (wLe (wLen (wVar 0)) (wC (.int 8)))) (wC (.str "name")) (wC (.str "odd")))))
  wNext)
 (wSeq (wIfS (wB (wIn (wIx (wVar 0) (wC (.int 0))) (wC (.str "0123456789"))))
  (wSeq (wAsg (wAndV (wLe (wLen (wVar 0)) (wC (.int 6))) (wOrV (wNe (wIx (wVar 0) (wC (.int 0))) (wC (.str "0"))) (wEq (wVar 0) (wC (.str "0"))))) 1)
 (wRet (wIf (wB (wVar 1)) (wC (.str "number")) (wC (.str "odd")))))
  wNext)
 (wRet (wIf (wB (wIn (wVar 0) (wC (.str "()[],=+-*<")))) (wC (.str "sign")) (wC (.str "odd"))))))
def w_leaves_in : SW :=
 (wSeq (wAsg (wM1 rFindD (wVar 0) (wC (.str "#"))) 2)
 (wSeq (wIfS (wB (wLt (wVar 2) (wC (.int 0))))
  (wAsg (wLen (wVar 0)) 2)
  wNext)
 (wSeq (wAsg (wLst wNil) 3)
 (wSeq (wAsg (wC (.int 0)) 4)
 (wSeq (wWh (wB (wLt (wVar 4) (wVar 2)))
  (wSeq (wAsg (wAdd (wVar 4) (wC (.int 1))) 5)
 (wSeq (wIfS (wB (wIn (wIx (wVar 0) (wVar 4)) (wC (.str "abcdefghijklmnopqrstuvwxyz"))))
  (wAsg (wCall S_run_end (wCons (wVar 0) (wCons (wVar 4) (wCons (wC (.str "abcdefghijklmnopqrstuvwxyz")) wNil)))) 5)
  wNext)
 (wSeq (wIfS (wB (wIn (wIx (wVar 0) (wVar 4)) (wC (.str "0123456789"))))
  (wAsg (wCall S_run_end (wCons (wVar 0) (wCons (wVar 4) (wCons (wC (.str "0123456789")) wNil)))) 5)
  wNext)
 (wSeq (wIfS (wB (wNotIn (wIx (wVar 0) (wVar 4)) (wC (.str " \n"))))
  (wDrop (wApp (wVar 3) (wTup (wCons (wCall S_kind_of (wCons (wSl (wVar 0) (wPart (wVar 4)) (wPart (wVar 5))) wNil)) (wCons (wSl (wVar 0) (wPart (wVar 4)) (wPart (wVar 5))) (wCons (wAdd (wVar 1) (wVar 4)) wNil))))))
  wNext)
 (wAsg (wVar 5) 4))))))
 (wRet (wVar 3)))))))
def w_leaves_of (C_TooGreat : Addr) (C_NoText : Addr) : SW :=
 (wSeq (wAsg (wLst wNil) 1)
 (wSeq (wAsg (wC (.int 0)) 2)
 (wSeq (wFor (wL (wCall (S_lines_of C_NoText C_TooGreat) (wCons (wVar 0) wNil))) (gN 3)
  (wSeq (wDrop (wExt (wVar 1) (wCall S_leaves_in (wCons (wVar 3) (wCons (wVar 2) wNil)))))
 (wAsg (wAdd (wVar 2) (wLen (wVar 3))) 2)))
 (wRet (wVar 1)))))
theorem pure_run_end : ∀ args o ret exc, S_run_end args o ret exc → w_run_end (fun x s => exc x (cutL o.length s.o)) (pst0 args o 4) (bodyE o.length ret) := by
  rintro _ _ ret exc ⟨l, sg, a, rfl, rfl, ha, hz, h⟩
  walk_at "go"
  refine ⟨fun m s => ∃ e : Nat, s = ⟨[some (.d (dT l)), some (.d (.int a)), some (.d (.str sg)), some (.d (.int e))], []⟩ ∧ e ≤ l.length ∧ a + runTo (fun c => decide (c ∈ sg.cps.toList)) (l.drop a) = e + runTo (fun c => decide (c ∈ sg.cps.toList)) (l.drop e) ∧ m = l.length - e, ⟨_, a, rfl, ha, rfl, rfl⟩, ?_⟩
  rintro m _ ⟨e, rfl, he, hr, rfl⟩
  walk_at "go"
  rw [tx_len]
  refine ⟨fun h1 => ?_, fun h1 => ?_⟩
  · walk_at "go"
    have h2 : e < l.length := by simpa using h1
    refine ⟨_, ix_tx h2, ?_⟩
    walk_at "go"
    refine ⟨fun h3 => ?_, fun h3 => ?_⟩
    · walk_at "go"
      refine ⟨_, by omega, .inl ⟨e + 1, rfl, h2, ?_, rfl⟩⟩
      rw [hr, runTo_drop _ h2, if_pos (by simpa using h3)]
      omega
    · walk_at "go"
      have e0 : a + runTo (fun c => decide (c ∈ sg.cps.toList)) (l.drop a) = e := by
        rw [hr, runTo_drop _ h2, if_neg (by simpa using h3)]
        rfl
      rw [e0] at h
      exact h
  · walk_at "go"
    have h2 : e = l.length := by
      have : ¬ e < l.length := by simpa using h1
      omega
    have e0 : a + runTo (fun c => decide (c ∈ sg.cps.toList)) (l.drop a) = e := by
      rw [hr, h2, List.drop_of_length_le (Nat.le_refl _)]
      rfl
    rw [e0] at h
    exact h
theorem gds (c : Nat) : (isLet c || (isFig c || (decide (c ∈ ("ABCDEFGHIJKLMNOPQRSTUVWXYZ" : Str).cps.toList) || decide (c ∈ (" !\"#$&'()*+,-./:;<=>?\x40[\\]^_`{|}~\n" : Str).cps.toList)))) = gd c := by
  rw [Bool.eq_iff_iff]
  exact ⟨in_gd, gd_in⟩
theorem pure_need_text (G N : Addr) : ∀ args o ret exc, S_need_text N G args o ret exc → w_need_text G N (fun x s => exc x (cutL o.length s.o)) (pst0 args o 2) (bodyE o.length ret) := by
  rintro _ _ ret exc ⟨v, rfl, rfl, h⟩
  rcases h with ⟨l, rfl, hl, h1, h2, h3⟩ | ⟨x, rfl, hx, h⟩ | ⟨kvs, rfl, h⟩
  · walk_at "go"
    refine ⟨fun j s => ∃ x, s = ⟨[some (.d (dT l)), x], []⟩ ∧ ∀ i, i < j → ∀ c, l[i]? = some c → gd c = true, ⟨_, rfl, fun i z => by omega⟩, fun _ _ _ _ => trivial, ?_, ?_⟩
    · rintro j _ _ hx ⟨x, rfl, hgd⟩
      obtain ⟨hj0, rfl⟩ := map_get hx
      have hj : j < l.length := hj0
      have hc := gds l[j]
      have nx : gd l[j] = true → ∃ x, (⟨[some (.d (dT l)), some (.d (dT [l[j]]))], []⟩ : PSt) = ⟨[some (.d (dT l)), x], []⟩ ∧ ∀ i, i < j + 1 → ∀ c, l[i]? = some c → gd c = true := fun z => ⟨_, rfl, fun i hi c e => by
        rcases Nat.lt_or_ge i j with q | q
        · exact hgd i q c e
        · have : i = j := by omega
          subst this
          rw [List.getElem?_eq_getElem (show i < l.length from hj)] at e
          cases e
          exact z⟩
      walk_at "go"
      refine br_s (!isLet l[j]) (congrArg Bool.not (let_mem _)) (fun h1 => ?_) (fun h1 => ?_)
      · walk_at "go"
        refine br_s (!isFig l[j]) (congrArg Bool.not (fig_mem _)) (fun h2 => ?_) (fun h2 => ?_)
        · walk_at "go"
          refine br_s _ rfl (fun h3' => ?_) (fun h3' => ?_)
          · walk_at "go"
            refine br_s _ rfl (fun h4' => ?_) (fun h4' => ?_)
            · walk_at "go"
              refine h3 fun hg => ?_
              have h3' : (!decide (l[j] ∈ ("ABCDEFGHIJKLMNOPQRSTUVWXYZ" : Str).cps.toList)) = true := h3'
              have h4' : (!decide (l[j] ∈ (" !\"#$&'()*+,-./:;<=>?\x40[\\]^_`{|}~\n" : Str).cps.toList)) = true := h4'
              rw [Bool.not_eq_true'] at h1 h2 h3' h4'
              rw [h1, h2, h3', h4'] at hc
              exact absurd (hc.trans (hg _ (List.getElem_mem hj))) (by decide)
            · walk_at "go"
              refine .inl (nx ?_)
              have h4' : (!decide (l[j] ∈ (" !\"#$&'()*+,-./:;<=>?\x40[\\]^_`{|}~\n" : Str).cps.toList)) = false := h4'
              rw [Bool.not_eq_false'] at h4'
              rw [← hc, h4']
              simp
          · walk_at "go"
            refine .inl (nx ?_)
            have h3' : (!decide (l[j] ∈ ("ABCDEFGHIJKLMNOPQRSTUVWXYZ" : Str).cps.toList)) = false := h3'
            rw [Bool.not_eq_false'] at h3'
            rw [← hc, h3']
            simp
        · walk_at "go"
          refine .inl (nx ?_)
          rw [Bool.not_eq_false'] at h2
          rw [← hc, h2]
          simp
      · walk_at "go"
        refine .inl (nx ?_)
        rw [Bool.not_eq_false'] at h1
        rw [← hc, h1]
        simp
    · rintro _ ⟨x, rfl, hgd⟩
      have hg : gdT l := fun c m => by
        obtain ⟨i, hi, e⟩ := List.getElem_of_mem m
        exact hgd i (by rw [chars_len]; exact hi) c (by rw [List.getElem?_eq_getElem hi, e])
      walk_at "go"
      rw [tx_len]
      refine br_d (2000 < l.length) (by rw [decide_eq_true_eq]; omega) (fun h => ?_) (fun h => ?_)
      · walk_at "go"
        exact h2 hg h
      · exact h1 hg (by omega)
  · walk_at "go"
    refine ⟨_, _, rfl, hx, ?_⟩
    walk_at "go"
    exact h
  · walk_at "go"
    exact h
theorem pure_lines_of (G N : Addr) : ∀ args o ret exc, S_lines_of N G args o ret exc → w_lines_of G N (fun x s => exc x (cutL o.length s.o)) (pst0 args o 4) (bodyE o.length ret) := by
  rintro _ _ ret exc ⟨v, rfl, rfl, h⟩
  have h0 := h
  rcases h.arg with ⟨x, rfl⟩ | ⟨kvs, rfl⟩
  all_goals
    walk_at "go"
    refine h0.imp (fun l ev hg hl hq => ?_) fun C z => z
    first
      | (cases ev; done)
      | (injection ev with ev; subst ev)
  clear h0 h
  have h := hq
  clear hq
  have e : List.map PyData.str (Txt.split (tx l) ("\n" : Str)) = (spl1 10 [] l).map dT := by
    rw [lit_nl]
    exact split_tx l (by omega)
  obtain ⟨hf, hn⟩ := spl1_le 10 l []
  obtain ⟨ps, hps⟩ : ∃ ps, ps = spl1 10 [] l := ⟨_, rfl⟩
  have hne : ps ≠ [] := hps ▸ spl1_ne _ _ _
  rw [← hps] at e hf hn
  have hL : linesL l = mkLines ps := congrArg mkLines hps.symm
  rw [hL, mkLines_eq ps hne] at h
  have hdl : ps.dropLast.length ≤ 2000 := by rw [List.length_dropLast]; omega
  walk_at "go"
  rw [e, cutD_last]
  refine ⟨(fun S j acc s => s = S ∧ acc = (ps.dropLast.take j).map fun x => dT (x ++ [10])) _, ⟨rfl, rfl⟩, fun _ _ _ _ _ => trivial, ?_, ?_⟩
  · rintro j x acc s2 hx ho ⟨rfl, rfl⟩
    have hx' : (ps.dropLast.map dT)[j]? = some x := by
      rw [← hx, List.map_dropLast]
    obtain ⟨hj, rfl⟩ := map_get hx'
    have hz : ps.dropLast[j].length ≤ 2000 := by
      have := hf _ (List.dropLast_subset _ (List.getElem_mem hj))
      simp only [List.length_nil] at this
      omega
    clear hx hx'
    walk_at "go"
    rw [take_map_succ hj, lit_nl, tx_app]
  · rintro acc s2 ho ⟨rfl, rfl⟩
    have hX : (ps.dropLast.take (ps.map dT).dropLast.length).map (fun x => dT (x ++ [10])) = (ps.dropLast).map fun x => dT (x ++ [10]) := by
      rw [List.take_of_length_le (by rw [List.length_dropLast, List.length_dropLast, List.length_map]; omega)]
    rw [hX]
    walk_at "go"
    refine ⟨_, ix_last (by simpa using hne), ?_⟩
    rw [List.getLast_map, lit_e]
    walk_at "go"
    refine br_d (ps.getLast hne ≠ []) ?_ (fun h1 => ?_) (fun h1 => ?_)
    · show (!PyData.eqv _ _) = true ↔ _
      rw [eqv_tx]; simp
    · rw [if_neg h1] at h
      walk_at "go"
      refine ⟨_, ix_last (by simpa using hne), ?_⟩
      rw [List.getLast_map]
      walk_at "go"
      rw [List.map_append, List.map_map] at h
      exact ⟨Nat.zero_le _, _, rfl, h⟩
    · rw [if_pos (Decidable.not_not.mp h1), List.append_nil, List.map_map] at h
      walk_at "go"
      exact ⟨Nat.zero_le _, _, rfl, h⟩
theorem pure_kind_of : ∀ args o ret exc, S_kind_of args o ret exc → w_kind_of (fun x s => exc x (cutL o.length s.o)) (pst0 args o 2) (bodyE o.length ret) := by
  rintro _ _ ret exc ⟨w, rfl, rfl, ⟨hw, hl, hg⟩, h⟩
  cases w with
  | nil => exact absurd rfl hw
  | cons c r =>
  unfold kindS at h
  walk_at "go"
  refine br_s (isLet c) (let_mem c) (fun h1 => ?_) (fun h1 => ?_)
  · rw [if_pos (show isLet ((c :: r).headD 0) = true from h1)] at h
    walk_at "go"
    refine br_s _ rfl (fun h2 => ?_) (fun h2 => ?_)
    · walk_at "go"
      rw [show inD (dT (c :: r)) rowD = true from h2] at h
      exact h
    · have h2' : inD (dT (c :: r)) rowD = false := h2
      rw [h2'] at h
      walk_at "go"
      refine br_s _ rfl (fun h3 => ?_) (fun h3 => ?_)
      · rw [show PyData.eqv (dT (c :: r)) (.str "not") = true from h3] at h
        walk_at "go"
        exact h
      · rw [show PyData.eqv (dT (c :: r)) (.str "not") = false from h3] at h
        walk_at "go"
        rw [tx_len]
        refine br_d ((c :: r).length ≤ 8) (by rw [decide_eq_true_eq]; omega) (fun h4 => ?_) (fun h4 => ?_)
        · rw [if_pos h4] at h
          exact h
        · rw [if_neg h4] at h
          exact h
  · rw [if_neg (show ¬ isLet ((c :: r).headD 0) = true from by rw [show isLet ((c :: r).headD 0) = false from h1]; simp)] at h
    walk_at "go"
    refine br_s (isFig c) (fig_mem c) (fun h2 => ?_) (fun h2 => ?_)
    · rw [if_pos (show isFig ((c :: r).headD 0) = true from h2)] at h
      walk_at "go"
      rw [tx_len]
      refine br_d ((c :: r).length ≤ 6) (by rw [decide_eq_true_eq]; omega) (fun h3 => ?_) (fun h3 => ?_)
      · walk_at "go"
        rw [lit_0]
        refine br_d (c ≠ 48) (by show (!PyData.eqv (dT [c]) (dT [48])) = true ↔ _; rw [eqv_tx]; simp) (fun h4 => ?_) (fun h4 => ?_)
        · rw [if_pos ⟨h3, .inl h4⟩] at h
          walk_at "go"
          exact h
        · walk_at "go"
          have h4' : c = 48 := Decidable.not_not.mp h4
          refine br_d (r = []) (by show PyData.eqv (dT (c :: r)) (dT [48]) = true ↔ _; rw [eqv_tx, h4']; simp) (fun h5 => ?_) (fun h5 => ?_)
          · rw [if_pos ⟨h3, .inr (by rw [h5]; rfl)⟩] at h
            exact h
          · rw [if_neg (fun z => by
              rcases z.2 with z | z
              · exact h4 z
              · exact h5 (by simpa using z))] at h
            exact h
      · rw [if_neg (fun z => h3 z.1)] at h
        walk_at "go"
        exact h
    · rw [if_neg (show ¬ isFig ((c :: r).headD 0) = true from by rw [show isFig ((c :: r).headD 0) = false from h2]; simp)] at h
      have hr : r = [] := by
        have := hg (by show grp c = 0; unfold grp; rw [h1, h2]; rfl)
        simpa using this
      subst hr
      walk_at "go"
      refine br_s _ rfl (fun h3 => ?_) (fun h3 => ?_)
      · rw [if_pos (show decide (([c] : List Nat).headD 0 ∈ ("()[],=+-*<" : Str).cps.toList) = true from h3)] at h
        walk_at "go"
        exact h
      · rw [if_neg (show ¬ decide (([c] : List Nat).headD 0 ∈ ("()[],=+-*<" : Str).cps.toList) = true from by rw [show decide (([c] : List Nat).headD 0 ∈ ("()[],=+-*<" : Str).cps.toList) = false from h3]; simp)] at h
        walk_at "go"
        exact h
theorem let_grp (c : Nat) : isLet c = true ↔ grp c = 1 := ⟨fun h => (grp_let h).1, grp_1⟩
theorem fig_grp (c : Nat) : isFig c = true ↔ grp c = 2 := ⟨fun h => (grp_fig h).1, grp_2⟩
theorem letf : (fun c => decide (c ∈ ("abcdefghijklmnopqrstuvwxyz" : Str).cps.toList)) = isLet := funext let_mem
theorem figf : (fun c => decide (c ∈ ("0123456789" : Str).cps.toList)) = isFig := funext fig_mem
def w_loop : SW := (wSeq (wWh (wB (wLt (wVar 4) (wVar 2)))
  (wSeq (wAsg (wAdd (wVar 4) (wC (.int 1))) 5)
 (wSeq (wIfS (wB (wIn (wIx (wVar 0) (wVar 4)) (wC (.str "abcdefghijklmnopqrstuvwxyz"))))
  (wAsg (wCall S_run_end (wCons (wVar 0) (wCons (wVar 4) (wCons (wC (.str "abcdefghijklmnopqrstuvwxyz")) wNil)))) 5)
  wNext)
 (wSeq (wIfS (wB (wIn (wIx (wVar 0) (wVar 4)) (wC (.str "0123456789"))))
  (wAsg (wCall S_run_end (wCons (wVar 0) (wCons (wVar 4) (wCons (wC (.str "0123456789")) wNil)))) 5)
  wNext)
 (wSeq (wIfS (wB (wNotIn (wIx (wVar 0) (wVar 4)) (wC (.str " \n"))))
  (wDrop (wApp (wVar 3) (wTup (wCons (wCall S_kind_of (wCons (wSl (wVar 0) (wPart (wVar 4)) (wPart (wVar 5))) wNil)) (wCons (wSl (wVar 0) (wPart (wVar 4)) (wPart (wVar 5))) (wCons (wAdd (wVar 1) (wVar 4)) wNil))))))
  wNext)
 (wAsg (wVar 5) 4))))))
 (wRet (wVar 3)))
theorem leaves_loop {ret : RV → List OC → Prop} {kx : KX} {l : List Nat} {b : Nat} (hg : gdT l) (hl : l.length ≤ 2000) (h : ret (RV.new (List.map leafD (foldS [] b (l.take (idx 35 l))))) [])
    (key : ∀ x y, l.drop (idx 35 l) = x :: y → x = 35) (hi : idx 35 l ≤ l.length) : w_loop kx ⟨[some (.d (dT l)), some (.d (.int b)), some (.d (.int (idx 35 l : Nat))), some (.own 0), some (.d (.int 0)), none], [.dl []]⟩ (bodyE 0 ret) := by
  generalize ht : l.drop (idx 35 l) = t at key
  generalize hT : foldS [] b (l.take (idx 35 l)) = T at h
  have hk1 : ∀ x y, t = x :: y → isLet x = false := fun x y e => by rw [key x y e]; rfl
  have hk2 : ∀ x y, t = x :: y → isFig x = false := fun x y e => by rw [key x y e]; rfl
  generalize hst : idx 35 l = stop at *
  refine ⟨fun m s => ∃ (p : Nat) (F : List Lf) (x : Option PV) (R : List Nat), s = ⟨[some (.d (dT l)), some (.d (.int b)), some (.d (.int (stop : Nat))), some (.own 0), some (.d (.int p)), x], [.dl (F.map leafD)]⟩ ∧ p + R.length = stop ∧ l.drop p = R ++ t ∧ Ok F (b + p) ∧ NJ F (b + p) R ∧ foldS F (b + p) R = T ∧ F.length ≤ p ∧ m = stop - p,
    ⟨_, 0, [], none, l.take stop, rfl, ?_, ?_, ok_nil _, fun _ _ _ => rfl, hT, Nat.le_refl _, rfl⟩, ?_⟩
  · rw [List.length_take]; omega
  · rw [← ht, List.take_append_drop]; rfl
  rintro m _ ⟨p, F, x, R, rfl, hR, hd, hok, hnj, hf, hF, rfl⟩
  walk_at "go"
  refine br_d (p < stop) (by rw [decide_eq_true_eq]; omega) (fun h1 => ?_) (fun h1 => ?_)
  · cases R with
    | nil => exfalso; simp at hR; omega
    | cons c r =>
    have hd' : l.drop p = c :: (r ++ t) := hd
    obtain ⟨hp, hc⟩ := get_of_drop hd'
    rw [List.length_cons] at hR
    have hix : ixD (dT l) (p : Int) = some (dT [c]) := by rw [ix_tx hp, hc]
    walk_at "go"
    refine ⟨_, hix, ?_⟩
    walk_at "go"
    refine br_s (isLet c) (let_mem c) (fun h2 => ?_) (fun h2 => ?_)
    · obtain ⟨k, hk, e1, e2, e3, e4, e5, e6⟩ := turn_word (g := 1) (by omega) let_grp (fun c z => (grp_let (grp_1 z)).2.1) hd' hk1 hnj (grp_let h2).1 hok hg
      obtain ⟨_, h3, h4⟩ := grp_let h2
      walk_at "go"
      refine ⟨l, _, p, rfl, rfl, by omega, by omega, ?_⟩
      rw [letf, e1]
      walk_at "go"
      refine ⟨_, hix, ?_⟩
      walk_at "go"
      refine br_f ((fig_mem c).trans h4) ?_
      walk_at "go"
      refine ⟨_, hix, ?_⟩
      walk_at "go"
      refine br_t (congrArg Bool.not ((sp_mem c).trans h3)) ?_
      have hC : cutS (tx l) (some (p : Int)) (some ((p + (k + 1) : Nat) : Int)) = tx (c :: r.take k) := (cut_tx l p (p + (k + 1))).trans (congrArg tx e2)
      have hC2 := tx_inj (a := (cutS (tx l) (some (p : Int)) (some ((p + (k + 1) : Nat) : Int))).cps.toList) ((tx_eq _).symm.trans hC)
      dsimp only [cutS] at hC2
      walk_at "go"
      rw [hC2]
      refine ⟨⟨by simp, by rw [List.length_cons, List.length_take]; omega, fun z => by rw [show grp ((c :: r.take k).headD 0) = 1 from (grp_let h2).1] at z; omega⟩, ?_⟩
      walk_at "go"
      rw [hC]
      walk_at "go"
      refine ⟨_, by omega, .inl ⟨p + (k + 1), F ++ [(c :: r.take k, b + p)], some (.d (.int ((p + (k + 1) : Nat) : Int))), r.drop k, ?_, by rw [List.length_drop]; omega, e3, e6, e5, e4.symm.trans hf, by rw [List.length_append, List.length_cons, List.length_nil]; omega, rfl⟩⟩
      rw [List.map_append]
      rfl
    · walk_at "go"
      refine ⟨_, hix, ?_⟩
      walk_at "go"
      refine br_s (isFig c) (fig_mem c) (fun h3 => ?_) (fun h3 => ?_)
      · obtain ⟨k, hk, e1, e2, e3, e4, e5, e6⟩ := turn_word (g := 2) (by omega) fig_grp (fun c z => (grp_fig (grp_2 z)).2.1) hd' hk2 hnj (grp_fig h3).1 hok hg
        obtain ⟨_, h4, _⟩ := grp_fig h3
        walk_at "go"
        refine ⟨l, _, p, rfl, rfl, by omega, by omega, ?_⟩
        rw [figf, e1]
        walk_at "go"
        refine ⟨_, hix, ?_⟩
        walk_at "go"
        refine br_t (congrArg Bool.not ((sp_mem c).trans h4)) ?_
        have hC : cutS (tx l) (some (p : Int)) (some ((p + (k + 1) : Nat) : Int)) = tx (c :: r.take k) := (cut_tx l p (p + (k + 1))).trans (congrArg tx e2)
        have hC2 := tx_inj (a := (cutS (tx l) (some (p : Int)) (some ((p + (k + 1) : Nat) : Int))).cps.toList) ((tx_eq _).symm.trans hC)
        dsimp only [cutS] at hC2
        walk_at "go"
        rw [hC2]
        refine ⟨⟨by simp, by rw [List.length_cons, List.length_take]; omega, fun z => by rw [show grp ((c :: r.take k).headD 0) = 2 from (grp_fig h3).1] at z; omega⟩, ?_⟩
        walk_at "go"
        rw [hC]
        walk_at "go"
        refine ⟨_, by omega, .inl ⟨p + (k + 1), F ++ [(c :: r.take k, b + p)], some (.d (.int ((p + (k + 1) : Nat) : Int))), r.drop k, ?_, by rw [List.length_drop]; omega, e3, e6, e5, e4.symm.trans hf, by rw [List.length_append, List.length_cons, List.length_nil]; omega, rfl⟩⟩
        rw [List.map_append]
        rfl
      · walk_at "go"
        refine ⟨_, hix, ?_⟩
        walk_at "go"
        have g0 := grp_0 h2 h3
        refine br_s (!isSp c) (congrArg Bool.not (sp_mem c)) (fun h4 => ?_) (fun h4 => ?_)
        · have h4' : isSp c = false := by simpa using h4
          obtain ⟨e2, e3, e4, e5, e6⟩ := turn_one (F := F) (b := b) hd' g0 h4' hok hg
          have hC : cutS (tx l) (some (p : Int)) (some ((p : Int) + 1)) = tx [c] := (cut_tx l p (p + 1)).trans (congrArg tx e2)
          have hC2 := tx_inj (a := (cutS (tx l) (some (p : Int)) (some ((p : Int) + 1))).cps.toList) ((tx_eq _).symm.trans hC)
          dsimp only [cutS] at hC2
          walk_at "go"
          rw [hC2]
          refine ⟨⟨by simp, by simp, fun _ => rfl⟩, ?_⟩
          walk_at "go"
          rw [hC]
          walk_at "go"
          refine ⟨_, by omega, .inl ⟨p + 1, F ++ [([c], b + p)], some (.d (.int ((p : Int) + 1))), r, ?_, by omega, e3, e6, e5, e4.symm.trans hf, by rw [List.length_append, List.length_cons, List.length_nil]; omega, rfl⟩⟩
          rw [List.map_append]
          rfl
        · have h4' : isSp c = true := by simpa using h4
          obtain ⟨e3, e4, e5, e6⟩ := turn_sp (F := F) (b := b) hd' h4' hok
          walk_at "go"
          exact ⟨_, by omega, .inl ⟨p + 1, F, some (.d (.int ((p : Int) + 1))), r, rfl, by omega, e3, e6, e5, e4.symm.trans hf, by omega, rfl⟩⟩
  · have h2 : R = [] := by
      cases R with
      | nil => rfl
      | cons c r => rw [List.length_cons] at hR; omega
    subst h2
    have hf' : F = T := hf
    rw [← hf'] at h
    walk_at "go"
    exact ⟨Nat.zero_le _, _, rfl, h⟩
theorem pure_leaves_in : ∀ args o ret exc, S_leaves_in args o ret exc → w_leaves_in (fun x s => exc x (cutL o.length s.o)) (pst0 args o 6) (bodyE o.length ret) := by
  rintro _ _ ret exc ⟨l, b, rfl, rfl, hg, hl, h⟩
  have hi := idx_le 35 l
  walk_at "go"
  rw [show Txt.find (tx l) ("#" : Str) = _ from find_tx l 35]
  have key : ∀ x y, l.drop (idx 35 l) = x :: y → x = 35 := fun x y e => by
    obtain ⟨hp, e2⟩ := get_of_drop e
    have := idx_lt_get 35 l hp
    rw [List.getElem?_eq_getElem hp, e2] at this
    exact Option.some.inj this
  refine br_s (!decide (idx 35 l < l.length)) (by
    split
    · rename_i h1; rw [decide_eq_true h1]; exact decide_eq_false (by omega)
    · rename_i h1; rw [decide_eq_false h1]; rfl) (fun h1 => ?_) (fun h1 => ?_)
  all_goals walk_at "go"
  · rw [if_neg (by simpa using h1), tx_len, show l.length = idx 35 l from by
      have : ¬ idx 35 l < l.length := by simpa using h1
      omega]
    exact leaves_loop hg hl h key hi
  · rw [if_pos (by simpa using h1)]
    exact leaves_loop hg hl h key hi
theorem pure_leaves_of (G N : Addr) : ∀ args o ret exc, S_leaves_of N G args o ret exc → w_leaves_of G N (fun x s => exc x (cutL o.length s.o)) (pst0 args o 4) (bodyE o.length ret) := by
  rintro _ _ ret exc ⟨v, rfl, rfl, h⟩
  have h0 := h
  rcases h.arg with ⟨x, rfl⟩ | ⟨kvs, rfl⟩
  all_goals
    walk_at "go"
    refine h0.imp (fun l ev hg hl hq => ?_) fun C z => z
    first
      | (cases ev; done)
      | (injection ev with ev; subst ev)
  clear h0 h
  have h := hq
  clear hq
  have hfl := lines_flat l
  walk_at "go"
  unfold leavesL at h
  have hB : ∀ x ∈ linesL l, gdT x ∧ x.length ≤ 2000 := fun x m => by
    refine ⟨fun c mc => hg c (hfl ▸ List.mem_flatten.mpr ⟨x, m, mc⟩), ?_⟩
    have := (List.sublist_flatten_of_mem m).length_le
    rw [hfl] at this
    omega
  generalize hLs : linesL l = Ls at *
  refine ⟨(fun O j s => ∃ (b : Nat) (F : List Lf) (x : Option PV), s = ⟨[some (.d (dT l)), some (.own 0), some (.d (.int b)), x], .dl (F.map leafD) :: O⟩ ∧ lvs 0 Ls = F ++ lvs b (Ls.drop j) ∧ F.length ≤ b ∧ b = ((Ls.take j).flatten).length) _, ⟨0, [], _, rfl, rfl, Nat.le_refl _, rfl⟩, fun _ _ _ _ => trivial, ?_, ?_⟩
  · rintro j x s1 hx ⟨b, F, y, rfl, hF, hn, hb⟩
    obtain ⟨hj, rfl⟩ := map_get hx
    obtain ⟨hg1, hl1⟩ := hB _ (List.getElem_mem hj)
    obtain ⟨e1, e2⟩ := flat_take hj
    rw [hfl] at e2
    have hnew : (foldS [] b (Ls[j].take (idx 35 Ls[j]))).length ≤ Ls[j].length := by
      have := foldS_len (Ls[j].take (idx 35 Ls[j])) [] b
      rw [List.length_take, List.length_nil] at this
      omega
    walk_at "go"
    refine ⟨hg1, hl1, ?_⟩
    walk_at "go"
    refine .inr ⟨b + Ls[j].length, F ++ foldS [] b (Ls[j].take (idx 35 Ls[j])), some (.d (dT Ls[j])), ?_, ?_, ?_, ?_⟩
    · rw [List.map_append, tx_len]; rfl
    · rw [hF, List.drop_eq_getElem_cons hj, List.append_assoc]; rfl
    · rw [List.length_append]; omega
    · rw [e1, hb]
  · rintro s1 ⟨b, F, y, rfl, hF, hn⟩
    rw [List.length_map, List.drop_of_length_le (Nat.le_refl _)] at hF
    have hF' : lvs 0 Ls = F := by rw [hF]; exact List.append_nil _
    rw [hF'] at h
    walk_at "go"
    exact ⟨Nat.zero_le _, _, rfl, h⟩
end PW

namespace PC
open PySem L2 PW
/-! ### a number by a cell and its place -/
def S_law_cell_at : FS := fun args o ret exc => ∃ (ns : List Int) (k : Nat), args = [.scr ns, .d (.int k)] ∧ o = [] ∧ ns.length ≤ 63 ∧ k ≤ 10000 ∧ ∀ v : Int, ret (.d (.int v)) []
local macro_rules
  | `(tactic| walk_at "sz") => `(tactic| first | omega | (simp only [lit_nl, tx_len, List.length_append, List.length_map, List.length_cons, List.length_nil, List.length_take, List.length_drop] <;> omega))
  | `(tactic| walk_at "go") => `(tactic| repeat (first | refine ⟨_, rfl, ?_⟩ | refine ⟨_, rfl, rfl, ?_⟩ | refine ⟨_, _, rfl, rfl, ?_⟩ | refine ⟨rfl, ?_⟩ | refine ⟨trivial, ?_⟩ | refine ⟨_, ix_hd, ?_⟩ | refine br_t rfl ?_ | refine br_f rfl ?_ | (refine ⟨le_sz ?_, ?_⟩; focus walk_at "sz") | (refine ⟨lt_sz ?_, ?_⟩; focus walk_at "sz") | (refine ⟨strLe_tx ?_, ?_⟩; focus walk_at "sz") | refine ⟨cmul_r rfl, ?_⟩ | refine ⟨cmul_l rfl, ?_⟩ | refine ⟨pos_ok rfl, ?_⟩ | refine ⟨cdiv_ok rfl, ?_⟩ | refine ⟨_, _, _, _, rfl, rfl, rfl, rfl, ?_⟩ | refine ⟨_, _, rfl, ?_⟩))
def w_law_cell_at : SW :=
 (wSeq (wIfS (wB (wLt (wVar 1) (wLen (wVar 0))))
  (wRet (wIx (wVar 0) (wVar 1)))
  wNext)
 (wSeq (wAsg (wAdd (wMul (wVar 1) (wC (.int 104729))) (wC (.int 7))) 2)
 (wSeq (wIfS (wB (wGt (wLen (wVar 0)) (wC (.int 0))))
  (wAsg (wMod (wAdd (wMul (wIx (wVar 0) (wMod (wVar 1) (wLen (wVar 0)))) (wC (.int 48271))) (wMul (wVar 1) (wC (.int 104729)))) (wC (.int 2147483647))) 2)
  wNext)
 (wRet (wMod (wAdd (wMul (wVar 2) (wVar 2)) (wMul (wC (.int 48271)) (wVar 1))) (wC (.int 2147483629)))))))
theorem pure_law_cell_at : ∀ args o ret exc, S_law_cell_at args o ret exc → w_law_cell_at (fun x s => exc x (cutL o.length s.o)) (pst0 args o 3) (bodyE o.length ret) := by
  rintro _ _ ret exc ⟨ns, k, rfl, rfl, hn, hk, h⟩
  walk_at "go"
  rw [List.length_map]
  refine br_d (k < ns.length) (by rw [decide_eq_true_eq]; omega) (fun h1 => ?_) (fun h1 => ?_)
  · walk_at "go"
    refine ⟨_, ix_list (by rw [List.length_map]; exact h1), ?_⟩
    rw [List.getElem_map]
    exact h _
  · walk_at "go"
    rw [List.length_map]
    refine br_d (0 < ns.length) (by rw [decide_eq_true_eq]; omega) (fun h2 => ?_) (fun h2 => ?_)
    · walk_at "go"
      rw [List.length_map]
      refine ⟨by omega, ?_⟩
      walk_at "go"
      refine ⟨_, ix_list (l := ns.map PyData.int) (i := k % ns.length) (by rw [List.length_map]; exact Nat.mod_lt _ h2), ?_⟩
      rw [List.getElem_map]
      walk_at "go"
      refine ⟨cmul_o (.inl ⟨by omega, by omega⟩), ?_⟩
      walk_at "go"
      exact h _
    · walk_at "go"
      refine ⟨cmul_o (.inl ⟨by omega, by omega⟩), ?_⟩
      walk_at "go"
      exact h _
end PC

namespace K41
open PySem L2 PW
local macro_rules
  | `(tactic| walk_at "sz") => `(tactic| first | omega | (simp only [tx_len, List.length_append, List.length_map, List.length_cons, List.length_nil, List.length_take, List.length_drop] <;> omega))
  | `(tactic| walk_at "go") => `(tactic| repeat (first | refine ⟨rfl, ?_⟩ | refine ⟨trivial, ?_⟩ | refine ⟨_, rfl, ?_⟩ | refine ⟨_, rfl, rfl, ?_⟩ | refine ⟨_, _, rfl, rfl, ?_⟩ | refine ⟨_, ix_hd, ?_⟩ | refine br_t rfl ?_ | refine br_f rfl ?_ | (refine ⟨le_sz ?_, ?_⟩; focus walk_at "sz") | (refine ⟨lt_sz ?_, ?_⟩; focus walk_at "sz") | (refine ⟨strLe_tx ?_, ?_⟩; focus walk_at "sz") | refine ⟨cmul_r rfl, ?_⟩ | refine ⟨cmul_l rfl, ?_⟩ | refine ⟨pos_ok rfl, ?_⟩ | refine ⟨cdiv_ok rfl, ?_⟩ | refine ⟨_, _, _, _, rfl, rfl, rfl, rfl, ?_⟩ | refine ⟨_, _, rfl, ?_⟩ | refine ⟨_, _, _, rfl, rfl, rfl, ?_⟩ | refine ⟨_, _, _, rfl, rfl, ?_⟩ | rw [tx_app]))
/-! ### edits -/
abbrev Ed := Nat × Nat × List Nat
def edD (x : Ed) : PyData := .tuple [.int (x.1 : Nat), .int (x.2.1 : Nat), dT x.2.2]
def Wel (n : Nat) : Int → List Ed → Prop
  | _, [] => True
  | p, (b, e, w) :: r => p < b ∧ b ≤ e ∧ e ≤ n ∧ gdT w ∧ w.length ≤ 2000 ∧ Wel n e r
def doneA (t : List Nat) : Nat → List Ed → List Nat
  | a, [] => t.drop a
  | a, (b, e, w) :: r => (t.take b).drop a ++ (w ++ doneA t e r)
def backsA (t : List Nat) : Nat → Nat → List Ed → List Ed
  | _, _, [] => []
  | a, k, (b, e, w) :: r => (k + (b - a), k + (b - a) + w.length, (t.take e).drop b) :: backsA t e (k + (b - a) + w.length) r
def placesA : Nat → Nat → List Ed → List Nat
  | _, _, [] => []
  | a, k, (b, e, w) :: r => (k + (b - a)) :: placesA e (k + (b - a) + w.length) r
theorem mid_len {t : List Nat} {a b : Nat} (h2 : b ≤ t.length) : ((t.take b).drop a).length = b - a := by
  rw [List.length_drop, List.length_take]; omega
theorem wel_backs {t : List Nat} (ht : gdT t) (hl : t.length ≤ 2000) : ∀ (L : List Ed) (a k : Nat) (q p : Int), (a : Int) ≤ q + 1 → p - q ≤ k - a → Wel t.length q L → Wel (k + (doneA t a L).length) p (backsA t a k L)
  | [], _, _, _, _, _, _, _ => trivial
  | (b, e, w) :: r, a, k, q, p, ha, hq, ⟨h1, h2, h3, h4, h5, h6⟩ => by
    have hm := mid_len (t := t) (a := a) (b := b) (by omega)
    have ih := wel_backs ht hl r e (k + (b - a) + w.length) e (k + (b - a) + w.length : Nat) (by omega) (by omega) h6
    have hN : k + (doneA t a ((b, e, w) :: r)).length = k + (b - a) + w.length + (doneA t e r).length := by
      show k + ((t.take b).drop a ++ (w ++ doneA t e r)).length = _
      rw [List.length_append, List.length_append, hm]; omega
    rw [hN]
    refine ⟨by omega, by omega, by omega, fun c m => ht c (List.mem_of_mem_take (List.mem_of_mem_drop m)), by rw [mid_len (by omega)]; omega, ih⟩
theorem drop_join {t : List Nat} {a b : Nat} (h : a ≤ b) : (t.take b).drop a ++ t.drop b = t.drop a := by
  have e := List.take_append_drop b t
  conv => rhs; rw [← e]
  by_cases hb : b ≤ t.length
  · rw [List.drop_append_of_le_length (by rw [List.length_take]; omega)]
  · rw [List.drop_of_length_le (by omega : t.length ≤ b), List.append_nil, List.append_nil]
theorem done_backs {t F : List Nat} : ∀ (L : List Ed) (pre : List Nat) (a : Nat) (q : Int), (a : Int) ≤ q + 1 → Wel t.length q L → F = pre ++ doneA t a L → doneA F pre.length (backsA t a pre.length L) = t.drop a
  | [], pre, a, q, _, _, hF => by
    subst hF
    show (pre ++ t.drop a).drop pre.length = _
    rw [List.drop_left' rfl]
  | (b, e, w) :: r, pre, a, q, ha, ⟨h1, h2, h3, h4, h5, h6⟩, hF => by
    have hm := mid_len (t := t) (a := a) (b := b) (by omega)
    have hF2 : F = ((pre ++ (t.take b).drop a) ++ w) ++ doneA t e r := by rw [hF]; show pre ++ ((t.take b).drop a ++ (w ++ doneA t e r)) = _; simp only [List.append_assoc]
    have hl2 : ((pre ++ (t.take b).drop a) ++ w).length = pre.length + (b - a) + w.length := by rw [List.length_append, List.length_append, hm]
    have ih := done_backs (t := t) (F := F) r ((pre ++ (t.take b).drop a) ++ w) e e (by omega) h6 hF2
    rw [hl2] at ih
    show (F.take (pre.length + (b - a))).drop pre.length ++ ((t.take e).drop b ++ doneA F (pre.length + (b - a) + w.length) (backsA t e (pre.length + (b - a) + w.length) r)) = _
    have e1 : (F.take (pre.length + (b - a))).drop pre.length = (t.take b).drop a := by
      rw [hF2, List.append_assoc, List.take_left' (by rw [List.length_append, hm]), List.drop_left' rfl]
    rw [ih, e1, drop_join (by omega), drop_join (by omega)]
theorem backs_backs {t F : List Nat} : ∀ (L : List Ed) (pre : List Nat) (a : Nat) (q : Int), (a : Int) ≤ q + 1 → Wel t.length q L → F = pre ++ doneA t a L → backsA F pre.length a (backsA t a pre.length L) = L
  | [], _, _, _, _, _, _ => rfl
  | (b, e, w) :: r, pre, a, q, ha, ⟨h1, h2, h3, h4, h5, h6⟩, hF => by
    have hm := mid_len (t := t) (a := a) (b := b) (by omega)
    have hm2 := mid_len (t := t) (a := b) (b := e) (by omega)
    have hF2 : F = ((pre ++ (t.take b).drop a) ++ w) ++ doneA t e r := by rw [hF]; show pre ++ ((t.take b).drop a ++ (w ++ doneA t e r)) = _; simp only [List.append_assoc]
    have hl2 : ((pre ++ (t.take b).drop a) ++ w).length = pre.length + (b - a) + w.length := by rw [List.length_append, List.length_append, hm]
    have ih := backs_backs (t := t) (F := F) r ((pre ++ (t.take b).drop a) ++ w) e e (by omega) h6 hF2
    rw [hl2] at ih
    show (a + (pre.length + (b - a) - pre.length), a + (pre.length + (b - a) - pre.length) + ((t.take e).drop b).length, (F.take (pre.length + (b - a) + w.length)).drop (pre.length + (b - a))) :: backsA F (pre.length + (b - a) + w.length) (a + (pre.length + (b - a) - pre.length) + ((t.take e).drop b).length) (backsA t e (pre.length + (b - a) + w.length) r) = _
    have e2 : (F.take (pre.length + (b - a) + w.length)).drop (pre.length + (b - a)) = w := by
      rw [hF2, List.take_left' hl2, List.drop_left' (by rw [List.length_append, hm])]
    have e3 : a + (pre.length + (b - a) - pre.length) = b := by omega
    rw [e2, e3, hm2, show b + (e - b) = e by omega, ih]
theorem backs_len {t : List Nat} : ∀ (L : List Ed) (a k : Nat), (backsA t a k L).length = L.length
  | [], _, _ => rfl
  | (b, e, w) :: r, a, k => by rw [backsA, List.length_cons, backs_len r, List.length_cons]
theorem places_len : ∀ (L : List Ed) (a k : Nat), (placesA a k L).length = L.length
  | [], _, _ => rfl
  | (b, e, w) :: r, a, k => by rw [placesA, List.length_cons, places_len r, List.length_cons]
/-- the backs by places -/
theorem backs_get {t : List Nat} : ∀ (L : List Ed) (a k j : Nat) (h : j < L.length), ∃ p, (placesA a k L)[j]? = some p ∧ (backsA t a k L)[j]? = some (p, p + L[j].2.2.length, (t.take L[j].2.1).drop L[j].1)
  | (b, e, w) :: r, a, k, 0, _ => ⟨_, rfl, rfl⟩
  | (b, e, w) :: r, a, k, j + 1, h => by
    obtain ⟨p, h1, h2⟩ := backs_get (t := t) r e (k + (b - a) + w.length) j (by simpa using h)
    exact ⟨p, h1, h2⟩
theorem done_gd {t : List Nat} (ht : gdT t) : ∀ (L : List Ed) (a : Nat) (q : Int), Wel t.length q L → gdT (doneA t a L)
  | [], a, _, _ => fun c m => ht c (List.mem_of_mem_drop m)
  | (b, e, w) :: r, a, q, ⟨_, _, _, h4, _, h6⟩ => (show gdT ((t.take b).drop a) from fun c m => ht c (List.mem_of_mem_take (List.mem_of_mem_drop m))).app (h4.app (done_gd ht r e e h6))
def smW : List Ed → Nat
  | [] => 0
  | (_, _, w) :: r => w.length + smW r
theorem done_len {t : List Nat} : ∀ (L : List Ed) (a : Nat) (q : Int), (a : Int) ≤ q + 1 → a ≤ t.length → Wel t.length q L → (doneA t a L).length ≤ t.length - a + smW L
  | [], a, _, _, _, _ => by rw [doneA, List.length_drop]; exact Nat.le_add_right _ _
  | (b, e, w) :: r, a, q, ha, hl, ⟨h1, h2, h3, h4, _, h6⟩ => by
    have ih := done_len r e e (by omega) h3 h6
    have hm := mid_len (t := t) (a := a) (b := b) (by omega)
    show ((t.take b).drop a ++ (w ++ doneA t e r)).length ≤ _
    rw [List.length_append, List.length_append, hm, smW]
    omega
end K41

namespace K41
open PySem L2 PW
local macro_rules
  | `(tactic| walk_at "sz") => `(tactic| first | omega | (simp only [tx_len, List.length_append, List.length_map, List.length_cons, List.length_nil, List.length_take, List.length_drop] <;> omega))
  | `(tactic| walk_at "go") => `(tactic| repeat (first | refine ⟨rfl, ?_⟩ | refine ⟨trivial, ?_⟩ | refine ⟨_, rfl, ?_⟩ | refine ⟨_, rfl, rfl, ?_⟩ | refine ⟨_, _, rfl, rfl, ?_⟩ | refine ⟨_, ix_hd, ?_⟩ | refine br_t rfl ?_ | refine br_f rfl ?_ | (refine ⟨le_sz ?_, ?_⟩; focus walk_at "sz") | (refine ⟨lt_sz ?_, ?_⟩; focus walk_at "sz") | (refine ⟨strLe_tx ?_, ?_⟩; focus walk_at "sz") | refine ⟨cmul_r rfl, ?_⟩ | refine ⟨cmul_l rfl, ?_⟩ | refine ⟨pos_ok rfl, ?_⟩ | refine ⟨cdiv_ok rfl, ?_⟩ | refine ⟨_, _, _, _, rfl, rfl, rfl, rfl, ?_⟩ | refine ⟨_, _, rfl, ?_⟩ | refine ⟨_, _, _, rfl, rfl, rfl, ?_⟩ | refine ⟨_, _, _, rfl, rfl, ?_⟩ | rw [tx_app]))
theorem lit_e : ("" : Str) = tx [] := rfl
def S_is_place : FS := fun args o ret exc => ∃ (i n : Int), args = [.d (.int i), .d (.int n)] ∧ o = [] ∧ 0 ≤ i ∧ i ≤ n ∧ ret (.d (.bool true)) []
def S_is_text : FS := fun args o ret exc => ∃ l, args = [.d (dT l)] ∧ o = [] ∧ gdT l ∧ l.length ≤ 2000 ∧ ret (.d (.bool true)) []
def S_need_edits (N G E : Addr) : FS := fun args o ret exc => ∃ (t : List Nat) (L : List Ed) (e : PV), args = [.d (dT t), e] ∧ Ld o e (L.map edD) ∧ gdT t ∧ t.length ≤ 2000 ∧ Wel t.length (-1) L ∧ L.length ≤ 30 ∧ cutL o.length o = o ∧ ret (.d .none) o
def S_done (N G E : Addr) : FS := fun args o ret exc => ∃ (t : List Nat) (L : List Ed) (e : PV), args = [.d (dT t), e] ∧ Ld o e (L.map edD) ∧ gdT t ∧ t.length ≤ 2000 ∧ Wel t.length (-1) L ∧ L.length ≤ 30 ∧ cutL o.length o = o ∧ smW L ≤ 100000 ∧
  ((doneA t 0 L).length ≤ 2000 → ret (.d (dT (doneA t 0 L))) o) ∧ (2000 < (doneA t 0 L).length → exc ⟨G, none⟩ o)
def S_backs (N G E : Addr) : FS := fun args o ret exc => ∃ (t : List Nat) (L : List Ed) (e : PV), args = [.d (dT t), e] ∧ Ld o e (L.map edD) ∧ gdT t ∧ t.length ≤ 2000 ∧ Wel t.length (-1) L ∧ L.length ≤ 30 ∧ cutL o.length o = o ∧ smW L ≤ 100000 ∧
  ((doneA t 0 L).length ≤ 2000 → ret (.new ((backsA t 0 0 L).map edD)) o) ∧ (2000 < (doneA t 0 L).length → exc ⟨G, none⟩ o)
def S_grown : FS := fun args o ret exc => ∃ x : Ed, args = [.d (edD x)] ∧ o = [] ∧ x.2.2.length ≤ 2000 ∧ ret (.d (.int ((x.2.2.length : Nat) - ((x.2.1 : Nat) - (x.1 : Nat))))) []
def w_is_place : SW :=
 (wRet (wAndV (wIsi "int" (wVar 0)) (wAndV (wNotV (wIsi "bool" (wVar 0))) (wChain (rCmpD fun i j => decide (i ≤ j)) (rCmpD fun i j => decide (i ≤ j)) (wC (.int 0)) (wVar 0) (wVar 1)))))
theorem pure_is_place : ∀ args o ret exc, S_is_place args o ret exc → w_is_place (fun x s => exc x (cutL o.length s.o)) (pst0 args o 2) (bodyE o.length ret) := by
  rintro _ _ ret exc ⟨i, n, rfl, rfl, h0, h1, h⟩
  unfold w_is_place
  walk_at "go"
  refine br_t (decide_eq_true h0) ?_
  walk_at "go"
  show ret (.d (.bool (decide (i ≤ n)))) _
  rw [decide_eq_true h1]
  exact h
def w_is_text (M : MX) (C_TooGreat : Addr) (C_NoText : Addr) (C_MenderError : Addr) : SW :=
 (wSeq (wTry M (wDrop (wCall (S_need_text C_NoText C_TooGreat) (wCons (wVar 0) wNil)))
  ((C_MenderError, none, (wRet (wC (.bool false)))) :: []))
 (wRet (wC (.bool true))))
theorem pure_is_text0 {M : MX} {C1 C2 C3 : Addr} : ∀ args o ret exc, S_is_text args o ret exc → w_is_text M C1 C2 C3 (fun x s => exc x (cutL o.length s.o)) (pst0 args o 1) (bodyE o.length ret) := by
  rintro _ _ ret exc ⟨l, rfl, rfl, hg, hl, h⟩
  unfold w_is_text
  walk_at "go"
  refine NeedT.ok hg hl ?_
  walk_at "go"
  exact h
def w_grown : SW :=
 (wRet (wSub (wLen (wIx (wVar 0) (wC (.int 2)))) (wSub (wIx (wVar 0) (wC (.int 1))) (wIx (wVar 0) (wC (.int 0))))))
theorem pure_grown : ∀ args o ret exc, S_grown args o ret exc → w_grown (fun x s => exc x (cutL o.length s.o)) (pst0 args o 1) (bodyE o.length ret) := by
  rintro _ _ ret exc ⟨⟨b, e, w⟩, rfl, rfl, hl, h⟩
  have hl : w.length ≤ 2000 := hl
  unfold w_grown
  walk_at "go"
  show ret (.d (.int (((tx w).length : Nat) - ((e : Int) - (b : Int))))) _
  rw [tx_len]
  exact h
def w_need_edits (C_TooGreat : Addr) (C_NoText : Addr) (C_NoEdit : Addr) : SW :=
 (wSeq (wDrop (wCall (S_need_text C_NoText C_TooGreat) (wCons (wVar 0) wNil)))
 (wSeq (wIfS (wNot (wB (wIsi "list" (wVar 1))))
  (wRaise C_NoEdit)
  wNext)
 (wSeq (wAsg (wNeg (wC (.int 1))) 2)
 (wFor (wLX (wVar 1)) (gN 3)
  (wSeq (wIfS (wOr (wNot (wB (wIsi "tuple" (wVar 3)))) (wOr (wB (wNe (wLen (wVar 3)) (wC (.int 3)))) (wNot (wB (wCall S_is_text (wCons (wIx (wVar 3) (wC (.int 2))) wNil))))))
  (wRaise C_NoEdit)
  wNext)
 (wSeq (wIfS (wOr (wNot (wB (wCall S_is_place (wCons (wIx (wVar 3) (wC (.int 0))) (wCons (wLen (wVar 0)) wNil))))) (wNot (wB (wCall S_is_place (wCons (wIx (wVar 3) (wC (.int 1))) (wCons (wLen (wVar 0)) wNil))))))
  (wRaise C_NoEdit)
  wNext)
 (wSeq (wIfS (wNot (wB (wChain (rCmpD fun i j => decide (i < j)) (rCmpD fun i j => decide (i ≤ j)) (wVar 2) (wIx (wVar 3) (wC (.int 0))) (wIx (wVar 3) (wC (.int 1))))))
  (wRaise C_NoEdit)
  wNext)
 (wAsg (wIx (wVar 3) (wC (.int 1))) 2))))))))
theorem pure_need_edits (G N E : Addr) : ∀ args o ret exc, S_need_edits N G E args o ret exc → w_need_edits G N E (fun x s => exc x (cutL o.length s.o)) (pst0 args o 4) (bodyE o.length ret) := by
  rintro _ o ret exc ⟨t, L, e, rfl, hL, hg, hl, hW, hn, hO, h⟩
  unfold w_need_edits
  walk_at "go"
  refine NeedT.ok hg hl ?_
  walk_at "go"
  refine ⟨_, _, hL.ty, rfl, ?_⟩
  walk_at "go"
  refine ⟨_, hL, ?_⟩
  refine ⟨fun j s => ∃ (p : Int) (x3 : Option PV), s = (⟨[some (.d (dT t)), some e, some (.d (.int p)), x3], o⟩ : PSt) ∧ Wel t.length p (L.drop j), ⟨-1, none, rfl, hW⟩, ?_, ?_, ?_⟩
  · rintro j s _ ⟨p, x3, rfl, _⟩
    exact hL.src
  · rintro j x _ hx ⟨p, x3, rfl, hw⟩
    obtain ⟨hj, rfl⟩ := map_get hx
    clear hx
    rw [List.drop_eq_getElem_cons hj] at hw
    generalize hE : L[j] = ed at *
    obtain ⟨b, en, w⟩ := ed
    obtain ⟨h1, h2, h3, h4, h5, h6⟩ := hw
    walk_at "go"
    refine ⟨h4, h5, ?_⟩
    walk_at "go"
    rw [tx_len]
    refine ⟨Int.natCast_nonneg _, by show (b : Int) ≤ _; omega, ?_⟩
    walk_at "go"
    rw [tx_len]
    refine ⟨Int.natCast_nonneg _, by show (en : Int) ≤ _; omega, ?_⟩
    walk_at "go"
    refine br_t (decide_eq_true h1) ?_
    walk_at "go"
    refine br_f (show (!decide ((b : Int) ≤ (en : Int))) = false by rw [decide_eq_true (show (b : Int) ≤ (en : Int) by omega)]; rfl) ?_
    walk_at "go"
    exact .inl ⟨(en : Nat), _, rfl, h6⟩
  · rintro _ ⟨p, x3, rfl, hw⟩
    show ret _ (cutL o.length o)
    rw [hO]
    exact h
def w_done (C_TooGreat : Addr) (C_NoText : Addr) (C_NoEdit : Addr) : SW :=
 (wSeq (wDrop (wCallH (S_need_edits C_NoText C_TooGreat C_NoEdit) (wCons (wVar 0) (wCons (wVar 1) wNil))))
 (wSeq (wAsg (wC (.str "")) 2)
 (wSeq (wAsg (wC (.int 0)) 3)
 (wSeq (wFor (wLX (wVar 1)) (gT 3 (gsCons (gN 4) (gsCons (gN 5) (gsCons (gN 6) gsNil))))
  (wSeq (wAug rAddD 2 (wAdd (wSl (wVar 0) (wPart (wVar 3)) (wPart (wVar 4))) (wVar 6)))
 (wAsg (wVar 5) 3)))
 (wSeq (wAug rAddD 2 (wSl (wVar 0) (wPart (wVar 3)) wNoPart))
 (wSeq (wIfS (wB (wGt (wLen (wVar 2)) (wC (.int 2000))))
  (wRaise C_TooGreat)
  wNext)
 (wRet (wVar 2))))))))
theorem pure_done (G N E : Addr) : ∀ args o ret exc, S_done N G E args o ret exc → w_done G N E (fun x s => exc x (cutL o.length s.o)) (pst0 args o 7) (bodyE o.length ret) := by
  rintro _ o ret exc ⟨t, L, e, rfl, hL, hg, hl, hW, hn, hO, hs, h1, h2⟩
  have hD := done_len (t := t) L 0 (-1) (by omega) (Nat.zero_le _) hW
  unfold w_done
  rw [K41.lit_e]
  walk_at "go"
  refine ⟨t, L, e, rfl, hL, hg, hl, hW, hn, hO, ?_⟩
  walk_at "go"
  refine ⟨_, hL, ?_⟩
  refine ⟨fun j s => ∃ (a : Nat) (q : Int) (f : List Nat) (x4 x5 x6 : Option PV), s = (⟨[some (.d (dT t)), some e, some (.d (dT f)), some (.d (.int a)), x4, x5, x6], o⟩ : PSt) ∧ (a : Int) ≤ q + 1 ∧ Wel t.length q (L.drop j) ∧ f ++ doneA t a (L.drop j) = doneA t 0 L,
    ⟨0, -1, [], none, none, none, rfl, by omega, hW, rfl⟩, ?_, ?_, ?_⟩
  · rintro j s _ ⟨a, q, f, x4, x5, x6, rfl, _⟩
    exact hL.src
  · rintro j x _ hx ⟨a, q, f, x4, x5, x6, rfl, ha, hw, hf⟩
    obtain ⟨hj, rfl⟩ := map_get hx
    clear hx
    rw [List.drop_eq_getElem_cons hj] at hw hf
    generalize hE : L[j] = ed at *
    obtain ⟨b, en, w⟩ := ed
    obtain ⟨w1, w2, w3, w4, w5, w6⟩ := hw
    have hf : f ++ ((t.take b).drop a ++ (w ++ doneA t en (L.drop (j + 1)))) = doneA t 0 L := hf
    have hfl := congrArg List.length hf
    rw [List.length_append] at hfl
    have hm := mid_len (t := t) (a := a) (b := b) (by omega)
    have w5 : w.length ≤ 2000 := w5
    walk_at "go"
    rw [show cutS (tx t) (some ((a : Nat) : Int)) (some (((b, en, w).1 : Nat) : Int)) = tx ((t.take b).drop a) from cut_tx t a b]
    show rAddD (.str (tx ((t.take b).drop a))) (dT w) _
    generalize hM : (t.take b).drop a = md at *
    walk_at "go"
    refine .inl ⟨en, (en : Nat), f ++ (md ++ w), _, _, _, rfl, by omega, w6, ?_⟩
    rw [← hf, List.append_assoc, List.append_assoc]
  · rintro _ ⟨a, q, f, x4, x5, x6, rfl, ha, hw, hf⟩
    rw [List.length_map, List.drop_length] at hf
    have hf : f ++ t.drop a = doneA t 0 L := hf
    have hfl := congrArg List.length hf
    rw [List.length_append] at hfl
    walk_at "go"
    rw [show cutS (tx t) (some ((a : Nat) : Int)) none = tx (t.drop a) from cut_tx_from t a]
    generalize hM : t.drop a = md at *
    walk_at "go"
    rw [hf]
    refine br_p (fun z => ?_) (fun z => ?_)
    · have z2 : (2000 : Int) < ((tx (doneA t 0 L)).length : Nat) := z
      rw [tx_len] at z2
      show exc ⟨G, none⟩ (cutL o.length o)
      rw [hO]
      exact h2 (by omega)
    · have z2 : ¬ (2000 : Int) < ((tx (doneA t 0 L)).length : Nat) := z
      rw [tx_len] at z2
      walk_at "go"
      show ret _ (cutL o.length o)
      rw [hO]
      exact h1 (by omega)
def w_backs (C_TooGreat : Addr) (C_NoText : Addr) (C_NoEdit : Addr) : SW :=
 (wSeq (wDrop (wCallH (S_done C_NoText C_TooGreat C_NoEdit) (wCons (wVar 0) (wCons (wVar 1) wNil))))
 (wSeq (wAsg (wLst wNil) 2)
 (wSeq (wAsg (wC (.int 0)) 3)
 (wSeq (wFor (wLX (wVar 1)) (gN 4)
  (wSeq (wAsg (wAdd (wIx (wVar 4) (wC (.int 0))) (wVar 3)) 5)
 (wSeq (wDrop (wApp (wVar 2) (wTup (wCons (wVar 5) (wCons (wAdd (wVar 5) (wLen (wIx (wVar 4) (wC (.int 2))))) (wCons (wSl (wVar 0) (wPart (wIx (wVar 4) (wC (.int 0)))) (wPart (wIx (wVar 4) (wC (.int 1))))) wNil))))))
 (wAug rAddD 3 (wCall S_grown (wCons (wVar 4) wNil))))))
 (wRet (wVar 2))))))
theorem cut_app (o q : List OC) : cutL o.length (o ++ q) = cutL o.length o := by
  unfold cutL
  rw [List.take_append_of_le_length (Nat.le_refl _)]
theorem set_last (o : List OC) (x y : OC) : (o ++ [x]).set o.length y = o ++ [y] := by
  rw [List.set_append_right _ _ (Nat.le_refl _), Nat.sub_self]
  rfl
theorem sh_at {k a b : Nat} (h : a ≤ b) : (b : Int) + ((k : Int) - (a : Int)) = ((k + (b - a) : Nat) : Int) := by omega
theorem pure_backs (G N E : Addr) : ∀ args o ret exc, S_backs N G E args o ret exc → w_backs G N E (fun x s => exc x (cutL o.length s.o)) (pst0 args o 6) (bodyE o.length ret) := by
  rintro _ o ret exc ⟨t, L, e, rfl, hL, hg, hl, hW, hn, hO, hs, h1, h2⟩
  unfold w_backs
  walk_at "go"
  refine ⟨t, L, e, rfl, hL, hg, hl, hW, hn, hO, hs, fun hd => ?_, fun hd => ?_⟩
  rotate_left
  · show exc ⟨G, none⟩ (cutL o.length o)
    rw [hO]
    exact h2 hd
  walk_at "go"
  refine ⟨_, hL.app, ?_⟩
  refine ⟨fun j s => ∃ (a k : Nat) (q : Int) (B : List Ed) (x4 x5 : Option PV), s = (⟨[some (.d (dT t)), some e, some (.own o.length), some (.d (.int ((k : Int) - (a : Int)))), x4, x5], o ++ [.dl (B.map edD)]⟩ : PSt) ∧ (a : Int) ≤ q + 1 ∧ Wel t.length q (L.drop j) ∧ B ++ backsA t a k (L.drop j) = backsA t 0 0 L ∧ B.length = j,
    ⟨0, 0, -1, [], none, none, rfl, by omega, hW, rfl, rfl⟩, ?_, ?_, ?_⟩
  · rintro j s _ ⟨a, k, q, B, x4, x5, rfl, _⟩
    exact hL.app.src
  · rintro j x _ hx ⟨a, k, q, B, x4, x5, rfl, ha, hw, hf, hBl⟩
    obtain ⟨hj, rfl⟩ := map_get hx
    clear hx
    rw [List.drop_eq_getElem_cons hj] at hw hf
    generalize hE : L[j] = ed at *
    obtain ⟨b, en, w⟩ := ed
    obtain ⟨w1, w2, w3, w4, w5, w6⟩ := hw
    have hBm : (B.map edD).length ≤ 30 := by rw [List.length_map]; omega
    have hown : (o ++ [OC.dl (B.map edD)])[o.length]? = some (.dl (B.map edD)) := by simp
    have w5 : w.length ≤ 2000 := w5
    have hcut : cutS (tx t) (some ((b : Nat) : Int)) (some ((en : Nat) : Int)) = tx ((t.take en).drop b) := cut_tx t b en
    walk_at "go"
    refine ⟨o.length, B.map edD, rfl, hown, ?_⟩
    walk_at "go"
    refine ⟨B.map edD, hown, ?_⟩
    walk_at "go"
    refine ⟨w5, ?_⟩
    walk_at "go"
    have hsh : (b : Int) + ((k : Int) - (a : Int)) = ((k + (b - a) : Nat) : Int) := by omega
    have hsh2 : ((k : Int) - (a : Int)) + ((w.length : Nat) - ((en : Int) - (b : Int))) = ((k + (b - a) + w.length : Nat) : Int) - (en : Int) := by omega
    refine .inl ⟨en, k + (b - a) + w.length, (en : Nat), B ++ [(k + (b - a), k + (b - a) + w.length, (t.take en).drop b)], some (.d (edD (b, en, w))), some (.d (.int ((k + (b - a) : Nat)))), ?_, by omega, w6, ?_, by simp [hBl]⟩
    · show (⟨[some (.d (dT t)), some e, some (.own o.length), some (.d (.int (((k : Int) - (a : Int)) + ((w.length : Nat) - ((en : Int) - (b : Int)))))), some (.d (edD (b, en, w))), some (.d (.int ((b : Int) + ((k : Int) - (a : Int)))))], (o ++ [OC.dl (B.map edD)]).set o.length (.dl (B.map edD ++ [.tuple [.int ((b : Int) + ((k : Int) - (a : Int))), .int (((b : Int) + ((k : Int) - (a : Int))) + ((tx w).length : Nat)), .str (cutS (tx t) (some ((b : Nat) : Int)) (some ((en : Nat) : Int)))]]))⟩ : PSt) = _
      rw [set_last, hsh2, hcut, tx_len, hsh, List.map_append]
      rfl
    · rw [← hf, List.append_assoc]
      rfl
  · rintro _ ⟨a, k, q, B, x4, x5, rfl, ha, hw, hf, hBl⟩
    rw [List.length_map, List.drop_length] at hf
    have hf : B ++ [] = backsA t 0 0 L := hf
    rw [List.append_nil] at hf
    walk_at "go"
    refine ⟨Nat.le_refl _, B.map edD, by simp, ?_⟩
    show ret _ (cutL o.length (o ++ [OC.dl (B.map edD)]))
    rw [cut_app, hO, hf]
    exact h1 hd
end K41

namespace K41
open PySem L2 PW
local macro_rules
  | `(tactic| walk_at "sz") => `(tactic| first | omega | (simp only [tx_len, List.length_append, List.length_map, List.length_cons, List.length_nil, List.length_take, List.length_drop] <;> omega))
  | `(tactic| walk_at "go") => `(tactic| repeat (first | refine ⟨rfl, ?_⟩ | refine ⟨trivial, ?_⟩ | refine ⟨_, rfl, ?_⟩ | refine ⟨_, rfl, rfl, ?_⟩ | refine ⟨_, _, rfl, rfl, ?_⟩ | refine ⟨_, ix_hd, ?_⟩ | refine br_t rfl ?_ | refine br_f rfl ?_ | (refine ⟨le_sz ?_, ?_⟩; focus walk_at "sz") | (refine ⟨lt_sz ?_, ?_⟩; focus walk_at "sz") | (refine ⟨strLe_tx ?_, ?_⟩; focus walk_at "sz") | refine ⟨cmul_r rfl, ?_⟩ | refine ⟨cmul_l rfl, ?_⟩ | refine ⟨pos_ok rfl, ?_⟩ | refine ⟨cdiv_ok rfl, ?_⟩ | refine ⟨_, _, _, _, rfl, rfl, rfl, rfl, ?_⟩ | refine ⟨_, _, rfl, ?_⟩ | refine ⟨_, _, _, rfl, rfl, rfl, ?_⟩ | refine ⟨_, _, _, rfl, rfl, ?_⟩ | rw [tx_app]))

def ra : List (List Nat) := [[108, 101, 116, 32, 97, 32, 61, 32, 49], [108, 101, 116, 32, 98, 32, 61, 32, 97, 32, 43, 32, 50], [115, 101, 116, 32, 97, 32, 61, 32, 91, 49, 44, 32, 50, 93], [115, 97, 121, 32, 97], [114, 101, 97, 100, 32, 98], [102, 97, 117, 108, 116, 32, 51], [100, 111, 32, 104, 40, 97, 44, 32, 49, 41], [105, 102, 32, 97, 32, 60, 32, 50]]
theorem ra_eq : [PyData.str "let a = 1", PyData.str "let b = a + 2", PyData.str "set a = [1, 2]", PyData.str "say a", PyData.str "read b", PyData.str "fault 3", PyData.str "do h(a, 1)", PyData.str "if a < 2"] = ra.map dT := by rfl
def rb : List (List Nat) := [[119, 104, 105, 108, 101, 32, 110, 111, 116, 32, 97], [98, 108, 111, 99, 107], [119, 105, 116, 104, 32, 99, 32, 61, 32, 49, 44, 32, 100, 32, 61, 32, 97], [104, 101, 108, 112, 101, 114, 32, 104, 40, 120, 44, 32, 121, 41], [116, 114, 121], [101, 108, 115, 101], [99, 97, 116, 99, 104, 32, 101], [102, 105, 110, 97, 108, 108, 121]]
theorem rb_eq : [PyData.str "while not a", PyData.str "block", PyData.str "with c = 1, d = a", PyData.str "helper h(x, y)", PyData.str "try", PyData.str "else", PyData.str "catch e", PyData.str "finally"] = rb.map dT := by rfl
def rc : List (List Nat) := [[101, 110, 100], [101, 110, 100], [101, 110, 100], [115, 97, 121, 32, 97, 32, 43], [108, 101, 116, 32, 98, 32, 61]]
theorem rc_eq : [PyData.str "end", PyData.str "end", PyData.str "end", PyData.str "say a +", PyData.str "let b ="] = rc.map dT := by rfl
def oda : List (List Nat) := [[43, 32, 49], [120], [115, 97, 121], [108, 101, 116, 32, 61, 32, 50], [101, 110, 100, 32, 49], [32, 32, 41, 32, 93], [57, 97, 98, 99], [101, 108, 115, 101, 32, 105, 102], [65], [99, 97, 116, 99, 104], [50], [61, 32, 97, 44, 32, 98]]
theorem oda_eq : [PyData.str "+ 1", PyData.str "x", PyData.str "say", PyData.str "let = 2", PyData.str "end 1", PyData.str "  ) ]", PyData.str "9abc", PyData.str "else if", PyData.str "A", PyData.str "catch", PyData.str "2", PyData.str "= a, b"] = oda.map dT := by rfl
def bar : List (List Nat) := [[], [32, 32, 32], [35, 32, 110, 111, 116, 101], [32, 32, 35, 32, 105, 102], [35]]
theorem bar_eq : [PyData.str "", PyData.str "   ", PyData.str "# note", PyData.str "  # if", PyData.str "#"] = bar.map dT := by rfl
def tla : List (List Nat) := [[], [32], [32, 32, 35, 32, 101, 110, 100]]
theorem tla_eq : [PyData.str "", PyData.str " ", PyData.str "  # end"] = tla.map dT := by rfl
def sa : List (List Nat) := [[], [97], [32], [10], [101, 110, 100, 10], [98, 108, 111, 99, 107, 10], [35, 32, 110], [10, 10], [115, 97, 121, 32, 49, 10], [108, 101, 116, 32, 98, 32, 61, 32, 50], [41]]
theorem sa_eq : [PyData.str "", PyData.str "a", PyData.str " ", PyData.str "\n", PyData.str "end\n", PyData.str "block\n", PyData.str "# n", PyData.str "\n\n", PyData.str "say 1\n", PyData.str "let b = 2", PyData.str ")"] = sa.map dT := by rfl
def sb : List (List Nat) := [[10, 101, 110, 100], [105, 102, 32, 97, 10], [32, 43, 32, 49]]
theorem sb_eq : [PyData.str "\nend", PyData.str "if a\n", PyData.str " + 1"] = sb.map dT := by rfl
theorem lines_ok : ∀ l ∈ (ra ++ rb) ++ rc ++ oda ++ bar ++ tla ++ (sa ++ sb), l.length ≤ 17 ∧ l.all gd = true := by decide +kernel
theorem gdT_all {l : List Nat} (h : l.all gd = true) : gdT l := fun c m => List.all_eq_true.mp h c m
theorem ixS_mem {L : List (List Nat)} {v : Int} (h0 : 0 ≤ v) (h1 : v < L.length) : ∃ n ∈ L, ixD (.list (L.map dT)) v = some (dT n) := by
  obtain ⟨i, rfl⟩ : ∃ i : Nat, v = i := ⟨v.toNat, by omega⟩
  have hi : i < L.length := by omega
  exact ⟨L[i], List.getElem_mem hi, by rw [PW.ix_list (by rw [List.length_map]; exact hi), List.getElem_map]⟩
/-- which error is of which class -/
structure Em (M : MX) (C_TooGreat : Addr) (C_NoText : Addr) (C_NoEdit : Addr) (C_MenderError : Addr) (C_NoPlace : Addr) (C_NoName : Addr) (C_NotWhole : Addr) (C_NoMend : Addr) (C_Clash : Addr) (C_fn_done : Addr) (C_fn_backs : Addr) : Prop where
  m_TooGreat_MenderError : M C_TooGreat (.ref C_MenderError) = some true
  m_TooGreat_NoPlace : M C_TooGreat (.ref C_NoPlace) = some false
  m_TooGreat_NoName : M C_TooGreat (.ref C_NoName) = some false
  m_TooGreat_NotWhole : M C_TooGreat (.ref C_NotWhole) = some false
  m_TooGreat_NoMend : M C_TooGreat (.ref C_NoMend) = some false
  m_TooGreat_Clash : M C_TooGreat (.ref C_Clash) = some false
  m_TooGreat_NoEdit : M C_TooGreat (.ref C_NoEdit) = some false
  m_TooGreat_TooGreat : M C_TooGreat (.ref C_TooGreat) = some true
  m_TooGreat_NoText : M C_TooGreat (.ref C_NoText) = some false
  m_NoText_MenderError : M C_NoText (.ref C_MenderError) = some true
  m_NoText_NoPlace : M C_NoText (.ref C_NoPlace) = some false
  m_NoText_NoName : M C_NoText (.ref C_NoName) = some false
  m_NoText_NotWhole : M C_NoText (.ref C_NotWhole) = some false
  m_NoText_NoMend : M C_NoText (.ref C_NoMend) = some false
  m_NoText_Clash : M C_NoText (.ref C_Clash) = some false
  m_NoText_NoEdit : M C_NoText (.ref C_NoEdit) = some false
  m_NoText_TooGreat : M C_NoText (.ref C_TooGreat) = some false
  m_NoText_NoText : M C_NoText (.ref C_NoText) = some true
  m_NoEdit_MenderError : M C_NoEdit (.ref C_MenderError) = some true
  m_NoEdit_NoPlace : M C_NoEdit (.ref C_NoPlace) = some false
  m_NoEdit_NoName : M C_NoEdit (.ref C_NoName) = some false
  m_NoEdit_NotWhole : M C_NoEdit (.ref C_NotWhole) = some false
  m_NoEdit_NoMend : M C_NoEdit (.ref C_NoMend) = some false
  m_NoEdit_Clash : M C_NoEdit (.ref C_Clash) = some false
  m_NoEdit_NoEdit : M C_NoEdit (.ref C_NoEdit) = some true
  m_NoEdit_TooGreat : M C_NoEdit (.ref C_TooGreat) = some false
  m_NoEdit_NoText : M C_NoEdit (.ref C_NoText) = some false
  m_TooGreat_ValueError : M C_TooGreat (.ty "ValueError") = some true
  m_NoText_ValueError : M C_NoText (.ty "ValueError") = some true
  m_NoEdit_ValueError : M C_NoEdit (.ty "ValueError") = some true
theorem pure_is_text {M : MX} {C_TooGreat C_NoText C_NoEdit C_MenderError C_NoPlace C_NoName C_NotWhole C_NoMend C_Clash C_fn_done C_fn_backs : Addr} (em : Em M C_TooGreat C_NoText C_NoEdit C_MenderError C_NoPlace C_NoName C_NotWhole C_NoMend C_Clash C_fn_done C_fn_backs) :
    ∀ args o ret exc, S_is_text args o ret exc → w_is_text M C_TooGreat C_NoText C_MenderError (fun x s => exc x (cutL o.length s.o)) (pst0 args o 1) (bodyE o.length ret) := pure_is_text0
def S_law_cell_at : FS := fun args o ret exc => ∃ (ns : List Int) (k : Nat), args = [.scr ns, .d (.int k)] ∧ o = [] ∧ ns.length ≤ 63 ∧ k ≤ 10000 ∧ ∀ v : Int, ret (.d (.int v)) []
def S_law_line : FS := fun args o ret exc => ∃ c : Int, args = [.d (.int c)] ∧ o = [] ∧ ∀ l, gdT l → l.length ≤ 40 → ret (.d (dT l)) []
def w_law_cell_at : SW :=
 (wSeq (wAsg (wC (.int 0)) 2)
 (wSeq (wIfS (wB (wLt (wVar 1) (wLen (wVar 0))))
  (wAsg (wIx (wVar 0) (wVar 1)) 2)
  (wIfS (wB (wNe (wVar 0) (wLst wNil)))
  (wAsg (wIx (wVar 0) (wMod (wVar 1) (wLen (wVar 0)))) 2)
  wNext))
 (wSeq (wAsg (wMod (wAdd (wAdd (wMul (wVar 2) (wC (.int 48271))) (wMul (wVar 1) (wC (.int 104729)))) (wC (.int 7919))) (wC (.int 2147483647))) 3)
 (wSeq (wAsg (wMod (wMul (wMod (wMul (wVar 3) (wVar 3)) (wC (.int 2147483629))) (wC (.int 69621))) (wC (.int 2147483647))) 3)
 (wRet (wAdd (wMul (wMod (wMul (wVar 3) (wVar 3)) (wC (.int 2147483629))) (wC (.int 2147483647))) (wVar 3)))))))
theorem sh_ints (ns : List Int) : SeqAt.shaped (.list (ns.map PyData.int)) = true := shaped_list fun x m => by
  obtain ⟨i, _, rfl⟩ := List.mem_map.mp m
  exact ⟨rfl, Nat.zero_le _⟩
def w_cell2 : SW := (wSeq (wAsg (wMod (wAdd (wAdd (wMul (wVar 2) (wC (.int 48271))) (wMul (wVar 1) (wC (.int 104729)))) (wC (.int 7919))) (wC (.int 2147483647))) 3)
 (wSeq (wAsg (wMod (wMul (wMod (wMul (wVar 3) (wVar 3)) (wC (.int 2147483629))) (wC (.int 69621))) (wC (.int 2147483647))) 3)
 (wRet (wAdd (wMul (wMod (wMul (wVar 3) (wVar 3)) (wC (.int 2147483629))) (wC (.int 2147483647))) (wVar 3)))))
theorem pure_law_cell_at : ∀ args o ret exc, S_law_cell_at args o ret exc → w_law_cell_at (fun x s => exc x (cutL o.length s.o)) (pst0 args o 4) (bodyE o.length ret) := by
  rintro _ _ ret exc ⟨ns, k, rfl, rfl, hn, hk, h⟩
  have rest : ∀ (v : Int) (o : List OC), w_cell2 (fun x s => exc x (cutL ([] : List OC).length s.o)) ⟨[some (.scr ns), some (.d (.int (k : Nat))), some (.d (.int v)), none], o⟩ (bodyE 0 ret) := fun v o => by
    unfold w_cell2
    walk_at "go"
    refine ⟨cmul_o (.inl ⟨by omega, by omega⟩), ?_⟩
    walk_at "go"
    refine ⟨cmul_o (.inl ⟨by omega, by omega⟩), ?_⟩
    walk_at "go"
    exact h _
  show wSeq (wAsg (wC (.int 0)) 2) (wSeq (wIfS (wB (wLt (wVar 1) (wLen (wVar 0)))) (wAsg (wIx (wVar 0) (wVar 1)) 2) (wIfS (wB (wNe (wVar 0) (wLst wNil))) (wAsg (wIx (wVar 0) (wMod (wVar 1) (wLen (wVar 0)))) 2) wNext)) w_cell2) _ _ _
  generalize hW : w_cell2 = W at *
  walk_at "go"
  rw [List.length_map]
  refine br_d (k < ns.length) (by rw [decide_eq_true_eq]; omega) (fun h1 => ?_) (fun h1 => ?_)
  · walk_at "go"
    refine ⟨_, PW.ix_list (by rw [List.length_map]; exact h1), ?_⟩
    rw [List.getElem_map]
    exact rest _ _
  · walk_at "go"
    refine ⟨eqOk_of (sh_ints ns) rfl, ?_⟩
    refine ⟨_, rfl, ?_⟩
    cases ns with
    | nil =>
      refine br_f rfl ?_
      walk_at "go"
      exact rest _ _
    | cons n0 r =>
      refine br_t rfl ?_
      have h2 : 0 < (n0 :: r).length := by simp
      walk_at "go"
      rw [List.length_map]
      refine ⟨_, PW.ix_list (l := (n0 :: r).map PyData.int) (i := k % (n0 :: r).length) (by rw [List.length_map]; exact Nat.mod_lt _ h2), ?_⟩
      rw [List.getElem_map]
      exact rest _ _
def w_law_line : SW :=
 (wSeq (wAsg (wLst (wCons (wC (.str "let a = 1")) (wCons (wC (.str "let b = a + 2")) (wCons (wC (.str "set a = [1, 2]")) (wCons (wC (.str "say a")) (wCons (wC (.str "read b")) (wCons (wC (.str "fault 3")) (wCons (wC (.str "do h(a, 1)")) (wCons (wC (.str "if a < 2")) wNil))))))))) 1)
 (wSeq (wAsg (wCat (wVar 1) (wLst (wCons (wC (.str "while not a")) (wCons (wC (.str "block")) (wCons (wC (.str "with c = 1, d = a")) (wCons (wC (.str "helper h(x, y)")) (wCons (wC (.str "try")) (wCons (wC (.str "else")) (wCons (wC (.str "catch e")) (wCons (wC (.str "finally")) wNil)))))))))) 1)
 (wSeq (wAsg (wCat (wVar 1) (wLst (wCons (wC (.str "end")) (wCons (wC (.str "end")) (wCons (wC (.str "end")) (wCons (wC (.str "say a +")) (wCons (wC (.str "let b =")) wNil))))))) 1)
 (wSeq (wAsg (wLst (wCons (wC (.str "+ 1")) (wCons (wC (.str "x")) (wCons (wC (.str "say")) (wCons (wC (.str "let = 2")) (wCons (wC (.str "end 1")) (wCons (wC (.str "  ) ]")) (wCons (wC (.str "9abc")) (wCons (wC (.str "else if")) (wCons (wC (.str "A")) (wCons (wC (.str "catch")) (wCons (wC (.str "2")) (wCons (wC (.str "= a, b")) wNil))))))))))))) 2)
 (wSeq (wAsg (wLst (wCons (wC (.str "")) (wCons (wC (.str "   ")) (wCons (wC (.str "# note")) (wCons (wC (.str "  # if")) (wCons (wC (.str "#")) wNil)))))) 3)
 (wSeq (wAsg (wIx (wVar 1) (wMod (wDiv (wVar 0) (wC (.int 8))) (wC (.int 21)))) 4)
 (wSeq (wIfS (wB (wLt (wMod (wVar 0) (wC (.int 8))) (wC (.int 2))))
  (wAsg (wIx (wVar 2) (wMod (wDiv (wVar 0) (wC (.int 8))) (wC (.int 12)))) 4)
  wNext)
 (wSeq (wIfS (wB (wIn (wMod (wVar 0) (wC (.int 8))) (wTup (wCons (wC (.int 2)) (wCons (wC (.int 3)) wNil)))))
  (wAsg (wIx (wVar 3) (wMod (wDiv (wVar 0) (wC (.int 8))) (wC (.int 5)))) 4)
  wNext)
 (wRet (wAdd (wAdd (wRepS (wC (.str " ")) (wMod (wDiv (wVar 0) (wC (.int 168))) (wC (.int 4)))) (wVar 4)) (wIx (wLst (wCons (wC (.str "")) (wCons (wC (.str " ")) (wCons (wC (.str "  # end")) wNil)))) (wMod (wDiv (wVar 0) (wC (.int 672))) (wC (.int 3))))))))))))))
def w_line3 : SW := (wRet (wAdd (wAdd (wRepS (wC (.str " ")) (wMod (wDiv (wVar 0) (wC (.int 168))) (wC (.int 4)))) (wVar 4)) (wIx (wLst (wCons (wC (.str "")) (wCons (wC (.str " ")) (wCons (wC (.str "  # end")) wNil)))) (wMod (wDiv (wVar 0) (wC (.int 672))) (wC (.int 3))))))
def w_line2 : SW := (wSeq (wIfS (wB (wIn (wMod (wVar 0) (wC (.int 8))) (wTup (wCons (wC (.int 2)) (wCons (wC (.int 3)) wNil)))))
  (wAsg (wIx (wVar 3) (wMod (wDiv (wVar 0) (wC (.int 8))) (wC (.int 5)))) 4)
  wNext) w_line3)
theorem lit_sp : (" " : Str) = tx [32] := by decide +kernel
theorem pure_law_line : ∀ args o ret exc, S_law_line args o ret exc → w_law_line (fun x s => exc x (cutL o.length s.o)) (pst0 args o 5) (bodyE o.length ret) := by
  rintro _ _ ret exc ⟨c, rfl, rfl, h⟩
  unfold w_law_line
  walk_at "go"
  have md : ∀ (x : Int) (n : Int), 0 < n → 0 ≤ x % n ∧ x % n < n := fun x n hn => ⟨Int.emod_nonneg _ (by omega), Int.emod_lt_of_pos _ hn⟩
  rw [ra_eq, rb_eq, rc_eq, ← List.map_append, ← List.map_append]
  obtain ⟨l1, m1, e1⟩ := ixS_mem (L := (ra ++ rb) ++ rc) (md (c / 8) 21 (by decide)).1 (md (c / 8) 21 (by decide)).2
  refine ⟨_, e1, ?_⟩
  have ok : ∀ l ∈ (ra ++ rb) ++ rc ++ oda ++ bar ++ tla ++ (sa ++ sb), l.length ≤ 17 ∧ gdT l := fun l m => ⟨(lines_ok l m).1, gdT_all (lines_ok l m).2⟩
  have go3 : ∀ (l : List Nat) (a0 a1 a2 a3 a4 a5 a6 : List PyData) (x1 x2 x3 : Option PV), l.length ≤ 17 → gdT l → w_line3 (fun x s => exc x (cutL ([] : List OC).length s.o)) ⟨[some (.d (.int c)), x1, x2, x3, some (.d (dT l))], [.dl a0, .dl a1, .dl a2, .dl a3, .dl a4, .dl a5, .dl a6]⟩ (bodyE 0 ret) := fun l a0 a1 a2 a3 a4 a5 a6 x1 x2 x3 h1 h2 => by
    unfold w_line3
    obtain ⟨n, hn⟩ : ∃ n : Nat, c / 168 % 4 = n := ⟨(c / 168 % 4).toNat, by have := (md (c / 168) 4 (by decide)).1; omega⟩
    have hn4 := (md (c / 168) 4 (by decide)).2
    walk_at "go"
    rw [show rRepSD (.str " ") = rRepSD (.str (tx [32])) by rw [lit_sp], hn]
    refine ⟨⟨by omega, by omega⟩, le_sz (by rw [tx_len, Int.toNat_natCast]; show 1 * n ≤ _; omega), ?_⟩
    rw [repS_tx, Int.toNat_natCast]
    have hl2 : (List.replicate n [32]).flatten.length = n := by simp
    have hg2 : gdT (List.replicate n [32]).flatten := fun x m => by
      obtain ⟨y, hy, hx⟩ := List.mem_flatten.mp m
      rw [List.eq_of_mem_replicate hy, List.mem_singleton] at hx
      rw [hx]; decide
    generalize (List.replicate n [32]).flatten = S at *
    walk_at "go"
    rw [tla_eq]
    obtain ⟨l2, m2, e2⟩ := ixS_mem (L := tla) (md (c / 672) 3 (by decide)).1 (md (c / 672) 3 (by decide)).2
    obtain ⟨j1, j2⟩ := ok l2 (by simp [m2])
    refine ⟨_, e2, ?_⟩
    walk_at "go"
    exact h _ ((hg2.app h2).app j2) (by simp only [List.length_append]; omega)
  have go2 : ∀ (l : List Nat) (a0 a1 a2 a3 a4 a5 : List PyData) (x1 x2 : Option PV), l.length ≤ 17 → gdT l → w_line2 (fun x s => exc x (cutL ([] : List OC).length s.o)) ⟨[some (.d (.int c)), x1, x2, some (.own 6), some (.d (dT l))], [.dl a0, .dl a1, .dl a2, .dl a3, .dl a4, .dl a5, .dl (bar.map dT)]⟩ (bodyE 0 ret) := fun l a0 a1 a2 a3 a4 a5 x1 x2 h1 h2 => by
    unfold w_line2
    generalize hW : w_line3 = W at *
    walk_at "go"
    refine br_b (fun q => ?_) (fun q => ?_)
    · obtain ⟨l2, m2, e2⟩ := ixS_mem (L := bar) (md (c / 8) 5 (by decide)).1 (md (c / 8) 5 (by decide)).2
      obtain ⟨k1, k2⟩ := ok l2 (by simp [m2])
      walk_at "go"
      refine ⟨_, e2, ?_⟩
      exact go3 _ _ _ _ _ _ _ _ _ _ _ k1 k2
    · walk_at "go"
      exact go3 _ _ _ _ _ _ _ _ _ _ _ h1 h2
  rw [oda_eq, bar_eq]
  walk_at "go"
  obtain ⟨k1, k2⟩ := ok l1 (List.mem_append_left _ (List.mem_append_left _ (List.mem_append_left _ (List.mem_append_left _ m1))))
  refine br_p (fun q => ?_) (fun q => ?_)
  · obtain ⟨l2, m2, e2⟩ := ixS_mem (L := oda) (md (c / 8) 12 (by decide)).1 (md (c / 8) 12 (by decide)).2
    obtain ⟨j1, j2⟩ := ok l2 (by simp [m2])
    walk_at "go"
    refine ⟨_, e2, ?_⟩
    exact go2 _ _ _ _ _ _ _ _ _ j1 j2
  · exact go2 _ _ _ _ _ _ _ _ _ k1 k2
end K41

namespace K41
open PySem L2 PW
local macro_rules
  | `(tactic| walk_at "sz") => `(tactic| first | omega | (simp only [tx_len, List.length_append, List.length_map, List.length_cons, List.length_nil, List.length_take, List.length_drop] <;> omega))
  | `(tactic| walk_at "go") => `(tactic| repeat (first | refine ⟨rfl, ?_⟩ | refine ⟨trivial, ?_⟩ | refine ⟨_, rfl, ?_⟩ | refine ⟨_, rfl, rfl, ?_⟩ | refine ⟨_, _, rfl, rfl, ?_⟩ | refine ⟨_, ix_hd, ?_⟩ | refine br_t rfl ?_ | refine br_f rfl ?_ | (refine ⟨le_sz ?_, ?_⟩; focus walk_at "sz") | (refine ⟨lt_sz ?_, ?_⟩; focus walk_at "sz") | (refine ⟨strLe_tx ?_, ?_⟩; focus walk_at "sz") | refine ⟨cmul_r rfl, ?_⟩ | refine ⟨cmul_l rfl, ?_⟩ | refine ⟨pos_ok rfl, ?_⟩ | refine ⟨cdiv_ok rfl, ?_⟩ | refine ⟨_, _, _, _, rfl, rfl, rfl, rfl, ?_⟩ | refine ⟨_, _, rfl, ?_⟩ | refine ⟨_, _, _, rfl, rfl, rfl, ?_⟩ | refine ⟨_, _, _, rfl, rfl, ?_⟩ | rw [tx_app]))
theorem shaped_dTs {l : List (List Nat)} (h : ∀ w ∈ l, gdT w) : SeqAt.shaped (.list (l.map dT)) = true := shaped_list fun x m => by
  obtain ⟨w, hw, rfl⟩ := List.mem_map.mp m
  exact ⟨(h w hw).ok, Nat.zero_le _⟩
def S_law_text : FS := fun args o ret exc => ∃ (ns : List Int) (a : Nat), args = [.scr ns, .d (.int a)] ∧ o = [] ∧ ns.length ≤ 63 ∧ a ≤ 100 ∧ ∀ t, gdT t → t.length ≤ 800 → ret (.d (dT t)) []
theorem jn10_gd : ∀ {T : List (List Nat)}, (∀ w ∈ T, gdT w) → gdT (TL.joinL [10] T)
  | [], _ => fun _ m => nomatch m
  | [w], h => by have := h w (by simp); simpa [TL.joinL] using this
  | w :: v :: r, h => by
    have ih := jn10_gd (T := v :: r) fun x m => h x (List.mem_cons_of_mem _ m)
    show gdT (w ++ ([10] ++ TL.joinL [10] (v :: r)))
    exact (h w (by simp)).app ((gdT_all (by decide : [10].all gd = true)).app ih)
theorem jn10_len : ∀ {T : List (List Nat)}, (∀ w ∈ T, w.length ≤ 40) → (TL.joinL [10] T).length ≤ 41 * T.length ∧ ((T.map tx).map (·.length)).sum ≤ 40 * T.length
  | [], _ => ⟨Nat.le_refl _, Nat.le_refl _⟩
  | [w], h => by have := h w (by simp); simp [TL.joinL, tx_len]; omega
  | w :: v :: r, h => by
    have ih := jn10_len (T := v :: r) fun x m => h x (List.mem_cons_of_mem _ m)
    have := h w (by simp)
    refine ⟨?_, ?_⟩
    · show (w ++ ([10] ++ TL.joinL [10] (v :: r))).length ≤ _
      simp only [List.length_append, List.length_cons, List.length_nil] at ih ⊢
      omega
    · have i2 := ih.2
      simp only [List.map_cons, List.sum_cons, List.length_cons, tx_len] at i2 ⊢
      omega
theorem lit_nl : ("\n" : Str) = tx [10] := by decide +kernel
def w_law_text : SW :=
 (wSeq (wAsg (wCall S_law_cell_at (wCons (wVar 0) (wCons (wVar 1) wNil))) 2)
 (wSeq (wAsg (wLc (wRg1 (wMod (wVar 2) (wC (.int 17)))) (gN 4) wYes (wCall S_law_line (wCons (wCall S_law_cell_at (wCons (wVar 0) (wCons (wAdd (wAdd (wVar 1) (wC (.int 1))) (wVar 4)) wNil))) wNil)) [4]) 3)
 (wRet (wAdd (wM1 rJoinD (wC (.str "\n")) (wVar 3)) (wRepS (wIx (wLst (wCons (wC (.str "")) (wCons (wC (.str "\n")) wNil))) (wMod (wDiv (wVar 2) (wC (.int 17))) (wC (.int 2)))) (wInt1 (wNe (wVar 3) (wLst wNil))))))))
theorem pure_law_text : ∀ args o ret exc, S_law_text args o ret exc → w_law_text (fun x s => exc x (cutL o.length s.o)) (pst0 args o 5) (bodyE o.length ret) := by
  rintro _ _ ret exc ⟨ns, a, rfl, rfl, hn, ha, h⟩
  unfold w_law_text
  rw [lit_nl]
  walk_at "go"
  refine ⟨hn, by omega, fun c => ?_⟩
  have r17 : 0 ≤ c % 17 ∧ c % 17 < 17 := ⟨Int.emod_nonneg _ (by omega), Int.emod_lt_of_pos _ (by omega)⟩
  have r2 : 0 ≤ c / 17 % 2 ∧ c / 17 % 2 < 2 := ⟨Int.emod_nonneg _ (by omega), Int.emod_lt_of_pos _ (by omega)⟩
  walk_at "go"
  refine ⟨by omega, by omega, ?_⟩
  refine ⟨fun j acc s => s = (⟨[some (.scr ns), some (.d (.int (a : Nat))), some (.d (.int c)), none, none], []⟩ : PSt) ∧ ∃ ls : List (List Nat), acc = ls.map dT ∧ (∀ l ∈ ls, gdT l ∧ l.length ≤ 40) ∧ ls.length = j, ⟨rfl, [], rfl, (fun _ z => nomatch z), rfl⟩, fun _ _ _ _ _ => trivial, ?_, ?_⟩
  · rintro j x acc s2 hx ho ⟨rfl, ls, rfl, hls, hlj⟩
    obtain ⟨hj, rfl⟩ := ints_get hx
    clear hx ho
    have hlm : (ls.map dT).length ≤ 20 := by rw [List.length_map]; omega
    walk_at "go"
    refine ⟨hn, by show a + 1 + (0 + j) ≤ 10000; omega, fun v => ?_⟩
    walk_at "go"
    intro l hg hl
    walk_at "go"
    refine ⟨ls ++ [l], by rw [List.map_append] <;> rfl, fun x m => ?_, by simp [hlj]⟩
    rcases List.mem_append.mp m with m | m
    · exact hls x m
    · rw [List.mem_singleton] at m; rw [m]; exact ⟨hg, hl⟩
  rintro acc s2 ho ⟨rfl, ls, rfl, hls, hlj⟩
  clear ho
  rw [ints_len] at hlj
  have hl16 : ls.length ≤ 16 := by omega
  obtain ⟨n1, n2⟩ := jn10_len fun w m => (hls w m).2
  have g1 := jn10_gd fun w m => (hls w m).1
  walk_at "go"
  refine ⟨ls.map tx, strsOf_tx ls, by rw [List.length_map, tx_len]; show _ + ls.length * 1 ≤ _; omega, ?_⟩
  rw [join_tx]
  generalize TL.joinL [10] ls = X at *
  have sL : SeqAt.shaped (.list (ls.map dT)) = true := shaped_dTs fun w m => (hls w m).1
  walk_at "go"
  rw [show [PyData.str "", PyData.str (tx [10])] = [[], [10]].map dT from rfl]
  obtain ⟨l2, m2, e2⟩ := ixS_mem (L := [[], [10]]) r2.1 r2.2
  have k2 : l2.length ≤ 1 ∧ gdT l2 := by
    simp only [List.mem_cons, List.not_mem_nil, or_false] at m2
    rcases m2 with rfl | rfl
    · exact ⟨by decide, fun _ z => nomatch z⟩
    · exact ⟨by decide, gdT_all (by decide)⟩
  refine ⟨_, e2, ?_⟩
  walk_at "go"
  refine ⟨eqOk_of sL rfl, ?_⟩
  refine .inr ⟨_, rfl, ?_⟩
  have fin : ∀ n : Nat, n ≤ 1 → ret (.d (dT (X ++ (List.replicate n l2).flatten))) [] := fun n hn1 => by
    have hl3 : (List.replicate n l2).flatten.length ≤ 1 := by
      rcases (by omega : n = 0 ∨ n = 1) with rfl | rfl
      · simp
      · simpa using k2.1
    refine h _ (g1.app fun x m => ?_) (by rw [List.length_append]; omega)
    obtain ⟨y, hy, hx⟩ := List.mem_flatten.mp m
    rw [List.eq_of_mem_replicate hy] at hx
    exact k2.2 x hx
  have rep : ∀ (b : Bool), (if b = true then (1 : Int) else 0).toNat ≤ 1 := fun b => by cases b <;> decide
  generalize hB : (!PyData.eqv (.list (ls.map dT)) (.list [])) = B at *
  rw [if_pos rfl]
  have hn : ∃ n : Nat, n ≤ 1 ∧ (if B = true then (1 : Int) else 0) = n := by cases B <;> exact ⟨_, by decide, rfl⟩
  obtain ⟨n, hn1, hn⟩ := hn
  rw [hn]
  have hf := fin n hn1
  have hl3 : (List.replicate n l2).flatten.length ≤ 1 := by
    rcases (by omega : n = 0 ∨ n = 1) with rfl | rfl
    · simp
    · simpa using k2.1
  have hnl : l2.length * n ≤ 1 := by
    rcases (by omega : n = 0 ∨ n = 1) with rfl | rfl
    · omega
    · have := k2.1; omega
  refine ⟨_, _, rfl, rfl, ⟨by omega, by omega⟩, le_sz (by rw [tx_len, Int.toNat_natCast]; omega), ?_⟩
  rw [repS_tx, Int.toNat_natCast]
  generalize (List.replicate n l2).flatten = S at *
  walk_at "go"
  exact hf
def S_law_edits : FS := fun args o ret exc => ∃ (ns : List Int) (a : Nat) (t : List Nat), args = [.scr ns, .d (.int a), .d (dT t)] ∧ o = [] ∧ ns.length ≤ 63 ∧ a ≤ 60 ∧ t.length ≤ 2000 ∧ ∀ L : List Ed, Wel t.length (-1) L → L.length ≤ 20 → (∀ x ∈ L, x.2.2.length ≤ 17) → ret (.new (L.map edD)) []
theorem wel_snoc {n : Nat} {b e : Nat} {w : List Nat} : ∀ {L : List Ed} {p : Int}, Wel n p L → (∀ x, L.getLast? = some x → (x.2.1 : Int) < b) → (L = [] → p < b) → b ≤ e → e ≤ n → gdT w → w.length ≤ 2000 → Wel n p (L ++ [(b, e, w)])
  | [], p, _, _, h2, h3, h4, h5, h6 => ⟨h2 rfl, h3, h4, h5, h6, trivial⟩
  | (b', e', w') :: r, p, ⟨k1, k2, k3, k4, k5, k6⟩, h1, _, h3, h4, h5, h6 => by
    refine ⟨k1, k2, k3, k4, k5, wel_snoc k6 (fun x q => h1 x (by rw [List.getLast?_cons, q]; rfl)) (fun z => ?_) h3 h4 h5 h6⟩
    subst z
    exact h1 (b', e', w') rfl
def w_law_edits : SW :=
 (wSeq (wAsg (wLst (wCons (wC (.str "")) (wCons (wC (.str "a")) (wCons (wC (.str " ")) (wCons (wC (.str "\n")) (wCons (wC (.str "end\n")) (wCons (wC (.str "block\n")) (wCons (wC (.str "# n")) (wCons (wC (.str "\n\n")) (wCons (wC (.str "say 1\n")) (wCons (wC (.str "let b = 2")) (wCons (wC (.str ")")) wNil)))))))))))) 3)
 (wSeq (wAsg (wCat (wVar 3) (wLst (wCons (wC (.str "\nend")) (wCons (wC (.str "if a\n")) (wCons (wC (.str " + 1")) wNil))))) 3)
 (wSeq (wAsg (wLst wNil) 4)
 (wSeq (wAsg (wNeg (wC (.int 1))) 5)
 (wSeq (wAsg (wCall S_law_cell_at (wCons (wVar 0) (wCons (wVar 1) wNil))) 6)
 (wSeq (wAsg (wIx (wLst (wCons (wMod (wVar 6) (wC (.int 4))) (wCons (wAdd (wC (.int 5)) (wMod (wDiv (wVar 6) (wC (.int 32))) (wC (.int 16)))) wNil))) (wInt1 (wEq (wMod (wDiv (wVar 6) (wC (.int 4))) (wC (.int 8))) (wC (.int 1))))) 7)
 (wSeq (wFor (wRg1 (wVar 7)) (gN 8)
  (wSeq (wAsg (wCall S_law_cell_at (wCons (wVar 0) (wCons (wAdd (wAdd (wMul (wC (.int 100)) (wVar 1)) (wC (.int 1))) (wVar 8)) wNil))) 9)
 (wSeq (wAsg (wAdd (wAdd (wVar 5) (wC (.int 1))) (wMod (wVar 9) (wIx (wLst (wCons (wC (.int 9)) (wCons (wIx (wLst (wCons (wC (.int 60)) (wCons (wC (.int 5)) wNil))) (wInt1 (wGt (wVar 7) (wC (.int 4))))) wNil))) (wMod (wDiv (wVar 9) (wC (.int 9))) (wC (.int 2)))))) 10)
 (wIfS (wB (wLe (wVar 10) (wLen (wVar 2))))
  (wSeq (wAsg (wMin2 (wLen (wVar 2)) (wAdd (wVar 10) (wIx (wLst (wCons (wC (.int 0)) (wCons (wC (.int 0)) (wCons (wC (.int 1)) (wCons (wMod (wDiv (wVar 9) (wC (.int 18))) (wC (.int 40))) wNil))))) (wMod (wDiv (wVar 9) (wC (.int 720))) (wC (.int 4)))))) 5)
 (wDrop (wApp (wVar 4) (wTup (wCons (wVar 10) (wCons (wVar 5) (wCons (wIx (wVar 3) (wMod (wDiv (wVar 9) (wC (.int 2880))) (wC (.int 14)))) wNil)))))))
  wNext))))
 (wRet (wVar 4)))))))))
def w_ed3 : SW :=
 (wIfS (wB (wLe (wVar 10) (wLen (wVar 2))))
  (wSeq (wAsg (wMin2 (wLen (wVar 2)) (wAdd (wVar 10) (wIx (wLst (wCons (wC (.int 0)) (wCons (wC (.int 0)) (wCons (wC (.int 1)) (wCons (wMod (wDiv (wVar 9) (wC (.int 18))) (wC (.int 40))) wNil))))) (wMod (wDiv (wVar 9) (wC (.int 720))) (wC (.int 4)))))) 5)
 (wDrop (wApp (wVar 4) (wTup (wCons (wVar 10) (wCons (wVar 5) (wCons (wIx (wVar 3) (wMod (wDiv (wVar 9) (wC (.int 2880))) (wC (.int 14)))) wNil)))))))
  wNext)
def w_law_edits_6 : SW := (wSeq (wFor (wRg1 (wVar 7)) (gN 8) (wSeq (wAsg (wCall S_law_cell_at (wCons (wVar 0) (wCons (wAdd (wAdd (wMul (wC (.int 100)) (wVar 1)) (wC (.int 1))) (wVar 8)) wNil))) 9) (wSeq (wAsg (wAdd (wAdd (wVar 5) (wC (.int 1))) (wMod (wVar 9) (wIx (wLst (wCons (wC (.int 9)) (wCons (wIx (wLst (wCons (wC (.int 60)) (wCons (wC (.int 5)) wNil))) (wInt1 (wGt (wVar 7) (wC (.int 4))))) wNil))) (wMod (wDiv (wVar 9) (wC (.int 9))) (wC (.int 2)))))) 10) w_ed3))) (wRet (wVar 4))) 
abbrev EdSt (ns : List Int) (a m : Nat) (t : List Nat) (c p v : Int) (x8 : Option PV) (b : Int) (l0 l1 l4 : List PyData) (L : List Ed) (O : List OC) : PSt := ⟨[some (.scr ns), some (.d (.int (a : Nat))), some (.d (dT t)), some (.own 2), some (.own 3), some (.d (.int p)), some (.d (.int c)), some (.d (.int (m : Nat))), x8, some (.d (.int v)), some (.d (.int b))], .dl l0 :: .dl l1 :: .dl ((sa ++ sb).map dT) :: .dl (L.map edD) :: .dl l4 :: O⟩
theorem ed3 {kx : KX} {K : PEnds} {ns : List Int} {a m : Nat} {t : List Nat} {c p v : Int} {x8 : Option PV} {b : Nat} {l0 l1 l4 q1 q2 : List PyData} {L : List Ed} (ht : t.length ≤ 2000) (hl : L.length ≤ 20) (hp : -1 ≤ p) (hb : p < b)
    (hk0 : K.nx (EdSt ns a m t c p v x8 b l0 l1 l4 L [.dl q1, .dl q2]))
    (hk : ∀ (e : Nat) (w : List Nat) (q3 : List PyData), b ≤ e → e ≤ t.length → w.length ≤ 17 → gdT w → K.nx (EdSt ns a m t c e v x8 b l0 l1 l4 (L ++ [(b, e, w)]) [.dl q1, .dl q2, .dl q3])) :
    w_ed3 kx (EdSt ns a m t c p v x8 b l0 l1 l4 L [.dl q1, .dl q2]) K := by
  have md : ∀ (x : Int) (n : Int), 0 < n → 0 ≤ x % n ∧ x % n < n := fun x n hn => ⟨Int.emod_nonneg _ (by omega), Int.emod_lt_of_pos _ hn⟩
  have ok : ∀ l ∈ (ra ++ rb) ++ rc ++ oda ++ bar ++ tla ++ (sa ++ sb), l.length ≤ 17 ∧ gdT l := fun l m => ⟨(lines_ok l m).1, gdT_all (lines_ok l m).2⟩
  have hLm : (L.map edD).length ≤ 20 := by rw [List.length_map]; exact hl
  unfold w_ed3
  walk_at "go"
  rw [tx_len]
  refine br_p (fun q => ?_) (fun q => ?_)
  · walk_at "go"
    have h4 := md (v / 720) 4 (by decide)
    have h40 := md (v / 18) 40 (by decide)
    obtain ⟨d, hd0, ed⟩ : ∃ d : Int, 0 ≤ d ∧ ixD (.list [.int 0, .int 0, .int 1, .int (v / 18 % 40)]) (v / 720 % 4) = some (.int d) := by
      rcases (by omega : v / 720 % 4 = 0 ∨ v / 720 % 4 = 1 ∨ v / 720 % 4 = 2 ∨ v / 720 % 4 = 3) with e | e | e | e <;> rw [e]
      · exact ⟨0, by decide, rfl⟩
      · exact ⟨0, by decide, rfl⟩
      · exact ⟨1, by decide, rfl⟩
      · exact ⟨_, h40.1, rfl⟩
    refine ⟨_, ed, ?_⟩
    walk_at "go"
    rw [tx_len]
    have q' : (b : Int) ≤ (t.length : Nat) := q
    obtain ⟨e, he, he1, he2⟩ : ∃ e : Nat, (if (b : Int) + d < (t.length : Nat) then (b : Int) + d else (t.length : Nat)) = e ∧ b ≤ e ∧ e ≤ t.length := by
      by_cases z : (b : Int) + d < (t.length : Nat)
      · exact ⟨((b : Int) + d).toNat, by rw [if_pos z]; omega, by omega, by omega⟩
      · exact ⟨t.length, by rw [if_neg z], by omega, Nat.le_refl _⟩
    rw [he]
    obtain ⟨l2, m2, e2⟩ := ixS_mem (L := sa ++ sb) (md (v / 2880) 14 (by decide)).1 (md (v / 2880) 14 (by decide)).2
    obtain ⟨j1, j2⟩ := ok l2 (List.mem_append_right _ m2)
    refine ⟨_, e2, ?_⟩
    walk_at "go"
    have := hk e l2 [.int 0, .int 0, .int 1, .int (v / 18 % 40)] he1 he2 j1 j2
    rw [EdSt, show (L ++ [(b, e, l2)]).map edD = L.map edD ++ [edD (b, e, l2)] by rw [List.map_append]; rfl] at this
    exact this
  · walk_at "go"
    exact hk0
theorem rAdd_int {a b : Int} {q : PyData → Prop} : rAddD (.int a) (.int b) q = q (.int (a + b)) := rfl
theorem edits6 {kx : KX} {ret : RV → List OC → Prop} {ns : List Int} {a m : Nat} {t : List Nat} {c : Int} {l0 l1 l4 : List PyData} (hn : ns.length ≤ 63) (ha : a ≤ 60) (ht : t.length ≤ 2000) (hm : m ≤ 20) (h : ∀ L : List Ed, Wel t.length (-1) L → L.length ≤ 20 → (∀ x ∈ L, x.2.2.length ≤ 17) → ret (.new (L.map edD)) []) :
    w_law_edits_6 kx ⟨[some (.scr ns), some (.d (.int (a : Nat))), some (.d (dT t)), some (.own 2), some (.own 3), some (.d (.int (-1))), some (.d (.int c)), some (.d (.int (m : Nat))), none, none, none], [.dl l0, .dl l1, .dl ((sa ++ sb).map dT), .dl [], .dl l4]⟩ (bodyE 0 ret) := by
  have md : ∀ (x : Int) (n : Int), 0 < n → 0 ≤ x % n ∧ x % n < n := fun x n hn => ⟨Int.emod_nonneg _ (by omega), Int.emod_lt_of_pos _ hn⟩
  have ok : ∀ l ∈ (ra ++ rb) ++ rc ++ oda ++ bar ++ tla ++ (sa ++ sb), l.length ≤ 17 ∧ gdT l := fun l m => ⟨(lines_ok l m).1, gdT_all (lines_ok l m).2⟩
  unfold w_law_edits_6
  generalize hE3 : w_ed3 = E3 at *
  walk_at "go"
  refine ⟨by omega, by omega, ?_⟩
  refine ⟨fun j s => ∃ (L : List Ed) (p : Int) (x8 x9 x10 : Option PV), s = (⟨[some (.scr ns), some (.d (.int (a : Nat))), some (.d (dT t)), some (.own 2), some (.own 3), some (.d (.int p)), some (.d (.int c)), some (.d (.int (m : Nat))), x8, x9, x10], [.dl l0, .dl l1, .dl ((sa ++ sb).map dT), .dl (L.map edD), .dl l4]⟩ : PSt) ∧ Wel t.length (-1) L ∧ L.length ≤ j ∧ (∀ x ∈ L, x.2.2.length ≤ 17) ∧ -1 ≤ p ∧ (∀ x, L.getLast? = some x → (x.2.1 : Int) = p),
    ⟨[], -1, none, none, none, rfl, trivial, Nat.zero_le _, (fun _ z => nomatch z), by omega, (fun _ z => nomatch z)⟩, fun _ _ _ _ => trivial, ?_, ?_⟩
  · rintro j x _ hx ⟨L, p, x8, x9, x10, rfl, hw, hl, hs, hp, hlast⟩
    obtain ⟨hj, rfl⟩ := ints_get hx
    have hLm : (L.map edD).length ≤ 20 := by rw [List.length_map]; omega
    walk_at "go"
    refine ⟨hn, by show 100 * a + 1 + (0 + j) ≤ 10000; omega, fun v => ?_⟩
    have wf : ∀ (b e : Nat) (w : List Nat), p < b → b ≤ e → e ≤ t.length → w.length ≤ 17 → gdT w → Wel t.length (-1) (L ++ [(b, e, w)]) ∧ (L ++ [(b, e, w)]).length ≤ j + 1 ∧ (∀ x ∈ L ++ [(b, e, w)], x.2.2.length ≤ 17) ∧ (-1 : Int) ≤ (e : Nat) ∧ ∀ x, (L ++ [(b, e, w)]).getLast? = some x → (x.2.1 : Int) = (e : Nat) := fun b e w h1 h2 h3 h4 h5 =>
      ⟨wel_snoc hw (fun x q => by rw [hlast x q]; exact h1) (fun _ => by omega) h2 h3 h5 (by omega), by simp; omega, fun x mx => (List.mem_append.mp mx).elim (hs x) fun mx => by rw [List.mem_singleton] at mx; rw [mx]; exact h4, by omega, fun x q => by
        rw [List.getLast?_append] at q; simp at q; rw [← q]⟩
    have r92 := md (v / 9) 2 (by decide)
    walk_at "go"
    show _ ∨ _
    by_cases q : (4 : Int) < m
    · refine .inr ⟨_, rfl, ?_⟩
      have e : decide ((4 : Int) < (m : Int)) = true := decide_eq_true q
      refine ⟨_, 1, rfl, by show some (PyData.int (if decide ((4 : Int) < (m : Int)) = true then 1 else 0)) = _; rw [e]; rfl, trivial, _, rfl, ?_⟩
      walk_at "go"
      rcases (by omega : v / 9 % 2 = 0 ∨ v / 9 % 2 = 1) with z | z
      · rw [z]
        have r0 := md v 9 (by decide)
        walk_at "go"
        obtain ⟨b, hb⟩ : ∃ b : Nat, p + 1 + v % 9 = b := ⟨(p + 1 + v % 9).toNat, by omega⟩
        rw [rAdd_int, hb, ← hE3]
        exact ed3 ht (by omega) hp (by omega) (.inr ⟨L, p, _, _, _, rfl, hw, by omega, hs, hp, hlast⟩) (fun e w q3 h1 h2 h3 h4 => .inr ⟨_, (e : Nat), _, _, _, rfl, (wf b e w (by omega) h1 h2 h3 h4).1, (wf b e w (by omega) h1 h2 h3 h4).2.1, (wf b e w (by omega) h1 h2 h3 h4).2.2.1, (wf b e w (by omega) h1 h2 h3 h4).2.2.2.1, (wf b e w (by omega) h1 h2 h3 h4).2.2.2.2⟩)
      · rw [z]
        have r0 := md v 5 (by decide)
        walk_at "go"
        obtain ⟨b, hb⟩ : ∃ b : Nat, p + 1 + v % 5 = b := ⟨(p + 1 + v % 5).toNat, by omega⟩
        rw [rAdd_int, hb, ← hE3]
        exact ed3 ht (by omega) hp (by omega) (.inr ⟨L, p, _, _, _, rfl, hw, by omega, hs, hp, hlast⟩) (fun e w q3 h1 h2 h3 h4 => .inr ⟨_, (e : Nat), _, _, _, rfl, (wf b e w (by omega) h1 h2 h3 h4).1, (wf b e w (by omega) h1 h2 h3 h4).2.1, (wf b e w (by omega) h1 h2 h3 h4).2.2.1, (wf b e w (by omega) h1 h2 h3 h4).2.2.2.1, (wf b e w (by omega) h1 h2 h3 h4).2.2.2.2⟩)
    · refine .inr ⟨_, rfl, ?_⟩
      have e : decide ((4 : Int) < (m : Int)) = false := decide_eq_false q
      refine ⟨_, 0, rfl, by show some (PyData.int (if decide ((4 : Int) < (m : Int)) = true then 1 else 0)) = _; rw [e]; rfl, trivial, _, rfl, ?_⟩
      walk_at "go"
      rcases (by omega : v / 9 % 2 = 0 ∨ v / 9 % 2 = 1) with z | z
      · rw [z]
        have r0 := md v 9 (by decide)
        walk_at "go"
        obtain ⟨b, hb⟩ : ∃ b : Nat, p + 1 + v % 9 = b := ⟨(p + 1 + v % 9).toNat, by omega⟩
        rw [rAdd_int, hb, ← hE3]
        exact ed3 ht (by omega) hp (by omega) (.inr ⟨L, p, _, _, _, rfl, hw, by omega, hs, hp, hlast⟩) (fun e w q3 h1 h2 h3 h4 => .inr ⟨_, (e : Nat), _, _, _, rfl, (wf b e w (by omega) h1 h2 h3 h4).1, (wf b e w (by omega) h1 h2 h3 h4).2.1, (wf b e w (by omega) h1 h2 h3 h4).2.2.1, (wf b e w (by omega) h1 h2 h3 h4).2.2.2.1, (wf b e w (by omega) h1 h2 h3 h4).2.2.2.2⟩)
      · rw [z]
        have r0 := md v 60 (by decide)
        walk_at "go"
        obtain ⟨b, hb⟩ : ∃ b : Nat, p + 1 + v % 60 = b := ⟨(p + 1 + v % 60).toNat, by omega⟩
        rw [rAdd_int, hb, ← hE3]
        exact ed3 ht (by omega) hp (by omega) (.inr ⟨L, p, _, _, _, rfl, hw, by omega, hs, hp, hlast⟩) (fun e w q3 h1 h2 h3 h4 => .inr ⟨_, (e : Nat), _, _, _, rfl, (wf b e w (by omega) h1 h2 h3 h4).1, (wf b e w (by omega) h1 h2 h3 h4).2.1, (wf b e w (by omega) h1 h2 h3 h4).2.2.1, (wf b e w (by omega) h1 h2 h3 h4).2.2.2.1, (wf b e w (by omega) h1 h2 h3 h4).2.2.2.2⟩)
  · rintro _ ⟨L, p, x8, x9, x10, rfl, hw, hl, hs, hp, hlast⟩
    rw [ints_len, Int.toNat_natCast] at hl
    walk_at "go"
    exact ⟨Nat.le_of_ble_eq_true rfl, _, rfl, h L hw (by omega) hs⟩
theorem pure_law_edits : ∀ args o ret exc, S_law_edits args o ret exc → w_law_edits (fun x s => exc x (cutL o.length s.o)) (pst0 args o 11) (bodyE o.length ret) := by
  rintro _ _ ret exc ⟨ns, a, t, rfl, rfl, hn, ha, ht, h⟩
  have md : ∀ (x : Int) (n : Int), 0 < n → 0 ≤ x % n ∧ x % n < n := fun x n hn => ⟨Int.emod_nonneg _ (by omega), Int.emod_lt_of_pos _ hn⟩
  unfold w_law_edits
  show wSeq (wAsg _ 3) (wSeq (wAsg _ 3) (wSeq (wAsg _ 4) (wSeq (wAsg _ 5) (wSeq (wAsg _ 6) (wSeq (wAsg _ 7) w_law_edits_6))))) _ _ _
  generalize hW : w_law_edits_6 = W
  walk_at "go"
  refine ⟨hn, by omega, fun c => ?_⟩
  walk_at "go"
  refine .inr ⟨_, rfl, ?_⟩
  rw [sa_eq, sb_eq, ← List.map_append]
  have h4 := md c 4 (by decide)
  have h16 := md (c / 32) 16 (by decide)
  by_cases q : c / 4 % 8 = 1
  · have e : PyData.eqv (.int (c / 4 % 8)) (.int 1) = true := by rw [q]; rfl
    obtain ⟨m, hm⟩ : ∃ m : Nat, 5 + c / 32 % 16 = m := ⟨(5 + c / 32 % 16).toNat, by omega⟩
    refine ⟨_, 1, rfl, by rw [e] <;> rfl, trivial, _, rfl, ?_⟩
    rw [hm, ← hW]
    exact edits6 hn ha ht (by omega) h
  · have e : PyData.eqv (.int (c / 4 % 8)) (.int 1) = false := by simp [PyData.eqv]; omega
    obtain ⟨m, hm⟩ : ∃ m : Nat, c % 4 = m := ⟨(c % 4).toNat, by omega⟩
    refine ⟨_, 0, rfl, by rw [e] <;> rfl, trivial, _, rfl, ?_⟩
    rw [hm, ← hW]
    exact edits6 hn ha ht (by omega) h
end K41

namespace K41
open PySem L2 PW
local macro_rules
  | `(tactic| walk_at "sz") => `(tactic| first | omega | (simp only [tx_len, List.length_append, List.length_map, List.length_cons, List.length_nil, List.length_take, List.length_drop] <;> omega))
  | `(tactic| walk_at "go") => `(tactic| repeat (first | refine ⟨rfl, ?_⟩ | refine ⟨trivial, ?_⟩ | refine ⟨_, rfl, ?_⟩ | refine ⟨_, rfl, rfl, ?_⟩ | refine ⟨_, _, rfl, rfl, ?_⟩ | refine ⟨_, ix_hd, ?_⟩ | refine br_t rfl ?_ | refine br_f rfl ?_ | (refine ⟨le_sz ?_, ?_⟩; focus walk_at "sz") | (refine ⟨lt_sz ?_, ?_⟩; focus walk_at "sz") | (refine ⟨strLe_tx ?_, ?_⟩; focus walk_at "sz") | refine ⟨cmul_r rfl, ?_⟩ | refine ⟨cmul_l rfl, ?_⟩ | refine ⟨pos_ok rfl, ?_⟩ | refine ⟨cdiv_ok rfl, ?_⟩ | refine ⟨_, _, _, _, rfl, rfl, rfl, rfl, ?_⟩ | refine ⟨_, _, rfl, ?_⟩ | refine ⟨_, _, _, rfl, rfl, rfl, ?_⟩ | refine ⟨_, _, _, rfl, rfl, ?_⟩ | rw [tx_app]))
def S_law_behind : FS := fun args o ret exc => ∃ (t : List Nat) (L : List Ed), args = [.d (dT t), .d (.list (L.map edD))] ∧ o = [] ∧ t.length ≤ 2000 ∧ Wel t.length (-1) L ∧ L.length ≤ 60 ∧ smW L ≤ 100000 ∧ ret (.d (.tuple [dT (doneA t 0 L), .list ((placesA 0 0 L).map fun p : Nat => PyData.int p)])) []
def w_bd : SW := (wSeq (wAsg (wAdd (wVar 2) (wIx (wVar 0) (wVar 4))) 2)
 (wAsg (wAdd (wVar 4) (wC (.int 1))) 4))
abbrev BhSt (t : List Nat) (E : PyData) (f : List Nat) (a : Nat) (P : List Nat) (x5 x6 x7 : Option PV) : PSt := ⟨[some (.d (dT t)), some (.d E), some (.d (dT f)), some (.own 0), some (.d (.int (a : Nat))), x5, x6, x7], [.dl (P.map fun p : Nat => PyData.int p)]⟩
theorem take_drop1 {t : List Nat} {a i : Nat} (h1 : a ≤ i) (h2 : i < t.length) : (t.take i).drop a ++ [t[i]] = (t.take (i + 1)).drop a := by
  rw [List.take_succ_eq_append_getElem h2, List.drop_append_of_le_length (by rw [List.length_take]; omega)]
theorem wh1 {kx : KX} {K : PEnds} {t f : List Nat} {E : PyData} {a b : Nat} {P : List Nat} {x6 x7 : Option PV} (hab : a ≤ b) (hbt : b ≤ t.length) (hl : f.length + t.length ≤ 200000)
    (h : K.nx (BhSt t E (f ++ (t.take b).drop a) b P (some (.d (.int (b : Nat)))) x6 x7)) :
    wWh (wB (wLt (wVar 4) (wVar 5))) w_bd kx (BhSt t E f a P (some (.d (.int (b : Nat)))) x6 x7) K := by
  refine ⟨fun m s => ∃ i, s = BhSt t E (f ++ (t.take i).drop a) i P (some (.d (.int (b : Nat)))) x6 x7 ∧ a ≤ i ∧ i ≤ b ∧ m = b - i, ⟨_, a, by rw [List.drop_of_length_le (by rw [List.length_take]; omega), List.append_nil], Nat.le_refl _, hab, rfl⟩, ?_⟩
  rintro m _ ⟨i, rfl, h1, h2, rfl⟩
  unfold w_bd
  walk_at "go"
  refine br_p (fun q => ?_) (fun q => ?_)
  · have hi : i < t.length := by omega
    have hm := mid_len (t := t) (a := a) (b := i) (by omega)
    have hfl : (f ++ (t.take i).drop a).length ≤ 200000 := by rw [List.length_append, hm]; omega
    have hix : ixD (dT t) ((i : Nat) : Int) = some (dT [t[i]]) := PW.ix_tx hi
    walk_at "go"
    refine ⟨_, hix, ?_⟩
    walk_at "go"
    refine ⟨b - (i + 1), by omega, .inl ⟨i + 1, ?_, by omega, by omega, rfl⟩⟩
    rw [BhSt, ← take_drop1 h1 hi, ← List.append_assoc]
    rfl
  · have : i = b := by omega
    subst this
    walk_at "go"
    exact h
theorem wh2 {kx : KX} {K : PEnds} {t f : List Nat} {E : PyData} {a : Nat} {P : List Nat} {x5 x6 x7 : Option PV} (hbt : a ≤ t.length) (hl : f.length + t.length ≤ 200000)
    (h : K.nx (BhSt t E (f ++ t.drop a) t.length P x5 x6 x7)) :
    wWh (wB (wLt (wVar 4) (wLen (wVar 0)))) w_bd kx (BhSt t E f a P x5 x6 x7) K := by
  refine ⟨fun m s => ∃ i, s = BhSt t E (f ++ (t.take i).drop a) i P x5 x6 x7 ∧ a ≤ i ∧ i ≤ t.length ∧ m = t.length - i, ⟨_, a, by rw [List.drop_of_length_le (by rw [List.length_take]; omega), List.append_nil], Nat.le_refl _, hbt, rfl⟩, ?_⟩
  rintro m _ ⟨i, rfl, h1, h2, rfl⟩
  unfold w_bd
  walk_at "go"
  rw [tx_len]
  refine br_p (fun q => ?_) (fun q => ?_)
  · have hi : i < t.length := by omega
    have hm := mid_len (t := t) (a := a) (b := i) (by omega)
    have hfl : (f ++ (t.take i).drop a).length ≤ 200000 := by rw [List.length_append, hm]; omega
    have hix : ixD (dT t) ((i : Nat) : Int) = some (dT [t[i]]) := PW.ix_tx hi
    walk_at "go"
    refine ⟨_, hix, ?_⟩
    walk_at "go"
    refine ⟨t.length - (i + 1), by omega, .inl ⟨i + 1, ?_, by omega, by omega, rfl⟩⟩
    rw [BhSt, ← take_drop1 h1 hi, ← List.append_assoc]
    rfl
  · have : i = t.length := by omega
    subst this
    rw [List.take_length]
    walk_at "go"
    exact h
def w_law_behind : SW :=
 (wSeq (wAsg (wC (.str "")) 2)
 (wSeq (wAsg (wLst wNil) 3)
 (wSeq (wAsg (wC (.int 0)) 4)
 (wSeq (wFor (wL (wVar 1)) (gT 3 (gsCons (gN 5) (gsCons (gN 6) (gsCons (gN 7) gsNil))))
  (wSeq (wWh (wB (wLt (wVar 4) (wVar 5)))
  (wSeq (wAsg (wAdd (wVar 2) (wIx (wVar 0) (wVar 4))) 2)
 (wAsg (wAdd (wVar 4) (wC (.int 1))) 4)))
 (wSeq (wDrop (wApp (wVar 3) (wLen (wVar 2))))
 (wSeq (wAsg (wAdd (wVar 2) (wVar 7)) 2)
 (wAsg (wVar 6) 4)))))
 (wSeq (wWh (wB (wLt (wVar 4) (wLen (wVar 0))))
  (wSeq (wAsg (wAdd (wVar 2) (wIx (wVar 0) (wVar 4))) 2)
 (wAsg (wAdd (wVar 4) (wC (.int 1))) 4)))
 (wRet (wTup (wCons (wVar 2) (wCons (wVar 3) wNil)))))))))
theorem pure_law_behind : ∀ args o ret exc, S_law_behind args o ret exc → w_law_behind (fun x s => exc x (cutL o.length s.o)) (pst0 args o 8) (bodyE o.length ret) := by
  rintro _ _ ret exc ⟨t, L, rfl, rfl, ht, hW, hn, hs, h⟩
  have hD := done_len (t := t) L 0 (-1) (by omega) (Nat.zero_le _) hW
  show wSeq (wAsg _ 2) (wSeq (wAsg _ 3) (wSeq (wAsg _ 4) (wSeq (wFor (wL (wVar 1)) (gT 3 (gsCons (gN 5) (gsCons (gN 6) (gsCons (gN 7) gsNil)))) (wSeq (wWh (wB (wLt (wVar 4) (wVar 5))) w_bd) (wSeq (wDrop (wApp (wVar 3) (wLen (wVar 2)))) (wSeq (wAsg (wAdd (wVar 2) (wVar 7)) 2) (wAsg (wVar 6) 4))))) (wSeq (wWh (wB (wLt (wVar 4) (wLen (wVar 0)))) w_bd) _)))) _ _ _
  generalize hW1 : wWh (wB (wLt (wVar 4) (wVar 5))) w_bd = W1
  generalize hW2 : wWh (wB (wLt (wVar 4) (wLen (wVar 0)))) w_bd = W2
  walk_at "go"
  refine ⟨fun j s => ∃ (a : Nat) (q : Int) (f P : List Nat) (x5 x6 x7 : Option PV), s = BhSt t (.list (L.map edD)) f a P x5 x6 x7 ∧ (a : Int) ≤ q + 1 ∧ a ≤ t.length ∧ Wel t.length q (L.drop j) ∧ f ++ doneA t a (L.drop j) = doneA t 0 L ∧ P ++ placesA a f.length (L.drop j) = placesA 0 0 L ∧ P.length = j,
    ⟨0, -1, [], [], none, none, none, rfl, by omega, Nat.zero_le _, hW, rfl, rfl, rfl⟩, fun _ _ _ _ => trivial, ?_, ?_⟩
  · rintro j x _ hx ⟨a, q, f, P, x5, x6, x7, rfl, ha, hat, hw, hf, hP, hPl⟩
    obtain ⟨hj, rfl⟩ := map_get hx
    clear hx
    rw [List.drop_eq_getElem_cons hj] at hw hf hP
    generalize hE : L[j] = ed at *
    obtain ⟨b, en, w⟩ := ed
    obtain ⟨w1, w2, w3, w4, w5, w6⟩ := hw
    have hf : f ++ ((t.take b).drop a ++ (w ++ doneA t en (L.drop (j + 1)))) = doneA t 0 L := hf
    have hfl := congrArg List.length hf
    have hm := mid_len (t := t) (a := a) (b := b) (by omega)
    simp only [List.length_append, hm] at hfl
    have hP : P ++ ((f.length + (b - a)) :: placesA en (f.length + (b - a) + w.length) (L.drop (j + 1))) = placesA 0 0 L := hP
    have w5 : w.length ≤ 2000 := w5
    have hPm : (P.map fun p : Nat => PyData.int p).length ≤ 60 := by rw [List.length_map]; omega
    walk_at "go"
    rw [← hW1]
    refine wh1 (by omega) (by omega) (by omega) ?_
    have hgl : (f ++ (t.take b).drop a).length = f.length + (b - a) := by rw [List.length_append, hm]
    generalize hG : f ++ (t.take b).drop a = g at *
    have hgw : (g ++ w).length = f.length + (b - a) + w.length := by rw [List.length_append, hgl]
    walk_at "go"
    refine .inl ⟨en, (en : Nat), g ++ w, P ++ [f.length + (b - a)], some (.d (.int (b : Nat))), some (.d (.int (en : Nat))), some (.d (dT w)), ?_, by omega, w3, w6, ?_, ?_, by simp [hPl]⟩
    · have eP : (P ++ [f.length + (b - a)]).map (fun p : Nat => PyData.int p) = P.map (fun p : Nat => PyData.int p) ++ [.int ((f.length + (b - a) : Nat))] := by rw [List.map_append]; rfl
      show _ = PSt.mk _ [OC.dl ((P ++ [f.length + (b - a)]).map fun p : Nat => PyData.int p)]
      rw [eP, tx_len, hgl]
      rfl
    · rw [← hf, ← hG, List.append_assoc, List.append_assoc]
    · rw [hgw, List.append_assoc]
      exact hP
  · rintro _ ⟨a, q, f, P, x5, x6, x7, rfl, ha, hat, hw, hf, hP, hPl⟩
    rw [List.length_map, List.drop_length] at hf hP
    have hf : f ++ t.drop a = doneA t 0 L := hf
    have hfl := congrArg List.length hf
    rw [List.length_append] at hfl
    have hP : P ++ [] = placesA 0 0 L := hP
    rw [List.append_nil] at hP
    walk_at "go"
    rw [← hW2]
    refine wh2 hat (by omega) ?_
    rw [hf, hP]
    walk_at "go"
    exact h
/-! ### refusals -/
section
variable {M : MX} {C_TooGreat C_NoText C_NoEdit C_MenderError C_NoPlace C_NoName C_NotWhole C_NoMend C_Clash C_fn_done C_fn_backs : Addr}
def S_law_alone (G : Addr) : FS := fun args o ret exc => ∃ x : XV, args = [.exc x, .d (.int 1)] ∧ o = [] ∧ x.C = G ∧ ret (.d (.bool true)) []
def w_law_alone (M : MX) (C_TooGreat : Addr) (C_NoText : Addr) (C_NoEdit : Addr) (C_NoPlace : Addr) (C_NoName : Addr) (C_NotWhole : Addr) (C_NoMend : Addr) (C_Clash : Addr) : SW :=
 (wSeq (wAsg (wLst (wCons (wIsE M (.ref C_NoText) (wVar 0)) (wCons (wIsE M (.ref C_TooGreat) (wVar 0)) (wCons (wIsE M (.ref C_NoEdit) (wVar 0)) (wCons (wIsE M (.ref C_Clash) (wVar 0)) wNil))))) 2)
 (wSeq (wAsg (wOrV (wIsE M (.ref C_NoPlace) (wVar 0)) (wOrV (wIsE M (.ref C_NoName) (wVar 0)) (wOrV (wIsE M (.ref C_NotWhole) (wVar 0)) (wIsE M (.ref C_NoMend) (wVar 0))))) 3)
 (wRet (wAndV (wEq (wVar 2) (wLst (wCons (wEq (wVar 1) (wC (.int 0))) (wCons (wEq (wVar 1) (wC (.int 1))) (wCons (wEq (wVar 1) (wC (.int 2))) (wCons (wEq (wVar 1) (wC (.int 3))) wNil)))))) (wAndV (wNotV (wVar 3)) (wIsE M (.ty "ValueError") (wVar 0)))))))
theorem pure_law_alone (em : Em M C_TooGreat C_NoText C_NoEdit C_MenderError C_NoPlace C_NoName C_NotWhole C_NoMend C_Clash C_fn_done C_fn_backs) :
    ∀ args o ret exc, S_law_alone C_TooGreat args o ret exc → w_law_alone M C_TooGreat C_NoText C_NoEdit C_NoPlace C_NoName C_NotWhole C_NoMend C_Clash (fun x s => exc x (cutL o.length s.o)) (pst0 args o 4) (bodyE o.length ret) := by
  rintro _ _ ret exc ⟨x, rfl, rfl, rfl, h⟩
  unfold w_law_alone
  walk_at "go"
  refine ⟨_, _, rfl, em.m_TooGreat_NoText, ?_⟩
  walk_at "go"
  refine ⟨_, _, rfl, em.m_TooGreat_TooGreat, ?_⟩
  walk_at "go"
  refine ⟨_, _, rfl, em.m_TooGreat_NoEdit, ?_⟩
  walk_at "go"
  refine ⟨_, _, rfl, em.m_TooGreat_Clash, ?_⟩
  walk_at "go"
  refine ⟨_, _, rfl, em.m_TooGreat_NoPlace, ?_⟩
  walk_at "go"
  refine ⟨_, _, rfl, em.m_TooGreat_NoName, ?_⟩
  walk_at "go"
  refine ⟨_, _, rfl, em.m_TooGreat_NotWhole, ?_⟩
  walk_at "go"
  refine ⟨_, _, rfl, em.m_TooGreat_NoMend, ?_⟩
  walk_at "go"
  exact ⟨_, _, rfl, em.m_TooGreat_ValueError, h⟩
def RG_law_refused (N G E Fd Fb : Addr) : Addr → FS → Prop := fun f S => (f = Fd ∧ S = S_done N G E) ∨ (f = Fb ∧ S = S_backs N G E)
def S_law_refused (N G E Fd Fb : Addr) : FS := fun args o ret exc => ∃ (t : List Nat) (L : List Ed) (f : Addr), args = [.gl (.ref f), .d (dT t), .d (.list (L.map edD))] ∧ o = [] ∧ (f = Fd ∨ f = Fb) ∧ gdT t ∧ t.length ≤ 2000 ∧ Wel t.length (-1) L ∧ L.length ≤ 30 ∧ smW L ≤ 100000 ∧ 2000 < (doneA t 0 L).length ∧ ret (.d (.bool true)) []
def w_law_refused (M : MX) (C_TooGreat : Addr) (C_NoText : Addr) (C_NoEdit : Addr) (C_MenderError : Addr) (C_fn_done : Addr) (C_fn_backs : Addr) : SW :=
 (wSeq (wTry M (wDrop (wCallG 0 (RG_law_refused C_NoText C_TooGreat C_NoEdit C_fn_done C_fn_backs) (wCons (wVar 1) (wCons (wVar 2) wNil))))
  ((C_MenderError, some 3, (wRet (wCall (S_law_alone C_TooGreat) (wCons (wVar 3) (wCons (wC (.int 1)) wNil))))) :: []))
 (wRet (wC (.bool false))))
theorem pure_law_refused (em : Em M C_TooGreat C_NoText C_NoEdit C_MenderError C_NoPlace C_NoName C_NotWhole C_NoMend C_Clash C_fn_done C_fn_backs) :
    ∀ args o ret exc, S_law_refused C_NoText C_TooGreat C_NoEdit C_fn_done C_fn_backs args o ret exc → w_law_refused M C_TooGreat C_NoText C_NoEdit C_MenderError C_fn_done C_fn_backs (fun x s => exc x (cutL o.length s.o)) (pst0 args o 4) (bodyE o.length ret) := by
  rintro _ _ ret exc ⟨t, L, f, rfl, rfl, hf, hg, hl, hW, hn, hs, hd, h⟩
  have hLd : Ld [] (.d (.list (L.map edD))) (L.map edD) := rfl
  have fin : ∀ (o : List OC), tryM M [(C_MenderError, some 3, (wRet (wCall (S_law_alone C_TooGreat) (wCons (wVar 3) (wCons (wC (.int 1)) wNil)))))] ⟨C_TooGreat, none⟩ ⟨[some (.gl (.ref f)), some (.d (dT t)), some (.d (.list (L.map edD))), none], o⟩ (fun x s => exc x (cutL ([] : List OC).length s.o)) { nx := fun s1 => wRet (wC (.bool false)) (fun x s => exc x (cutL ([] : List OC).length s.o)) s1 (bodyE 0 ret), rt := (bodyE 0 ret).rt, bk := (bodyE 0 ret).bk, ct := (bodyE 0 ret).ct } := fun o => by
    refine ⟨true, em.m_TooGreat_MenderError, fun _ => ?_, fun z => nomatch z⟩
    walk_at "go"
    exact h
  unfold w_law_refused
  rcases hf with rfl | rfl
  · refine ⟨_, _, rfl, .inl ⟨rfl, rfl⟩, ?_⟩
    walk_at "go"
    exact ⟨hg, hl, hW, hn, rfl, hs, fun z => by omega, fun _ => fin _⟩
  · refine ⟨_, _, rfl, .inr ⟨rfl, rfl⟩, ?_⟩
    walk_at "go"
    exact ⟨hg, hl, hW, hn, rfl, hs, fun z => by omega, fun _ => fin _⟩
end
end K41

namespace K43
open PySem L2 PW K41
/-- the edits of both lists in one row, the one that begins first ahead -/
def mrg : List Ed → List Ed → List Ed
  | [], O => O
  | x :: E, [] => x :: E
  | x :: E, y :: O => if y.1 < x.1 then y :: mrg (x :: E) O else x :: mrg E (y :: O)
termination_by E O => E.length + O.length
/-- the edits of the first list in the text behind the second; a: where the second's next piece begins, k: where it then begins -/
def mvA : Nat → Nat → List Ed → List Ed → List Ed
  | _, _, [], _ => []
  | a, k, x :: E, [] => (k + (x.1 - a), k + (x.2.1 - a), x.2.2) :: mvA a k E []
  | a, k, x :: E, y :: O => if y.1 < x.1 then mvA y.2.1 (k + (y.1 - a) + y.2.2.length) (x :: E) O else (k + (x.1 - a), k + (x.2.1 - a), x.2.2) :: mvA a k E (y :: O)
termination_by _ _ E O => E.length + O.length
/-- begins at c or behind, stands apart, within n -/
def Wl (n c : Nat) : List Ed → Prop
  | [] => c ≤ n
  | x :: r => c ≤ x.1 ∧ x.1 ≤ x.2.1 ∧ Wl n x.2.1 r
theorem Wl.le {n : Nat} : ∀ {L : List Ed} {c : Nat}, Wl n c L → c ≤ n
  | [], _, h => h
  | x :: r, c, ⟨h1, h2, h3⟩ => by have := Wl.le h3; omega
theorem take_cut {t : List Nat} {a b c : Nat} (h1 : a ≤ b) (h2 : b ≤ c) : (t.take b).drop a ++ (t.take c).drop b = (t.take c).drop a := by
  have e : (t.take c).take b = t.take b := by rw [List.take_take, Nat.min_eq_left h2]
  have := List.take_append_drop (b - a) ((t.take c).drop a)
  rw [List.drop_drop, List.take_drop, show a + (b - a) = b by omega, e] at this
  exact this
/-- a stretch ahead of the first edit may be told by itself -/
theorem done_skip {t : List Nat} {n : Nat} : ∀ {L : List Ed} {a c : Nat}, t.length = n → a ≤ c → Wl n c L → doneA t a L = (t.take c).drop a ++ doneA t c L
  | [], a, c, hn, h, w => by
    show t.drop a = (t.take c).drop a ++ t.drop c
    have w : c ≤ n := w
    have := take_cut (t := t) h (show c ≤ t.length by omega)
    rw [List.take_length] at this
    exact this.symm
  | (b, e, w) :: r, a, c, hn, h, ⟨h1, h2, h3⟩ => by
    have h1 : c ≤ b := h1
    show (t.take b).drop a ++ (w ++ doneA t e r) = (t.take c).drop a ++ ((t.take b).drop c ++ (w ++ doneA t e r))
    rw [← List.append_assoc ((t.take c).drop a), take_cut h h1]
/-- no edit of the one touches one of the other -/
def Apart (E O : List Ed) : Prop := ∀ x ∈ E, ∀ y ∈ O, x.2.1 < y.1 ∨ y.2.1 < x.1
theorem piece {t pre : List Nat} {n k a c b : Nat} {O : List Ed} (hn : t.length = n) (hp : pre.length = k) (h1 : a ≤ c) (h2 : c ≤ b) (w : Wl n b O) :
    ((pre ++ doneA t a O).take (k + (b - a))).drop (k + (c - a)) = (t.take b).drop c := by
  have hb := w.le
  rw [done_skip hn (Nat.le_trans h1 h2) w, ← List.append_assoc]
  have hl : (pre ++ (t.take b).drop a).length = k + (b - a) := by
    rw [List.length_append, List.length_drop, List.length_take, hp]; omega
  rw [List.take_append_of_le_length (by omega), List.take_of_length_le (by omega), List.drop_append, hp, List.drop_of_length_le (by omega), List.nil_append, List.drop_drop]
  congr 1
  omega
theorem Wl.low {n : Nat} : ∀ {L : List Ed} {c d : Nat}, Wl n c L → d ≤ c → Wl n d L
  | [], c, d, h, hd => Nat.le_trans hd h
  | x :: r, c, d, ⟨h1, h2, h3⟩, hd => ⟨Nat.le_trans hd h1, h2, h3⟩
theorem mv_wl {t : List Nat} {n : Nat} (hn : t.length = n) : ∀ (m : Nat) (E O : List Ed) (a k c : Nat), E.length + O.length ≤ m → a ≤ c → Wl n c E → Wl n c O → Apart E O →
    Wl (k + (doneA t a O).length) (k + (c - a)) (mvA a k E O)
  | m, [], O, a, k, c, hm, hac, wE, wO, hA => by
    have hc := wO.le
    rw [mvA]
    show k + (c - a) ≤ _
    rw [done_skip hn hac wO, List.length_append, List.length_drop, List.length_take]
    omega
  | 0, x :: E, O, a, k, c, hm, _, _, _, _ => by simp at hm
  | m + 1, (b, e, w) :: E, [], a, k, c, hm, hac, ⟨w1, w2, w3⟩, wO, hA => by
    have w1 : c ≤ b := w1
    have w2 : b ≤ e := w2
    have w3 : Wl n e E := w3
    rw [mvA]
    exact ⟨by show k + (c - a) ≤ k + (b - a); omega, by show k + (b - a) ≤ k + (e - a); omega, mv_wl hn m E [] a k e (by simp at hm ⊢; omega) (by omega) w3 w3.le (fun _ _ _ z => nomatch z)⟩
  | m + 1, (b, e, w) :: E, (b', e', w') :: O, a, k, c, hm, hac, ⟨w1, w2, w3⟩, ⟨o1, o2, o3⟩, hA => by
    have w1 : c ≤ b := w1
    have w2 : b ≤ e := w2
    have w3 : Wl n e E := w3
    have o1 : c ≤ b' := o1
    have o2 : b' ≤ e' := o2
    have o3 : Wl n e' O := o3
    have ho := o3.le
    have h0 : e < b' ∨ e' < b := hA (b, e, w) List.mem_cons_self (b', e', w') List.mem_cons_self
    rw [mvA]
    by_cases hb : b' < b
    · rw [if_pos hb]
      have ih := mv_wl hn m ((b, e, w) :: E) O e' (k + (b' - a) + w'.length) e' (by simp at hm ⊢; omega) (Nat.le_refl _) ⟨by show e' ≤ b; omega, w2, w3⟩ o3 (fun x m y m2 => hA x m y (List.mem_cons_of_mem _ m2))
      rw [Nat.sub_self, Nat.add_zero] at ih
      have e1 : k + (doneA t a ((b', e', w') :: O)).length = k + (b' - a) + w'.length + (doneA t e' O).length := by
        show k + ((t.take b').drop a ++ (w' ++ doneA t e' O)).length = _
        rw [List.length_append, List.length_append, List.length_drop, List.length_take]
        omega
      rw [e1]
      exact ih.low (by omega)
    · rw [if_neg hb]
      exact ⟨by show k + (c - a) ≤ k + (b - a); omega, by show k + (b - a) ≤ k + (e - a); omega, mv_wl hn m E ((b', e', w') :: O) a k e (by simp at hm ⊢; omega) (by omega) w3 ⟨by show e ≤ b'; omega, o2, o3⟩ (fun x m y m2 => hA x (List.mem_cons_of_mem _ m) y m2)⟩
theorem done_mv {t : List Nat} {n : Nat} (hn : t.length = n) : ∀ (m : Nat) (E O : List Ed) (pre : List Nat) (a k c : Nat), E.length + O.length ≤ m → pre.length = k → a ≤ c → Wl n c E → Wl n c O → Apart E O →
    doneA (pre ++ doneA t a O) (k + (c - a)) (mvA a k E O) = doneA t c (mrg E O)
  | m, [], O, pre, a, k, c, hm, hp, hac, wE, wO, hA => by
    rw [mvA, mrg]
    show (pre ++ doneA t a O).drop (k + (c - a)) = _
    rw [List.drop_append, hp, List.drop_of_length_le (by omega), List.nil_append, done_skip hn hac wO, show k + (c - a) - k = c - a by omega, List.drop_append]
    have hc := wO.le
    have hl : ((t.take c).drop a).length = c - a := by rw [List.length_drop, List.length_take]; omega
    rw [hl, Nat.sub_self, List.drop_zero, List.drop_of_length_le (by omega), List.nil_append]
  | 0, x :: E, O, pre, a, k, c, hm, _, _, _, _, _ => by simp at hm
  | m + 1, (b, e, w) :: E, [], pre, a, k, c, hm, hp, hac, ⟨w1, w2, w3⟩, wO, hA => by
    have w1 : c ≤ b := w1
    have w2 : b ≤ e := w2
    have w3 : Wl n e E := w3
    have he := w3.le
    rw [mvA, mrg]
    have ih := done_mv hn m E [] pre a k e (by simp at hm ⊢; omega) hp (by omega) w3 he (fun _ _ _ z => nomatch z)
    have hm2 : mrg E [] = E := by cases E <;> rw [mrg]
    rw [hm2] at ih
    show ((pre ++ doneA t a []).take (k + (b - a))).drop (k + (c - a)) ++ (w ++ doneA (pre ++ doneA t a []) (k + (e - a)) (mvA a k E [])) = (t.take b).drop c ++ (w ++ doneA t e E)
    rw [ih, piece hn hp hac w1 (show Wl n b [] from by show b ≤ n; omega)]
  | m + 1, (b, e, w) :: E, (b', e', w') :: O, pre, a, k, c, hm, hp, hac, ⟨w1, w2, w3⟩, ⟨o1, o2, o3⟩, hA => by
    have w1 : c ≤ b := w1
    have w2 : b ≤ e := w2
    have w3 : Wl n e E := w3
    have o1 : c ≤ b' := o1
    have o2 : b' ≤ e' := o2
    have o3 : Wl n e' O := o3
    have he := w3.le
    have ho := o3.le
    have h0 := hA (b, e, w) List.mem_cons_self (b', e', w') List.mem_cons_self
    have h0 : e < b' ∨ e' < b := h0
    rw [mvA, mrg]
    by_cases hb : b' < b
    · rw [if_pos hb, if_pos hb]
      have hT : pre ++ doneA t a ((b', e', w') :: O) = (pre ++ ((t.take b').drop a ++ w')) ++ doneA t e' O := by
        show pre ++ ((t.take b').drop a ++ (w' ++ doneA t e' O)) = _
        simp only [List.append_assoc]
      have hl : (pre ++ ((t.take b').drop a ++ w')).length = k + (b' - a) + w'.length := by
        rw [List.length_append, List.length_append, List.length_drop, List.length_take, hp]; omega
      have ih := done_mv hn m ((b, e, w) :: E) O (pre ++ ((t.take b').drop a ++ w')) e' (k + (b' - a) + w'.length) e' (by simp at hm ⊢; omega) hl (Nat.le_refl _) ⟨by show e' ≤ b; omega, w2, w3⟩ o3 (fun x m y m2 => hA x m y (List.mem_cons_of_mem _ m2))
      rw [Nat.sub_self, Nat.add_zero] at ih
      show doneA (pre ++ doneA t a ((b', e', w') :: O)) (k + (c - a)) (mvA e' (k + (b' - a) + w'.length) ((b, e, w) :: E) O) = (t.take b').drop c ++ (w' ++ doneA t e' (mrg ((b, e, w) :: E) O))
      rw [← ih, hT]
      have hw := mv_wl hn m ((b, e, w) :: E) O e' (k + (b' - a) + w'.length) e' (by simp at hm ⊢; omega) (Nat.le_refl _) ⟨by show e' ≤ b; omega, w2, w3⟩ o3 (fun x m y m2 => hA x m y (List.mem_cons_of_mem _ m2))
      rw [Nat.sub_self, Nat.add_zero] at hw
      rw [done_skip (t := pre ++ ((t.take b').drop a ++ w') ++ doneA t e' O) (by rw [List.length_append, hl]) (show k + (c - a) ≤ k + (b' - a) + w'.length by omega) hw, ← List.append_assoc ((t.take b').drop c)]
      congr 1
      rw [List.take_append_of_le_length (by omega), List.take_of_length_le (by omega), List.drop_append, hp, List.drop_of_length_le (by omega), List.nil_append, show k + (c - a) - k = c - a by omega, List.drop_append_of_le_length (by rw [List.length_drop, List.length_take]; omega), List.drop_drop]
      congr 2
      omega
    · rw [if_neg hb, if_neg hb]
      have ih := done_mv hn m E ((b', e', w') :: O) pre a k e (by simp at hm ⊢; omega) hp (by omega) w3 ⟨by show e ≤ b'; omega, o2, o3⟩ (fun x m y m2 => hA x (List.mem_cons_of_mem _ m) y m2)
      show ((pre ++ doneA t a ((b', e', w') :: O)).take (k + (b - a))).drop (k + (c - a)) ++ (w ++ doneA (pre ++ doneA t a ((b', e', w') :: O)) (k + (e - a)) (mvA a k E ((b', e', w') :: O))) = (t.take b).drop c ++ (w ++ doneA t e (mrg E ((b', e', w') :: O)))
      rw [ih, piece hn hp hac w1 (show Wl n b ((b', e', w') :: O) from ⟨by show b ≤ b'; omega, o2, o3⟩)]
theorem done_ge {t : List Nat} {n a : Nat} (hn : t.length = n) : ∀ {O : List Ed} {c : Nat}, a ≤ c → Wl n c O → c - a ≤ (doneA t a O).length
  | O, c, h, w => by
    have := w.le
    rw [done_skip hn h w, List.length_append, List.length_drop, List.length_take]
    omega
theorem mv_wel {t : List Nat} {n : Nat} (hn : t.length = n) : ∀ (m : Nat) (E O : List Ed) (a k c : Nat) (p q : Int), E.length + O.length ≤ m → a ≤ c → p ≤ c → q ≤ (k : Int) + (p - (a : Int)) → (∀ x ∈ E, (c : Nat) ≤ x.1) → Wel n p E → Wl n c O → Apart E O →
    Wel (k + (doneA t a O).length) q (mvA a k E O)
  | m, [], O, a, k, c, p, q, _, _, _, _, _, _, _, _ => by rw [mvA]; trivial
  | 0, x :: E, O, a, k, c, p, q, hm, _, _, _, _, _, _, _ => by simp at hm
  | m + 1, (b, e, w) :: E, [], a, k, c, p, q, hm, hac, hpc, hq, hc, ⟨w1, w2, w3, w4, w5, w6⟩, wO, hA => by
    have hcb : c ≤ b := hc (b, e, w) List.mem_cons_self
    rw [mvA]
    have hd : (doneA t a []).length = n - a := by show (t.drop a).length = _; rw [List.length_drop, hn]
    refine ⟨by show q < ((k + (b - a) : Nat) : Int); omega, by show k + (b - a) ≤ k + (e - a); omega, by show k + (e - a) ≤ _; omega, w4, w5, ?_⟩
    have he : ∀ {L : List Ed} {p : Int}, Wel n p L → ∀ x ∈ L, p < (x.1 : Int) := fun {L} => by
      induction L with
      | nil => intro p _ x m; exact nomatch m
      | cons y r ih =>
        intro p h x m
        obtain ⟨h1, h2, h3, h4, h5, h6⟩ := h
        rcases List.mem_cons.mp m with rfl | m
        · exact h1
        · have := ih h6 x m; omega
    exact mv_wel hn m E [] a k e e _ (by simp at hm ⊢; omega) (by omega) (Int.le_refl _) (by show ((k + (e - a) : Nat) : Int) ≤ _; omega) (fun x m => by have := he w6 x m; omega) w6 (show e ≤ n from w3) (fun _ _ _ z => nomatch z)
  | m + 1, (b, e, w) :: E, (b', e', w') :: O, a, k, c, p, q, hm, hac, hpc, hq, hc, ⟨w1, w2, w3, w4, w5, w6⟩, ⟨o1, o2, o3⟩, hA => by
    have hcb : c ≤ b := hc (b, e, w) List.mem_cons_self
    have o1 : c ≤ b' := o1
    have o2 : b' ≤ e' := o2
    have o3 : Wl n e' O := o3
    have ho := o3.le
    have h0 : e < b' ∨ e' < b := hA (b, e, w) List.mem_cons_self (b', e', w') List.mem_cons_self
    have he : ∀ {L : List Ed} {p : Int}, Wel n p L → ∀ x ∈ L, p < (x.1 : Int) := fun {L} => by
      induction L with
      | nil => intro p _ x m; exact nomatch m
      | cons y r ih =>
        intro p h x m
        obtain ⟨h1, h2, h3, h4, h5, h6⟩ := h
        rcases List.mem_cons.mp m with rfl | m
        · exact h1
        · have := ih h6 x m; omega
    rw [mvA]
    by_cases hb : b' < b
    · rw [if_pos hb]
      have e1 : k + (doneA t a ((b', e', w') :: O)).length = k + (b' - a) + w'.length + (doneA t e' O).length := by
        show k + ((t.take b').drop a ++ (w' ++ doneA t e' O)).length = _
        rw [List.length_append, List.length_append, List.length_drop, List.length_take]
        omega
      rw [e1]
      refine mv_wel hn m ((b, e, w) :: E) O e' (k + (b' - a) + w'.length) e' e' q (by simp at hm ⊢; omega) (Nat.le_refl _) (Int.le_refl _) (by omega) (fun x mx => ?_) ⟨by show (e' : Int) < (b : Nat); omega, w2, w3, w4, w5, w6⟩ o3 (fun x m y m2 => hA x m y (List.mem_cons_of_mem _ m2))
      rcases List.mem_cons.mp mx with rfl | mx
      · show e' ≤ b; omega
      · have := he w6 x mx; omega
    · rw [if_neg hb]
      have hge := done_ge (a := a) hn (O := (b', e', w') :: O) (c := e) (by omega) ⟨by show e ≤ b'; omega, o2, o3⟩
      refine ⟨by show q < ((k + (b - a) : Nat) : Int); omega, by show k + (b - a) ≤ k + (e - a); omega, by show k + (e - a) ≤ _; omega, w4, w5, ?_⟩
      exact mv_wel hn m E ((b', e', w') :: O) a k e e _ (by simp at hm ⊢; omega) (by omega) (Int.le_refl _) (by show ((k + (e - a) : Nat) : Int) ≤ _; omega) (fun x m => by have := he w6 x m; omega) w6 ⟨by show e ≤ b'; omega, o2, o3⟩ (fun x m y m2 => hA x (List.mem_cons_of_mem _ m) y m2)
theorem mrg_comm : ∀ (m : Nat) (E O : List Ed), E.length + O.length ≤ m → (∀ x ∈ E, x.1 ≤ x.2.1) → (∀ x ∈ O, x.1 ≤ x.2.1) → Apart E O → mrg E O = mrg O E
  | _, [], [], _, _, _, _ => rfl
  | _, [], y :: O, _, _, _, _ => by rw [mrg, mrg]
  | _, x :: E, [], _, _, _, _ => by rw [mrg, mrg]
  | 0, x :: E, y :: O, hm, _, _, _ => by simp at hm
  | m + 1, x :: E, y :: O, hm, hE, hO, hA => by
    have h0 := hA x List.mem_cons_self y List.mem_cons_self
    have h1 := hE x List.mem_cons_self
    have h2 := hO y List.mem_cons_self
    rw [mrg, mrg]
    by_cases hb : y.1 < x.1
    · rw [if_pos hb, if_neg (by omega), mrg_comm m (x :: E) O (by simp at hm ⊢; omega) hE (fun z mz => hO z (List.mem_cons_of_mem _ mz)) (fun z mz u mu => hA z mz u (List.mem_cons_of_mem _ mu))]
    · rw [if_neg hb, if_pos (by omega), mrg_comm m E (y :: O) (by simp at hm ⊢; omega) (fun z mz => hE z (List.mem_cons_of_mem _ mz)) hO (fun z mz u mu => hA z (List.mem_cons_of_mem _ mz) u mu)]
end K43

namespace K43
open PySem L2 PW K41
/-- by how much the edits that end ahead of one move it -/
def shO (x : Ed) : List Ed → Int
  | [] => 0
  | y :: O => (if y.2.1 < x.1 then ((y.2.2.length : Nat) : Int) - (((y.2.1 : Nat) : Int) - ((y.1 : Nat) : Int)) else 0) + shO x O
theorem Wl.ends {n : Nat} : ∀ {L : List Ed} {c : Nat}, Wl n c L → ∀ y ∈ L, c ≤ y.1 ∧ y.1 ≤ y.2.1
  | x :: r, c, ⟨h1, h2, h3⟩, y, m => by
    rcases List.mem_cons.mp m with rfl | m
    · exact ⟨h1, h2⟩
    · have := Wl.ends h3 y m
      exact ⟨by omega, this.2⟩
theorem shO_zero {x : Ed} : ∀ {O : List Ed}, (∀ y ∈ O, ¬ y.2.1 < x.1) → shO x O = 0
  | [], _ => rfl
  | y :: O, h => by
    rw [shO, if_neg (h y List.mem_cons_self), shO_zero fun z m => h z (List.mem_cons_of_mem _ m)]
    rfl
def mvD (s : Int) (O : List Ed) (x : Ed) : PyData := .tuple [.int ((x.1 : Nat) + (s + shO x O)), .int ((x.2.1 : Nat) + (s + shO x O)), dT x.2.2]
theorem mv_map {n : Nat} : ∀ (m : Nat) (E O : List Ed) (a k c : Nat), E.length + O.length ≤ m → a ≤ c → Wl n c E → Wl n c O → Apart E O →
    (mvA a k E O).map edD = E.map (mvD ((k : Int) - (a : Int)) O)
  | m, [], O, a, k, c, _, _, _, _, _ => by rw [mvA]; rfl
  | 0, x :: E, O, a, k, c, hm, _, _, _, _ => by simp at hm
  | m + 1, (b, e, w) :: E, [], a, k, c, hm, hac, ⟨w1, w2, w3⟩, wO, hA => by
    have w1 : c ≤ b := w1
    have w2 : b ≤ e := w2
    have w3 : Wl n e E := w3
    rw [mvA, List.map_cons, List.map_cons, mv_map m E [] a k e (by simp at hm ⊢; omega) (by omega) w3 w3.le (fun _ _ _ z => nomatch z)]
    congr 1
    show PyData.tuple [.int ((k + (b - a) : Nat) : Int), .int ((k + (e - a) : Nat) : Int), dT w] = .tuple [.int ((b : Nat) + (((k : Int) - (a : Int)) + 0)), .int ((e : Nat) + (((k : Int) - (a : Int)) + 0)), dT w]
    rw [show ((k + (b - a) : Nat) : Int) = (b : Nat) + (((k : Int) - (a : Int)) + 0) by omega, show ((k + (e - a) : Nat) : Int) = (e : Nat) + (((k : Int) - (a : Int)) + 0) by omega]
  | m + 1, (b, e, w) :: E, (b', e', w') :: O, a, k, c, hm, hac, ⟨w1, w2, w3⟩, ⟨o1, o2, o3⟩, hA => by
    have w1 : c ≤ b := w1
    have w2 : b ≤ e := w2
    have w3 : Wl n e E := w3
    have o1 : c ≤ b' := o1
    have o2 : b' ≤ e' := o2
    have o3 : Wl n e' O := o3
    have h0 : e < b' ∨ e' < b := hA (b, e, w) List.mem_cons_self (b', e', w') List.mem_cons_self
    rw [mvA]
    by_cases hb : b' < b
    · rw [if_pos hb, mv_map m ((b, e, w) :: E) O e' (k + (b' - a) + w'.length) e' (by simp at hm ⊢; omega) (Nat.le_refl _) ⟨by show e' ≤ b; omega, w2, w3⟩ o3 (fun x m y m2 => hA x m y (List.mem_cons_of_mem _ m2))]
      refine List.map_congr_left fun x mx => ?_
      have hx : e' < x.1 := by
        rcases List.mem_cons.mp mx with rfl | mx
        · show e' < b; omega
        · have := (w3.ends x mx).1; omega
      have es : (((k + (b' - a) + w'.length : Nat) : Int) - (e' : Int)) + shO x O = ((k : Int) - (a : Int)) + shO x ((b', e', w') :: O) := by
        rw [shO, if_pos hx]
        show _ = ((k : Int) - (a : Int)) + (((w'.length : Nat) : Int) - (((e' : Nat) : Int) - ((b' : Nat) : Int)) + shO x O)
        omega
      unfold mvD
      rw [es]
    · rw [if_neg hb, List.map_cons, List.map_cons, mv_map m E ((b', e', w') :: O) a k e (by simp at hm ⊢; omega) (by omega) w3 ⟨by show e ≤ b'; omega, o2, o3⟩ (fun x m y m2 => hA x (List.mem_cons_of_mem _ m) y m2)]
      congr 1
      have hz : shO (b, e, w) ((b', e', w') :: O) = 0 := shO_zero fun y my => by
        rcases List.mem_cons.mp my with rfl | my
        · show ¬ e' < b; omega
        · have := o3.ends y my
          show ¬ y.2.1 < b; omega
      unfold mvD
      rw [hz]
      show PyData.tuple [.int ((k + (b - a) : Nat) : Int), .int ((k + (e - a) : Nat) : Int), dT w] = .tuple [.int ((b : Nat) + (((k : Int) - (a : Int)) + 0)), .int ((e : Nat) + (((k : Int) - (a : Int)) + 0)), dT w]
      rw [show ((k + (b - a) : Nat) : Int) = (b : Nat) + (((k : Int) - (a : Int)) + 0) by omega, show ((k + (e - a) : Nat) : Int) = (e : Nat) + (((k : Int) - (a : Int)) + 0) by omega]
/-- the first two that touch -/
def tchB (x y : Ed) : Bool := decide (y.1 ≤ x.2.1 ∧ x.1 ≤ y.2.1)
def fstO (x : Ed) : List Ed → Option (Ed × Ed)
  | [] => none
  | y :: O => if tchB x y then some (x, y) else fstO x O
def fst2 : List Ed → List Ed → Option (Ed × Ed)
  | [], _ => none
  | x :: E, O => match fstO x O with
    | some p => some p
    | none => fst2 E O
theorem fstO_none {x : Ed} : ∀ {O : List Ed}, fstO x O = none → ∀ y ∈ O, x.2.1 < y.1 ∨ y.2.1 < x.1
  | y :: O, h, z, m => by
    rw [fstO] at h
    by_cases ht : tchB x y = true
    · rw [if_pos ht] at h; cases h
    · rw [if_neg ht] at h
      rcases List.mem_cons.mp m with rfl | m
      · have : ¬ (z.1 ≤ x.2.1 ∧ x.1 ≤ z.2.1) := fun hh => ht (decide_eq_true hh)
        omega
      · exact fstO_none h z m
theorem fst2_none : ∀ {E O : List Ed}, fst2 E O = none → Apart E O
  | [], O, _ => fun _ m => nomatch m
  | x :: E, O, h => fun z m y my => by
    rw [fst2] at h
    cases h1 : fstO x O with
    | some p => rw [h1] at h; cases h
    | none =>
      rw [h1] at h
      rcases List.mem_cons.mp m with rfl | m
      · exact fstO_none h1 y my
      · exact fst2_none h z m y my
end K43

namespace K43
open PySem L2 PySem L2 PW K41
local macro_rules
  | `(tactic| walk_at "sz") => `(tactic| first | omega | (simp only [tx_len, List.length_append, List.length_map, List.length_cons, List.length_nil, List.length_take, List.length_drop] <;> omega))
  | `(tactic| walk_at "go") => `(tactic| repeat (first | refine ⟨rfl, ?_⟩ | refine ⟨trivial, ?_⟩ | refine ⟨_, rfl, ?_⟩ | refine ⟨_, rfl, rfl, ?_⟩ | refine ⟨_, _, rfl, rfl, ?_⟩ | refine ⟨_, ix_hd, ?_⟩ | refine br_t rfl ?_ | refine br_f rfl ?_ | (refine ⟨le_sz ?_, ?_⟩; focus walk_at "sz") | (refine ⟨lt_sz ?_, ?_⟩; focus walk_at "sz") | (refine ⟨strLe_tx ?_, ?_⟩; focus walk_at "sz") | refine ⟨cmul_r rfl, ?_⟩ | refine ⟨cmul_l rfl, ?_⟩ | refine ⟨pos_ok rfl, ?_⟩ | refine ⟨cdiv_ok rfl, ?_⟩ | refine ⟨_, _, _, _, rfl, rfl, rfl, rfl, ?_⟩ | refine ⟨_, _, rfl, ?_⟩ | refine ⟨_, _, _, rfl, rfl, rfl, ?_⟩ | refine ⟨_, _, _, rfl, rfl, ?_⟩ | rw [tx_app]))
def S_touch : FS := fun args o ret exc => ∃ x y : Ed, args = [.d (edD x), .d (edD y)] ∧ o = [] ∧ ret (.d (.bool (tchB x y))) []
def w_touch : SW :=
 (wRet (wAndV (wGe (wIx (wVar 0) (wC (.int 1))) (wIx (wVar 1) (wC (.int 0)))) (wGe (wIx (wVar 1) (wC (.int 1))) (wIx (wVar 0) (wC (.int 0))))))
theorem pure_touch : ∀ args o ret exc, S_touch args o ret exc → w_touch (fun x s => exc x (cutL o.length s.o)) (pst0 args o 2) (bodyE o.length ret) := by
  rintro _ _ ret exc ⟨⟨b, e, w⟩, ⟨b', e', w'⟩, rfl, rfl, h⟩
  unfold w_touch
  walk_at "go"
  refine ⟨fun q => ?_, fun q => ?_⟩
  · have q : (b' : Int) ≤ (e : Int) := of_decide_eq_true q
    have e1 : tchB (b, e, w) (b', e', w') = decide ((b : Int) ≤ (e' : Int)) := by
      refine decide_eq_decide.mpr ⟨fun z => ?_, fun z => ⟨?_, ?_⟩⟩
      · have z2 : b ≤ e' := z.2
        omega
      · show b' ≤ e; omega
      · show b ≤ e'; omega
    rw [e1] at h
    walk_at "go"
    exact h
  · have q : ¬ (b' : Int) ≤ (e : Int) := of_decide_eq_false q
    have e1 : tchB (b, e, w) (b', e', w') = false := decide_eq_false fun z => by
      have z1 : b' ≤ e := z.1
      omega
    rw [e1] at h
    exact h
def clX (C : Addr) (p : Ed × Ed) : XV := ⟨C, some [("other", edD p.2), ("one", edD p.1)]⟩
def S_need_apart (C : Addr) : FS := fun args o ret exc => ∃ E O : List Ed, args = [.d (.list (E.map edD)), .d (.list (O.map edD))] ∧ o = [] ∧ (fst2 E O = none → ret (.d .none) []) ∧ ∀ p, fst2 E O = some p → exc (clX C p) []
def w_need_apart (C_Clash : Addr) : SW :=
 (wFor (wL (wVar 0)) (gN 2)
  (wFor (wL (wVar 1)) (gN 3)
  (wIfS (wB (wCall S_touch (wCons (wVar 2) (wCons (wVar 3) wNil))))
  (wRaiseI C_Clash "one" "other" (wCons (wVar 2) (wCons (wVar 3) wNil)))
  wNext)))
theorem pure_need_apart (C : Addr) : ∀ args o ret exc, S_need_apart C args o ret exc → w_need_apart C (fun x s => exc x (cutL o.length s.o)) (pst0 args o 4) (bodyE o.length ret) := by
  rintro _ _ ret exc ⟨E, O, rfl, rfl, h1, h2⟩
  unfold w_need_apart
  walk_at "go"
  refine ⟨fun j s => ∃ x2 x3 : Option PV, s = (⟨[some (.d (.list (E.map edD))), some (.d (.list (O.map edD))), x2, x3], []⟩ : PSt) ∧ fst2 E O = fst2 (E.drop j) O, ⟨none, none, rfl, rfl⟩, fun _ _ _ _ => trivial, ?_, ?_⟩
  · rintro j x _ hx ⟨x2, x3, rfl, hf⟩
    obtain ⟨hj, rfl⟩ := map_get hx
    clear hx
    rw [List.drop_eq_getElem_cons hj, fst2] at hf
    generalize E[j] = x at *
    walk_at "go"
    refine ⟨fun i s => ∃ x3 : Option PV, s = (⟨[some (.d (.list (E.map edD))), some (.d (.list (O.map edD))), some (.d (edD x)), x3], []⟩ : PSt) ∧ fstO x O = fstO x (O.drop i), ⟨_, rfl, rfl⟩, fun _ _ _ _ => trivial, ?_, ?_⟩
    · rintro i y _ hy ⟨x3, rfl, hg⟩
      obtain ⟨hi, rfl⟩ := map_get hy
      clear hy
      rw [List.drop_eq_getElem_cons hi, fstO] at hg
      generalize O[i] = y at *
      walk_at "go"
      refine br_b (fun q => ?_) (fun q => ?_)
      · rw [if_pos q] at hg
        rw [hg] at hf
        walk_at "go"
        exact h2 _ hf
      · rw [if_neg (by rw [q]; decide)] at hg
        exact .inl ⟨_, rfl, hg⟩
    · rintro _ ⟨x3, rfl, hg⟩
      rw [List.length_map, List.drop_length, fstO] at hg
      rw [hg] at hf
      exact .inl ⟨_, _, rfl, hf⟩
  · rintro _ ⟨x2, x3, rfl, hf⟩
    rw [List.length_map, List.drop_length, fst2] at hf
    exact h1 hf
theorem wel_wl {n : Nat} : ∀ {L : List Ed} {p : Int}, Wel n p L → ∀ x ∈ L, x.2.2.length ≤ 2000
  | (b, e, w) :: r, p, ⟨_, _, _, _, h5, h6⟩, x, m => by
    rcases List.mem_cons.mp m with rfl | m
    · exact h5
    · exact wel_wl h6 x m
def grI (y : Ed) : Int := ((y.2.2.length : Nat) : Int) - (((y.2.1 : Nat) : Int) - ((y.1 : Nat) : Int))
theorem sum_sh {x : Ed} : ∀ O : List Ed, ((O.filter fun y => decide ((y.2.1 : Int) < (x.1 : Int))).map grI).sum = shO x O
  | [] => rfl
  | y :: O => by
    rw [shO, List.filter_cons]
    by_cases h : y.2.1 < x.1
    · rw [if_pos h, if_pos (by exact decide_eq_true (by omega)), List.map_cons, List.sum_cons, sum_sh O]
      rfl
    · rw [if_neg h, if_neg (by rw [decide_eq_true_eq]; omega), sum_sh O, Int.zero_add]
def S_moved (N G E C : Addr) : FS := fun args o ret exc => ∃ (t : List Nat) (A O : List Ed), args = [.d (dT t), .d (.list (A.map edD)), .d (.list (O.map edD))] ∧ o = [] ∧ gdT t ∧ t.length ≤ 2000 ∧ Wel t.length (-1) A ∧ Wel t.length (-1) O ∧ A.length ≤ 30 ∧ O.length ≤ 30 ∧ smW O ≤ 100000 ∧
  (fst2 A O = none → (doneA t 0 O).length ≤ 2000 → ret (.new (A.map (mvD 0 O))) []) ∧ (fst2 A O = none → 2000 < (doneA t 0 O).length → exc ⟨G, none⟩ []) ∧ ∀ p, fst2 A O = some p → exc (clX C p) []
def w_moved (C_TooGreat : Addr) (C_NoText : Addr) (C_NoEdit : Addr) (C_Clash : Addr) : SW :=
 (wSeq (wDrop (wCallH (S_need_edits C_NoText C_TooGreat C_NoEdit) (wCons (wVar 0) (wCons (wVar 1) wNil))))
 (wSeq (wDrop (wCallH (S_need_edits C_NoText C_TooGreat C_NoEdit) (wCons (wVar 0) (wCons (wVar 2) wNil))))
 (wSeq (wDrop (wCall (S_need_apart C_Clash) (wCons (wVar 1) (wCons (wVar 2) wNil))))
 (wSeq (wDrop (wCallH (S_done C_NoText C_TooGreat C_NoEdit) (wCons (wVar 0) (wCons (wVar 2) wNil))))
 (wSeq (wAsg (wLst wNil) 3)
 (wSeq (wFor (wL (wVar 1)) (gT 3 (gsCons (gN 4) (gsCons (gN 5) (gsCons (gN 6) gsNil))))
  (wSeq (wAsg (wSum (wLc (wL (wVar 2)) (gN 8) (wB (wLt (wIx (wVar 8) (wC (.int 1))) (wVar 4))) (wCall S_grown (wCons (wVar 8) wNil)) [8])) 7)
 (wDrop (wApp (wVar 3) (wTup (wCons (wAdd (wVar 4) (wVar 7)) (wCons (wAdd (wVar 5) (wVar 7)) (wCons (wVar 6) wNil))))))))
 (wRet (wVar 3))))))))
theorem pure_moved (G N E C : Addr) : ∀ args o ret exc, S_moved N G E C args o ret exc → w_moved G N E C (fun x s => exc x (cutL o.length s.o)) (pst0 args o 9) (bodyE o.length ret) := by
  rintro _ _ ret exc ⟨t, A, O, rfl, rfl, hg, hl, hA, hO, nA, nO, hs, h1, h2, h3⟩
  unfold w_moved
  walk_at "go"
  refine ⟨hg, hl, hA, nA, rfl, ?_⟩
  walk_at "go"
  refine ⟨hg, hl, hO, nO, rfl, ?_⟩
  walk_at "go"
  refine ⟨fun hz => ?_, fun p hp => h3 p hp⟩
  walk_at "go"
  refine ⟨hg, hl, hO, nO, rfl, hs, fun hd => ?_, fun hd => h2 hz hd⟩
  walk_at "go"
  refine ⟨fun j s => ∃ x4 x5 x6 x7 : Option PV, s = (⟨[some (.d (dT t)), some (.d (.list (A.map edD))), some (.d (.list (O.map edD))), some (.own 0), x4, x5, x6, x7, none], [.dl ((A.take j).map (mvD 0 O))]⟩ : PSt) ∧ (x7 = none ∨ ∃ i : Int, x7 = some (.d (.int i))), ⟨_, _, _, _, rfl, .inl rfl⟩, fun _ _ _ _ => trivial, ?_, ?_⟩
  · rintro j x _ hx ⟨x4, x5, x6, x7, rfl, h7⟩
    obtain ⟨hj, rfl⟩ := map_get hx
    clear hx
    have hAj : A.take (j + 1) = A.take j ++ [A[j]] := List.take_succ_eq_append_getElem hj
    have hBt : ((A.take j).map (mvD 0 O)).length ≤ 30 := by rw [List.length_map, List.length_take]; omega
    have hM : ((A.take (j + 1)).map (mvD 0 O)) = (A.take j).map (mvD 0 O) ++ [mvD 0 O A[j]] := by rw [hAj, List.map_append]; rfl
    generalize (A.take j).map (mvD 0 O) = M at *
    generalize A[j] = x at *
    obtain ⟨b, e, w⟩ := x
    walk_at "go"
    refine ⟨fun i acc s => s = (⟨[some (.d (dT t)), some (.d (.list (A.map edD))), some (.d (.list (O.map edD))), some (.own 0), some (.d (.int (b : Nat))), some (.d (.int (e : Nat))), some (.d (dT w)), x7, none], [.dl M]⟩ : PSt) ∧ acc = (((O.take i).filter fun y => decide ((y.2.1 : Int) < (b : Int))).map grI).map PyData.int, ⟨rfl, rfl⟩, fun _ _ _ _ _ => trivial, ?_, ?_⟩
    · rintro i y acc s2 hy ho ⟨rfl, rfl⟩
      clear ho
      obtain ⟨hi, rfl⟩ := map_get hy
      clear hy
      have hyl := wel_wl hO O[i] (List.getElem_mem hi)
      have hOi : O.take (i + 1) = O.take i ++ [O[i]] := List.take_succ_eq_append_getElem hi
      have hT : (O[i].2.1 : Int) < (b : Int) → (((O.take (i + 1)).filter fun y => decide ((y.2.1 : Int) < (b : Int))).map grI).map PyData.int = (((O.take i).filter fun y => decide ((y.2.1 : Int) < (b : Int))).map grI).map PyData.int ++ [.int (grI O[i])] := fun q => by
        rw [hOi, List.filter_append, List.map_append, List.map_append, List.filter_cons, if_pos (by exact decide_eq_true q)]
        rfl
      have hF : ¬ (O[i].2.1 : Int) < (b : Int) → (((O.take (i + 1)).filter fun y => decide ((y.2.1 : Int) < (b : Int))).map grI).map PyData.int = (((O.take i).filter fun y => decide ((y.2.1 : Int) < (b : Int))).map grI).map PyData.int := fun q => by
        rw [hOi, List.filter_append, List.map_append, List.map_append, List.filter_cons, if_neg (by rw [decide_eq_true_eq]; exact q)]
        exact List.append_nil _
      have hBt2 : ((((O.take i).filter fun y => decide ((y.2.1 : Int) < (b : Int))).map grI).map PyData.int).length ≤ 30 := by
        rw [List.length_map, List.length_map]
        have := List.length_filter_le (fun y : Ed => decide ((y.2.1 : Int) < (b : Int))) (O.take i)
        rw [List.length_take] at this
        omega
      generalize (((O.take i).filter fun y => decide ((y.2.1 : Int) < (b : Int))).map grI).map PyData.int = M2 at *
      generalize O[i] = y at *
      clear hOi
      walk_at "go"
      refine br_p (fun q => ?_) (fun q => ?_)
      · have hT := hT q
        walk_at "go"
        refine ⟨hyl, ?_⟩
        walk_at "go"
        exact ⟨by rcases h7 with rfl | ⟨i7, rfl⟩ <;> rfl, hT.symm⟩
      · have hF := hF q
        walk_at "go"
        exact ⟨by rcases h7 with rfl | ⟨i7, rfl⟩ <;> rfl, hF.symm⟩
    rintro acc s2 ho ⟨rfl, rfl⟩
    clear ho
    rw [List.length_map, List.take_length]
    have hsum := sum_sh (x := (b, e, w)) O
    walk_at "go"
    refine .inr ⟨some (.d (.int (b : Nat))), some (.d (.int (e : Nat))), some (.d (dT w)), some (.d (.int ((O.filter fun y => decide ((y.2.1 : Int) < (b : Int))).map grI).sum)), ?_, .inr ⟨_, rfl⟩⟩
    rw [hM]
    unfold mvD
    rw [← hsum, Int.zero_add]
    rfl
  · rintro _ ⟨x4, x5, x6, x7, rfl, h7⟩
    rw [List.length_map, List.take_length]
    walk_at "go"
    refine ⟨Nat.le_refl _, A.map (mvD 0 O), rfl, ?_⟩
    exact h1 hz hd
end K43

namespace K43
open PySem L2 PySem L2 PW K41
local macro_rules
  | `(tactic| walk_at "sz") => `(tactic| first | omega | (simp only [tx_len, List.length_append, List.length_map, List.length_cons, List.length_nil, List.length_take, List.length_drop] <;> omega))
  | `(tactic| walk_at "go") => `(tactic| repeat (first | refine ⟨rfl, ?_⟩ | refine ⟨trivial, ?_⟩ | refine ⟨_, rfl, ?_⟩ | refine ⟨_, rfl, rfl, ?_⟩ | refine ⟨_, _, rfl, rfl, ?_⟩ | refine ⟨_, ix_hd, ?_⟩ | refine br_t rfl ?_ | refine br_f rfl ?_ | (refine ⟨le_sz ?_, ?_⟩; focus walk_at "sz") | (refine ⟨lt_sz ?_, ?_⟩; focus walk_at "sz") | (refine ⟨strLe_tx ?_, ?_⟩; focus walk_at "sz") | refine ⟨cmul_r rfl, ?_⟩ | refine ⟨cmul_l rfl, ?_⟩ | refine ⟨pos_ok rfl, ?_⟩ | refine ⟨cdiv_ok rfl, ?_⟩ | refine ⟨_, _, _, _, rfl, rfl, rfl, rfl, ?_⟩ | refine ⟨_, _, rfl, ?_⟩ | refine ⟨_, _, _, rfl, rfl, rfl, ?_⟩ | refine ⟨_, _, _, rfl, rfl, ?_⟩ | rw [tx_app]))
def S_law_clash : FS := fun args o ret exc => ∃ x y : Ed, args = [.d (edD x), .d (edD y)] ∧ o = [] ∧ ret (.d (.bool (tchB x y))) []
def w_law_clash : SW :=
 (wRet (wNotV (wOrV (wLt (wIx (wVar 0) (wC (.int 1))) (wIx (wVar 1) (wC (.int 0)))) (wLt (wIx (wVar 1) (wC (.int 1))) (wIx (wVar 0) (wC (.int 0)))))))
theorem pure_law_clash : ∀ args o ret exc, S_law_clash args o ret exc → w_law_clash (fun x s => exc x (cutL o.length s.o)) (pst0 args o 2) (bodyE o.length ret) := by
  rintro _ _ ret exc ⟨⟨b, e, w⟩, ⟨b', e', w'⟩, rfl, rfl, h⟩
  unfold w_law_clash
  walk_at "go"
  refine ⟨fun q => ?_, fun q => ?_⟩
  · have q : (e : Int) < (b' : Int) := of_decide_eq_true q
    have e1 : tchB (b, e, w) (b', e', w') = false := decide_eq_false fun z => by
      have z1 : b' ≤ e := z.1
      omega
    rw [e1] at h
    walk_at "go"
    exact h
  · have q : ¬ (e : Int) < (b' : Int) := of_decide_eq_false q
    have e1 : tchB (b, e, w) (b', e', w') = !decide ((e' : Int) < (b : Int)) := by
      by_cases z : (e' : Int) < (b : Int)
      · rw [decide_eq_true z]
        exact decide_eq_false fun y => by
          have y2 : b ≤ e' := y.2
          omega
      · rw [decide_eq_false z]
        exact decide_eq_true ⟨by show b' ≤ e; omega, by show b ≤ e'; omega⟩
    rw [e1] at h
    walk_at "go"
    exact h
def prD : Option (Ed × Ed) → PyData
  | none => .none
  | some p => .tuple [edD p.1, edD p.2]
def S_law_first : FS := fun args o ret exc => ∃ E O : List Ed, args = [.d (.list (E.map edD)), .d (.list (O.map edD))] ∧ o = [] ∧ ret (.d (prD (fst2 E O))) []
def w_law_first : SW :=
 (wSeq (wFor (wL (wVar 0)) (gN 2)
  (wFor (wL (wVar 1)) (gN 3)
  (wIfS (wB (wCall S_law_clash (wCons (wVar 2) (wCons (wVar 3) wNil))))
  (wRet (wTup (wCons (wVar 2) (wCons (wVar 3) wNil))))
  wNext)))
 (wRet (wC .none)))
theorem pure_law_first : ∀ args o ret exc, S_law_first args o ret exc → w_law_first (fun x s => exc x (cutL o.length s.o)) (pst0 args o 4) (bodyE o.length ret) := by
  rintro _ _ ret exc ⟨E, O, rfl, rfl, h⟩
  unfold w_law_first
  walk_at "go"
  refine ⟨fun j s => ∃ x2 x3 : Option PV, s = (⟨[some (.d (.list (E.map edD))), some (.d (.list (O.map edD))), x2, x3], []⟩ : PSt) ∧ fst2 E O = fst2 (E.drop j) O, ⟨none, none, rfl, rfl⟩, fun _ _ _ _ => trivial, ?_, ?_⟩
  · rintro j x _ hx ⟨x2, x3, rfl, hf⟩
    obtain ⟨hj, rfl⟩ := map_get hx
    clear hx
    rw [List.drop_eq_getElem_cons hj, fst2] at hf
    generalize E[j] = x at *
    walk_at "go"
    refine ⟨fun i s => ∃ x3 : Option PV, s = (⟨[some (.d (.list (E.map edD))), some (.d (.list (O.map edD))), some (.d (edD x)), x3], []⟩ : PSt) ∧ fstO x O = fstO x (O.drop i), ⟨_, rfl, rfl⟩, fun _ _ _ _ => trivial, ?_, ?_⟩
    · rintro i y _ hy ⟨x3, rfl, hg⟩
      obtain ⟨hi, rfl⟩ := map_get hy
      clear hy
      rw [List.drop_eq_getElem_cons hi, fstO] at hg
      generalize O[i] = y at *
      walk_at "go"
      refine br_b (fun q => ?_) (fun q => ?_)
      · rw [if_pos q] at hg
        rw [hg] at hf
        rw [hf] at h
        walk_at "go"
        exact h
      · rw [if_neg (by rw [q]; decide)] at hg
        exact .inl ⟨_, rfl, hg⟩
    · rintro _ ⟨x3, rfl, hg⟩
      rw [List.length_map, List.drop_length, fstO] at hg
      rw [hg] at hf
      exact .inl ⟨_, _, rfl, hf⟩
  · rintro _ ⟨x2, x3, rfl, hf⟩
    rw [List.length_map, List.drop_length, fst2] at hf
    rw [hf] at h
    walk_at "go"
    exact h
end K43

namespace K43
open PySem L2 PySem L2 PW K41
local macro_rules
  | `(tactic| walk_at "sz") => `(tactic| first | omega | (simp only [tx_len, List.length_append, List.length_map, List.length_cons, List.length_nil, List.length_take, List.length_drop] <;> omega))
  | `(tactic| walk_at "go") => `(tactic| repeat (first | refine ⟨rfl, ?_⟩ | refine ⟨trivial, ?_⟩ | refine ⟨_, rfl, ?_⟩ | refine ⟨_, rfl, rfl, ?_⟩ | refine ⟨_, _, rfl, rfl, ?_⟩ | refine ⟨_, ix_hd, ?_⟩ | refine br_t rfl ?_ | refine br_f rfl ?_ | (refine ⟨le_sz ?_, ?_⟩; focus walk_at "sz") | (refine ⟨lt_sz ?_, ?_⟩; focus walk_at "sz") | (refine ⟨strLe_tx ?_, ?_⟩; focus walk_at "sz") | refine ⟨cmul_r rfl, ?_⟩ | refine ⟨cmul_l rfl, ?_⟩ | refine ⟨pos_ok rfl, ?_⟩ | refine ⟨cdiv_ok rfl, ?_⟩ | refine ⟨_, _, _, _, rfl, rfl, rfl, rfl, ?_⟩ | refine ⟨_, _, rfl, ?_⟩ | refine ⟨_, _, _, rfl, rfl, rfl, ?_⟩ | refine ⟨_, _, _, rfl, rfl, ?_⟩ | rw [tx_app]))
def edG (k : Nat) (x : Ed) : Ed := (x.1, x.2.1, x.2.2 ++ List.replicate k 121)
theorem lit_x : ("x" : Str) = tx [120] := by decide +kernel
theorem lit_y : ("y" : Str) = tx [121] := by decide +kernel
theorem lit_h : ("#" : Str) = tx [35] := by decide +kernel
theorem flat1 (k c : Nat) : (List.replicate k [c]).flatten = List.replicate k c := by
  induction k with
  | zero => rfl
  | succ k ih => rw [List.replicate_succ, List.flatten_cons, ih, List.replicate_succ]; rfl
def S_law_long : FS := fun args o ret exc => ∃ (t : List Nat) (O : List Ed) (c : Int), args = [.d (dT t), .d (.list (O.map edD)), .d (.int c)] ∧ o = [] ∧ t.length ≤ 800 ∧ O.length ≤ 20 ∧ (∀ x ∈ O, x.2.2.length ≤ 17) ∧
  ∀ n k : Nat, k ≤ 59 → t.length + n ≤ 1997 → ret (.d (.tuple [dT (t ++ [35] ++ List.replicate n 120), .list ((O.map (edG k)).map edD)])) []
def w_law_long : SW :=
 (wSeq (wAsg (wRepS (wC (.str "y")) (wMod (wDiv (wVar 2) (wC (.int 6))) (wC (.int 60)))) 3)
 (wSeq (wAsg (wLc (wL (wVar 1)) (gT 3 (gsCons (gN 5) (gsCons (gN 6) (gsCons (gN 7) gsNil)))) wYes (wTup (wCons (wVar 5) (wCons (wVar 6) (wCons (wAdd (wVar 7) (wVar 3)) wNil)))) [5, 6, 7]) 4)
 (wRet (wTup (wCons (wAdd (wAdd (wVar 0) (wC (.str "#"))) (wRepS (wC (.str "x")) (wSub (wSub (wC (.int 1997)) (wLen (wVar 0))) (wMod (wDiv (wVar 2) (wC (.int 360))) (wC (.int 90)))))) (wCons (wVar 4) wNil))))))
theorem pure_law_long : ∀ args o ret exc, S_law_long args o ret exc → w_law_long (fun x s => exc x (cutL o.length s.o)) (pst0 args o 8) (bodyE o.length ret) := by
  rintro _ _ ret exc ⟨t, O, c, rfl, rfl, hl, hn, hO, h⟩
  unfold w_law_long
  rw [lit_x, lit_y, lit_h]
  have hr : 0 ≤ c / 360 % 90 ∧ c / 360 % 90 < 90 := ⟨Int.emod_nonneg _ (by omega), Int.emod_lt_of_pos _ (by omega)⟩
  have hy : 0 ≤ c / 6 % 60 ∧ c / 6 % 60 < 60 := ⟨Int.emod_nonneg _ (by omega), Int.emod_lt_of_pos _ (by omega)⟩
  obtain ⟨n, hn2⟩ : ∃ n : Nat, (1997 : Int) - (t.length : Nat) - c / 360 % 90 = n := ⟨_, (Int.toNat_of_nonneg (by omega)).symm⟩
  obtain ⟨k, hk⟩ : ∃ k : Nat, c / 6 % 60 = k := ⟨_, (Int.toNat_of_nonneg hy.1).symm⟩
  have h := h n k (by omega) (by omega)
  walk_at "go"
  rw [hk]
  refine ⟨⟨by omega, by omega⟩, le_sz (by rw [tx_len, Int.toNat_natCast]; show 1 * k ≤ _; omega), ?_⟩
  rw [repS_tx, Int.toNat_natCast, flat1]
  have hYl : (List.replicate k 121).length = k := List.length_replicate
  generalize hY : List.replicate k 121 = Y at *
  walk_at "go"
  refine ⟨fun j acc s => s = (⟨[some (.d (dT t)), some (.d (.list (O.map edD))), some (.d (.int c)), some (.d (dT Y)), none, none, none, none], []⟩ : PSt) ∧ acc = ((O.take j).map (edG k)).map edD, ⟨rfl, rfl⟩, fun _ _ _ _ _ => trivial, ?_, ?_⟩
  · rintro j x acc s2 hx ho ⟨rfl, rfl⟩
    clear ho
    rw [List.getElem?_map] at hx
    obtain ⟨⟨b, e, w⟩, hLj, rfl⟩ := Option.map_eq_some_iff.mp hx
    clear hx
    have hwl : w.length ≤ 17 := hO _ (List.mem_of_getElem? hLj)
    have hBt : (((O.take j).map (edG k)).map edD).length ≤ 20 := by rw [List.length_map, List.length_map, List.length_take]; omega
    walk_at "go"
    rw [List.take_succ, hLj, List.map_append, List.map_append, ← hY]
    rfl
  rintro acc s2 ho ⟨rfl, rfl⟩
  clear ho
  rw [List.length_map, List.take_length]
  walk_at "go"
  rw [tx_len, hn2]
  refine ⟨⟨by omega, by omega⟩, le_sz (by rw [tx_len, Int.toNat_natCast]; show 1 * n ≤ _; omega), ?_⟩
  rw [repS_tx, Int.toNat_natCast, flat1]
  have hM : (List.replicate n 120).length = n := List.length_replicate
  generalize List.replicate n 120 = M at *
  walk_at "go"
  exact h
end K43

namespace K43
open PySem L2 PySem L2 PW
local macro_rules
  | `(tactic| walk_at "sz") => `(tactic| first | omega | (simp only [tx_len, List.length_append, List.length_map, List.length_cons, List.length_nil, List.length_take, List.length_drop] <;> omega))
  | `(tactic| walk_at "go") => `(tactic| repeat (first | refine ⟨rfl, ?_⟩ | refine ⟨trivial, ?_⟩ | refine ⟨_, rfl, ?_⟩ | refine ⟨_, rfl, rfl, ?_⟩ | refine ⟨_, _, rfl, rfl, ?_⟩ | refine ⟨_, ix_hd, ?_⟩ | refine br_t rfl ?_ | refine br_f rfl ?_ | (refine ⟨le_sz ?_, ?_⟩; focus walk_at "sz") | (refine ⟨lt_sz ?_, ?_⟩; focus walk_at "sz") | (refine ⟨strLe_tx ?_, ?_⟩; focus walk_at "sz") | refine ⟨cmul_r rfl, ?_⟩ | refine ⟨cmul_l rfl, ?_⟩ | refine ⟨pos_ok rfl, ?_⟩ | refine ⟨cdiv_ok rfl, ?_⟩ | refine ⟨_, _, _, _, rfl, rfl, rfl, rfl, ?_⟩ | refine ⟨_, _, rfl, ?_⟩ | refine ⟨_, _, _, rfl, rfl, rfl, ?_⟩ | refine ⟨_, _, _, rfl, rfl, ?_⟩ | rw [tx_app]))
/-- which error is of which class -/
structure Em (M : MX) (C_TooGreat : Addr) (C_NoText : Addr) (C_NoEdit : Addr) (C_Clash : Addr) (C_MenderError : Addr) (C_NoPlace : Addr) (C_NoName : Addr) (C_NotWhole : Addr) (C_NoMend : Addr) : Prop where
  m_TooGreat_MenderError : M C_TooGreat (.ref C_MenderError) = some true
  m_TooGreat_NoPlace : M C_TooGreat (.ref C_NoPlace) = some false
  m_TooGreat_NoName : M C_TooGreat (.ref C_NoName) = some false
  m_TooGreat_NotWhole : M C_TooGreat (.ref C_NotWhole) = some false
  m_TooGreat_NoMend : M C_TooGreat (.ref C_NoMend) = some false
  m_TooGreat_Clash : M C_TooGreat (.ref C_Clash) = some false
  m_TooGreat_NoEdit : M C_TooGreat (.ref C_NoEdit) = some false
  m_TooGreat_TooGreat : M C_TooGreat (.ref C_TooGreat) = some true
  m_TooGreat_NoText : M C_TooGreat (.ref C_NoText) = some false
  m_NoText_MenderError : M C_NoText (.ref C_MenderError) = some true
  m_NoText_NoPlace : M C_NoText (.ref C_NoPlace) = some false
  m_NoText_NoName : M C_NoText (.ref C_NoName) = some false
  m_NoText_NotWhole : M C_NoText (.ref C_NotWhole) = some false
  m_NoText_NoMend : M C_NoText (.ref C_NoMend) = some false
  m_NoText_Clash : M C_NoText (.ref C_Clash) = some false
  m_NoText_NoEdit : M C_NoText (.ref C_NoEdit) = some false
  m_NoText_TooGreat : M C_NoText (.ref C_TooGreat) = some false
  m_NoText_NoText : M C_NoText (.ref C_NoText) = some true
  m_NoEdit_MenderError : M C_NoEdit (.ref C_MenderError) = some true
  m_NoEdit_NoPlace : M C_NoEdit (.ref C_NoPlace) = some false
  m_NoEdit_NoName : M C_NoEdit (.ref C_NoName) = some false
  m_NoEdit_NotWhole : M C_NoEdit (.ref C_NotWhole) = some false
  m_NoEdit_NoMend : M C_NoEdit (.ref C_NoMend) = some false
  m_NoEdit_Clash : M C_NoEdit (.ref C_Clash) = some false
  m_NoEdit_NoEdit : M C_NoEdit (.ref C_NoEdit) = some true
  m_NoEdit_TooGreat : M C_NoEdit (.ref C_TooGreat) = some false
  m_NoEdit_NoText : M C_NoEdit (.ref C_NoText) = some false
  m_Clash_MenderError : M C_Clash (.ref C_MenderError) = some true
  m_Clash_NoPlace : M C_Clash (.ref C_NoPlace) = some false
  m_Clash_NoName : M C_Clash (.ref C_NoName) = some false
  m_Clash_NotWhole : M C_Clash (.ref C_NotWhole) = some false
  m_Clash_NoMend : M C_Clash (.ref C_NoMend) = some false
  m_Clash_Clash : M C_Clash (.ref C_Clash) = some true
  m_Clash_NoEdit : M C_Clash (.ref C_NoEdit) = some false
  m_Clash_TooGreat : M C_Clash (.ref C_TooGreat) = some false
  m_Clash_NoText : M C_Clash (.ref C_NoText) = some false
  m_TooGreat_ValueError : M C_TooGreat (.ty "ValueError") = some true
  m_NoText_ValueError : M C_NoText (.ty "ValueError") = some true
  m_NoEdit_ValueError : M C_NoEdit (.ty "ValueError") = some true
  m_Clash_ValueError : M C_Clash (.ty "ValueError") = some true
open K41 hiding Em
section
variable {M : MX} {C_TooGreat C_NoText C_NoEdit C_Clash C_MenderError C_NoPlace C_NoName C_NotWhole C_NoMend : Addr}
def S_law_alone (G Cl : Addr) : FS := fun args o ret exc => ∃ (x : XV) (i : Int), args = [.exc x, .d (.int i)] ∧ o = [] ∧ ((x.C = G ∧ i = 1) ∨ (x.C = Cl ∧ i = 3)) ∧ ret (.d (.bool true)) []
def w_law_alone (M : MX) (C_TooGreat : Addr) (C_NoText : Addr) (C_NoEdit : Addr) (C_Clash : Addr) (C_NoPlace : Addr) (C_NoName : Addr) (C_NotWhole : Addr) (C_NoMend : Addr) : SW :=
 (wSeq (wAsg (wLst (wCons (wIsE M (.ref C_NoText) (wVar 0)) (wCons (wIsE M (.ref C_TooGreat) (wVar 0)) (wCons (wIsE M (.ref C_NoEdit) (wVar 0)) (wCons (wIsE M (.ref C_Clash) (wVar 0)) wNil))))) 2)
 (wSeq (wAsg (wOrV (wIsE M (.ref C_NoPlace) (wVar 0)) (wOrV (wIsE M (.ref C_NoName) (wVar 0)) (wOrV (wIsE M (.ref C_NotWhole) (wVar 0)) (wIsE M (.ref C_NoMend) (wVar 0))))) 3)
 (wRet (wAndV (wEq (wVar 2) (wLst (wCons (wEq (wVar 1) (wC (.int 0))) (wCons (wEq (wVar 1) (wC (.int 1))) (wCons (wEq (wVar 1) (wC (.int 2))) (wCons (wEq (wVar 1) (wC (.int 3))) wNil)))))) (wAndV (wNotV (wVar 3)) (wIsE M (.ty "ValueError") (wVar 0)))))))
theorem pure_law_alone (em : Em M C_TooGreat C_NoText C_NoEdit C_Clash C_MenderError C_NoPlace C_NoName C_NotWhole C_NoMend) :
    ∀ args o ret exc, S_law_alone C_TooGreat C_Clash args o ret exc → w_law_alone M C_TooGreat C_NoText C_NoEdit C_Clash C_NoPlace C_NoName C_NotWhole C_NoMend (fun x s => exc x (cutL o.length s.o)) (pst0 args o 4) (bodyE o.length ret) := by
  rintro _ _ ret exc ⟨⟨C, fs⟩, i, rfl, rfl, hC, h⟩
  unfold w_law_alone
  rcases hC with ⟨hC, rfl⟩ | ⟨hC, rfl⟩
  · have hC : C = C_TooGreat := hC
    subst hC
    walk_at "go"
    refine ⟨_, _, rfl, em.m_TooGreat_NoText, ?_⟩
    walk_at "go"
    refine ⟨_, _, rfl, em.m_TooGreat_TooGreat, ?_⟩
    walk_at "go"
    refine ⟨_, _, rfl, em.m_TooGreat_NoEdit, ?_⟩
    walk_at "go"
    refine ⟨_, _, rfl, em.m_TooGreat_Clash, ?_⟩
    walk_at "go"
    refine ⟨_, _, rfl, em.m_TooGreat_NoPlace, ?_⟩
    walk_at "go"
    refine ⟨_, _, rfl, em.m_TooGreat_NoName, ?_⟩
    walk_at "go"
    refine ⟨_, _, rfl, em.m_TooGreat_NotWhole, ?_⟩
    walk_at "go"
    refine ⟨_, _, rfl, em.m_TooGreat_NoMend, ?_⟩
    walk_at "go"
    exact ⟨_, _, rfl, em.m_TooGreat_ValueError, h⟩
  · have hC : C = C_Clash := hC
    subst hC
    walk_at "go"
    refine ⟨_, _, rfl, em.m_Clash_NoText, ?_⟩
    walk_at "go"
    refine ⟨_, _, rfl, em.m_Clash_TooGreat, ?_⟩
    walk_at "go"
    refine ⟨_, _, rfl, em.m_Clash_NoEdit, ?_⟩
    walk_at "go"
    refine ⟨_, _, rfl, em.m_Clash_Clash, ?_⟩
    walk_at "go"
    refine ⟨_, _, rfl, em.m_Clash_NoPlace, ?_⟩
    walk_at "go"
    refine ⟨_, _, rfl, em.m_Clash_NoName, ?_⟩
    walk_at "go"
    refine ⟨_, _, rfl, em.m_Clash_NotWhole, ?_⟩
    walk_at "go"
    refine ⟨_, _, rfl, em.m_Clash_NoMend, ?_⟩
    walk_at "go"
    exact ⟨_, _, rfl, em.m_Clash_ValueError, h⟩
theorem sh_ed {x : Ed} (h : gdT x.2.2) : (edD x).canLay0 = true ∧ (edD x).depth ≤ 60 := by
  have hs : (dT x.2.2).canLay0 = true := h.ok
  refine ⟨?_, ?_⟩
  · show PyData.canLayAll0 [.int (x.1 : Nat), .int (x.2.1 : Nat), dT x.2.2] = true
    rw [PyData.canLayAll0, PyData.canLayAll0, PyData.canLayAll0, hs]
    rfl
  · show PyData.depth (.tuple [.int (x.1 : Nat), .int (x.2.1 : Nat), dT x.2.2]) ≤ 60
    simp [PyData.depth, PyData.depthAll, dT]
theorem sh_pr {p : Ed × Ed} (h1 : gdT p.1.2.2) (h2 : gdT p.2.2.2) : SeqAt.shaped (prD (some p)) = true := by
  have h := shaped_list (xs := [edD p.1, edD p.2]) fun x m => by
    simp only [List.mem_cons, List.not_mem_nil, or_false] at m
    rcases m with rfl | rfl
    · exact sh_ed h1
    · exact sh_ed h2
  exact h
def S_law_refused : FS := fun args o ret exc => ∃ (t : List Nat) (A O : List Ed) (y : PyData), args = [.d (dT t), .d (.list (A.map edD)), .d (.list (O.map edD)), .d y] ∧ o = [] ∧ gdT t ∧ t.length ≤ 2000 ∧ Wel t.length (-1) A ∧ Wel t.length (-1) O ∧ A.length ≤ 30 ∧ O.length ≤ 30 ∧ smW O ≤ 100000 ∧
  ((∃ p, fst2 A O = some p ∧ y = prD (some p) ∧ (∀ z, z = p.1 ∨ z = p.2 → gdT z.2.2)) ∨ (fst2 A O = none ∧ y = .none ∧ 2000 < (doneA t 0 O).length)) ∧ ret (.d (.bool true)) []
def w_law_refused (M : MX) (C_TooGreat : Addr) (C_NoText : Addr) (C_NoEdit : Addr) (C_Clash : Addr) (C_MenderError : Addr) : SW :=
 (wSeq (wTry M (wDrop (wCall (S_moved C_NoText C_TooGreat C_NoEdit C_Clash) (wCons (wVar 0) (wCons (wVar 1) (wCons (wVar 2) wNil)))))
  ((C_Clash, some 4, (wRet (wAndV (wCall (S_law_alone C_TooGreat C_Clash) (wCons (wVar 4) (wCons (wC (.int 3)) wNil))) (wAndV (wIsE M (.ref C_MenderError) (wVar 4)) (wEq (wTup (wCons (wXf C_Clash "one" (wVar 4)) (wCons (wXf C_Clash "other" (wVar 4)) wNil))) (wVar 3)))))) :: ((C_MenderError, some 4, (wRet (wAndV (wCall (S_law_alone C_TooGreat C_Clash) (wCons (wVar 4) (wCons (wC (.int 1)) wNil))) (wIsN (wVar 3))))) :: [])))
 (wRet (wC (.bool false))))
theorem pure_law_refused (em : Em M C_TooGreat C_NoText C_NoEdit C_Clash C_MenderError C_NoPlace C_NoName C_NotWhole C_NoMend) :
    ∀ args o ret exc, S_law_refused args o ret exc → w_law_refused M C_TooGreat C_NoText C_NoEdit C_Clash C_MenderError (fun x s => exc x (cutL o.length s.o)) (pst0 args o 5) (bodyE o.length ret) := by
  rintro _ _ ret exc ⟨t, A, O, y, rfl, rfl, hg, hl, hA, hO, nA, nO, hs, hd, h⟩
  unfold w_law_refused
  walk_at "go"
  refine ⟨hg, hl, hA, hO, nA, nO, hs, fun hz hd2 => ?_, fun hz hd2 => ?_, fun p hp => ?_⟩
  · rcases hd with ⟨p, hp, _⟩ | ⟨_, _, hd3⟩
    · rw [hz] at hp; cases hp
    · omega
  · rcases hd with ⟨p, hp, _⟩ | ⟨_, rfl, hd3⟩
    · rw [hz] at hp; cases hp
    refine ⟨false, em.m_TooGreat_Clash, (fun z => nomatch z), fun _ => ⟨true, em.m_TooGreat_MenderError, fun _ => ?_, fun z => nomatch z⟩⟩
    walk_at "go"
    refine ⟨.inl ⟨rfl, rfl⟩, ?_⟩
    walk_at "go"
    exact h
  · rcases hd with ⟨p2, hp2, rfl, hgp⟩ | ⟨hz, _, _⟩
    · rw [hp] at hp2
      obtain rfl := Option.some.inj hp2
      refine ⟨true, em.m_Clash_Clash, fun _ => ?_, fun z => nomatch z⟩
      walk_at "go"
      refine ⟨.inr ⟨rfl, rfl⟩, ?_⟩
      walk_at "go"
      refine ⟨_, _, rfl, em.m_Clash_MenderError, ?_⟩
      have sp := sh_pr (p := p) (hgp _ (.inl rfl)) (hgp _ (.inr rfl))
      have ep : PyData.eqv (prD (some p)) (prD (some p)) = true := eqv_self (by
        unfold SeqAt.shaped at sp
        rw [Bool.and_eq_true] at sp
        exact sp.1)
      walk_at "go"
      refine ⟨clX C_Clash p, _, edD p.1, rfl, rfl, rfl, by rfl, ?_⟩
      walk_at "go"
      refine ⟨clX C_Clash p, _, edD p.2, rfl, rfl, rfl, by rfl, ?_⟩
      walk_at "go"
      refine ⟨eqOk_of sp sp, ?_⟩
      rw [show PyData.eqv (.tuple [edD p.1, edD p.2]) (prD (some p)) = true from ep]
      exact h
    · rw [hz] at hp; cases hp
end
end K43

namespace K43
open PySem L2 PW K41
theorem wel_low {n : Nat} {p q : Int} (h : p ≤ q) : ∀ {L : List Ed}, Wel n q L → Wel n p L
  | [], _ => trivial
  | (b, e, w) :: r, ⟨h1, h2, h3, h4, h5, h6⟩ => ⟨by omega, h2, h3, h4, h5, h6⟩
theorem wel_up {n : Nat} {p q : Int} : ∀ {L : List Ed}, Wel n p L → (∀ x ∈ L, q < (x.1 : Int)) → Wel n q L
  | [], _, _ => trivial
  | (b, e, w) :: r, ⟨h1, h2, h3, h4, h5, h6⟩, h => ⟨h (b, e, w) List.mem_cons_self, h2, h3, h4, h5, h6⟩
theorem wel_gt {n : Nat} : ∀ {L : List Ed} {p : Int}, Wel n p L → ∀ x ∈ L, p < (x.1 : Int)
  | (b, e, w) :: r, p, ⟨h1, h2, h3, h4, h5, h6⟩, x, m => by
    rcases List.mem_cons.mp m with rfl | m
    · exact h1
    · have := wel_gt h6 x m; omega
theorem mrg_wel {n : Nat} : ∀ (m : Nat) (E O : List Ed) (p : Int), E.length + O.length ≤ m → Wel n p E → Wel n p O → Apart E O → Wel n p (mrg E O)
  | _, [], O, p, _, _, hO, _ => by rw [mrg]; exact hO
  | _, x :: E, [], p, _, hE, _, _ => by rw [mrg]; exact hE
  | 0, x :: E, y :: O, p, hm, _, _, _ => by simp at hm
  | m + 1, (b, e, w) :: E, (b', e', w') :: O, p, hm, ⟨h1, h2, h3, h4, h5, h6⟩, ⟨o1, o2, o3, o4, o5, o6⟩, hA => by
    have h0 : e < b' ∨ e' < b := hA (b, e, w) List.mem_cons_self (b', e', w') List.mem_cons_self
    rw [mrg]
    by_cases hb : b' < b
    · rw [if_pos hb]
      exact ⟨o1, o2, o3, o4, o5, mrg_wel m ((b, e, w) :: E) O e' (by simp at hm ⊢; omega) ⟨by omega, h2, h3, h4, h5, h6⟩ o6 (fun x mx y my => hA x mx y (List.mem_cons_of_mem _ my))⟩
    · rw [if_neg hb]
      exact ⟨h1, h2, h3, h4, h5, mrg_wel m E ((b', e', w') :: O) e (by simp at hm ⊢; omega) h6 ⟨by omega, o2, o3, o4, o5, o6⟩ (fun x mx y my => hA x (List.mem_cons_of_mem _ mx) y my)⟩
theorem mrg_perm : ∀ (m : Nat) (E O : List Ed), E.length + O.length ≤ m → (mrg E O).Perm (E ++ O)
  | _, [], O, _ => by rw [mrg]; exact List.Perm.refl _
  | _, x :: E, [], _ => by rw [mrg, List.append_nil]
  | 0, x :: E, y :: O, hm => by simp at hm
  | m + 1, x :: E, y :: O, hm => by
    rw [mrg]
    by_cases hb : y.1 < x.1
    · rw [if_pos hb]
      exact ((mrg_perm m (x :: E) O (by simp at hm ⊢; omega)).cons y).trans List.perm_middle.symm
    · rw [if_neg hb]
      exact (mrg_perm m E (y :: O) (by simp at hm ⊢; omega)).cons x
/-- edits of a text as they are wanted by the plain law -/
theorem wel_wl0 {n : Nat} : ∀ {L : List Ed} {p : Int} {c : Nat}, c ≤ n → Wel n p L → (∀ x ∈ L, c ≤ x.1) → Wl n c L
  | [], _, c, hc, _, _ => hc
  | (b, e, w) :: r, p, c, hc, ⟨h1, h2, h3, h4, h5, h6⟩, h => ⟨h (b, e, w) List.mem_cons_self, h2, wel_wl0 (by show e ≤ n; omega) h6 fun x m => by
      have := wel_gt h6 x m
      show e ≤ x.1
      omega⟩
/-- both ways round -/
theorem both {t : List Nat} {E O : List Ed} (hE : Wel t.length (-1) E) (hO : Wel t.length (-1) O) (hA : Apart E O) : doneA (doneA t 0 O) 0 (mvA 0 0 E O) = doneA t 0 (mrg E O) := by
  have := done_mv (t := t) rfl (E.length + O.length) E O [] 0 0 0 (Nat.le_refl _) rfl (Nat.le_refl _) (wel_wl0 (Nat.zero_le _) hE fun _ _ => Nat.zero_le _) (wel_wl0 (Nat.zero_le _) hO fun _ _ => Nat.zero_le _) hA
  simpa using this
theorem moved_wel {t : List Nat} {E O : List Ed} (hE : Wel t.length (-1) E) (hO : Wel t.length (-1) O) (hA : Apart E O) : Wel (doneA t 0 O).length (-1) (mvA 0 0 E O) := by
  have := mv_wel (t := t) rfl (E.length + O.length) E O 0 0 0 (-1) (-1) (Nat.le_refl _) (Nat.le_refl _) (by omega) (by omega) (fun _ _ => Nat.zero_le _) hE (wel_wl0 (Nat.zero_le _) hO fun _ _ => Nat.zero_le _) hA
  rwa [Nat.zero_add] at this
theorem moved_map {t : List Nat} {E O : List Ed} (hE : Wel t.length (-1) E) (hO : Wel t.length (-1) O) (hA : Apart E O) : E.map (mvD 0 O) = (mvA 0 0 E O).map edD := by
  have := mv_map (n := t.length) (E.length + O.length) E O 0 0 0 (Nat.le_refl _) (Nat.le_refl _) (wel_wl0 (Nat.zero_le _) hE fun _ _ => Nat.zero_le _) (wel_wl0 (Nat.zero_le _) hO fun _ _ => Nat.zero_le _) hA
  exact this.symm
end K43

namespace K43
open PySem L2 PySem L2 PW K41
local macro_rules
  | `(tactic| walk_at "sz") => `(tactic| first | omega | (simp only [tx_len, List.length_append, List.length_map, List.length_cons, List.length_nil, List.length_take, List.length_drop] <;> omega))
  | `(tactic| walk_at "go") => `(tactic| repeat (first | refine ⟨rfl, ?_⟩ | refine ⟨trivial, ?_⟩ | refine ⟨_, rfl, ?_⟩ | refine ⟨_, rfl, rfl, ?_⟩ | refine ⟨_, _, rfl, rfl, ?_⟩ | refine ⟨_, ix_hd, ?_⟩ | refine br_t rfl ?_ | refine br_f rfl ?_ | (refine ⟨le_sz ?_, ?_⟩; focus walk_at "sz") | (refine ⟨lt_sz ?_, ?_⟩; focus walk_at "sz") | (refine ⟨strLe_tx ?_, ?_⟩; focus walk_at "sz") | refine ⟨cmul_r rfl, ?_⟩ | refine ⟨cmul_l rfl, ?_⟩ | refine ⟨pos_ok rfl, ?_⟩ | refine ⟨cdiv_ok rfl, ?_⟩ | refine ⟨_, _, _, _, rfl, rfl, rfl, rfl, ?_⟩ | refine ⟨_, _, rfl, ?_⟩ | refine ⟨_, _, _, rfl, rfl, rfl, ?_⟩ | refine ⟨_, _, _, rfl, rfl, ?_⟩ | rw [tx_app]))
def S_law_near : FS := fun args o ret exc => ∃ (ns : List Int) (t : List Nat) (A : List Ed), args = [.scr ns, .d (dT t), .d (.list (A.map edD))] ∧ o = [] ∧ ns.length ≤ 63 ∧ t.length ≤ 2000 ∧ (∀ x ∈ A, gdT x.2.2) ∧ ∀ O : List Ed, Wel t.length (-1) O → O.length ≤ 20 → (∀ x ∈ O, x.2.2.length ≤ 17) → ret (.new (O.map edD)) []
def w_law_near : SW :=
 (wSeq (wAsg (wCall S_law_cell_at (wCons (wVar 0) (wCons (wC (.int 40)) wNil))) 3)
 (wSeq (wAsg (wCall S_law_edits (wCons (wVar 0) (wCons (wC (.int 30)) (wCons (wVar 1) wNil)))) 4)
 (wSeq (wIfS (wAnd (wB (wEq (wMod (wVar 3) (wC (.int 3))) (wC (.int 1)))) (wB (wNe (wVar 2) (wLst wNil))))
  (wSeq (wAsg (wIx (wVar 2) (wMod (wDiv (wVar 3) (wC (.int 3))) (wLen (wVar 2)))) 5)
 (wSeq (wAsg (wMax2 (wC (.int 0)) (wMin2 (wLen (wVar 1)) (wSub (wAdd (wIx (wVar 5) (wMod (wDiv (wVar 3) (wC (.int 9))) (wC (.int 2)))) (wMod (wDiv (wVar 3) (wC (.int 18))) (wC (.int 5)))) (wC (.int 2))))) 6)
 (wAsg (wSl (wSl (wLst (wCons (wTup (wCons (wVar 6) (wCons (wVar 6) (wCons (wC (.str "q")) wNil)))) (wCons (wTup (wCons (wMax2 (wC (.int 0)) (wSub (wVar 6) (wC (.int 3)))) (wCons (wVar 6) (wCons (wC (.str "r")) wNil)))) (wCons (wTup (wCons (wVar 6) (wCons (wMin2 (wLen (wVar 1)) (wAdd (wVar 6) (wC (.int 2)))) (wCons (wC (.str "")) wNil)))) wNil)))) (wPart (wMod (wDiv (wVar 3) (wC (.int 90))) (wC (.int 3)))) wNoPart) wNoPart (wPart (wC (.int 1)))) 4)))
  wNext)
 (wRet (wVar 4)))))
theorem pure_law_near : ∀ args o ret exc, S_law_near args o ret exc → w_law_near (fun x s => exc x (cutL o.length s.o)) (pst0 args o 7) (bodyE o.length ret) := by
  rintro _ _ ret exc ⟨ns, t, A, rfl, rfl, hn, hl, hA, h⟩
  unfold w_law_near
  walk_at "go"
  refine ⟨hn, by decide, fun c => ?_⟩
  walk_at "go"
  refine ⟨hn, by decide, by omega, fun L hW hLl hLs => ?_⟩
  walk_at "go"
  have hret := h L hW hLl hLs
  refine br_b (fun _ => ?_) (fun _ => ?_)
  rotate_left
  · walk_at "go"
    refine ⟨Nat.le_refl _, L.map edD, rfl, hret⟩
  walk_at "go"
  have sA : SeqAt.shaped (.list (A.map edD)) = true := shaped_list fun x m => by
    obtain ⟨y, hy, rfl⟩ := List.mem_map.mp m
    exact sh_ed (hA y hy)
  refine ⟨eqOk_of sA rfl, ?_⟩
  refine ⟨_, rfl, ?_⟩
  refine br_b (fun q => ?_) (fun q => ?_)
  rotate_left
  · walk_at "go"
    refine ⟨Nat.le_refl _, L.map edD, rfl, hret⟩
  have hne : 0 < A.length := by
    cases A with
    | nil => exact absurd q (by decide)
    | cons _ _ => simp
  clear q
  obtain ⟨i, hi, hi2⟩ : ∃ i : Nat, c / 3 % (((A.map edD).length : Nat) : Int) = i ∧ i < A.length := by
    rw [List.length_map]
    have h1 := Int.emod_nonneg (c / 3) (show ((A.length : Nat) : Int) ≠ 0 by omega)
    have h2 := Int.emod_lt_of_pos (c / 3) (show (0 : Int) < (A.length : Nat) by omega)
    exact ⟨_, (Int.toNat_of_nonneg h1).symm, by omega⟩
  walk_at "go"
  refine ⟨by rw [List.length_map]; omega, ?_⟩
  rw [hi]
  walk_at "go"
  have hi3 : i < (A.map edD).length := by rw [List.length_map]; exact hi2
  refine ⟨_, atI_nat hi3, ?_⟩
  rw [List.getElem_map]
  generalize A[i] = x
  obtain ⟨b, e, w⟩ := x
  walk_at "go"
  obtain ⟨v, hv⟩ : ∃ v : Nat, ixD (edD (b, e, w)) (c / 9 % 2) = some (.int (v : Nat)) := by
    have h1 := Int.emod_nonneg (c / 9) (show (2 : Int) ≠ 0 by decide)
    have h2 := Int.emod_lt_of_pos (c / 9) (show (0 : Int) < 2 by decide)
    rcases (by omega : c / 9 % 2 = 0 ∨ c / 9 % 2 = 1) with z | z
    · rw [z]; exact ⟨b, rfl⟩
    · rw [z]; exact ⟨e, rfl⟩
  refine ⟨_, hv, ?_⟩
  have h3 : c / 90 % 3 = 0 ∨ c / 90 % 3 = 1 ∨ c / 90 % 3 = 2 := by
    have h1 := Int.emod_nonneg (c / 90) (show (3 : Int) ≠ 0 by decide)
    have h2 := Int.emod_lt_of_pos (c / 90) (show (0 : Int) < 3 by decide)
    omega
  walk_at "go"
  refine ⟨Nat.zero_le _, _, rfl, ?_⟩
  rw [tx_len]
  generalize hX : (if (if (v : Int) + c / 18 % 5 - 2 < (t.length : Nat) then (v : Int) + c / 18 % 5 - 2 else (t.length : Nat)) > 0 then (if (v : Int) + c / 18 % 5 - 2 < (t.length : Nat) then (v : Int) + c / 18 % 5 - 2 else (t.length : Nat)) else (0 : Int)) = X
  have hX2 : 0 ≤ X ∧ X ≤ (t.length : Nat) := by
    rw [← hX]
    split <;> split <;> omega
  obtain ⟨a, rfl⟩ : ∃ a : Nat, X = a := ⟨X.toNat, by omega⟩
  obtain ⟨y, hy, hy2⟩ : ∃ y : Nat, (if (a : Int) - 3 > 0 then (a : Int) - 3 else 0) = y ∧ y ≤ a := by
    split
    · exact ⟨a - 3, by omega, by omega⟩
    · exact ⟨0, rfl, by omega⟩
  obtain ⟨u, hu, hu2, hu3⟩ : ∃ u : Nat, (if (a : Int) + 2 < (t.length : Nat) then (a : Int) + 2 else (t.length : Nat)) = u ∧ a ≤ u ∧ u ≤ t.length := by
    split
    · exact ⟨a + 2, by omega, by omega, by omega⟩
    · exact ⟨t.length, rfl, by omega, by omega⟩
  rw [hy, hu]
  rcases h3 with z | z | z
  · rw [z]
    exact h [(a, a, [113])] ⟨by show (-1 : Int) < (a : Nat); omega, Nat.le_refl _, by omega, gdT_all (by decide), by decide, trivial⟩ (by show 1 ≤ 20; omega) (fun x m => by rw [List.mem_singleton] at m; rw [m]; show 1 ≤ 17; omega)
  · rw [z]
    exact h [(y, a, [114])] ⟨by show (-1 : Int) < (y : Nat); omega, hy2, by omega, gdT_all (by decide), by decide, trivial⟩ (by show 1 ≤ 20; omega) (fun x m => by rw [List.mem_singleton] at m; rw [m]; show 1 ≤ 17; omega)
  · rw [z]
    exact h [(a, u, [])] ⟨by show (-1 : Int) < (a : Nat); omega, hu2, hu3, (fun _ m => nomatch m), by decide, trivial⟩ (by show 1 ≤ 20; omega) (fun x m => by rw [List.mem_singleton] at m; rw [m]; show 0 ≤ 17; omega)
end K43

namespace K43
open PySem L2 PW K41
/-! plain facts for the law -/
theorem wel_mono {n m : Nat} (h : n ≤ m) : ∀ {L : List Ed} {p : Int}, Wel n p L → Wel m p L
  | [], _, _ => trivial
  | (b, e, w) :: r, p, ⟨h1, h2, h3, h4, h5, h6⟩ => ⟨h1, h2, by omega, h4, h5, wel_mono h h6⟩
theorem wel_edG {n k : Nat} (hk : k ≤ 59) : ∀ {L : List Ed} {p : Int}, (∀ x ∈ L, x.2.2.length ≤ 17) → Wel n p L → Wel n p (L.map (edG k))
  | [], _, _, _ => trivial
  | (b, e, w) :: r, p, hL, ⟨h1, h2, h3, h4, h5, h6⟩ => by
    have hw : w.length ≤ 17 := hL (b, e, w) List.mem_cons_self
    refine ⟨h1, h2, h3, h4.app fun c m => ?_, ?_, wel_edG hk (fun x m => hL x (List.mem_cons_of_mem _ m)) h6⟩
    · rw [List.eq_of_mem_replicate m]; decide
    · show (w ++ List.replicate k 121).length ≤ 2000
      rw [List.length_append, List.length_replicate]; omega
def fI : PyData → Int
  | .tuple (.int i :: _) => i
  | _ => 0
theorem wel_rise {n : Nat} : ∀ {L : List Ed} {p : Int}, Wel n p L → L.Pairwise (fun x y => fI (edD x) < fI (edD y))
  | [], _, _ => .nil
  | (b, e, w) :: r, p, ⟨h1, h2, h3, h4, h5, h6⟩ => by
    refine List.pairwise_cons.mpr ⟨fun y hy => ?_, wel_rise h6⟩
    have := wel_gt h6 y hy
    show ((b : Nat) : Int) < ((y.1 : Nat) : Int)
    omega
theorem perm_uniq {f : PyData → Int} : ∀ {l m : List PyData}, l.Perm m → l.Pairwise (fun x y => f x ≤ f y) → m.Pairwise (fun x y => f x < f y) → l = m
  | [], m, h, _, _ => (List.Perm.eq_nil h.symm).symm
  | x :: l, [], h, _, _ => absurd h.length_eq (by simp)
  | x :: l, y :: m, h, hl, hm => by
    obtain ⟨l1, l2⟩ := List.pairwise_cons.mp hl
    obtain ⟨m1, m2⟩ := List.pairwise_cons.mp hm
    rcases List.mem_cons.mp (h.mem_iff.mp (List.mem_cons_self (a := x) (l := l))) with e | hx
    · subst e
      rw [perm_uniq h.cons_inv l2 m2]
    · have q1 := m1 x hx
      rcases List.mem_cons.mp (h.mem_iff.mpr (List.mem_cons_self (a := y) (l := m))) with e | hy
      · subst e; exact absurd q1 (by omega)
      · have := l1 y hy; omega
theorem sorted_mrg {n : Nat} {A O : List Ed} (hA : Wel n (-1) A) (hO : Wel n (-1) O) (h : Apart A O) {ys : List PyData} (hp : ys.Perm (A.map edD ++ O.map edD)) (hs : ys.Pairwise (fun x y => fI x ≤ fI y)) : ys = (mrg A O).map edD := by
  have p := (mrg_perm (A.length + O.length) A O (Nat.le_refl _)).map edD
  rw [List.map_append] at p
  refine perm_uniq (hp.trans p.symm) hs ?_
  rw [List.pairwise_map]
  exact wel_rise (mrg_wel (A.length + O.length) A O (-1) (Nat.le_refl _) hA hO h)
theorem nodup_firsts {n : Nat} {A O : List Ed} (hA : Wel n (-1) A) (hO : Wel n (-1) O) (h : Apart A O) : ((A.map edD ++ O.map edD).map fI).Nodup := by
  have p := ((mrg_perm (A.length + O.length) A O (Nat.le_refl _)).map edD).map fI
  rw [List.map_append] at p
  refine p.nodup_iff.mp ?_
  have := wel_rise (mrg_wel (A.length + O.length) A O (-1) (Nat.le_refl _) hA hO h)
  rw [List.nodup_iff_pairwise_ne, List.pairwise_map, List.pairwise_map]
  exact this.imp fun h e => by rw [e] at h; exact absurd h (Int.lt_irrefl _)
theorem eds_firsts {L : List Ed} : ∀ d ∈ L.map edD, ∃ r, d = .tuple (.int (fI d) :: r) := fun d m => by
  obtain ⟨x, _, rfl⟩ := List.mem_map.mp m
  exact ⟨_, rfl⟩
/-- the law's own summand -/
def grL (y : Ed) : Int := ((y.2.2.length : Nat) : Int) - ((y.2.1 : Nat) : Int) + ((y.1 : Nat) : Int)
theorem wel_be {n : Nat} : ∀ {L : List Ed} {p : Int}, Wel n p L → ∀ x ∈ L, x.1 ≤ x.2.1
  | (b, e, w) :: r, p, ⟨_, h2, _, _, _, h6⟩, x, m => by
    rcases List.mem_cons.mp m with rfl | m
    · exact h2
    · exact wel_be h6 x m
theorem sum_law {x : Ed} (hx : x.1 ≤ x.2.1) : ∀ O : List Ed, (∀ y ∈ O, y.1 ≤ y.2.1 ∧ (x.2.1 < y.1 ∨ y.2.1 < x.1)) → ((O.filter fun y => decide ((y.1 : Int) < (x.1 : Int))).map grL).sum = shO x O
  | [], _ => rfl
  | y :: O, h => by
    obtain ⟨h1, h2⟩ := h y List.mem_cons_self
    have ih := sum_law hx O fun z m => h z (List.mem_cons_of_mem _ m)
    rw [shO, List.filter_cons]
    by_cases q : y.2.1 < x.1
    · rw [if_pos q, if_pos (by exact decide_eq_true (by omega)), List.map_cons, List.sum_cons, ih]
      congr 1
      show ((y.2.2.length : Nat) : Int) - ((y.2.1 : Nat) : Int) + ((y.1 : Nat) : Int) = _
      omega
    · rw [if_neg q, if_neg (by rw [decide_eq_true_eq]; omega), ih, Int.zero_add]
theorem smW_le {k : Nat} : ∀ {L : List Ed}, (∀ x ∈ L, x.2.2.length ≤ k) → smW L ≤ k * L.length
  | [], _ => Nat.le_refl _
  | (b, e, w) :: r, h => by
    have ih := smW_le (k := k) (L := r) fun x m => h x (List.mem_cons_of_mem _ m)
    have hw : w.length ≤ k := h (b, e, w) List.mem_cons_self
    rw [smW, List.length_cons, Nat.mul_succ]
    omega
theorem wel_gd {n : Nat} : ∀ {L : List Ed} {p : Int}, Wel n p L → ∀ x ∈ L, gdT x.2.2
  | (b, e, w) :: r, p, ⟨_, _, _, h4, _, h6⟩, x, m => by
    rcases List.mem_cons.mp m with rfl | m
    · exact h4
    · exact wel_gd h6 x m
theorem sh_eds {L : List Ed} (h : ∀ x ∈ L, gdT x.2.2) : SeqAt.shaped (.list (L.map edD)) = true := shaped_list fun x m => by
  obtain ⟨y, hy, rfl⟩ := List.mem_map.mp m
  exact sh_ed (h y hy)
theorem fst2_apart {E O : List Ed} (hE : ∀ x ∈ E, x.1 ≤ x.2.1) (h : Apart E O) : fst2 E O = none := by
  induction E with
  | nil => rfl
  | cons x E ih =>
    have one : ∀ O : List Ed, (∀ y ∈ O, x.2.1 < y.1 ∨ y.2.1 < x.1) → fstO x O = none := fun O => by
      induction O with
      | nil => intro _; rfl
      | cons y O ih =>
        intro h
        rw [fstO, if_neg, ih fun z m => h z (List.mem_cons_of_mem _ m)]
        rw [tchB, decide_eq_true_eq]
        have := h y List.mem_cons_self
        omega
    rw [fst2, one O (h x List.mem_cons_self)]
    exact ih (fun z m => hE z (List.mem_cons_of_mem _ m)) fun z m => h z (List.mem_cons_of_mem _ m)
theorem shaped_list2 {a b : PyData} (ha : SeqAt.shaped a = true) (hb : SeqAt.shaped b = true) (h : a.depth ≤ 50 := by assumption) (h2 : b.depth ≤ 50 := by assumption) : SeqAt.shaped (.list [a, b]) = true := by
  unfold SeqAt.shaped at ha hb
  rw [Bool.and_eq_true] at ha hb
  refine shaped_list fun x m => ?_
  rcases List.mem_cons.mp m with rfl | m
  · exact ⟨ha.1, by omega⟩
  · rw [List.mem_singleton.mp m]; exact ⟨hb.1, by omega⟩
theorem dep_eds : ∀ L : List Ed, (PyData.list (L.map edD)).depth ≤ 50 := fun L => by
  have : ∀ L : List Ed, PyData.depthAll (L.map edD) ≤ 2 := fun L => by
    induction L with
    | nil => exact Nat.zero_le _
    | cons x L ih =>
      have hx : (edD x).depth ≤ 2 := by
        show PyData.depth (.tuple [.int (x.1 : Nat), .int (x.2.1 : Nat), dT x.2.2]) ≤ 2
        simp [PyData.depth, PyData.depthAll, dT]
      rw [List.map_cons, PyData.depthAll]
      omega
  have := this L
  rw [PyData.depth]
  omega
theorem smW_wel {n : Nat} {L : List Ed} {p : Int} (h : Wel n p L) (hl : L.length ≤ 50) : smW L ≤ 100000 := by
  have := smW_le (wel_wl h)
  have := Nat.mul_le_mul_left 2000 hl
  omega
theorem mrg_len (A O : List Ed) : (mrg A O).length = A.length + O.length := by
  rw [(mrg_perm (A.length + O.length) A O (Nat.le_refl _)).length_eq, List.length_append]
theorem mvA_len : ∀ (m : Nat) (A O : List Ed) (a k : Nat), A.length + O.length ≤ m → (mvA a k A O).length = A.length
  | _, [], O, _, _, _ => by rw [mvA]
  | 0, x :: A, O, _, _, h => by simp at h
  | m + 1, x :: A, [], a, k, h => by rw [mvA, List.length_cons, mvA_len m A [] a k (by simp at h ⊢; omega), List.length_cons]
  | m + 1, x :: A, y :: O, a, k, h => by
    rw [mvA]
    split
    · exact mvA_len m (x :: A) O _ _ (by simp at h ⊢; omega)
    · rw [List.length_cons, mvA_len m A (y :: O) a k (by simp at h ⊢; omega), List.length_cons]
theorem fst2_gd {A O : List Ed} (hA : ∀ x ∈ A, gdT x.2.2) (hO : ∀ x ∈ O, gdT x.2.2) {p : Ed × Ed} (h : fst2 A O = some p) : ∀ z, z = p.1 ∨ z = p.2 → gdT z.2.2 := by
  have hm : p.1 ∈ A ∧ p.2 ∈ O := by
    have one : ∀ (x : Ed) (O : List Ed) (p : Ed × Ed), fstO x O = some p → p.1 = x ∧ p.2 ∈ O := fun x O => by
      induction O with
      | nil => intro p h; cases h
      | cons y O ih =>
        intro p h
        rw [fstO] at h
        split at h
        · cases h; exact ⟨rfl, List.mem_cons_self⟩
        · obtain ⟨a, b⟩ := ih p h; exact ⟨a, List.mem_cons_of_mem _ b⟩
    clear hA hO
    induction A with
    | nil => cases h
    | cons x A ih =>
      rw [fst2] at h
      cases e : fstO x O with
      | some q =>
        rw [e] at h
        cases h
        obtain ⟨a, b⟩ := one x O p e
        exact ⟨by rw [a]; exact List.mem_cons_self, b⟩
      | none =>
        rw [e] at h
        obtain ⟨a, b⟩ := ih h
        exact ⟨List.mem_cons_of_mem _ a, b⟩
  rintro z (rfl | rfl)
  · exact hA _ hm.1
  · exact hO _ hm.2
end K43

namespace K43
open PySem L2 PW
local macro_rules
  | `(tactic| walk_at "sz") => `(tactic| first | omega | (simp only [tx_len, List.length_append, List.length_map, List.length_cons, List.length_nil, List.length_take, List.length_drop] <;> omega))
  | `(tactic| walk_at "go") => `(tactic| repeat (first | refine ⟨rfl, ?_⟩ | refine ⟨trivial, ?_⟩ | refine ⟨_, rfl, ?_⟩ | refine ⟨_, rfl, rfl, ?_⟩ | refine ⟨_, _, rfl, rfl, ?_⟩ | refine ⟨_, ix_hd, ?_⟩ | refine br_t rfl ?_ | refine br_f rfl ?_ | (refine ⟨le_sz ?_, ?_⟩; focus walk_at "sz") | (refine ⟨lt_sz ?_, ?_⟩; focus walk_at "sz") | (refine ⟨strLe_tx ?_, ?_⟩; focus walk_at "sz") | refine ⟨cmul_r rfl, ?_⟩ | refine ⟨cmul_l rfl, ?_⟩ | refine ⟨pos_ok rfl, ?_⟩ | refine ⟨cdiv_ok rfl, ?_⟩ | refine ⟨_, _, _, _, rfl, rfl, rfl, rfl, ?_⟩ | refine ⟨_, _, rfl, ?_⟩ | refine ⟨_, _, _, rfl, rfl, rfl, ?_⟩ | refine ⟨_, _, _, rfl, rfl, ?_⟩ | rw [tx_app]))
open K41 hiding Em S_law_alone S_law_refused w_law_alone w_law_refused pure_law_alone pure_law_refused
def w_law (C_TooGreat : Addr) (C_NoText : Addr) (C_NoEdit : Addr) (C_Clash : Addr) : SW :=
 (wSeq (wAsg (wCall S_law_text (wCons (wVar 0) (wCons (wC (.int 0)) wNil))) 1)
 (wSeq (wAsg (wCall S_law_edits (wCons (wVar 0) (wCons (wC (.int 20)) (wCons (wVar 1) wNil)))) 2)
 (wSeq (wAsg (wCall S_law_near (wCons (wVar 0) (wCons (wVar 1) (wCons (wVar 2) wNil)))) 3)
 (wSeq (wIfS (wB (wEq (wMod (wCall S_law_cell_at (wCons (wVar 0) (wCons (wC (.int 60)) wNil))) (wC (.int 6))) (wC (.int 1))))
  (wUnp (wCall S_law_long (wCons (wVar 1) (wCons (wVar 3) (wCons (wCall S_law_cell_at (wCons (wVar 0) (wCons (wC (.int 60)) wNil))) wNil)))) (gT 2 (gsCons (gN 1) (gsCons (gN 3) gsNil))))
  wNext)
 (wSeq (wAsg (wLst (wCons (wListOf (wVar 2)) (wCons (wListOf (wVar 3)) wNil))) 4)
 (wSeq (wAsg (wCall S_law_first (wCons (wVar 2) (wCons (wVar 3) wNil))) 5)
 (wSeq (wIfS (wB (wNotN (wVar 5)))
  (wSeq (wIfS (wOr (wNot (wB (wCall S_law_refused (wCons (wVar 1) (wCons (wIx (wVar 4) (wC (.int 0))) (wCons (wIx (wVar 4) (wC (.int 1))) (wCons (wVar 5) wNil))))))) (wB (wNe (wVar 4) (wLst (wCons (wVar 2) (wCons (wVar 3) wNil))))))
  (wRet (wC (.bool false)))
  wNext)
 (wRet (wCall S_law_refused (wCons (wVar 1) (wCons (wVar 3) (wCons (wVar 2) (wCons (wCall S_law_first (wCons (wVar 3) (wCons (wVar 2) wNil))) wNil)))))))
  wNext)
 (wSeq (wIfS (wB (wGt (wLen (wIx (wCall S_law_behind (wCons (wVar 1) (wCons (wVar 3) wNil))) (wC (.int 0)))) (wC (.int 2000))))
  (wRet (wAndV (wCall S_law_refused (wCons (wVar 1) (wCons (wIx (wVar 4) (wC (.int 0))) (wCons (wIx (wVar 4) (wC (.int 1))) (wCons (wC .none) wNil))))) (wEq (wVar 4) (wLst (wCons (wVar 2) (wCons (wVar 3) wNil))))))
  wNext)
 (wSeq (wAsg (wCall (S_moved C_NoText C_TooGreat C_NoEdit C_Clash) (wCons (wVar 1) (wCons (wIx (wVar 4) (wC (.int 0))) (wCons (wIx (wVar 4) (wC (.int 1))) wNil)))) 6)
 (wSeq (wAsg (wLst wNil) 7)
 (wSeq (wFor (wL (wVar 2)) (gT 3 (gsCons (gN 8) (gsCons (gN 9) (gsCons (gN 10) gsNil))))
  (wSeq (wAsg (wSum (wLc (wL (wVar 3)) (gN 13) (wB (wLt (wIx (wVar 13) (wC (.int 0))) (wVar 8))) (wAdd (wSub (wLen (wIx (wVar 13) (wC (.int 2)))) (wIx (wVar 13) (wC (.int 1)))) (wIx (wVar 13) (wC (.int 0)))) [13])) 11)
 (wDrop (wApp (wVar 7) (wTup (wCons (wAdd (wVar 8) (wVar 11)) (wCons (wAdd (wVar 9) (wVar 11)) (wCons (wVar 10) wNil))))))))
 (wSeq (wIfS (wOr (wNot (wB (wIsi "list" (wVar 6)))) (wOr (wB (wNe (wVar 6) (wVar 7))) (wB (wNe (wVar 4) (wLst (wCons (wVar 2) (wCons (wVar 3) wNil)))))))
  (wRet (wC (.bool false)))
  wNext)
 (wSeq (wAsg (wIx (wCall S_law_behind (wCons (wVar 1) (wCons (wSortF (wCat (wVar 2) (wVar 3))) wNil))) (wC (.int 0))) 12)
 (wSeq (wIfS (wOr (wB (wGt (wLen (wVar 12)) (wC (.int 2000)))) (wB (wGt (wLen (wIx (wCall S_law_behind (wCons (wVar 1) (wCons (wVar 2) wNil))) (wC (.int 0)))) (wC (.int 2000)))))
  (wRet (wC (.bool true)))
  wNext)
 (wSeq (wIfS (wB (wNe (wCallH (S_done C_NoText C_TooGreat C_NoEdit) (wCons (wCallH (S_done C_NoText C_TooGreat C_NoEdit) (wCons (wVar 1) (wCons (wVar 3) wNil))) (wCons (wVar 6) wNil))) (wVar 12)))
  (wRet (wC (.bool false)))
  wNext)
 (wRet (wEq (wCallH (S_done C_NoText C_TooGreat C_NoEdit) (wCons (wCallH (S_done C_NoText C_TooGreat C_NoEdit) (wCons (wVar 1) (wCons (wVar 2) wNil))) (wCons (wCall (S_moved C_NoText C_TooGreat C_NoEdit C_Clash) (wCons (wVar 1) (wCons (wVar 3) (wCons (wVar 2) wNil)))) wNil))) (wVar 12))))))))))))))))))
def w_law_11 (C_TooGreat : Addr) (C_NoText : Addr) (C_NoEdit : Addr) (C_Clash : Addr) : SW :=
 (wSeq (wIfS (wOr (wNot (wB (wIsi "list" (wVar 6)))) (wOr (wB (wNe (wVar 6) (wVar 7))) (wB (wNe (wVar 4) (wLst (wCons (wVar 2) (wCons (wVar 3) wNil))))))) (wRet (wC (.bool false))) wNext) (wSeq (wAsg (wIx (wCall S_law_behind (wCons (wVar 1) (wCons (wSortF (wCat (wVar 2) (wVar 3))) wNil))) (wC (.int 0))) 12) (wSeq (wIfS (wOr (wB (wGt (wLen (wVar 12)) (wC (.int 2000)))) (wB (wGt (wLen (wIx (wCall S_law_behind (wCons (wVar 1) (wCons (wVar 2) wNil))) (wC (.int 0)))) (wC (.int 2000))))) (wRet (wC (.bool true))) wNext) (wSeq (wIfS (wB (wNe (wCallH (S_done C_NoText C_TooGreat C_NoEdit) (wCons (wCallH (S_done C_NoText C_TooGreat C_NoEdit) (wCons (wVar 1) (wCons (wVar 3) wNil))) (wCons (wVar 6) wNil))) (wVar 12))) (wRet (wC (.bool false))) wNext) (wRet (wEq (wCallH (S_done C_NoText C_TooGreat C_NoEdit) (wCons (wCallH (S_done C_NoText C_TooGreat C_NoEdit) (wCons (wVar 1) (wCons (wVar 2) wNil))) (wCons (wCall (S_moved C_NoText C_TooGreat C_NoEdit C_Clash) (wCons (wVar 1) (wCons (wVar 3) (wCons (wVar 2) wNil)))) wNil))) (wVar 12)))))))
def w_law_8 (C_TooGreat : Addr) (C_NoText : Addr) (C_NoEdit : Addr) (C_Clash : Addr) : SW :=
 (wSeq (wAsg (wCall (S_moved C_NoText C_TooGreat C_NoEdit C_Clash) (wCons (wVar 1) (wCons (wIx (wVar 4) (wC (.int 0))) (wCons (wIx (wVar 4) (wC (.int 1))) wNil)))) 6) (wSeq (wAsg (wLst wNil) 7) (wSeq (wFor (wL (wVar 2)) (gT 3 (gsCons (gN 8) (gsCons (gN 9) (gsCons (gN 10) gsNil)))) (wSeq (wAsg (wSum (wLc (wL (wVar 3)) (gN 13) (wB (wLt (wIx (wVar 13) (wC (.int 0))) (wVar 8))) (wAdd (wSub (wLen (wIx (wVar 13) (wC (.int 2)))) (wIx (wVar 13) (wC (.int 1)))) (wIx (wVar 13) (wC (.int 0)))) [13])) 11) (wDrop (wApp (wVar 7) (wTup (wCons (wAdd (wVar 8) (wVar 11)) (wCons (wAdd (wVar 9) (wVar 11)) (wCons (wVar 10) wNil)))))))) (w_law_11 C_TooGreat C_NoText C_NoEdit C_Clash))))
def w_law_6 (C_TooGreat : Addr) (C_NoText : Addr) (C_NoEdit : Addr) (C_Clash : Addr) : SW :=
 (wSeq (wIfS (wB (wNotN (wVar 5))) (wSeq (wIfS (wOr (wNot (wB (wCall S_law_refused (wCons (wVar 1) (wCons (wIx (wVar 4) (wC (.int 0))) (wCons (wIx (wVar 4) (wC (.int 1))) (wCons (wVar 5) wNil))))))) (wB (wNe (wVar 4) (wLst (wCons (wVar 2) (wCons (wVar 3) wNil)))))) (wRet (wC (.bool false))) wNext) (wRet (wCall S_law_refused (wCons (wVar 1) (wCons (wVar 3) (wCons (wVar 2) (wCons (wCall S_law_first (wCons (wVar 3) (wCons (wVar 2) wNil))) wNil))))))) wNext) (wSeq (wIfS (wB (wGt (wLen (wIx (wCall S_law_behind (wCons (wVar 1) (wCons (wVar 3) wNil))) (wC (.int 0)))) (wC (.int 2000)))) (wRet (wAndV (wCall S_law_refused (wCons (wVar 1) (wCons (wIx (wVar 4) (wC (.int 0))) (wCons (wIx (wVar 4) (wC (.int 1))) (wCons (wC .none) wNil))))) (wEq (wVar 4) (wLst (wCons (wVar 2) (wCons (wVar 3) wNil)))))) wNext) (w_law_8 C_TooGreat C_NoText C_NoEdit C_Clash)))

def lawS : FS := fun args o ret exc => ∃ ns : List Int, args = [.scr ns] ∧ o = [] ∧ ns.length ≤ 63 ∧ ret (.d (.bool true)) []
theorem law11 (G N E C : Addr) {exc : XV → List OC → Prop} {ret : RV → List OC → Prop} {ns : List Int} {t : List Nat} {A O : List Ed} {x8 x9 x10 x11 : Option PV} (ht : gdT t) (htl : t.length ≤ 2000) (hA : Wel t.length (-1) A) (hO : Wel t.length (-1) O) (hAl : A.length ≤ 20) (hOl : O.length ≤ 20) (hf : fst2 A O = none) (hF : (doneA t 0 O).length ≤ 2000) (hret : ret (.d (.bool true)) []) (h11 : x11 = none ∨ ∃ i : Int, x11 = some (.d (.int i))) :
    w_law_11 G N E C (fun x s => exc x (cutL 0 s.o)) ⟨[some (.scr ns), some (.d (dT t)), some (.d (.list (A.map edD))), some (.d (.list (O.map edD))), some (.own 4), some (.d .none), some (.own 5), some (.own 6), x8, x9, x10, x11, none, none], [.no, .no, .no, .no, .dl [.list (A.map edD), .list (O.map edD)], .dl ((mvA 0 0 A O).map edD), .dl (A.map (mvD 0 O))]⟩ (bodyE 0 ret) := by
  have hsO := smW_wel hO (by omega)
  have hsA := smW_wel hA (by omega)
  have hap := fst2_none hf
  have hap2 : Apart O A := fun x hx y hy => (hap y hy x hx).symm
  have hmv := moved_map hA hO hap
  have hmw := moved_wel hA hO hap
  have hmv2 := moved_map hO hA hap2
  have hmw2 := moved_wel hO hA hap2
  have hb := both hA hO hap
  have hb2 := both hO hA hap2
  have hcm := mrg_comm (O.length + A.length) O A (Nat.le_refl _) (wel_be hO) (wel_be hA) hap2
  have hM := mrg_wel (A.length + O.length) A O (-1) (Nat.le_refl _) hA hO hap
  have hMl := mrg_len A O
  have lmv := mvA_len (A.length + O.length) A O 0 0 (Nat.le_refl _)
  have lmv2 := mvA_len (O.length + A.length) O A 0 0 (Nat.le_refl _)
  have hsM := smW_wel hM (by omega)
  have hD := done_len (t := t) O 0 (-1) (by omega) (Nat.zero_le _) hO
  have hDA := done_len (t := t) A 0 (-1) (by omega) (Nat.zero_le _) hA
  have hDM := done_len (t := t) _ 0 (-1) (by omega) (Nat.zero_le _) hM
  have sA := sh_eds (wel_gd hA)
  have sO := sh_eds (wel_gd hO)
  have sF := sh_eds (wel_gd hmw)
  have self : ∀ {x : PyData}, SeqAt.shaped x = true → PyData.eqv x x = true := fun {x} s => eqv_self (by
    unfold SeqAt.shaped at s
    rw [Bool.and_eq_true] at s
    exact s.1)
  have eF := self sF
  have sL : SeqAt.shaped (.list [.list (A.map edD), .list (O.map edD)]) = true := shaped_list2 sA sO (dep_eds _) (dep_eds _)
  have eL := self sL
  have gJ := done_gd ht (mrg A O) 0 (-1) hM
  rw [hmv]
  unfold w_law_11
  generalize hFm : (mvA 0 0 A O).map edD = Fm at sF eF
  generalize hLL : PyData.list [.list (A.map edD), .list (O.map edD)] = LL at sL eL
  walk_at "go"
  refine ⟨eqOk_of sF sF, ?_⟩
  rw [eF]
  walk_at "go"
  rw [hLL]
  refine ⟨eqOk_of sL sL, ?_⟩
  rw [eL]
  walk_at "go"
  refine ⟨_, fI, rfl, ?_, nodup_firsts hA hO hap, fun ys hy1 hy2 => ?_⟩
  · intro d m
    rcases List.mem_append.mp m with m | m
    · exact eds_firsts d m
    · exact eds_firsts d m
  rw [sorted_mrg hA hO hap hy1 hy2]
  walk_at "go"
  refine ⟨htl, hM, by omega, hsM, ?_⟩
  walk_at "go"
  refine br_p (fun q => ?_) (fun q => ?_)
  · walk_at "go"
    exact hret
  have q : ¬ (2000 : Int) < ((doneA t 0 (mrg A O)).length : Nat) := q
  walk_at "go"
  refine ⟨htl, hA, by omega, hsA, ?_⟩
  walk_at "go"
  refine br_p (fun q2 => ?_) (fun q2 => ?_)
  · walk_at "go"
    exact hret
  have q2 : ¬ (2000 : Int) < ((doneA t 0 A).length : Nat) := q2
  walk_at "go"
  refine ⟨ht, htl, hO, by omega, rfl, hsO, fun _ => ?_, fun z => by omega⟩
  walk_at "go"
  rw [← hFm]
  refine ⟨doneA t 0 O, mvA 0 0 A O, _, rfl, rfl, done_gd ht O 0 (-1) hO, hF, hmw, by omega, rfl, smW_wel hmw (by omega), fun _ => ?_, fun z => by rw [hb] at z; omega⟩
  rw [hb]
  have sJ : SeqAt.shaped (dT (doneA t 0 (mrg A O))) = true := by unfold SeqAt.shaped; rw [gJ.ok]; rfl
  have eJ := self sJ
  walk_at "go"
  rw [eJ]
  walk_at "go"
  refine ⟨ht, htl, hA, by omega, rfl, hsA, fun _ => ?_, fun z => by omega⟩
  walk_at "go"
  refine ⟨ht, htl, hO, hA, by omega, by omega, hsA, fun _ _ => ?_, fun _ z => by omega, fun p z => by rw [fst2_apart (wel_be hO) hap2] at z; cases z⟩
  rw [hmv2]
  walk_at "go"
  refine ⟨done_gd ht A 0 (-1) hA, by omega, hmw2, by omega, rfl, smW_wel hmw2 (by omega), fun _ => ?_, fun z => by rw [hb2, hcm] at z; omega⟩
  rw [hb2, hcm]
  walk_at "go"
  rw [eJ]
  exact hret
theorem law8 (G N E C : Addr) {exc : XV → List OC → Prop} {ret : RV → List OC → Prop} {ns : List Int} {t : List Nat} {A O : List Ed} (ht : gdT t) (htl : t.length ≤ 2000) (hA : Wel t.length (-1) A) (hO : Wel t.length (-1) O) (hAl : A.length ≤ 20) (hOl : O.length ≤ 20) (hf : fst2 A O = none) (hF : (doneA t 0 O).length ≤ 2000) (hret : ret (.d (.bool true)) []) :
    w_law_8 G N E C (fun x s => exc x (cutL 0 s.o)) ⟨[some (.scr ns), some (.d (dT t)), some (.d (.list (A.map edD))), some (.d (.list (O.map edD))), some (.own 4), some (.d .none), none, none, none, none, none, none, none, none], [.no, .no, .no, .no, .dl [.list (A.map edD), .list (O.map edD)]]⟩ (bodyE 0 ret) := by
  have hsO := smW_wel hO (by omega)
  have hap := fst2_none hf
  have hmv := moved_map hA hO hap
  unfold w_law_8
  generalize hW : w_law_11 G N E C = W at *
  generalize hLL : ([.list (A.map edD), .list (O.map edD)] : List PyData) = LL at *
  have hLL0 : ixD (.list LL) 0 = some (.list (A.map edD)) := by rw [← hLL]; rfl
  have hLL1 : ixD (.list LL) 1 = some (.list (O.map edD)) := by rw [← hLL]; rfl
  walk_at "go"
  refine ⟨_, hLL0, ?_⟩
  walk_at "go"
  refine ⟨_, hLL1, ?_⟩
  walk_at "go"
  refine ⟨ht, htl, hA, hO, by omega, by omega, hsO, fun _ _ => ?_, fun _ z => absurd hF (by omega), fun p z => by rw [hf] at z; cases z⟩
  rw [hmv]
  generalize hFm : (mvA 0 0 A O).map edD = Fm at *
  walk_at "go"
  refine ⟨fun j s => ∃ x8 x9 x10 x11 : Option PV, s = (⟨[some (.scr ns), some (.d (dT t)), some (.d (.list (A.map edD))), some (.d (.list (O.map edD))), some (.own 4), some (.d .none), some (.own 5), some (.own 6), x8, x9, x10, x11, none, none], [.no, .no, .no, .no, .dl LL, .dl Fm, .dl ((A.take j).map (mvD 0 O))]⟩ : PSt) ∧ (x11 = none ∨ ∃ i : Int, x11 = some (.d (.int i))), ⟨_, _, _, _, rfl, .inl rfl⟩, fun _ _ _ _ => trivial, ?_, ?_⟩
  · rintro j x _ hx ⟨x8, x9, x10, x11, rfl, h7⟩
    obtain ⟨hj, rfl⟩ := map_get hx
    clear hx
    have hAj : A.take (j + 1) = A.take j ++ [A[j]] := List.take_succ_eq_append_getElem hj
    have hBt : ((A.take j).map (mvD 0 O)).length ≤ 30 := by rw [List.length_map, List.length_take]; omega
    have hM : ((A.take (j + 1)).map (mvD 0 O)) = (A.take j).map (mvD 0 O) ++ [mvD 0 O A[j]] := by rw [hAj, List.map_append]; rfl
    have hbe := wel_be hA A[j] (List.getElem_mem hj)
    have hsm := sum_law hbe O fun y hy => ⟨wel_be hO y hy, hap _ (List.getElem_mem hj) y hy⟩
    generalize (A.take j).map (mvD 0 O) = M at *
    generalize A[j] = x at *
    obtain ⟨b, e, w⟩ := x
    walk_at "go"
    refine ⟨fun i acc s => s = (⟨[some (.scr ns), some (.d (dT t)), some (.d (.list (A.map edD))), some (.d (.list (O.map edD))), some (.own 4), some (.d .none), some (.own 5), some (.own 6), some (.d (.int (b : Nat))), some (.d (.int (e : Nat))), some (.d (dT w)), x11, none, none], [.no, .no, .no, .no, .dl LL, .dl Fm, .dl M]⟩ : PSt) ∧ acc = (((O.take i).filter fun y => decide ((y.1 : Int) < (b : Int))).map grL).map PyData.int, ⟨rfl, rfl⟩, fun _ _ _ _ _ => trivial, ?_, ?_⟩
    · rintro i y acc s2 hy ho ⟨rfl, rfl⟩
      clear ho
      obtain ⟨hi, rfl⟩ := map_get hy
      clear hy
      have hyl := wel_wl hO O[i] (List.getElem_mem hi)
      have hOi : O.take (i + 1) = O.take i ++ [O[i]] := List.take_succ_eq_append_getElem hi
      have hT : (O[i].1 : Int) < (b : Int) → (((O.take (i + 1)).filter fun y => decide ((y.1 : Int) < (b : Int))).map grL).map PyData.int = (((O.take i).filter fun y => decide ((y.1 : Int) < (b : Int))).map grL).map PyData.int ++ [.int (grL O[i])] := fun q => by
        rw [hOi, List.filter_append, List.map_append, List.map_append, List.filter_cons, if_pos (by exact decide_eq_true q)]
        rfl
      have hF : ¬ (O[i].1 : Int) < (b : Int) → (((O.take (i + 1)).filter fun y => decide ((y.1 : Int) < (b : Int))).map grL).map PyData.int = (((O.take i).filter fun y => decide ((y.1 : Int) < (b : Int))).map grL).map PyData.int := fun q => by
        rw [hOi, List.filter_append, List.map_append, List.map_append, List.filter_cons, if_neg (by rw [decide_eq_true_eq]; exact q)]
        exact List.append_nil _
      have hBt2 : ((((O.take i).filter fun y => decide ((y.1 : Int) < (b : Int))).map grL).map PyData.int).length ≤ 30 := by
        rw [List.length_map, List.length_map]
        have := List.length_filter_le (fun y : Ed => decide ((y.1 : Int) < (b : Int))) (O.take i)
        rw [List.length_take] at this
        omega
      generalize (((O.take i).filter fun y => decide ((y.1 : Int) < (b : Int))).map grL).map PyData.int = M2 at *
      generalize O[i] = y at *
      clear hOi
      obtain ⟨b', e', w'⟩ := y
      walk_at "go"
      refine br_p (fun q => ?_) (fun q => ?_)
      · have hT := hT q
        have hyl : w'.length ≤ 2000 := hyl
        walk_at "go"
        exact ⟨by rcases h7 with rfl | ⟨i7, rfl⟩ <;> rfl, hT.symm⟩
      · have hF := hF q
        walk_at "go"
        exact ⟨by rcases h7 with rfl | ⟨i7, rfl⟩ <;> rfl, hF.symm⟩
    rintro acc s2 ho ⟨rfl, rfl⟩
    clear ho
    rw [List.length_map, List.take_length]
    walk_at "go"
    refine .inr ⟨some (.d (.int (b : Nat))), some (.d (.int (e : Nat))), some (.d (dT w)), some (.d (.int ((O.filter fun y => decide ((y.1 : Int) < (b : Int))).map grL).sum)), ?_, .inr ⟨_, rfl⟩⟩
    rw [hM]
    unfold mvD
    have hsm : ((O.filter fun y => decide ((y.1 : Int) < (b : Int))).map grL).sum = shO (b, e, w) O := hsm
    rw [← hsm, Int.zero_add]
    rfl
  · rintro _ ⟨x8, x9, x10, x11, rfl, h7⟩
    rw [List.length_map, List.take_length]
    walk_at "go"
    subst hW
    rw [← hLL, ← hFm]
    exact law11 G N E C (exc := exc) ht htl hA hO hAl hOl hf hF hret h7
theorem law6 (G N E C : Addr) {exc : XV → List OC → Prop} {ret : RV → List OC → Prop} {ns : List Int} {t : List Nat} {A O : List Ed} (ht : gdT t) (htl : t.length ≤ 2000) (hA : Wel t.length (-1) A) (hO : Wel t.length (-1) O) (hAl : A.length ≤ 20) (hOl : O.length ≤ 20) (hret : ret (.d (.bool true)) []) :
    w_law_6 G N E C (fun x s => exc x (cutL 0 s.o)) ⟨[some (.scr ns), some (.d (dT t)), some (.d (.list (A.map edD))), some (.d (.list (O.map edD))), some (.own 4), some (.d (prD (fst2 A O))), none, none, none, none, none, none, none, none], [.no, .no, .no, .no, .dl [.list (A.map edD), .list (O.map edD)]]⟩ (bodyE 0 ret) := by
  have hsA := smW_wel hA (by omega)
  have hsO := smW_wel hO (by omega)
  have hD := done_len (t := t) O 0 (-1) (by omega) (Nat.zero_le _) hO
  have sA := sh_eds (wel_gd hA)
  have sO := sh_eds (wel_gd hO)
  unfold w_law_6
  have sL : SeqAt.shaped (.list [.list (A.map edD), .list (O.map edD)]) = true := shaped_list2 sA sO (dep_eds _) (dep_eds _)
  have eL : PyData.eqv (.list [.list (A.map edD), .list (O.map edD)]) (.list [.list (A.map edD), .list (O.map edD)]) = true := eqv_self (by
    unfold SeqAt.shaped at sL
    rw [Bool.and_eq_true] at sL
    exact sL.1)
  generalize hLL : PyData.list [.list (A.map edD), .list (O.map edD)] = LL at sL eL
  generalize hW : w_law_8 G N E C = W at *
  cases hf : fst2 A O with
  | some p =>
    walk_at "go"
    refine ⟨t, A, O, prD (some p), rfl, rfl, ht, htl, hA, hO, by omega, by omega, hsO, Or.inl ⟨p, hf, rfl, fst2_gd (wel_gd hA) (wel_gd hO) hf⟩, ?_⟩
    walk_at "go"
    rw [hLL]
    refine ⟨eqOk_of sL sL, ?_⟩
    rw [eL]
    walk_at "go"
    refine ⟨t, O, A, prD (fst2 O A), rfl, rfl, ht, htl, hO, hA, by omega, by omega, hsA, Or.inl ?_, hret⟩
    cases hg : fst2 O A with
    | some q => exact ⟨q, rfl, rfl, fst2_gd (wel_gd hO) (wel_gd hA) hg⟩
    | none =>
      have := fst2_none hg
      rw [fst2_apart (wel_be hA) fun x hx y hy => (this y hy x hx).symm] at hf
      cases hf
  | none =>
    walk_at "go"
    refine ⟨htl, hO, by omega, hsO, ?_⟩
    walk_at "go"
    refine br_p (fun q => ?_) (fun q => ?_)
    · have q : (2000 : Int) < ((doneA t 0 O).length : Nat) := q
      walk_at "go"
      refine ⟨t, A, O, .none, rfl, rfl, ht, htl, hA, hO, by omega, by omega, hsO, Or.inr ⟨hf, rfl, by omega⟩, ?_⟩
      walk_at "go"
      rw [hLL]
      refine ⟨eqOk_of sL sL, ?_⟩
      rw [eL]
      walk_at "go"
      exact hret
    · have q : ¬ (2000 : Int) < ((doneA t 0 O).length : Nat) := q
      walk_at "go"
      subst hW
      exact law8 G N E C (exc := exc) ht htl hA hO hAl hOl hf (by omega) hret
theorem pure_law (G N E C : Addr) : ∀ args o ret exc, lawS args o ret exc → w_law G N E C (fun x s => exc x (cutL o.length s.o)) (pst0 args o 14) (bodyE o.length ret) := by
  rintro _ _ ret exc ⟨ns, rfl, rfl, hn, hret⟩
  unfold w_law
  generalize hW : w_law_6 G N E C = W at *
  change (wSeq _ (wSeq _ (wSeq _ (wSeq _ (wSeq _ (wSeq _ (w_law_6 G N E C))))))) _ _ _
  rw [hW]
  walk_at "go"
  refine ⟨hn, by decide, fun t ht htl => ?_⟩
  walk_at "go"
  refine ⟨hn, by decide, by omega, fun A hA hAl hAs => ?_⟩
  walk_at "go"
  refine ⟨hn, by omega, wel_gd hA, fun O hO hOl hOs => ?_⟩
  walk_at "go"
  refine ⟨hn, by decide, fun c => ?_⟩
  walk_at "go"
  refine br_b (fun q => ?_) (fun q => ?_)
  · walk_at "go"
    refine ⟨hn, by decide, fun c => ?_⟩
    walk_at "go"
    refine ⟨htl, hOl, hOs, fun n k hk hnk => ?_⟩
    walk_at "go"
    refine ⟨_, Or.inl rfl, ?_⟩
    walk_at "go"
    refine ⟨_, Or.inl rfl, ?_⟩
    walk_at "go"
    subst hW
    have hlen : (t ++ [35] ++ List.replicate n 120).length = t.length + n + 1 := by simp; omega
    exact law6 G N E C (exc := exc) (t := t ++ [35] ++ List.replicate n 120) ((ht.app (gdT_all (by decide))).app fun c m => by rw [List.eq_of_mem_replicate m]; decide) (by rw [hlen]; omega) (wel_mono (by rw [hlen]; omega) hA) (wel_mono (by rw [hlen]; omega) (wel_edG hk hOs hO)) hAl (by rw [List.length_map]; exact hOl) hret
  · walk_at "go"
    refine ⟨_, Or.inl rfl, ?_⟩
    walk_at "go"
    refine ⟨_, Or.inl rfl, ?_⟩
    walk_at "go"
    subst hW
    exact law6 G N E C (exc := exc) ht (by omega) hA hO hAl hOl hret
end K43

namespace K43
open PySem L2 PW
open K41 hiding Em S_law_alone S_law_refused w_law_alone w_law_refused pure_law_alone pure_law_refused
def topS (i : Nat) : Stmt := PySem.Challenge.pw_mender_k43_moved_over_others.main.body.getD i (.Pass ⟨0, 0, 0, 0⟩)
abbrev s_need_text : Stmt := topS 16
abbrev N_need_text : List Str := ["text", "sign"]
theorem sc_need_text : FnScope N_need_text ["text"] (defScope s_need_text) := ⟨rfl, rfl, rfl, by decide +kernel, rfl, by decide +kernel, by decide +kernel⟩
abbrev s_is_place : Stmt := topS 19
abbrev N_is_place : List Str := ["thing", "most"]
theorem sc_is_place : FnScope N_is_place ["thing", "most"] (defScope s_is_place) := ⟨rfl, rfl, rfl, by decide +kernel, rfl, by decide +kernel, by decide +kernel⟩
abbrev s_is_text : Stmt := topS 20
abbrev N_is_text : List Str := ["thing"]
theorem sc_is_text : FnScope N_is_text ["thing"] (defScope s_is_text) := ⟨rfl, rfl, rfl, by decide +kernel, rfl, by decide +kernel, by decide +kernel⟩
abbrev s_need_edits : Stmt := topS 21
abbrev N_need_edits : List Str := ["text", "edits", "behind", "edit"]
theorem sc_need_edits : FnScope N_need_edits ["text", "edits"] (defScope s_need_edits) := ⟨rfl, rfl, rfl, by decide +kernel, rfl, by decide +kernel, by decide +kernel⟩
abbrev s_done : Stmt := topS 22
abbrev N_done : List Str := ["text", "edits", "found", "behind", "begin", "end", "new"]
theorem sc_done : FnScope N_done ["text", "edits"] (defScope s_done) := ⟨rfl, rfl, rfl, by decide +kernel, rfl, by decide +kernel, by decide +kernel⟩
abbrev s_grown : Stmt := topS 23
abbrev N_grown : List Str := ["edit"]
theorem sc_grown : FnScope N_grown ["edit"] (defScope s_grown) := ⟨rfl, rfl, rfl, by decide +kernel, rfl, by decide +kernel, by decide +kernel⟩
abbrev s_touch : Stmt := topS 24
abbrev N_touch : List Str := ["one", "other"]
theorem sc_touch : FnScope N_touch ["one", "other"] (defScope s_touch) := ⟨rfl, rfl, rfl, by decide +kernel, rfl, by decide +kernel, by decide +kernel⟩
abbrev s_need_apart : Stmt := topS 25
abbrev N_need_apart : List Str := ["edits", "others", "one", "other"]
theorem sc_need_apart : FnScope N_need_apart ["edits", "others"] (defScope s_need_apart) := ⟨rfl, rfl, rfl, by decide +kernel, rfl, by decide +kernel, by decide +kernel⟩
abbrev s_moved : Stmt := topS 26
abbrev N_moved : List Str := ["text", "edits", "others", "found", "begin", "end", "new", "shift", "other"]
theorem sc_moved : FnScope N_moved ["text", "edits", "others"] (defScope s_moved) := ⟨rfl, rfl, rfl, by decide +kernel, rfl, by decide +kernel, by decide +kernel⟩
abbrev s_law_cell_at : Stmt := topS 28
abbrev N_law_cell_at : List Str := ["_law_script", "_law_k", "_law_cell", "_law_mixed"]
theorem sc_law_cell_at : FnScope N_law_cell_at ["_law_script", "_law_k"] (defScope s_law_cell_at) := ⟨rfl, rfl, rfl, by decide +kernel, rfl, by decide +kernel, by decide +kernel⟩
abbrev s_law_line : Stmt := topS 29
abbrev N_law_line : List Str := ["_law_cell", "_law_rows", "_law_odd", "_law_bare", "_law_line_here"]
theorem sc_law_line : FnScope N_law_line ["_law_cell"] (defScope s_law_line) := ⟨rfl, rfl, rfl, by decide +kernel, rfl, by decide +kernel, by decide +kernel⟩
abbrev s_law_text : Stmt := topS 30
abbrev N_law_text : List Str := ["_law_script", "_law_at", "_law_cell", "_law_lines", "_law_k"]
theorem sc_law_text : FnScope N_law_text ["_law_script", "_law_at"] (defScope s_law_text) := ⟨rfl, rfl, rfl, by decide +kernel, rfl, by decide +kernel, by decide +kernel⟩
abbrev s_law_edits : Stmt := topS 31
abbrev N_law_edits : List Str := ["_law_script", "_law_at", "_law_text_here", "_law_some", "_law_found", "_law_beyond", "_law_first_here", "_law_many", "_law_k", "_law_cell", "_law_begin"]
theorem sc_law_edits : FnScope N_law_edits ["_law_script", "_law_at", "_law_text_here"] (defScope s_law_edits) := ⟨rfl, rfl, rfl, by decide +kernel, rfl, by decide +kernel, by decide +kernel⟩
abbrev s_law_behind : Stmt := topS 32
abbrev N_law_behind : List Str := ["_law_text_here", "_law_edits_here", "_law_found", "_law_places", "_law_at", "_law_begin", "_law_end", "_law_new"]
theorem sc_law_behind : FnScope N_law_behind ["_law_text_here", "_law_edits_here"] (defScope s_law_behind) := ⟨rfl, rfl, rfl, by decide +kernel, rfl, by decide +kernel, by decide +kernel⟩
abbrev s_law_alone : Stmt := topS 33
abbrev N_law_alone : List Str := ["_law_e", "_law_due", "_law_some", "_law_others"]
theorem sc_law_alone : FnScope N_law_alone ["_law_e", "_law_due"] (defScope s_law_alone) := ⟨rfl, rfl, rfl, by decide +kernel, rfl, by decide +kernel, by decide +kernel⟩
abbrev s_law_near : Stmt := topS 34
abbrev N_law_near : List Str := ["_law_script", "_law_text_here", "_law_edits_here", "_law_cell", "_law_found", "_law_one", "_law_at"]
theorem sc_law_near : FnScope N_law_near ["_law_script", "_law_text_here", "_law_edits_here"] (defScope s_law_near) := ⟨rfl, rfl, rfl, by decide +kernel, rfl, by decide +kernel, by decide +kernel⟩
abbrev s_law_long : Stmt := topS 35
abbrev N_law_long : List Str := ["_law_text_here", "_law_edits_here", "_law_cell", "_law_more", "_law_longer", "_law_begin", "_law_end", "_law_new"]
theorem sc_law_long : FnScope N_law_long ["_law_text_here", "_law_edits_here", "_law_cell"] (defScope s_law_long) := ⟨rfl, rfl, rfl, by decide +kernel, rfl, by decide +kernel, by decide +kernel⟩
abbrev s_law_clash : Stmt := topS 36
abbrev N_law_clash : List Str := ["_law_one", "_law_other"]
theorem sc_law_clash : FnScope N_law_clash ["_law_one", "_law_other"] (defScope s_law_clash) := ⟨rfl, rfl, rfl, by decide +kernel, rfl, by decide +kernel, by decide +kernel⟩
abbrev s_law_first : Stmt := topS 37
abbrev N_law_first : List Str := ["_law_edits_here", "_law_others", "_law_one", "_law_other"]
theorem sc_law_first : FnScope N_law_first ["_law_edits_here", "_law_others"] (defScope s_law_first) := ⟨rfl, rfl, rfl, by decide +kernel, rfl, by decide +kernel, by decide +kernel⟩
abbrev s_law_refused : Stmt := topS 38
abbrev N_law_refused : List Str := ["_law_text_here", "_law_edits_here", "_law_others", "_law_due", "_law_e"]
theorem sc_law_refused : FnScope N_law_refused ["_law_text_here", "_law_edits_here", "_law_others", "_law_due"] (defScope s_law_refused) := ⟨rfl, rfl, rfl, by decide +kernel, rfl, by decide +kernel, by decide +kernel⟩
abbrev s_law : Stmt := topS 39
abbrev N_law : List Str := ["_law_script", "_law_text_here", "_law_edits_here", "_law_others", "_law_handed", "_law_due", "_law_found", "_law_wanted", "_law_begin", "_law_end", "_law_new", "_law_more", "_law_joint", "_law_other"]
theorem sc_law : FnScope N_law ["_law_script"] (defScope s_law) := ⟨rfl, rfl, rfl, by decide +kernel, rfl, by decide +kernel, by decide +kernel⟩
abbrev i_Clash : Stmt := iniS (topS 5)
theorem scI_Clash : FnScope ["self", "one", "other"] ["self", "one", "other"] (defScope i_Clash) := ⟨rfl, rfl, rfl, by decide +kernel, rfl, by decide +kernel, by decide +kernel⟩
/-- what the top has written: constants, built-in names that are free, errors -/
structure Txt (K : PySem.W.Frag) (mg : Str → Option Value) (C_TooGreat : Addr) (C_NoText : Addr) (C_NoEdit : Addr) (C_Clash : Addr) (C_MenderError : Addr) (C_NoPlace : Addr) (C_NoName : Addr) (C_NotWhole : Addr) (C_NoMend : Addr) : Prop where
  b_len : mg "len" = none
  g_MOST_SIGNS_signs : ∃ t, mg "MOST_SIGNS_signs" = some (.int 2000 t)
  x_TooGreat : Exc1 K mg "TooGreat" C_TooGreat
  g_LETTERS : ∃ t, mg "LETTERS" = some (.str "abcdefghijklmnopqrstuvwxyz" t)
  g_FIGURES : ∃ t, mg "FIGURES" = some (.str "0123456789" t)
  g_GREAT : ∃ t, mg "GREAT" = some (.str "ABCDEFGHIJKLMNOPQRSTUVWXYZ" t)
  g_MARKS : ∃ t, mg "MARKS" = some (.str " !\"#$&'()*+,-./:;<=>?\x40[\\]^_`{|}~\n" t)
  x_NoText : Exc1 K mg "NoText" C_NoText
  b_isinstance : mg "isinstance" = none
  b_str : mg "str" = none
  b_int : mg "int" = none
  b_bool : mg "bool" = none
  n_MenderError : mg "MenderError" = some (.ref C_MenderError)
  x_NoEdit : Exc1 K mg "NoEdit" C_NoEdit
  b_tuple : mg "tuple" = none
  b_list : mg "list" = none
  g_MOST_SIGNS_edits : ∃ t, mg "MOST_SIGNS_edits" = some (.int 2000 t)
  i_Clash : DfdI K mg "Clash" "Clash.__init__" C_Clash "one" "other" ["self", "one", "other"] i_Clash
  y_MenderError : BaseI K mg "MenderError" C_MenderError
  b_sum : mg "sum" = none
  b_range : mg "range" = none
  b_min : mg "min" = none
  b_ValueError : mg "ValueError" = none
  n_NoPlace : mg "NoPlace" = some (.ref C_NoPlace)
  n_NoName : mg "NoName" = some (.ref C_NoName)
  n_NotWhole : mg "NotWhole" = some (.ref C_NotWhole)
  n_NoMend : mg "NoMend" = some (.ref C_NoMend)
  n_Clash : mg "Clash" = some (.ref C_Clash)
  n_NoEdit : mg "NoEdit" = some (.ref C_NoEdit)
  n_TooGreat : mg "TooGreat" = some (.ref C_TooGreat)
  n_NoText : mg "NoText" = some (.ref C_NoText)
  b_max : mg "max" = none
  xc_Clash : XfC K C_Clash
  xn_Clash_other : PySem.W.findIn K (.ref C_Clash) "other" = some none
  xn_Clash_one : PySem.W.findIn K (.ref C_Clash) "one" = some none
  b_sorted : mg "sorted" = none
  em : Em (mxK K) C_TooGreat C_NoText C_NoEdit C_Clash C_MenderError C_NoPlace C_NoName C_NotWhole C_NoMend
theorem ini_Clash {P : Program} {w : World} {K : PySem.W.Frag} {mg : Str → Option Value} {base : Heap} {C_TooGreat : Addr} {C_NoText : Addr} {C_NoEdit : Addr} {C_Clash : Addr} {C_MenderError : Addr} {C_NoPlace : Addr} {C_NoName : Addr} {C_NotWhole : Addr} {C_NoMend : Addr} (T : Txt K mg C_TooGreat C_NoText C_NoEdit C_Clash C_MenderError C_NoPlace C_NoName C_NotWhole C_NoMend) : CalI P w K mg base 1 "Clash" C_Clash "one" "other" :=
  T.i_Clash.cal (N := ["self", "one", "other"]) (msg := "edits that touch") scI_Clash rfl rfl (fun f cdv A outer s H E =>
    pss_cons (ps_expr (pe_meinit (x := "MenderError") rfl T.y_MenderError.g T.y_MenderError.r T.y_MenderError.s T.y_MenderError.v (pa_cons (pe_var (i := 0) rfl (Or.inl rfl)) (pa_cons pe_str pa_nil))))
      (pss_cons (ps_ost (pe_var (i := 0) rfl (Or.inl rfl)) (pe_var (i := 1) rfl (Or.inl rfl))) (pss_one (ps_ost (pe_var (i := 0) rfl (Or.inl rfl)) (pe_var (i := 2) rfl (Or.inl rfl))))))
end K43
namespace K43
open PySem L2 PW
open K41 hiding Em S_law_alone S_law_refused w_law_alone w_law_refused pure_law_alone pure_law_refused
theorem len_need_text {C_NoText : Addr} {C_TooGreat : Addr} : ∀ args o r e, S_need_text C_NoText C_TooGreat args o r e → args.length = 1 := by
  intro args o r e h
  unfold S_need_text at h
  repeat (first | (obtain ⟨rfl, _⟩ := h; rfl) | obtain ⟨_, h⟩ := h)
theorem len_is_place : ∀ args o r e, S_is_place args o r e → args.length = 2 := by
  intro args o r e h
  unfold S_is_place at h
  repeat (first | (obtain ⟨rfl, _⟩ := h; rfl) | obtain ⟨_, h⟩ := h)
theorem len_is_text : ∀ args o r e, S_is_text args o r e → args.length = 1 := by
  intro args o r e h
  unfold S_is_text at h
  repeat (first | (obtain ⟨rfl, _⟩ := h; rfl) | obtain ⟨_, h⟩ := h)
theorem len_need_edits {C_NoText : Addr} {C_TooGreat : Addr} {C_NoEdit : Addr} : ∀ args o r e, S_need_edits C_NoText C_TooGreat C_NoEdit args o r e → args.length = 2 := by
  intro args o r e h
  unfold S_need_edits at h
  repeat (first | (obtain ⟨rfl, _⟩ := h; rfl) | obtain ⟨_, h⟩ := h)
theorem len_done {C_NoText : Addr} {C_TooGreat : Addr} {C_NoEdit : Addr} : ∀ args o r e, S_done C_NoText C_TooGreat C_NoEdit args o r e → args.length = 2 := by
  intro args o r e h
  unfold S_done at h
  repeat (first | (obtain ⟨rfl, _⟩ := h; rfl) | obtain ⟨_, h⟩ := h)
theorem len_grown : ∀ args o r e, S_grown args o r e → args.length = 1 := by
  intro args o r e h
  unfold S_grown at h
  repeat (first | (obtain ⟨rfl, _⟩ := h; rfl) | obtain ⟨_, h⟩ := h)
theorem len_touch : ∀ args o r e, S_touch args o r e → args.length = 2 := by
  intro args o r e h
  unfold S_touch at h
  repeat (first | (obtain ⟨rfl, _⟩ := h; rfl) | obtain ⟨_, h⟩ := h)
theorem len_need_apart {C_Clash : Addr} : ∀ args o r e, S_need_apart C_Clash args o r e → args.length = 2 := by
  intro args o r e h
  unfold S_need_apart at h
  repeat (first | (obtain ⟨rfl, _⟩ := h; rfl) | obtain ⟨_, h⟩ := h)
theorem len_moved {C_NoText : Addr} {C_TooGreat : Addr} {C_NoEdit : Addr} {C_Clash : Addr} : ∀ args o r e, S_moved C_NoText C_TooGreat C_NoEdit C_Clash args o r e → args.length = 3 := by
  intro args o r e h
  unfold S_moved at h
  repeat (first | (obtain ⟨rfl, _⟩ := h; rfl) | obtain ⟨_, h⟩ := h)
theorem len_law_cell_at : ∀ args o r e, S_law_cell_at args o r e → args.length = 2 := by
  intro args o r e h
  unfold S_law_cell_at at h
  repeat (first | (obtain ⟨rfl, _⟩ := h; rfl) | obtain ⟨_, h⟩ := h)
theorem len_law_line : ∀ args o r e, S_law_line args o r e → args.length = 1 := by
  intro args o r e h
  unfold S_law_line at h
  repeat (first | (obtain ⟨rfl, _⟩ := h; rfl) | obtain ⟨_, h⟩ := h)
theorem len_law_text : ∀ args o r e, S_law_text args o r e → args.length = 2 := by
  intro args o r e h
  unfold S_law_text at h
  repeat (first | (obtain ⟨rfl, _⟩ := h; rfl) | obtain ⟨_, h⟩ := h)
theorem len_law_edits : ∀ args o r e, S_law_edits args o r e → args.length = 3 := by
  intro args o r e h
  unfold S_law_edits at h
  repeat (first | (obtain ⟨rfl, _⟩ := h; rfl) | obtain ⟨_, h⟩ := h)
theorem len_law_behind : ∀ args o r e, S_law_behind args o r e → args.length = 2 := by
  intro args o r e h
  unfold S_law_behind at h
  repeat (first | (obtain ⟨rfl, _⟩ := h; rfl) | obtain ⟨_, h⟩ := h)
theorem len_law_alone {C_TooGreat : Addr} {C_Clash : Addr} : ∀ args o r e, S_law_alone C_TooGreat C_Clash args o r e → args.length = 2 := by
  intro args o r e h
  unfold S_law_alone at h
  repeat (first | (obtain ⟨rfl, _⟩ := h; rfl) | obtain ⟨_, h⟩ := h)
theorem len_law_near : ∀ args o r e, S_law_near args o r e → args.length = 3 := by
  intro args o r e h
  unfold S_law_near at h
  repeat (first | (obtain ⟨rfl, _⟩ := h; rfl) | obtain ⟨_, h⟩ := h)
theorem len_law_long : ∀ args o r e, S_law_long args o r e → args.length = 3 := by
  intro args o r e h
  unfold S_law_long at h
  repeat (first | (obtain ⟨rfl, _⟩ := h; rfl) | obtain ⟨_, h⟩ := h)
theorem len_law_clash : ∀ args o r e, S_law_clash args o r e → args.length = 2 := by
  intro args o r e h
  unfold S_law_clash at h
  repeat (first | (obtain ⟨rfl, _⟩ := h; rfl) | obtain ⟨_, h⟩ := h)
theorem len_law_first : ∀ args o r e, S_law_first args o r e → args.length = 2 := by
  intro args o r e h
  unfold S_law_first at h
  repeat (first | (obtain ⟨rfl, _⟩ := h; rfl) | obtain ⟨_, h⟩ := h)
theorem len_law_refused : ∀ args o r e, S_law_refused args o r e → args.length = 4 := by
  intro args o r e h
  unfold S_law_refused at h
  repeat (first | (obtain ⟨rfl, _⟩ := h; rfl) | obtain ⟨_, h⟩ := h)
theorem len_law : ∀ args o r e, lawS args o r e → args.length = 1 := by
  intro args o r e h
  unfold lawS at h
  repeat (first | (obtain ⟨rfl, _⟩ := h; rfl) | obtain ⟨_, h⟩ := h)
theorem ok_need_text {P : Program} {w : World} {K : PySem.W.Frag} {mg : Str → Option Value} {base : Heap} {C_TooGreat : Addr} {C_NoText : Addr} {C_NoEdit : Addr} {C_Clash : Addr} {C_MenderError : Addr} {C_NoPlace : Addr} {C_NoName : Addr} {C_NotWhole : Addr} {C_NoMend : Addr} (T : Txt K mg C_TooGreat C_NoText C_NoEdit C_Clash C_MenderError C_NoPlace C_NoName C_NotWhole C_NoMend) (D : Dfd K mg "need_text" ["text"] s_need_text) : Cal P w K mg base 1 "need_text" ["text"] (S_need_text C_NoText C_TooGreat) :=
  D.cal (k := 0) (wb := w_need_text C_TooGreat C_NoText) sc_need_text len_need_text (fun f cdv A outer s H E hr => by
    have tk := takes_of (X := cxOf (L2.CX P w) P w K mg base N_need_text "need_text" (defScope s_need_text) f cdv A outer s H E) rfl rfl rfl rfl
    exact (s_cons (s_if (t_not (t_val (e_isi T.b_isinstance T.b_str (by decide +kernel) (e_var 0))))
  (s_one (s_raise rfl tk (T.x_NoText.mk1)))
  s_nil)
 (s_cons (s_for (passes_of rfl) rfl (i_str (e_var 0)) (g_name (i := 1) sc_need_text.nd rfl (by first | exact Or.inl rfl | exact Or.inr rfl))
  (s_one (s_if (t_pw (t_andC (t_notIn (hu65 hr) rfl (e_var 1) (e_gs rfl T.g_LETTERS)) (t_andC (t_notIn (hu65 hr) rfl (e_var 1) (e_gs rfl T.g_FIGURES)) (t_andC (t_notIn (hu65 hr) rfl (e_var 1) (e_gs rfl T.g_GREAT)) (t_and1 (t_notIn (hu65 hr) rfl (e_var 1) (e_gs rfl T.g_MARKS)))))))
  (s_one (s_raise rfl tk (T.x_NoText.mk1)))
  s_nil)))
 (s_one (s_if (t_gt (e_len T.b_len (e_var 0)) (e_gi rfl T.g_MOST_SIGNS_signs))
  (s_one (s_raise rfl tk (T.x_TooGreat.mk1)))
  s_nil)))))
    (pure_need_text C_TooGreat C_NoText)
theorem ok_is_place {P : Program} {w : World} {K : PySem.W.Frag} {mg : Str → Option Value} {base : Heap} {C_TooGreat : Addr} {C_NoText : Addr} {C_NoEdit : Addr} {C_Clash : Addr} {C_MenderError : Addr} {C_NoPlace : Addr} {C_NoName : Addr} {C_NotWhole : Addr} {C_NoMend : Addr} (T : Txt K mg C_TooGreat C_NoText C_NoEdit C_Clash C_MenderError C_NoPlace C_NoName C_NotWhole C_NoMend) (D : Dfd K mg "is_place" ["thing", "most"] s_is_place) : Cal P w K mg base 1 "is_place" ["thing", "most"] S_is_place :=
  D.cal (k := 0) (wb := w_is_place) sc_is_place len_is_place (fun f cdv A outer s H E hr => by
    have tk := takes_of (X := cxOf (L2.CX P w) P w K mg base N_is_place "is_place" (defScope s_is_place) f cdv A outer s H E) rfl rfl rfl rfl
    exact (s_one (s_ret (e_andC (e_isi T.b_isinstance T.b_int (by decide +kernel) (e_var 0)) (e_andC (e_not (e_isi T.b_isinstance T.b_bool (by decide +kernel) (e_var 0))) (e_one (e_chain op_le op_le e_int (e_var 0) (e_var 1))))))))
    (pure_is_place)
theorem ok_is_text {P : Program} {w : World} {K : PySem.W.Frag} {mg : Str → Option Value} {base : Heap} {C_TooGreat : Addr} {C_NoText : Addr} {C_NoEdit : Addr} {C_Clash : Addr} {C_MenderError : Addr} {C_NoPlace : Addr} {C_NoName : Addr} {C_NotWhole : Addr} {C_NoMend : Addr} (T : Txt K mg C_TooGreat C_NoText C_NoEdit C_Clash C_MenderError C_NoPlace C_NoName C_NotWhole C_NoMend) (D : Dfd K mg "is_text" ["thing"] s_is_text) (c_need_text : Cal P w K mg base 1 "need_text" ["text"] (S_need_text C_NoText C_TooGreat)) : Cal P w K mg base 2 "is_text" ["thing"] S_is_text :=
  D.cal (k := 1) (wb := w_is_text (mxK K) C_TooGreat C_NoText C_MenderError) sc_is_text len_is_text (fun f cdv A outer s H E hr => by
    have tk := takes_of (X := cxOf (L2.CX P w) P w K mg base N_is_text "is_text" (defScope s_is_text) f cdv A outer s H E) rfl rfl rfl rfl
    exact (s_cons (s_try rfl rfl rfl tk (fun _ _ _ tk1 po1 => (s_one (s_expr (c_call c_need_text tk1 hr (a_cons (e_var 0) a_nil)))))
  (cls_only (roomT hr) T.n_MenderError (fun _ _ hr1 => (s_one (s_ret e_bl))) .nil))
 (s_one (s_ret e_bl))))
    pure_is_text0
theorem ok_need_edits {P : Program} {w : World} {K : PySem.W.Frag} {mg : Str → Option Value} {base : Heap} {C_TooGreat : Addr} {C_NoText : Addr} {C_NoEdit : Addr} {C_Clash : Addr} {C_MenderError : Addr} {C_NoPlace : Addr} {C_NoName : Addr} {C_NotWhole : Addr} {C_NoMend : Addr} (T : Txt K mg C_TooGreat C_NoText C_NoEdit C_Clash C_MenderError C_NoPlace C_NoName C_NotWhole C_NoMend) (D : Dfd K mg "need_edits" ["text", "edits"] s_need_edits) (c_is_place : Cal P w K mg base 1 "is_place" ["thing", "most"] S_is_place) (c_is_text : Cal P w K mg base 2 "is_text" ["thing"] S_is_text) (c_need_text : Cal P w K mg base 1 "need_text" ["text"] (S_need_text C_NoText C_TooGreat)) : Cal P w K mg base 3 "need_edits" ["text", "edits"] (S_need_edits C_NoText C_TooGreat C_NoEdit) :=
  D.cal (k := 2) (wb := w_need_edits C_TooGreat C_NoText C_NoEdit) sc_need_edits len_need_edits (fun f cdv A outer s H E hr => by
    have tk := takes_of (X := cxOf (L2.CX P w) P w K mg base N_need_edits "need_edits" (defScope s_need_edits) f cdv A outer s H E) rfl rfl rfl rfl
    exact (s_cons (s_expr (c_call c_need_text tk hr (a_cons (e_var 0) a_nil)))
 (s_cons (s_if (t_not (t_val (e_isi T.b_isinstance T.b_list (by decide +kernel) (e_var 1))))
  (s_one (s_raise rfl tk (T.x_NoEdit.mk1)))
  s_nil)
 (s_cons (s_set (i := 2) sc_need_edits.nd rfl (by first | exact Or.inl rfl | exact Or.inr rfl) (e_neg e_int))
 (s_one (s_for (passes_of rfl) rfl (i_listX (e_var 1)) (g_name (i := 3) sc_need_edits.nd rfl (by first | exact Or.inl rfl | exact Or.inr rfl))
  (s_cons (s_if (t_pw (t_orC (t_not (t_val (e_isi T.b_isinstance T.b_tuple (by decide +kernel) (e_var 3)))) (t_orC (t_ne (hu64 hr) (e_len T.b_len (e_var 3)) e_int) (t_or1 (t_not (t_val (c_call c_is_text tk hr (a_cons (e_ix (e_var 3) e_int) a_nil))))))))
  (s_one (s_raise rfl tk (T.x_NoEdit.mk1)))
  s_nil)
 (s_cons (s_if (t_pw (t_orC (t_not (t_val (c_call c_is_place tk hr (a_cons (e_ix (e_var 3) e_int) (a_cons (e_len T.b_len (e_var 0)) a_nil))))) (t_or1 (t_not (t_val (c_call c_is_place tk hr (a_cons (e_ix (e_var 3) e_int) (a_cons (e_len T.b_len (e_var 0)) a_nil))))))))
  (s_one (s_raise rfl tk (T.x_NoEdit.mk1)))
  s_nil)
 (s_cons (s_if (t_not (t_chain op_lt op_le (e_var 2) (e_ix (e_var 3) e_int) (e_ix (e_var 3) e_int)))
  (s_one (s_raise rfl tk (T.x_NoEdit.mk1)))
  s_nil)
 (s_one (s_set (i := 2) sc_need_edits.nd rfl (by first | exact Or.inl rfl | exact Or.inr rfl) (e_ix (e_var 3) e_int))))))))))))
    (pure_need_edits C_TooGreat C_NoText C_NoEdit)
theorem ok_done {P : Program} {w : World} {K : PySem.W.Frag} {mg : Str → Option Value} {base : Heap} {C_TooGreat : Addr} {C_NoText : Addr} {C_NoEdit : Addr} {C_Clash : Addr} {C_MenderError : Addr} {C_NoPlace : Addr} {C_NoName : Addr} {C_NotWhole : Addr} {C_NoMend : Addr} (T : Txt K mg C_TooGreat C_NoText C_NoEdit C_Clash C_MenderError C_NoPlace C_NoName C_NotWhole C_NoMend) (D : Dfd K mg "done" ["text", "edits"] s_done) (c_need_edits : Cal P w K mg base 3 "need_edits" ["text", "edits"] (S_need_edits C_NoText C_TooGreat C_NoEdit)) : Cal P w K mg base 4 "done" ["text", "edits"] (S_done C_NoText C_TooGreat C_NoEdit) :=
  D.cal (k := 3) (wb := w_done C_TooGreat C_NoText C_NoEdit) sc_done len_done (fun f cdv A outer s H E hr => by
    have tk := takes_of (X := cxOf (L2.CX P w) P w K mg base N_done "done" (defScope s_done) f cdv A outer s H E) rfl rfl rfl rfl
    exact (s_cons (s_expr (c_callH c_need_edits tk hr (a_cons (e_var 0) (a_cons (e_var 1) a_nil))))
 (s_cons (s_set (i := 2) sc_done.nd rfl (by first | exact Or.inl rfl | exact Or.inr rfl) e_str)
 (s_cons (s_set (i := 3) sc_done.nd rfl (by first | exact Or.inl rfl | exact Or.inr rfl) e_int)
 (s_cons (s_for (passes_of rfl) rfl (i_listX (e_var 1)) (g_tup rfl (gs_cons (g_name (i := 4) sc_done.nd rfl (by first | exact Or.inl rfl | exact Or.inr rfl)) (gs_cons (g_name (i := 5) sc_done.nd rfl (by first | exact Or.inl rfl | exact Or.inr rfl)) (gs_cons (g_name (i := 6) sc_done.nd rfl (by first | exact Or.inl rfl | exact Or.inr rfl)) gs_nil))))
  (s_cons (s_augAdd (i := 2) sc_done.nd rfl (by first | exact Or.inl rfl | exact Or.inr rfl) (e_add (e_sl (e_var 0) (o_some (e_var 3)) (o_some (e_var 4))) (e_var 6)))
 (s_one (s_set (i := 3) sc_done.nd rfl (by first | exact Or.inl rfl | exact Or.inr rfl) (e_var 5)))))
 (s_cons (s_augAdd (i := 2) sc_done.nd rfl (by first | exact Or.inl rfl | exact Or.inr rfl) (e_sl (e_var 0) (o_some (e_var 3)) o_none))
 (s_cons (s_if (t_gt (e_len T.b_len (e_var 2)) (e_gi rfl T.g_MOST_SIGNS_edits))
  (s_one (s_raise rfl tk (T.x_TooGreat.mk1)))
  s_nil)
 (s_one (s_ret (e_var 2))))))))))
    (pure_done C_TooGreat C_NoText C_NoEdit)
theorem ok_grown {P : Program} {w : World} {K : PySem.W.Frag} {mg : Str → Option Value} {base : Heap} {C_TooGreat : Addr} {C_NoText : Addr} {C_NoEdit : Addr} {C_Clash : Addr} {C_MenderError : Addr} {C_NoPlace : Addr} {C_NoName : Addr} {C_NotWhole : Addr} {C_NoMend : Addr} (T : Txt K mg C_TooGreat C_NoText C_NoEdit C_Clash C_MenderError C_NoPlace C_NoName C_NotWhole C_NoMend) (D : Dfd K mg "grown" ["edit"] s_grown) : Cal P w K mg base 1 "grown" ["edit"] S_grown :=
  D.cal (k := 0) (wb := w_grown) sc_grown len_grown (fun f cdv A outer s H E hr => by
    have tk := takes_of (X := cxOf (L2.CX P w) P w K mg base N_grown "grown" (defScope s_grown) f cdv A outer s H E) rfl rfl rfl rfl
    exact (s_one (s_ret (e_sub (e_len T.b_len (e_ix (e_var 0) e_int)) (e_sub (e_ix (e_var 0) e_int) (e_ix (e_var 0) e_int))))))
    (pure_grown)
theorem ok_touch {P : Program} {w : World} {K : PySem.W.Frag} {mg : Str → Option Value} {base : Heap} {C_TooGreat : Addr} {C_NoText : Addr} {C_NoEdit : Addr} {C_Clash : Addr} {C_MenderError : Addr} {C_NoPlace : Addr} {C_NoName : Addr} {C_NotWhole : Addr} {C_NoMend : Addr} (T : Txt K mg C_TooGreat C_NoText C_NoEdit C_Clash C_MenderError C_NoPlace C_NoName C_NotWhole C_NoMend) (D : Dfd K mg "touch" ["one", "other"] s_touch) : Cal P w K mg base 1 "touch" ["one", "other"] S_touch :=
  D.cal (k := 0) (wb := w_touch) sc_touch len_touch (fun f cdv A outer s H E hr => by
    have tk := takes_of (X := cxOf (L2.CX P w) P w K mg base N_touch "touch" (defScope s_touch) f cdv A outer s H E) rfl rfl rfl rfl
    exact (s_one (s_ret (e_andC (e_ge (e_ix (e_var 0) e_int) (e_ix (e_var 1) e_int)) (e_one (e_ge (e_ix (e_var 1) e_int) (e_ix (e_var 0) e_int)))))))
    (pure_touch)
theorem ok_need_apart {P : Program} {w : World} {K : PySem.W.Frag} {mg : Str → Option Value} {base : Heap} {C_TooGreat : Addr} {C_NoText : Addr} {C_NoEdit : Addr} {C_Clash : Addr} {C_MenderError : Addr} {C_NoPlace : Addr} {C_NoName : Addr} {C_NotWhole : Addr} {C_NoMend : Addr} (T : Txt K mg C_TooGreat C_NoText C_NoEdit C_Clash C_MenderError C_NoPlace C_NoName C_NotWhole C_NoMend) (D : Dfd K mg "need_apart" ["edits", "others"] s_need_apart) (c_touch : Cal P w K mg base 1 "touch" ["one", "other"] S_touch) : Cal P w K mg base 3 "need_apart" ["edits", "others"] (S_need_apart C_Clash) :=
  D.cal (k := 2) (wb := w_need_apart C_Clash) sc_need_apart len_need_apart (fun f cdv A outer s H E hr => by
    have tk := takes_of (X := cxOf (L2.CX P w) P w K mg base N_need_apart "need_apart" (defScope s_need_apart) f cdv A outer s H E) rfl rfl rfl rfl
    exact (s_one (s_for (passes_of rfl) rfl (i_list (e_var 0)) (g_name (i := 2) sc_need_apart.nd rfl (by first | exact Or.inl rfl | exact Or.inr rfl))
  (s_one (s_for (passes_of rfl) rfl (i_list (e_var 1)) (g_name (i := 3) sc_need_apart.nd rfl (by first | exact Or.inl rfl | exact Or.inr rfl))
  (s_one (s_if (t_val (c_call c_touch tk hr (a_cons (e_var 2) (a_cons (e_var 3) a_nil))))
  (s_one (c_raiseI (ini_Clash T) rfl tk hr (a_cons (e_var 2) (a_cons (e_var 3) a_nil))))
  s_nil)))))))
    (pure_need_apart C_Clash)
theorem ok_moved {P : Program} {w : World} {K : PySem.W.Frag} {mg : Str → Option Value} {base : Heap} {C_TooGreat : Addr} {C_NoText : Addr} {C_NoEdit : Addr} {C_Clash : Addr} {C_MenderError : Addr} {C_NoPlace : Addr} {C_NoName : Addr} {C_NotWhole : Addr} {C_NoMend : Addr} (T : Txt K mg C_TooGreat C_NoText C_NoEdit C_Clash C_MenderError C_NoPlace C_NoName C_NotWhole C_NoMend) (D : Dfd K mg "moved" ["text", "edits", "others"] s_moved) (c_grown : Cal P w K mg base 1 "grown" ["edit"] S_grown) (c_done : Cal P w K mg base 4 "done" ["text", "edits"] (S_done C_NoText C_TooGreat C_NoEdit)) (c_need_apart : Cal P w K mg base 3 "need_apart" ["edits", "others"] (S_need_apart C_Clash)) (c_need_edits : Cal P w K mg base 3 "need_edits" ["text", "edits"] (S_need_edits C_NoText C_TooGreat C_NoEdit)) : Cal P w K mg base 5 "moved" ["text", "edits", "others"] (S_moved C_NoText C_TooGreat C_NoEdit C_Clash) :=
  D.cal (k := 4) (wb := w_moved C_TooGreat C_NoText C_NoEdit C_Clash) sc_moved len_moved (fun f cdv A outer s H E hr => by
    have tk := takes_of (X := cxOf (L2.CX P w) P w K mg base N_moved "moved" (defScope s_moved) f cdv A outer s H E) rfl rfl rfl rfl
    exact (s_cons (s_expr (c_callH c_need_edits tk hr (a_cons (e_var 0) (a_cons (e_var 1) a_nil))))
 (s_cons (s_expr (c_callH c_need_edits tk hr (a_cons (e_var 0) (a_cons (e_var 2) a_nil))))
 (s_cons (s_expr (c_call c_need_apart tk hr (a_cons (e_var 1) (a_cons (e_var 2) a_nil))))
 (s_cons (s_expr (c_callH c_done tk hr (a_cons (e_var 0) (a_cons (e_var 2) a_nil))))
 (s_cons (s_set (i := 3) sc_moved.nd rfl (by first | exact Or.inl rfl | exact Or.inr rfl) (e_lst a_nil))
 (s_cons (s_for (passes_of rfl) rfl (i_list (e_var 1)) (g_tup rfl (gs_cons (g_name (i := 4) sc_moved.nd rfl (by first | exact Or.inl rfl | exact Or.inr rfl)) (gs_cons (g_name (i := 5) sc_moved.nd rfl (by first | exact Or.inl rfl | exact Or.inr rfl)) (gs_cons (g_name (i := 6) sc_moved.nd rfl (by first | exact Or.inl rfl | exact Or.inr rfl)) gs_nil))))
  (s_cons (s_set (i := 7) sc_moved.nd rfl (by first | exact Or.inl rfl | exact Or.inr rfl) (e_sum rfl T.b_sum (e_lc (own := [("other", 8)]) rfl sc_moved.nd (i_list (e_var 2)) (blkOk_by (N := N_moved) (sc := defScope s_moved) (by decide +kernel)) (by decide) (fun _ _ _ _ _ => (g_name (i := 8) sc_moved.nd rfl (by first | exact Or.inl rfl | exact Or.inr rfl))) (fun _ _ _ _ _ => (ts_one (t_lt (e_ix (e_var 8) e_int) (e_var 4)))) (fun _ _ _ _ _ => (c_call c_grown takes0 hr (a_cons (e_var 8) a_nil))))))
 (s_one (s_expr (e_app (e_var 3) (e_tup (a_cons (e_add (e_var 4) (e_var 7)) (a_cons (e_add (e_var 5) (e_var 7)) (a_cons (e_var 6) a_nil)))))))))
 (s_one (s_ret (e_var 3))))))))))
    (pure_moved C_TooGreat C_NoText C_NoEdit C_Clash)
theorem ok_law_cell_at {P : Program} {w : World} {K : PySem.W.Frag} {mg : Str → Option Value} {base : Heap} {C_TooGreat : Addr} {C_NoText : Addr} {C_NoEdit : Addr} {C_Clash : Addr} {C_MenderError : Addr} {C_NoPlace : Addr} {C_NoName : Addr} {C_NotWhole : Addr} {C_NoMend : Addr} (T : Txt K mg C_TooGreat C_NoText C_NoEdit C_Clash C_MenderError C_NoPlace C_NoName C_NotWhole C_NoMend) (D : Dfd K mg "_law_cell_at" ["_law_script", "_law_k"] s_law_cell_at) : Cal P w K mg base 1 "_law_cell_at" ["_law_script", "_law_k"] S_law_cell_at :=
  D.cal (k := 0) (wb := w_law_cell_at) sc_law_cell_at len_law_cell_at (fun f cdv A outer s H E hr => by
    have tk := takes_of (X := cxOf (L2.CX P w) P w K mg base N_law_cell_at "_law_cell_at" (defScope s_law_cell_at) f cdv A outer s H E) rfl rfl rfl rfl
    exact (s_cons (s_set (i := 2) sc_law_cell_at.nd rfl (by first | exact Or.inl rfl | exact Or.inr rfl) e_int)
 (s_cons (s_if (t_lt (e_var 1) (e_len T.b_len (e_var 0)))
  (s_one (s_set (i := 2) sc_law_cell_at.nd rfl (by first | exact Or.inl rfl | exact Or.inr rfl) (e_ix (e_var 0) (e_var 1))))
  (s_one (s_if (t_ne (hu64 hr) (e_var 0) (e_lst a_nil))
  (s_one (s_set (i := 2) sc_law_cell_at.nd rfl (by first | exact Or.inl rfl | exact Or.inr rfl) (e_ix (e_var 0) (e_mod (e_var 1) (e_len T.b_len (e_var 0))))))
  s_nil)))
 (s_cons (s_set (i := 3) sc_law_cell_at.nd rfl (by first | exact Or.inl rfl | exact Or.inr rfl) (e_mod (e_add (e_add (e_mul (e_var 2) e_int) (e_mul (e_var 1) e_int)) e_int) e_int))
 (s_cons (s_set (i := 3) sc_law_cell_at.nd rfl (by first | exact Or.inl rfl | exact Or.inr rfl) (e_mod (e_mul (e_mod (e_mul (e_var 3) (e_var 3)) e_int) e_int) e_int))
 (s_one (s_ret (e_add (e_mul (e_mod (e_mul (e_var 3) (e_var 3)) e_int) e_int) (e_var 3)))))))))
    (pure_law_cell_at)
theorem ok_law_line {P : Program} {w : World} {K : PySem.W.Frag} {mg : Str → Option Value} {base : Heap} {C_TooGreat : Addr} {C_NoText : Addr} {C_NoEdit : Addr} {C_Clash : Addr} {C_MenderError : Addr} {C_NoPlace : Addr} {C_NoName : Addr} {C_NotWhole : Addr} {C_NoMend : Addr} (T : Txt K mg C_TooGreat C_NoText C_NoEdit C_Clash C_MenderError C_NoPlace C_NoName C_NotWhole C_NoMend) (D : Dfd K mg "_law_line" ["_law_cell"] s_law_line) : Cal P w K mg base 1 "_law_line" ["_law_cell"] S_law_line :=
  D.cal (k := 0) (wb := w_law_line) sc_law_line len_law_line (fun f cdv A outer s H E hr => by
    have tk := takes_of (X := cxOf (L2.CX P w) P w K mg base N_law_line "_law_line" (defScope s_law_line) f cdv A outer s H E) rfl rfl rfl rfl
    exact (s_cons (s_set (i := 1) sc_law_line.nd rfl (by first | exact Or.inl rfl | exact Or.inr rfl) (e_lst (a_cons e_str (a_cons e_str (a_cons e_str (a_cons e_str (a_cons e_str (a_cons e_str (a_cons e_str (a_cons e_str a_nil))))))))))
 (s_cons (s_set (i := 1) sc_law_line.nd rfl (by first | exact Or.inl rfl | exact Or.inr rfl) (e_cat (e_var 1) (e_lst (a_cons e_str (a_cons e_str (a_cons e_str (a_cons e_str (a_cons e_str (a_cons e_str (a_cons e_str (a_cons e_str a_nil)))))))))))
 (s_cons (s_set (i := 1) sc_law_line.nd rfl (by first | exact Or.inl rfl | exact Or.inr rfl) (e_cat (e_var 1) (e_lst (a_cons e_str (a_cons e_str (a_cons e_str (a_cons e_str (a_cons e_str a_nil))))))))
 (s_cons (s_set (i := 2) sc_law_line.nd rfl (by first | exact Or.inl rfl | exact Or.inr rfl) (e_lst (a_cons e_str (a_cons e_str (a_cons e_str (a_cons e_str (a_cons e_str (a_cons e_str (a_cons e_str (a_cons e_str (a_cons e_str (a_cons e_str (a_cons e_str (a_cons e_str a_nil))))))))))))))
 (s_cons (s_set (i := 3) sc_law_line.nd rfl (by first | exact Or.inl rfl | exact Or.inr rfl) (e_lst (a_cons e_str (a_cons e_str (a_cons e_str (a_cons e_str (a_cons e_str a_nil)))))))
 (s_cons (s_set (i := 4) sc_law_line.nd rfl (by first | exact Or.inl rfl | exact Or.inr rfl) (e_ix (e_var 1) (e_mod (e_div (e_var 0) e_int) e_int)))
 (s_cons (s_if (t_lt (e_mod (e_var 0) e_int) e_int)
  (s_one (s_set (i := 4) sc_law_line.nd rfl (by first | exact Or.inl rfl | exact Or.inr rfl) (e_ix (e_var 2) (e_mod (e_div (e_var 0) e_int) e_int))))
  s_nil)
 (s_cons (s_if (t_in (hu65 hr) rfl (e_mod (e_var 0) e_int) (e_tup (a_cons e_int (a_cons e_int a_nil))))
  (s_one (s_set (i := 4) sc_law_line.nd rfl (by first | exact Or.inl rfl | exact Or.inr rfl) (e_ix (e_var 3) (e_mod (e_div (e_var 0) e_int) e_int))))
  s_nil)
 (s_one (s_ret (e_add (e_add (e_repS e_str (e_mod (e_div (e_var 0) e_int) e_int)) (e_var 4)) (e_ix (e_lst (a_cons e_str (a_cons e_str (a_cons e_str a_nil)))) (e_mod (e_div (e_var 0) e_int) e_int))))))))))))))
    (pure_law_line)
theorem ok_law_text {P : Program} {w : World} {K : PySem.W.Frag} {mg : Str → Option Value} {base : Heap} {C_TooGreat : Addr} {C_NoText : Addr} {C_NoEdit : Addr} {C_Clash : Addr} {C_MenderError : Addr} {C_NoPlace : Addr} {C_NoName : Addr} {C_NotWhole : Addr} {C_NoMend : Addr} (T : Txt K mg C_TooGreat C_NoText C_NoEdit C_Clash C_MenderError C_NoPlace C_NoName C_NotWhole C_NoMend) (D : Dfd K mg "_law_text" ["_law_script", "_law_at"] s_law_text) (c_law_cell_at : Cal P w K mg base 1 "_law_cell_at" ["_law_script", "_law_k"] S_law_cell_at) (c_law_line : Cal P w K mg base 1 "_law_line" ["_law_cell"] S_law_line) : Cal P w K mg base 2 "_law_text" ["_law_script", "_law_at"] S_law_text :=
  D.cal (k := 1) (wb := w_law_text) sc_law_text len_law_text (fun f cdv A outer s H E hr => by
    have tk := takes_of (X := cxOf (L2.CX P w) P w K mg base N_law_text "_law_text" (defScope s_law_text) f cdv A outer s H E) rfl rfl rfl rfl
    exact (s_cons (s_set (i := 2) sc_law_text.nd rfl (by first | exact Or.inl rfl | exact Or.inr rfl) (c_call c_law_cell_at tk hr (a_cons (e_var 0) (a_cons (e_var 1) a_nil))))
 (s_cons (s_setLc (i := 3) (own := [("_law_k", 4)]) rfl sc_law_text.nd rfl rfl (sw_true rfl rfl rfl (by decide +kernel)) (i_rg1 T.b_range (e_mod (e_var 2) e_int)) (blkOk_by (N := N_law_text) (sc := defScope s_law_text) (by decide +kernel)) (by decide) (fun _ _ _ _ _ => (g_name (i := 4) sc_law_text.nd rfl (by first | exact Or.inl rfl | exact Or.inr rfl))) (fun _ _ _ _ _ => ts_nil) (fun _ _ _ _ _ => (c_call c_law_line takes0 hr (a_cons (c_call c_law_cell_at takes0 hr (a_cons (e_var 0) (a_cons (e_add (e_add (e_var 1) e_int) (e_var 4)) a_nil))) a_nil))))
 (s_one (s_ret (e_add (e_join e_str (e_var 3)) (e_repS (e_ix (e_lst (a_cons e_str (a_cons e_str a_nil))) (e_mod (e_div (e_var 2) e_int) e_int)) (e_int1 T.b_int (e_ne (hu64 hr) (e_var 3) (e_lst a_nil))))))))))
    (pure_law_text)
theorem ok_law_edits {P : Program} {w : World} {K : PySem.W.Frag} {mg : Str → Option Value} {base : Heap} {C_TooGreat : Addr} {C_NoText : Addr} {C_NoEdit : Addr} {C_Clash : Addr} {C_MenderError : Addr} {C_NoPlace : Addr} {C_NoName : Addr} {C_NotWhole : Addr} {C_NoMend : Addr} (T : Txt K mg C_TooGreat C_NoText C_NoEdit C_Clash C_MenderError C_NoPlace C_NoName C_NotWhole C_NoMend) (D : Dfd K mg "_law_edits" ["_law_script", "_law_at", "_law_text_here"] s_law_edits) (c_law_cell_at : Cal P w K mg base 1 "_law_cell_at" ["_law_script", "_law_k"] S_law_cell_at) : Cal P w K mg base 2 "_law_edits" ["_law_script", "_law_at", "_law_text_here"] S_law_edits :=
  D.cal (k := 1) (wb := w_law_edits) sc_law_edits len_law_edits (fun f cdv A outer s H E hr => by
    have tk := takes_of (X := cxOf (L2.CX P w) P w K mg base N_law_edits "_law_edits" (defScope s_law_edits) f cdv A outer s H E) rfl rfl rfl rfl
    exact (s_cons (s_set (i := 3) sc_law_edits.nd rfl (by first | exact Or.inl rfl | exact Or.inr rfl) (e_lst (a_cons e_str (a_cons e_str (a_cons e_str (a_cons e_str (a_cons e_str (a_cons e_str (a_cons e_str (a_cons e_str (a_cons e_str (a_cons e_str (a_cons e_str a_nil)))))))))))))
 (s_cons (s_set (i := 3) sc_law_edits.nd rfl (by first | exact Or.inl rfl | exact Or.inr rfl) (e_cat (e_var 3) (e_lst (a_cons e_str (a_cons e_str (a_cons e_str a_nil))))))
 (s_cons (s_set (i := 4) sc_law_edits.nd rfl (by first | exact Or.inl rfl | exact Or.inr rfl) (e_lst a_nil))
 (s_cons (s_set (i := 5) sc_law_edits.nd rfl (by first | exact Or.inl rfl | exact Or.inr rfl) (e_neg e_int))
 (s_cons (s_set (i := 6) sc_law_edits.nd rfl (by first | exact Or.inl rfl | exact Or.inr rfl) (c_call c_law_cell_at tk hr (a_cons (e_var 0) (a_cons (e_var 1) a_nil))))
 (s_cons (s_set (i := 7) sc_law_edits.nd rfl (by first | exact Or.inl rfl | exact Or.inr rfl) (e_ix (e_lst (a_cons (e_mod (e_var 6) e_int) (a_cons (e_add e_int (e_mod (e_div (e_var 6) e_int) e_int)) a_nil))) (e_int1 T.b_int (e_eq (hu64 hr) (e_mod (e_div (e_var 6) e_int) e_int) e_int))))
 (s_cons (s_for (passes_of rfl) rfl (i_rg1 T.b_range (e_var 7)) (g_name (i := 8) sc_law_edits.nd rfl (by first | exact Or.inl rfl | exact Or.inr rfl))
  (s_cons (s_set (i := 9) sc_law_edits.nd rfl (by first | exact Or.inl rfl | exact Or.inr rfl) (c_call c_law_cell_at tk hr (a_cons (e_var 0) (a_cons (e_add (e_add (e_mul e_int (e_var 1)) e_int) (e_var 8)) a_nil))))
 (s_cons (s_set (i := 10) sc_law_edits.nd rfl (by first | exact Or.inl rfl | exact Or.inr rfl) (e_add (e_add (e_var 5) e_int) (e_mod (e_var 9) (e_ix (e_lst (a_cons e_int (a_cons (e_ix (e_lst (a_cons e_int (a_cons e_int a_nil))) (e_int1 T.b_int (e_gt (e_var 7) e_int))) a_nil))) (e_mod (e_div (e_var 9) e_int) e_int)))))
 (s_one (s_if (t_le (e_var 10) (e_len T.b_len (e_var 2)))
  (s_cons (s_set (i := 5) sc_law_edits.nd rfl (by first | exact Or.inl rfl | exact Or.inr rfl) (e_min2 rfl T.b_min (e_len T.b_len (e_var 2)) (e_add (e_var 10) (e_ix (e_lst (a_cons e_int (a_cons e_int (a_cons e_int (a_cons (e_mod (e_div (e_var 9) e_int) e_int) a_nil))))) (e_mod (e_div (e_var 9) e_int) e_int)))))
 (s_one (s_expr (e_app (e_var 4) (e_tup (a_cons (e_var 10) (a_cons (e_var 5) (a_cons (e_ix (e_var 3) (e_mod (e_div (e_var 9) e_int) e_int)) a_nil))))))))
  s_nil)))))
 (s_one (s_ret (e_var 4)))))))))))
    (pure_law_edits)
theorem ok_law_behind {P : Program} {w : World} {K : PySem.W.Frag} {mg : Str → Option Value} {base : Heap} {C_TooGreat : Addr} {C_NoText : Addr} {C_NoEdit : Addr} {C_Clash : Addr} {C_MenderError : Addr} {C_NoPlace : Addr} {C_NoName : Addr} {C_NotWhole : Addr} {C_NoMend : Addr} (T : Txt K mg C_TooGreat C_NoText C_NoEdit C_Clash C_MenderError C_NoPlace C_NoName C_NotWhole C_NoMend) (D : Dfd K mg "_law_behind" ["_law_text_here", "_law_edits_here"] s_law_behind) : Cal P w K mg base 1 "_law_behind" ["_law_text_here", "_law_edits_here"] S_law_behind :=
  D.cal (k := 0) (wb := w_law_behind) sc_law_behind len_law_behind (fun f cdv A outer s H E hr => by
    have tk := takes_of (X := cxOf (L2.CX P w) P w K mg base N_law_behind "_law_behind" (defScope s_law_behind) f cdv A outer s H E) rfl rfl rfl rfl
    exact (s_cons (s_set (i := 2) sc_law_behind.nd rfl (by first | exact Or.inl rfl | exact Or.inr rfl) e_str)
 (s_cons (s_set (i := 3) sc_law_behind.nd rfl (by first | exact Or.inl rfl | exact Or.inr rfl) (e_lst a_nil))
 (s_cons (s_set (i := 4) sc_law_behind.nd rfl (by first | exact Or.inl rfl | exact Or.inr rfl) e_int)
 (s_cons (s_for (passes_of rfl) rfl (i_list (e_var 1)) (g_tup rfl (gs_cons (g_name (i := 5) sc_law_behind.nd rfl (by first | exact Or.inl rfl | exact Or.inr rfl)) (gs_cons (g_name (i := 6) sc_law_behind.nd rfl (by first | exact Or.inl rfl | exact Or.inr rfl)) (gs_cons (g_name (i := 7) sc_law_behind.nd rfl (by first | exact Or.inl rfl | exact Or.inr rfl)) gs_nil))))
  (s_cons (s_while (passes_of rfl) (t_lt (e_var 4) (e_var 5))
  (s_cons (s_set (i := 2) sc_law_behind.nd rfl (by first | exact Or.inl rfl | exact Or.inr rfl) (e_add (e_var 2) (e_ix (e_var 0) (e_var 4))))
 (s_one (s_set (i := 4) sc_law_behind.nd rfl (by first | exact Or.inl rfl | exact Or.inr rfl) (e_add (e_var 4) e_int)))))
 (s_cons (s_expr (e_app (e_var 3) (e_len T.b_len (e_var 2))))
 (s_cons (s_set (i := 2) sc_law_behind.nd rfl (by first | exact Or.inl rfl | exact Or.inr rfl) (e_add (e_var 2) (e_var 7)))
 (s_one (s_set (i := 4) sc_law_behind.nd rfl (by first | exact Or.inl rfl | exact Or.inr rfl) (e_var 6)))))))
 (s_cons (s_while (passes_of rfl) (t_lt (e_var 4) (e_len T.b_len (e_var 0)))
  (s_cons (s_set (i := 2) sc_law_behind.nd rfl (by first | exact Or.inl rfl | exact Or.inr rfl) (e_add (e_var 2) (e_ix (e_var 0) (e_var 4))))
 (s_one (s_set (i := 4) sc_law_behind.nd rfl (by first | exact Or.inl rfl | exact Or.inr rfl) (e_add (e_var 4) e_int)))))
 (s_one (s_ret (e_tup (a_cons (e_var 2) (a_cons (e_var 3) a_nil)))))))))))
    (pure_law_behind)
theorem ok_law_alone {P : Program} {w : World} {K : PySem.W.Frag} {mg : Str → Option Value} {base : Heap} {C_TooGreat : Addr} {C_NoText : Addr} {C_NoEdit : Addr} {C_Clash : Addr} {C_MenderError : Addr} {C_NoPlace : Addr} {C_NoName : Addr} {C_NotWhole : Addr} {C_NoMend : Addr} (T : Txt K mg C_TooGreat C_NoText C_NoEdit C_Clash C_MenderError C_NoPlace C_NoName C_NotWhole C_NoMend) (D : Dfd K mg "_law_alone" ["_law_e", "_law_due"] s_law_alone) : CalT P w K mg base 1 "_law_alone" ["_law_e", "_law_due"] (S_law_alone C_TooGreat C_Clash) :=
  D.calT (k := 0) (wb := w_law_alone (mxK K) C_TooGreat C_NoText C_NoEdit C_Clash C_NoPlace C_NoName C_NotWhole C_NoMend) sc_law_alone len_law_alone (fun f cdv A outer s H E hr => by
    have tk := takes_of (X := cxT (L2.CX P w) P w K mg base N_law_alone "_law_alone" (defScope s_law_alone) f cdv A outer s H E) rfl rfl rfl rfl
    exact (s_cons (s_set (i := 2) sc_law_alone.nd rfl (by first | exact Or.inl rfl | exact Or.inr rfl) (e_lst (a_cons (e_isE T.b_isinstance T.n_NoText (e_var 0)) (a_cons (e_isE T.b_isinstance T.n_TooGreat (e_var 0)) (a_cons (e_isE T.b_isinstance T.n_NoEdit (e_var 0)) (a_cons (e_isE T.b_isinstance T.n_Clash (e_var 0)) a_nil))))))
 (s_cons (s_set (i := 3) sc_law_alone.nd rfl (by first | exact Or.inl rfl | exact Or.inr rfl) (e_orC (e_isE T.b_isinstance T.n_NoPlace (e_var 0)) (e_orC (e_isE T.b_isinstance T.n_NoName (e_var 0)) (e_orC (e_isE T.b_isinstance T.n_NotWhole (e_var 0)) (e_one (e_isE T.b_isinstance T.n_NoMend (e_var 0)))))))
 (s_one (s_ret (e_andC (e_eq (hu64H hr) (e_var 2) (e_lst (a_cons (e_eq (hu64H hr) (e_var 1) e_int) (a_cons (e_eq (hu64H hr) (e_var 1) e_int) (a_cons (e_eq (hu64H hr) (e_var 1) e_int) (a_cons (e_eq (hu64H hr) (e_var 1) e_int) a_nil)))))) (e_andC (e_not (e_var 3)) (e_one (e_isEB T.b_isinstance T.b_ValueError (by decide +kernel) (e_var 0))))))))))
    (pure_law_alone T.em)
theorem ok_law_near {P : Program} {w : World} {K : PySem.W.Frag} {mg : Str → Option Value} {base : Heap} {C_TooGreat : Addr} {C_NoText : Addr} {C_NoEdit : Addr} {C_Clash : Addr} {C_MenderError : Addr} {C_NoPlace : Addr} {C_NoName : Addr} {C_NotWhole : Addr} {C_NoMend : Addr} (T : Txt K mg C_TooGreat C_NoText C_NoEdit C_Clash C_MenderError C_NoPlace C_NoName C_NotWhole C_NoMend) (D : Dfd K mg "_law_near" ["_law_script", "_law_text_here", "_law_edits_here"] s_law_near) (c_law_edits : Cal P w K mg base 2 "_law_edits" ["_law_script", "_law_at", "_law_text_here"] S_law_edits) (c_law_cell_at : Cal P w K mg base 1 "_law_cell_at" ["_law_script", "_law_k"] S_law_cell_at) : Cal P w K mg base 3 "_law_near" ["_law_script", "_law_text_here", "_law_edits_here"] S_law_near :=
  D.cal (k := 2) (wb := w_law_near) sc_law_near len_law_near (fun f cdv A outer s H E hr => by
    have tk := takes_of (X := cxOf (L2.CX P w) P w K mg base N_law_near "_law_near" (defScope s_law_near) f cdv A outer s H E) rfl rfl rfl rfl
    exact (s_cons (s_set (i := 3) sc_law_near.nd rfl (by first | exact Or.inl rfl | exact Or.inr rfl) (c_call c_law_cell_at tk hr (a_cons (e_var 0) (a_cons e_int a_nil))))
 (s_cons (s_set (i := 4) sc_law_near.nd rfl (by first | exact Or.inl rfl | exact Or.inr rfl) (c_call c_law_edits tk hr (a_cons (e_var 0) (a_cons e_int (a_cons (e_var 1) a_nil)))))
 (s_cons (s_if (t_pw (t_andC (t_eq (hu64 hr) (e_mod (e_var 3) e_int) e_int) (t_and1 (t_ne (hu64 hr) (e_var 2) (e_lst a_nil)))))
  (s_cons (s_set (i := 5) sc_law_near.nd rfl (by first | exact Or.inl rfl | exact Or.inr rfl) (e_ix (e_var 2) (e_mod (e_div (e_var 3) e_int) (e_len T.b_len (e_var 2)))))
 (s_cons (s_set (i := 6) sc_law_near.nd rfl (by first | exact Or.inl rfl | exact Or.inr rfl) (e_max2 rfl T.b_max e_int (e_min2 rfl T.b_min (e_len T.b_len (e_var 1)) (e_sub (e_add (e_ix (e_var 5) (e_mod (e_div (e_var 3) e_int) e_int)) (e_mod (e_div (e_var 3) e_int) e_int)) e_int))))
 (s_one (s_set (i := 4) sc_law_near.nd rfl (by first | exact Or.inl rfl | exact Or.inr rfl) (e_sl (e_sl (e_lst (a_cons (e_tup (a_cons (e_var 6) (a_cons (e_var 6) (a_cons e_str a_nil)))) (a_cons (e_tup (a_cons (e_max2 rfl T.b_max e_int (e_sub (e_var 6) e_int)) (a_cons (e_var 6) (a_cons e_str a_nil)))) (a_cons (e_tup (a_cons (e_var 6) (a_cons (e_min2 rfl T.b_min (e_len T.b_len (e_var 1)) (e_add (e_var 6) e_int)) (a_cons e_str a_nil)))) a_nil)))) (o_some (e_mod (e_div (e_var 3) e_int) e_int)) o_none) o_none (o_some e_int))))))
  s_nil)
 (s_one (s_ret (e_var 4)))))))
    (pure_law_near)
theorem ok_law_long {P : Program} {w : World} {K : PySem.W.Frag} {mg : Str → Option Value} {base : Heap} {C_TooGreat : Addr} {C_NoText : Addr} {C_NoEdit : Addr} {C_Clash : Addr} {C_MenderError : Addr} {C_NoPlace : Addr} {C_NoName : Addr} {C_NotWhole : Addr} {C_NoMend : Addr} (T : Txt K mg C_TooGreat C_NoText C_NoEdit C_Clash C_MenderError C_NoPlace C_NoName C_NotWhole C_NoMend) (D : Dfd K mg "_law_long" ["_law_text_here", "_law_edits_here", "_law_cell"] s_law_long) : Cal P w K mg base 1 "_law_long" ["_law_text_here", "_law_edits_here", "_law_cell"] S_law_long :=
  D.cal (k := 0) (wb := w_law_long) sc_law_long len_law_long (fun f cdv A outer s H E hr => by
    have tk := takes_of (X := cxOf (L2.CX P w) P w K mg base N_law_long "_law_long" (defScope s_law_long) f cdv A outer s H E) rfl rfl rfl rfl
    exact (s_cons (s_set (i := 3) sc_law_long.nd rfl (by first | exact Or.inl rfl | exact Or.inr rfl) (e_repS e_str (e_mod (e_div (e_var 2) e_int) e_int)))
 (s_cons (s_setLc (i := 4) (own := [("_law_begin", 5), ("_law_end", 6), ("_law_new", 7)]) rfl sc_law_long.nd rfl rfl (sw_true rfl rfl rfl (by decide +kernel)) (i_list (e_var 1)) (blkOk_by (N := N_law_long) (sc := defScope s_law_long) (by decide +kernel)) (by decide) (fun _ _ _ _ _ => (g_tup rfl (gs_cons (g_name (i := 5) sc_law_long.nd rfl (by first | exact Or.inl rfl | exact Or.inr rfl)) (gs_cons (g_name (i := 6) sc_law_long.nd rfl (by first | exact Or.inl rfl | exact Or.inr rfl)) (gs_cons (g_name (i := 7) sc_law_long.nd rfl (by first | exact Or.inl rfl | exact Or.inr rfl)) gs_nil))))) (fun _ _ _ _ _ => ts_nil) (fun _ _ _ _ _ => (e_tup (a_cons (e_var 5) (a_cons (e_var 6) (a_cons (e_add (e_var 7) (e_var 3)) a_nil))))))
 (s_one (s_ret (e_tup (a_cons (e_add (e_add (e_var 0) e_str) (e_repS e_str (e_sub (e_sub e_int (e_len T.b_len (e_var 0))) (e_mod (e_div (e_var 2) e_int) e_int)))) (a_cons (e_var 4) a_nil))))))))
    (pure_law_long)
theorem ok_law_clash {P : Program} {w : World} {K : PySem.W.Frag} {mg : Str → Option Value} {base : Heap} {C_TooGreat : Addr} {C_NoText : Addr} {C_NoEdit : Addr} {C_Clash : Addr} {C_MenderError : Addr} {C_NoPlace : Addr} {C_NoName : Addr} {C_NotWhole : Addr} {C_NoMend : Addr} (T : Txt K mg C_TooGreat C_NoText C_NoEdit C_Clash C_MenderError C_NoPlace C_NoName C_NotWhole C_NoMend) (D : Dfd K mg "_law_clash" ["_law_one", "_law_other"] s_law_clash) : Cal P w K mg base 1 "_law_clash" ["_law_one", "_law_other"] S_law_clash :=
  D.cal (k := 0) (wb := w_law_clash) sc_law_clash len_law_clash (fun f cdv A outer s H E hr => by
    have tk := takes_of (X := cxOf (L2.CX P w) P w K mg base N_law_clash "_law_clash" (defScope s_law_clash) f cdv A outer s H E) rfl rfl rfl rfl
    exact (s_one (s_ret (e_not (e_orC (e_lt (e_ix (e_var 0) e_int) (e_ix (e_var 1) e_int)) (e_one (e_lt (e_ix (e_var 1) e_int) (e_ix (e_var 0) e_int))))))))
    (pure_law_clash)
theorem ok_law_first {P : Program} {w : World} {K : PySem.W.Frag} {mg : Str → Option Value} {base : Heap} {C_TooGreat : Addr} {C_NoText : Addr} {C_NoEdit : Addr} {C_Clash : Addr} {C_MenderError : Addr} {C_NoPlace : Addr} {C_NoName : Addr} {C_NotWhole : Addr} {C_NoMend : Addr} (T : Txt K mg C_TooGreat C_NoText C_NoEdit C_Clash C_MenderError C_NoPlace C_NoName C_NotWhole C_NoMend) (D : Dfd K mg "_law_first" ["_law_edits_here", "_law_others"] s_law_first) (c_law_clash : Cal P w K mg base 1 "_law_clash" ["_law_one", "_law_other"] S_law_clash) : Cal P w K mg base 2 "_law_first" ["_law_edits_here", "_law_others"] S_law_first :=
  D.cal (k := 1) (wb := w_law_first) sc_law_first len_law_first (fun f cdv A outer s H E hr => by
    have tk := takes_of (X := cxOf (L2.CX P w) P w K mg base N_law_first "_law_first" (defScope s_law_first) f cdv A outer s H E) rfl rfl rfl rfl
    exact (s_cons (s_for (passes_of rfl) rfl (i_list (e_var 0)) (g_name (i := 2) sc_law_first.nd rfl (by first | exact Or.inl rfl | exact Or.inr rfl))
  (s_one (s_for (passes_of rfl) rfl (i_list (e_var 1)) (g_name (i := 3) sc_law_first.nd rfl (by first | exact Or.inl rfl | exact Or.inr rfl))
  (s_one (s_if (t_val (c_call c_law_clash tk hr (a_cons (e_var 2) (a_cons (e_var 3) a_nil))))
  (s_one (s_ret (e_tup (a_cons (e_var 2) (a_cons (e_var 3) a_nil)))))
  s_nil)))))
 (s_one (s_ret e_non))))
    (pure_law_first)
theorem ok_law_refused {P : Program} {w : World} {K : PySem.W.Frag} {mg : Str → Option Value} {base : Heap} {C_TooGreat : Addr} {C_NoText : Addr} {C_NoEdit : Addr} {C_Clash : Addr} {C_MenderError : Addr} {C_NoPlace : Addr} {C_NoName : Addr} {C_NotWhole : Addr} {C_NoMend : Addr} (T : Txt K mg C_TooGreat C_NoText C_NoEdit C_Clash C_MenderError C_NoPlace C_NoName C_NotWhole C_NoMend) (D : Dfd K mg "_law_refused" ["_law_text_here", "_law_edits_here", "_law_others", "_law_due"] s_law_refused) (c_moved : Cal P w K mg base 5 "moved" ["text", "edits", "others"] (S_moved C_NoText C_TooGreat C_NoEdit C_Clash)) (c_law_alone : CalT P w K mg base 1 "_law_alone" ["_law_e", "_law_due"] (S_law_alone C_TooGreat C_Clash)) : Cal P w K mg base 6 "_law_refused" ["_law_text_here", "_law_edits_here", "_law_others", "_law_due"] S_law_refused :=
  D.cal (k := 5) (wb := w_law_refused (mxK K) C_TooGreat C_NoText C_NoEdit C_Clash C_MenderError) sc_law_refused len_law_refused (fun f cdv A outer s H E hr => by
    have tk := takes_of (X := cxOf (L2.CX P w) P w K mg base N_law_refused "_law_refused" (defScope s_law_refused) f cdv A outer s H E) rfl rfl rfl rfl
    exact (s_cons (s_try rfl rfl rfl tk (fun _ _ _ tk1 po1 => (s_one (s_expr (c_call c_moved tk1 hr (a_cons (e_var 0) (a_cons (e_var 1) (a_cons (e_var 2) a_nil)))))))
  (cls_as (roomT hr) T.n_Clash sc_law_refused.nd (i := 4) rfl rfl (fun _ _ hr1 => (s_one (s_ret (e_andC (c_callT c_law_alone takes0 hr1 (a_cons (e_var 4) (a_cons e_int a_nil))) (e_andC (e_isE T.b_isinstance T.n_MenderError (e_var 4)) (e_one (e_eq (hu64H hr1) (e_tup (a_cons (e_xf T.xc_Clash T.xn_Clash_one (e_var 4)) (a_cons (e_xf T.xc_Clash T.xn_Clash_other (e_var 4)) a_nil))) (e_var 3)))))))) (cls_as (roomT hr) T.n_MenderError sc_law_refused.nd (i := 4) rfl rfl (fun _ _ hr1 => (s_one (s_ret (e_andC (c_callT c_law_alone takes0 hr1 (a_cons (e_var 4) (a_cons e_int a_nil))) (e_one (e_isN (e_var 3))))))) .nil)))
 (s_one (s_ret e_bl))))
    (pure_law_refused T.em)
theorem ok_law {P : Program} {w : World} {K : PySem.W.Frag} {mg : Str → Option Value} {base : Heap} {C_TooGreat : Addr} {C_NoText : Addr} {C_NoEdit : Addr} {C_Clash : Addr} {C_MenderError : Addr} {C_NoPlace : Addr} {C_NoName : Addr} {C_NotWhole : Addr} {C_NoMend : Addr} (T : Txt K mg C_TooGreat C_NoText C_NoEdit C_Clash C_MenderError C_NoPlace C_NoName C_NotWhole C_NoMend) {fl : Addr} {fd : FuncData} (F : Fun K "law" "law" s_law fl fd) (c_moved : Cal P w K mg base 5 "moved" ["text", "edits", "others"] (S_moved C_NoText C_TooGreat C_NoEdit C_Clash)) (c_done : Cal P w K mg base 4 "done" ["text", "edits"] (S_done C_NoText C_TooGreat C_NoEdit)) (c_law_behind : Cal P w K mg base 1 "_law_behind" ["_law_text_here", "_law_edits_here"] S_law_behind) (c_law_refused : Cal P w K mg base 6 "_law_refused" ["_law_text_here", "_law_edits_here", "_law_others", "_law_due"] S_law_refused) (c_law_first : Cal P w K mg base 2 "_law_first" ["_law_edits_here", "_law_others"] S_law_first) (c_law_cell_at : Cal P w K mg base 1 "_law_cell_at" ["_law_script", "_law_k"] S_law_cell_at) (c_law_long : Cal P w K mg base 1 "_law_long" ["_law_text_here", "_law_edits_here", "_law_cell"] S_law_long) (c_law_near : Cal P w K mg base 3 "_law_near" ["_law_script", "_law_text_here", "_law_edits_here"] S_law_near) (c_law_edits : Cal P w K mg base 2 "_law_edits" ["_law_script", "_law_at", "_law_text_here"] S_law_edits) (c_law_text : Cal P w K mg base 2 "_law_text" ["_law_script", "_law_at"] S_law_text) : FnOk P w K mg base (L2.CX P w) 7 fl fd ["_law_script"] (spOf K lawS) :=
  fn_ok (k := 6) (wb := w_law C_TooGreat C_NoText C_NoEdit C_Clash) F sc_law len_law (fun cdv A outer s H E hr => by
    have tk := takes_of (X := cxOf (L2.CX P w) P w K mg base N_law "law" (defScope s_law) fl cdv A outer s H E) rfl rfl rfl rfl
    exact (s_cons (s_set (i := 1) sc_law.nd rfl (by first | exact Or.inl rfl | exact Or.inr rfl) (c_call c_law_text tk hr (a_cons (e_var 0) (a_cons e_int a_nil))))
 (s_cons (s_set (i := 2) sc_law.nd rfl (by first | exact Or.inl rfl | exact Or.inr rfl) (c_call c_law_edits tk hr (a_cons (e_var 0) (a_cons e_int (a_cons (e_var 1) a_nil)))))
 (s_cons (s_set (i := 3) sc_law.nd rfl (by first | exact Or.inl rfl | exact Or.inr rfl) (c_call c_law_near tk hr (a_cons (e_var 0) (a_cons (e_var 1) (a_cons (e_var 2) a_nil)))))
 (s_cons (s_if (t_eq (hu64 hr) (e_mod (c_call c_law_cell_at tk hr (a_cons (e_var 0) (a_cons e_int a_nil))) e_int) e_int)
  (s_one (s_unp (c_call c_law_long tk hr (a_cons (e_var 1) (a_cons (e_var 3) (a_cons (c_call c_law_cell_at tk hr (a_cons (e_var 0) (a_cons e_int a_nil))) a_nil)))) (g_tup rfl (gs_cons (g_name (i := 1) sc_law.nd rfl (by first | exact Or.inl rfl | exact Or.inr rfl)) (gs_cons (g_name (i := 3) sc_law.nd rfl (by first | exact Or.inl rfl | exact Or.inr rfl)) gs_nil)))))
  s_nil)
 (s_cons (s_set (i := 4) sc_law.nd rfl (by first | exact Or.inl rfl | exact Or.inr rfl) (e_lst (a_cons (e_listOf T.b_list (e_var 2)) (a_cons (e_listOf T.b_list (e_var 3)) a_nil))))
 (s_cons (s_set (i := 5) sc_law.nd rfl (by first | exact Or.inl rfl | exact Or.inr rfl) (c_call c_law_first tk hr (a_cons (e_var 2) (a_cons (e_var 3) a_nil))))
 (s_cons (s_if (t_notN (e_var 5))
  (s_cons (s_if (t_pw (t_orC (t_not (t_val (c_call c_law_refused tk hr (a_cons (e_var 1) (a_cons (e_ix (e_var 4) e_int) (a_cons (e_ix (e_var 4) e_int) (a_cons (e_var 5) a_nil))))))) (t_or1 (t_ne (hu64 hr) (e_var 4) (e_lst (a_cons (e_var 2) (a_cons (e_var 3) a_nil)))))))
  (s_one (s_ret e_bl))
  s_nil)
 (s_one (s_ret (c_call c_law_refused tk hr (a_cons (e_var 1) (a_cons (e_var 3) (a_cons (e_var 2) (a_cons (c_call c_law_first tk hr (a_cons (e_var 3) (a_cons (e_var 2) a_nil))) a_nil))))))))
  s_nil)
 (s_cons (s_if (t_gt (e_len T.b_len (e_ix (c_call c_law_behind tk hr (a_cons (e_var 1) (a_cons (e_var 3) a_nil))) e_int)) e_int)
  (s_one (s_ret (e_andC (c_call c_law_refused tk hr (a_cons (e_var 1) (a_cons (e_ix (e_var 4) e_int) (a_cons (e_ix (e_var 4) e_int) (a_cons e_non a_nil))))) (e_one (e_eq (hu64 hr) (e_var 4) (e_lst (a_cons (e_var 2) (a_cons (e_var 3) a_nil))))))))
  s_nil)
 (s_cons (s_set (i := 6) sc_law.nd rfl (by first | exact Or.inl rfl | exact Or.inr rfl) (c_call c_moved tk hr (a_cons (e_var 1) (a_cons (e_ix (e_var 4) e_int) (a_cons (e_ix (e_var 4) e_int) a_nil)))))
 (s_cons (s_set (i := 7) sc_law.nd rfl (by first | exact Or.inl rfl | exact Or.inr rfl) (e_lst a_nil))
 (s_cons (s_for (passes_of rfl) rfl (i_list (e_var 2)) (g_tup rfl (gs_cons (g_name (i := 8) sc_law.nd rfl (by first | exact Or.inl rfl | exact Or.inr rfl)) (gs_cons (g_name (i := 9) sc_law.nd rfl (by first | exact Or.inl rfl | exact Or.inr rfl)) (gs_cons (g_name (i := 10) sc_law.nd rfl (by first | exact Or.inl rfl | exact Or.inr rfl)) gs_nil))))
  (s_cons (s_set (i := 11) sc_law.nd rfl (by first | exact Or.inl rfl | exact Or.inr rfl) (e_sum rfl T.b_sum (e_lc (own := [("_law_other", 13)]) rfl sc_law.nd (i_list (e_var 3)) (blkOk_by (N := N_law) (sc := defScope s_law) (by decide +kernel)) (by decide) (fun _ _ _ _ _ => (g_name (i := 13) sc_law.nd rfl (by first | exact Or.inl rfl | exact Or.inr rfl))) (fun _ _ _ _ _ => (ts_one (t_lt (e_ix (e_var 13) e_int) (e_var 8)))) (fun _ _ _ _ _ => (e_add (e_sub (e_len T.b_len (e_ix (e_var 13) e_int)) (e_ix (e_var 13) e_int)) (e_ix (e_var 13) e_int))))))
 (s_one (s_expr (e_app (e_var 7) (e_tup (a_cons (e_add (e_var 8) (e_var 11)) (a_cons (e_add (e_var 9) (e_var 11)) (a_cons (e_var 10) a_nil)))))))))
 (s_cons (s_if (t_pw (t_orC (t_not (t_val (e_isi T.b_isinstance T.b_list (by decide +kernel) (e_var 6)))) (t_orC (t_ne (hu64 hr) (e_var 6) (e_var 7)) (t_or1 (t_ne (hu64 hr) (e_var 4) (e_lst (a_cons (e_var 2) (a_cons (e_var 3) a_nil))))))))
  (s_one (s_ret e_bl))
  s_nil)
 (s_cons (s_set (i := 12) sc_law.nd rfl (by first | exact Or.inl rfl | exact Or.inr rfl) (e_ix (c_call c_law_behind tk hr (a_cons (e_var 1) (a_cons (e_sortF T.b_sorted (e_cat (e_var 2) (e_var 3))) a_nil))) e_int))
 (s_cons (s_if (t_pw (t_orC (t_gt (e_len T.b_len (e_var 12)) e_int) (t_or1 (t_gt (e_len T.b_len (e_ix (c_call c_law_behind tk hr (a_cons (e_var 1) (a_cons (e_var 2) a_nil))) e_int)) e_int))))
  (s_one (s_ret e_bl))
  s_nil)
 (s_cons (s_if (t_ne (hu64 hr) (c_callH c_done tk hr (a_cons (c_callH c_done tk hr (a_cons (e_var 1) (a_cons (e_var 3) a_nil))) (a_cons (e_var 6) a_nil))) (e_var 12))
  (s_one (s_ret e_bl))
  s_nil)
 (s_one (s_ret (e_eq (hu64 hr) (c_callH c_done tk hr (a_cons (c_callH c_done tk hr (a_cons (e_var 1) (a_cons (e_var 2) a_nil))) (a_cons (c_call c_moved tk hr (a_cons (e_var 1) (a_cons (e_var 3) (a_cons (e_var 2) a_nil)))) a_nil))) (e_var 12))))))))))))))))))))
    (pure_law C_TooGreat C_NoText C_NoEdit C_Clash)
theorem all_mk {l : PySem.W.OpenLaw} {w : World} {K : PySem.W.Frag} {h : Heap} {mg : Str → Option Value} {fa f1 f2 f3 f4 f5 f6 f7 f8 f9 f10 f11 f12 f13 f14 f15 f16 f17 f18 f19 f20 f21 C_TooGreat C_NoText C_NoEdit C_Clash C_MenderError C_NoPlace C_NoName C_NotWhole C_NoMend : Addr} (X : K.In h) (G : h.Ns mainGlobals mg) (hfa : mg "law" = some (.ref fa))
    {od1 an1 od2 an2 od3 an3 od4 an4 od5 an5 od6 an6 od7 an7 od8 an8 od9 an9 od10 an10 od11 an11 od12 an12 od13 an13 od14 an14 od15 an15 od16 an16 od17 an17 od18 an18 od19 an19 od20 an20 od21 an21 : Option Addr} {sl1 sl2 sl3 sl4 sl5 sl6 sl7 sl8 sl9 sl10 sl11 sl12 sl13 sl14 sl15 sl16 sl17 sl18 sl19 sl20 sl21 : Array (Option Value)} {oc1 kV1 dc1 pm1 cd1 ct1 oc2 kV2 dc2 pm2 cd2 ct2 oc3 kV3 dc3 pm3 cd3 ct3 oc4 kV4 dc4 pm4 cd4 ct4 oc5 kV5 dc5 pm5 cd5 ct5 oc6 kV6 dc6 pm6 cd6 ct6 oc7 kV7 dc7 pm7 cd7 ct7 oc8 kV8 dc8 pm8 cd8 ct8 oc9 kV9 dc9 pm9 cd9 ct9 oc10 kV10 dc10 pm10 cd10 ct10 oc11 kV11 dc11 pm11 cd11 ct11 oc12 kV12 dc12 pm12 cd12 ct12 oc13 kV13 dc13 pm13 cd13 ct13 oc14 kV14 dc14 pm14 cd14 ct14 oc15 kV15 dc15 pm15 cd15 ct15 oc16 kV16 dc16 pm16 cd16 ct16 oc17 kV17 dc17 pm17 cd17 ct17 oc18 kV18 dc18 pm18 cd18 ct18 oc19 kV19 dc19 pm19 cd19 ct19 oc20 kV20 dc20 pm20 cd20 ct20 oc21 kV21 dc21 pm21 cd21 ct21 : Value}
    (a1 : PySem.W.nsIn K mainGlobals "need_text" = some (some (.ref f1))) (l1 : K.lookup f1 = some ⟨oc1, od1, .func (PySem.W.fnOf "need_text" "need_text" (defArgs s_need_text) (defBody s_need_text) (defScope s_need_text) .none kV1 dc1 pm1 an1 cd1 ct1), sl1⟩) (c1 : PySem.W.codeIn K cd1 "need_text" = true) (k1 : PySem.W.keepIn K (.ref f1) = true)
    (a2 : PySem.W.nsIn K mainGlobals "is_place" = some (some (.ref f2))) (l2 : K.lookup f2 = some ⟨oc2, od2, .func (PySem.W.fnOf "is_place" "is_place" (defArgs s_is_place) (defBody s_is_place) (defScope s_is_place) .none kV2 dc2 pm2 an2 cd2 ct2), sl2⟩) (c2 : PySem.W.codeIn K cd2 "is_place" = true) (k2 : PySem.W.keepIn K (.ref f2) = true)
    (a3 : PySem.W.nsIn K mainGlobals "is_text" = some (some (.ref f3))) (l3 : K.lookup f3 = some ⟨oc3, od3, .func (PySem.W.fnOf "is_text" "is_text" (defArgs s_is_text) (defBody s_is_text) (defScope s_is_text) .none kV3 dc3 pm3 an3 cd3 ct3), sl3⟩) (c3 : PySem.W.codeIn K cd3 "is_text" = true) (k3 : PySem.W.keepIn K (.ref f3) = true)
    (a4 : PySem.W.nsIn K mainGlobals "need_edits" = some (some (.ref f4))) (l4 : K.lookup f4 = some ⟨oc4, od4, .func (PySem.W.fnOf "need_edits" "need_edits" (defArgs s_need_edits) (defBody s_need_edits) (defScope s_need_edits) .none kV4 dc4 pm4 an4 cd4 ct4), sl4⟩) (c4 : PySem.W.codeIn K cd4 "need_edits" = true) (k4 : PySem.W.keepIn K (.ref f4) = true)
    (a5 : PySem.W.nsIn K mainGlobals "done" = some (some (.ref f5))) (l5 : K.lookup f5 = some ⟨oc5, od5, .func (PySem.W.fnOf "done" "done" (defArgs s_done) (defBody s_done) (defScope s_done) .none kV5 dc5 pm5 an5 cd5 ct5), sl5⟩) (c5 : PySem.W.codeIn K cd5 "done" = true) (k5 : PySem.W.keepIn K (.ref f5) = true)
    (a6 : PySem.W.nsIn K mainGlobals "grown" = some (some (.ref f6))) (l6 : K.lookup f6 = some ⟨oc6, od6, .func (PySem.W.fnOf "grown" "grown" (defArgs s_grown) (defBody s_grown) (defScope s_grown) .none kV6 dc6 pm6 an6 cd6 ct6), sl6⟩) (c6 : PySem.W.codeIn K cd6 "grown" = true) (k6 : PySem.W.keepIn K (.ref f6) = true)
    (a7 : PySem.W.nsIn K mainGlobals "touch" = some (some (.ref f7))) (l7 : K.lookup f7 = some ⟨oc7, od7, .func (PySem.W.fnOf "touch" "touch" (defArgs s_touch) (defBody s_touch) (defScope s_touch) .none kV7 dc7 pm7 an7 cd7 ct7), sl7⟩) (c7 : PySem.W.codeIn K cd7 "touch" = true) (k7 : PySem.W.keepIn K (.ref f7) = true)
    (a8 : PySem.W.nsIn K mainGlobals "need_apart" = some (some (.ref f8))) (l8 : K.lookup f8 = some ⟨oc8, od8, .func (PySem.W.fnOf "need_apart" "need_apart" (defArgs s_need_apart) (defBody s_need_apart) (defScope s_need_apart) .none kV8 dc8 pm8 an8 cd8 ct8), sl8⟩) (c8 : PySem.W.codeIn K cd8 "need_apart" = true) (k8 : PySem.W.keepIn K (.ref f8) = true)
    (a9 : PySem.W.nsIn K mainGlobals "moved" = some (some (.ref f9))) (l9 : K.lookup f9 = some ⟨oc9, od9, .func (PySem.W.fnOf "moved" "moved" (defArgs s_moved) (defBody s_moved) (defScope s_moved) .none kV9 dc9 pm9 an9 cd9 ct9), sl9⟩) (c9 : PySem.W.codeIn K cd9 "moved" = true) (k9 : PySem.W.keepIn K (.ref f9) = true)
    (a10 : PySem.W.nsIn K mainGlobals "_law_cell_at" = some (some (.ref f10))) (l10 : K.lookup f10 = some ⟨oc10, od10, .func (PySem.W.fnOf "_law_cell_at" "_law_cell_at" (defArgs s_law_cell_at) (defBody s_law_cell_at) (defScope s_law_cell_at) .none kV10 dc10 pm10 an10 cd10 ct10), sl10⟩) (c10 : PySem.W.codeIn K cd10 "_law_cell_at" = true) (k10 : PySem.W.keepIn K (.ref f10) = true)
    (a11 : PySem.W.nsIn K mainGlobals "_law_line" = some (some (.ref f11))) (l11 : K.lookup f11 = some ⟨oc11, od11, .func (PySem.W.fnOf "_law_line" "_law_line" (defArgs s_law_line) (defBody s_law_line) (defScope s_law_line) .none kV11 dc11 pm11 an11 cd11 ct11), sl11⟩) (c11 : PySem.W.codeIn K cd11 "_law_line" = true) (k11 : PySem.W.keepIn K (.ref f11) = true)
    (a12 : PySem.W.nsIn K mainGlobals "_law_text" = some (some (.ref f12))) (l12 : K.lookup f12 = some ⟨oc12, od12, .func (PySem.W.fnOf "_law_text" "_law_text" (defArgs s_law_text) (defBody s_law_text) (defScope s_law_text) .none kV12 dc12 pm12 an12 cd12 ct12), sl12⟩) (c12 : PySem.W.codeIn K cd12 "_law_text" = true) (k12 : PySem.W.keepIn K (.ref f12) = true)
    (a13 : PySem.W.nsIn K mainGlobals "_law_edits" = some (some (.ref f13))) (l13 : K.lookup f13 = some ⟨oc13, od13, .func (PySem.W.fnOf "_law_edits" "_law_edits" (defArgs s_law_edits) (defBody s_law_edits) (defScope s_law_edits) .none kV13 dc13 pm13 an13 cd13 ct13), sl13⟩) (c13 : PySem.W.codeIn K cd13 "_law_edits" = true) (k13 : PySem.W.keepIn K (.ref f13) = true)
    (a14 : PySem.W.nsIn K mainGlobals "_law_behind" = some (some (.ref f14))) (l14 : K.lookup f14 = some ⟨oc14, od14, .func (PySem.W.fnOf "_law_behind" "_law_behind" (defArgs s_law_behind) (defBody s_law_behind) (defScope s_law_behind) .none kV14 dc14 pm14 an14 cd14 ct14), sl14⟩) (c14 : PySem.W.codeIn K cd14 "_law_behind" = true) (k14 : PySem.W.keepIn K (.ref f14) = true)
    (a15 : PySem.W.nsIn K mainGlobals "_law_alone" = some (some (.ref f15))) (l15 : K.lookup f15 = some ⟨oc15, od15, .func (PySem.W.fnOf "_law_alone" "_law_alone" (defArgs s_law_alone) (defBody s_law_alone) (defScope s_law_alone) .none kV15 dc15 pm15 an15 cd15 ct15), sl15⟩) (c15 : PySem.W.codeIn K cd15 "_law_alone" = true) (k15 : PySem.W.keepIn K (.ref f15) = true)
    (a16 : PySem.W.nsIn K mainGlobals "_law_near" = some (some (.ref f16))) (l16 : K.lookup f16 = some ⟨oc16, od16, .func (PySem.W.fnOf "_law_near" "_law_near" (defArgs s_law_near) (defBody s_law_near) (defScope s_law_near) .none kV16 dc16 pm16 an16 cd16 ct16), sl16⟩) (c16 : PySem.W.codeIn K cd16 "_law_near" = true) (k16 : PySem.W.keepIn K (.ref f16) = true)
    (a17 : PySem.W.nsIn K mainGlobals "_law_long" = some (some (.ref f17))) (l17 : K.lookup f17 = some ⟨oc17, od17, .func (PySem.W.fnOf "_law_long" "_law_long" (defArgs s_law_long) (defBody s_law_long) (defScope s_law_long) .none kV17 dc17 pm17 an17 cd17 ct17), sl17⟩) (c17 : PySem.W.codeIn K cd17 "_law_long" = true) (k17 : PySem.W.keepIn K (.ref f17) = true)
    (a18 : PySem.W.nsIn K mainGlobals "_law_clash" = some (some (.ref f18))) (l18 : K.lookup f18 = some ⟨oc18, od18, .func (PySem.W.fnOf "_law_clash" "_law_clash" (defArgs s_law_clash) (defBody s_law_clash) (defScope s_law_clash) .none kV18 dc18 pm18 an18 cd18 ct18), sl18⟩) (c18 : PySem.W.codeIn K cd18 "_law_clash" = true) (k18 : PySem.W.keepIn K (.ref f18) = true)
    (a19 : PySem.W.nsIn K mainGlobals "_law_first" = some (some (.ref f19))) (l19 : K.lookup f19 = some ⟨oc19, od19, .func (PySem.W.fnOf "_law_first" "_law_first" (defArgs s_law_first) (defBody s_law_first) (defScope s_law_first) .none kV19 dc19 pm19 an19 cd19 ct19), sl19⟩) (c19 : PySem.W.codeIn K cd19 "_law_first" = true) (k19 : PySem.W.keepIn K (.ref f19) = true)
    (a20 : PySem.W.nsIn K mainGlobals "_law_refused" = some (some (.ref f20))) (l20 : K.lookup f20 = some ⟨oc20, od20, .func (PySem.W.fnOf "_law_refused" "_law_refused" (defArgs s_law_refused) (defBody s_law_refused) (defScope s_law_refused) .none kV20 dc20 pm20 an20 cd20 ct20), sl20⟩) (c20 : PySem.W.codeIn K cd20 "_law_refused" = true) (k20 : PySem.W.keepIn K (.ref f20) = true)
    (a21 : PySem.W.nsIn K mainGlobals "law" = some (some (.ref f21))) (l21 : K.lookup f21 = some ⟨oc21, od21, .func (PySem.W.fnOf "law" "law" (defArgs s_law) (defBody s_law) (defScope s_law) .none kV21 dc21 pm21 an21 cd21 ct21), sl21⟩) (c21 : PySem.W.codeIn K cd21 "law" = true) (k21 : PySem.W.keepIn K (.ref f21) = true)
    (z_len : PySem.W.nsIn K mainGlobals "len" = some none)
    {t_MOST_SIGNS_signs : Tok} (g_MOST_SIGNS_signs : PySem.W.nsIn K mainGlobals "MOST_SIGNS_signs" = some (some (.int 2000 t_MOST_SIGNS_signs)))
    (xa_TooGreat : PySem.W.nsIn K mainGlobals "TooGreat" = some (some (.ref C_TooGreat))) (xq_TooGreat : PySem.W.excIn K C_TooGreat [.type "ValueError", .type "Exception", .type "BaseException", .type "object"] "ValueError.__new__" = true) (xk_TooGreat : PySem.W.keepIn K (.ref C_TooGreat) = true) (xb_TooGreat : PySem.W.subIn K (.ref C_TooGreat) (.type "BaseException") = some true) (xt_TooGreat : PySem.W.typeIn K (.ref C_TooGreat) = some (.type "type"))
    {t_LETTERS : Tok} (g_LETTERS : PySem.W.nsIn K mainGlobals "LETTERS" = some (some (.str "abcdefghijklmnopqrstuvwxyz" t_LETTERS)))
    {t_FIGURES : Tok} (g_FIGURES : PySem.W.nsIn K mainGlobals "FIGURES" = some (some (.str "0123456789" t_FIGURES)))
    {t_GREAT : Tok} (g_GREAT : PySem.W.nsIn K mainGlobals "GREAT" = some (some (.str "ABCDEFGHIJKLMNOPQRSTUVWXYZ" t_GREAT)))
    {t_MARKS : Tok} (g_MARKS : PySem.W.nsIn K mainGlobals "MARKS" = some (some (.str " !\"#$&'()*+,-./:;<=>?\x40[\\]^_`{|}~\n" t_MARKS)))
    (xa_NoText : PySem.W.nsIn K mainGlobals "NoText" = some (some (.ref C_NoText))) (xq_NoText : PySem.W.excIn K C_NoText [.type "ValueError", .type "Exception", .type "BaseException", .type "object"] "ValueError.__new__" = true) (xk_NoText : PySem.W.keepIn K (.ref C_NoText) = true) (xb_NoText : PySem.W.subIn K (.ref C_NoText) (.type "BaseException") = some true) (xt_NoText : PySem.W.typeIn K (.ref C_NoText) = some (.type "type"))
    (z_isinstance : PySem.W.nsIn K mainGlobals "isinstance" = some none)
    (z_str : PySem.W.nsIn K mainGlobals "str" = some none)
    (z_int : PySem.W.nsIn K mainGlobals "int" = some none)
    (z_bool : PySem.W.nsIn K mainGlobals "bool" = some none)
    (na_MenderError : PySem.W.nsIn K mainGlobals "MenderError" = some (some (.ref C_MenderError)))
    (xa_NoEdit : PySem.W.nsIn K mainGlobals "NoEdit" = some (some (.ref C_NoEdit))) (xq_NoEdit : PySem.W.excIn K C_NoEdit [.type "ValueError", .type "Exception", .type "BaseException", .type "object"] "ValueError.__new__" = true) (xk_NoEdit : PySem.W.keepIn K (.ref C_NoEdit) = true) (xb_NoEdit : PySem.W.subIn K (.ref C_NoEdit) (.type "BaseException") = some true) (xt_NoEdit : PySem.W.typeIn K (.ref C_NoEdit) = some (.type "type"))
    (z_tuple : PySem.W.nsIn K mainGlobals "tuple" = some none)
    (z_list : PySem.W.nsIn K mainGlobals "list" = some none)
    {t_MOST_SIGNS_edits : Tok} (g_MOST_SIGNS_edits : PySem.W.nsIn K mainGlobals "MOST_SIGNS_edits" = some (some (.int 2000 t_MOST_SIGNS_edits)))
    (na_Clash : PySem.W.nsIn K mainGlobals "Clash" = some (some (.ref C_Clash)))
    {fI_Clash : Addr} {ocI_Clash kVI_Clash dcI_Clash pmI_Clash cdI_Clash ctI_Clash : Value} {odI_Clash anI_Clash : Option Addr} {slI_Clash : Array (Option Value)}
    (fi_Clash : PySem.W.findIn K (.ref C_Clash) "__init__" = some (some (.ref fI_Clash)))
    (lI_Clash : K.lookup fI_Clash = some ⟨ocI_Clash, odI_Clash, .func (PySem.W.fnOf "__init__" "Clash.__init__" (defArgs i_Clash) (defBody i_Clash) (defScope i_Clash) .none kVI_Clash dcI_Clash pmI_Clash anI_Clash cdI_Clash ctI_Clash), slI_Clash⟩) (cI_Clash : PySem.W.codeIn K cdI_Clash "Clash.__init__" = true) (kI_Clash : PySem.W.keepIn K (.ref fI_Clash) = true)
    (ti_Clash : PySem.W.typeIn K (.ref fI_Clash) = some (.type "function"))
    {onm_Clash oqn_Clash : Str} {oN_Clash : Addr} {obs_Clash obm_Clash osub_Clash : List Value} {osn_Clash : List Str} {oab_Clash : Bool} {ocol_Clash : Option Bool} {odd_Clash : Option Addr} {ok0_Clash ok1_Clash ok2_Clash ok3_Clash ok5_Clash : Option Value} (oc_Clash : K.lookup C_Clash = some (excClassObj onm_Clash oqn_Clash C_Clash oN_Clash obs_Clash obm_Clash true osn_Clash osub_Clash oab_Clash ocol_Clash odd_Clash ok0_Clash ok1_Clash ok2_Clash ok3_Clash ok5_Clash "ValueError.__new__")) (ov_Clash : PySem.HandSPX.refsVE obm_Clash = true)
    (os_Clash : PySem.W.findIn K (.ref C_Clash) "__setattr__" = some (some (.builtin "object.__setattr__"))) (ob_Clash : PySem.W.subIn K (.ref C_Clash) (.type "BaseException") = some true) (ot_Clash : PySem.W.typeIn K (.ref C_Clash) = some (.type "type")) (okp_Clash : PySem.W.keepIn K (.ref C_Clash) = true)
    (on1_Clash : PySem.W.findIn K (.ref C_Clash) "one" = some none) (on2_Clash : PySem.W.findIn K (.ref C_Clash) "other" = some none)
    (yr_MenderError : PySem.W.readsIn K C_MenderError (.type "type") = true) (ys_MenderError : PySem.W.specialIn K (.ref C_MenderError) "__getattribute__" = some (some (.builtin "type.__getattribute__"))) (yv_MenderError : PySem.W.findCls K (.ref C_MenderError) (.type "type") "__init__" = some (.val (.builtin "ValueError.__init__")))
    (z_sum : PySem.W.nsIn K mainGlobals "sum" = some none)
    (z_range : PySem.W.nsIn K mainGlobals "range" = some none)
    (z_min : PySem.W.nsIn K mainGlobals "min" = some none)
    (z_ValueError : PySem.W.nsIn K mainGlobals "ValueError" = some none)
    (na_NoPlace : PySem.W.nsIn K mainGlobals "NoPlace" = some (some (.ref C_NoPlace)))
    (na_NoName : PySem.W.nsIn K mainGlobals "NoName" = some (some (.ref C_NoName)))
    (na_NotWhole : PySem.W.nsIn K mainGlobals "NotWhole" = some (some (.ref C_NotWhole)))
    (na_NoMend : PySem.W.nsIn K mainGlobals "NoMend" = some (some (.ref C_NoMend)))
    (na_NoEdit : PySem.W.nsIn K mainGlobals "NoEdit" = some (some (.ref C_NoEdit)))
    (na_TooGreat : PySem.W.nsIn K mainGlobals "TooGreat" = some (some (.ref C_TooGreat)))
    (na_NoText : PySem.W.nsIn K mainGlobals "NoText" = some (some (.ref C_NoText)))
    (z_max : PySem.W.nsIn K mainGlobals "max" = some none)
    (fa_Clash : PySem.W.findIn K (.ref C_Clash) "__getattribute__" = some (some (.builtin "BaseException.__getattribute__"))) (fb_Clash : PySem.W.findIn K (.ref C_Clash) "__getattr__" = some none) (fc_Clash : PySem.W.subIn K (.ref C_Clash) (.type "BaseException") = some true) (fd_Clash : PySem.W.hasDictIn K C_Clash = true)
    (xn_Clash_other : PySem.W.findIn K (.ref C_Clash) "other" = some none)
    (xn_Clash_one : PySem.W.findIn K (.ref C_Clash) "one" = some none)
    (z_sorted : PySem.W.nsIn K mainGlobals "sorted" = some none)
    (e_sp : PySem.W.specialIn K (.builtin "object.__class__") "__get__" = some (some (.builtin "getset_descriptor.__get__"))) (e_tk : PySem.W.takesIn K (.builtin "object.__class__") = some true)
    (ea_TooGreat : PySem.W.findIn K (.ref C_TooGreat) "__getattribute__" = some (some (.builtin "BaseException.__getattribute__"))) (eb_TooGreat : PySem.W.findIn K (.ref C_TooGreat) "__getattr__" = some none) (ed_TooGreat : PySem.W.hasDictIn K C_TooGreat = true) (ee_TooGreat : PySem.W.findIn K (.ref C_TooGreat) "__class__" = some (some (.builtin "object.__class__"))) (eh_TooGreat : PySem.W.mroIn K C_TooGreat (.type "object") = some true) (ei_TooGreat : PySem.W.subIn K (.ref C_TooGreat) (.type "BaseException") = some true)
    (ea_NoText : PySem.W.findIn K (.ref C_NoText) "__getattribute__" = some (some (.builtin "BaseException.__getattribute__"))) (eb_NoText : PySem.W.findIn K (.ref C_NoText) "__getattr__" = some none) (ed_NoText : PySem.W.hasDictIn K C_NoText = true) (ee_NoText : PySem.W.findIn K (.ref C_NoText) "__class__" = some (some (.builtin "object.__class__"))) (eh_NoText : PySem.W.mroIn K C_NoText (.type "object") = some true) (ei_NoText : PySem.W.subIn K (.ref C_NoText) (.type "BaseException") = some true)
    (ea_NoEdit : PySem.W.findIn K (.ref C_NoEdit) "__getattribute__" = some (some (.builtin "BaseException.__getattribute__"))) (eb_NoEdit : PySem.W.findIn K (.ref C_NoEdit) "__getattr__" = some none) (ed_NoEdit : PySem.W.hasDictIn K C_NoEdit = true) (ee_NoEdit : PySem.W.findIn K (.ref C_NoEdit) "__class__" = some (some (.builtin "object.__class__"))) (eh_NoEdit : PySem.W.mroIn K C_NoEdit (.type "object") = some true) (ei_NoEdit : PySem.W.subIn K (.ref C_NoEdit) (.type "BaseException") = some true)
    (ea_Clash : PySem.W.findIn K (.ref C_Clash) "__getattribute__" = some (some (.builtin "BaseException.__getattribute__"))) (eb_Clash : PySem.W.findIn K (.ref C_Clash) "__getattr__" = some none) (ed_Clash : PySem.W.hasDictIn K C_Clash = true) (ee_Clash : PySem.W.findIn K (.ref C_Clash) "__class__" = some (some (.builtin "object.__class__"))) (eh_Clash : PySem.W.mroIn K C_Clash (.type "object") = some true) (ei_Clash : PySem.W.subIn K (.ref C_Clash) (.type "BaseException") = some true)
    (db_MenderError : PySem.W.subIn K (.ref C_MenderError) (.type "BaseException") = some true) (dt_MenderError : PySem.W.typeIn K (.ref C_MenderError) = some (.type "type")) (dd_MenderError : PySem.W.hasDictIn K C_MenderError = true) (ds_MenderError : PySem.W.subIn K (.ref C_MenderError) (.ref C_MenderError) = some true)
    (db_NoPlace : PySem.W.subIn K (.ref C_NoPlace) (.type "BaseException") = some true) (dt_NoPlace : PySem.W.typeIn K (.ref C_NoPlace) = some (.type "type")) (dd_NoPlace : PySem.W.hasDictIn K C_NoPlace = true) (ds_NoPlace : PySem.W.subIn K (.ref C_NoPlace) (.ref C_NoPlace) = some true)
    (db_NoName : PySem.W.subIn K (.ref C_NoName) (.type "BaseException") = some true) (dt_NoName : PySem.W.typeIn K (.ref C_NoName) = some (.type "type")) (dd_NoName : PySem.W.hasDictIn K C_NoName = true) (ds_NoName : PySem.W.subIn K (.ref C_NoName) (.ref C_NoName) = some true)
    (db_NotWhole : PySem.W.subIn K (.ref C_NotWhole) (.type "BaseException") = some true) (dt_NotWhole : PySem.W.typeIn K (.ref C_NotWhole) = some (.type "type")) (dd_NotWhole : PySem.W.hasDictIn K C_NotWhole = true) (ds_NotWhole : PySem.W.subIn K (.ref C_NotWhole) (.ref C_NotWhole) = some true)
    (db_NoMend : PySem.W.subIn K (.ref C_NoMend) (.type "BaseException") = some true) (dt_NoMend : PySem.W.typeIn K (.ref C_NoMend) = some (.type "type")) (dd_NoMend : PySem.W.hasDictIn K C_NoMend = true) (ds_NoMend : PySem.W.subIn K (.ref C_NoMend) (.ref C_NoMend) = some true)
    (db_Clash : PySem.W.subIn K (.ref C_Clash) (.type "BaseException") = some true) (dt_Clash : PySem.W.typeIn K (.ref C_Clash) = some (.type "type")) (dd_Clash : PySem.W.hasDictIn K C_Clash = true) (ds_Clash : PySem.W.subIn K (.ref C_Clash) (.ref C_Clash) = some true)
    (db_NoEdit : PySem.W.subIn K (.ref C_NoEdit) (.type "BaseException") = some true) (dt_NoEdit : PySem.W.typeIn K (.ref C_NoEdit) = some (.type "type")) (dd_NoEdit : PySem.W.hasDictIn K C_NoEdit = true) (ds_NoEdit : PySem.W.subIn K (.ref C_NoEdit) (.ref C_NoEdit) = some true)
    (db_TooGreat : PySem.W.subIn K (.ref C_TooGreat) (.type "BaseException") = some true) (dt_TooGreat : PySem.W.typeIn K (.ref C_TooGreat) = some (.type "type")) (dd_TooGreat : PySem.W.hasDictIn K C_TooGreat = true) (ds_TooGreat : PySem.W.subIn K (.ref C_TooGreat) (.ref C_TooGreat) = some true)
    (db_NoText : PySem.W.subIn K (.ref C_NoText) (.type "BaseException") = some true) (dt_NoText : PySem.W.typeIn K (.ref C_NoText) = some (.type "type")) (dd_NoText : PySem.W.hasDictIn K C_NoText = true) (ds_NoText : PySem.W.subIn K (.ref C_NoText) (.ref C_NoText) = some true)
    (m_TooGreat_MenderError : PySem.W.subIn K (.ref C_TooGreat) (.ref C_MenderError) = some true)
    (m_TooGreat_NoPlace : PySem.W.subIn K (.ref C_TooGreat) (.ref C_NoPlace) = some false)
    (m_TooGreat_NoName : PySem.W.subIn K (.ref C_TooGreat) (.ref C_NoName) = some false)
    (m_TooGreat_NotWhole : PySem.W.subIn K (.ref C_TooGreat) (.ref C_NotWhole) = some false)
    (m_TooGreat_NoMend : PySem.W.subIn K (.ref C_TooGreat) (.ref C_NoMend) = some false)
    (m_TooGreat_Clash : PySem.W.subIn K (.ref C_TooGreat) (.ref C_Clash) = some false)
    (m_TooGreat_NoEdit : PySem.W.subIn K (.ref C_TooGreat) (.ref C_NoEdit) = some false)
    (m_TooGreat_TooGreat : PySem.W.subIn K (.ref C_TooGreat) (.ref C_TooGreat) = some true)
    (m_TooGreat_NoText : PySem.W.subIn K (.ref C_TooGreat) (.ref C_NoText) = some false)
    (m_NoText_MenderError : PySem.W.subIn K (.ref C_NoText) (.ref C_MenderError) = some true)
    (m_NoText_NoPlace : PySem.W.subIn K (.ref C_NoText) (.ref C_NoPlace) = some false)
    (m_NoText_NoName : PySem.W.subIn K (.ref C_NoText) (.ref C_NoName) = some false)
    (m_NoText_NotWhole : PySem.W.subIn K (.ref C_NoText) (.ref C_NotWhole) = some false)
    (m_NoText_NoMend : PySem.W.subIn K (.ref C_NoText) (.ref C_NoMend) = some false)
    (m_NoText_Clash : PySem.W.subIn K (.ref C_NoText) (.ref C_Clash) = some false)
    (m_NoText_NoEdit : PySem.W.subIn K (.ref C_NoText) (.ref C_NoEdit) = some false)
    (m_NoText_TooGreat : PySem.W.subIn K (.ref C_NoText) (.ref C_TooGreat) = some false)
    (m_NoText_NoText : PySem.W.subIn K (.ref C_NoText) (.ref C_NoText) = some true)
    (m_NoEdit_MenderError : PySem.W.subIn K (.ref C_NoEdit) (.ref C_MenderError) = some true)
    (m_NoEdit_NoPlace : PySem.W.subIn K (.ref C_NoEdit) (.ref C_NoPlace) = some false)
    (m_NoEdit_NoName : PySem.W.subIn K (.ref C_NoEdit) (.ref C_NoName) = some false)
    (m_NoEdit_NotWhole : PySem.W.subIn K (.ref C_NoEdit) (.ref C_NotWhole) = some false)
    (m_NoEdit_NoMend : PySem.W.subIn K (.ref C_NoEdit) (.ref C_NoMend) = some false)
    (m_NoEdit_Clash : PySem.W.subIn K (.ref C_NoEdit) (.ref C_Clash) = some false)
    (m_NoEdit_NoEdit : PySem.W.subIn K (.ref C_NoEdit) (.ref C_NoEdit) = some true)
    (m_NoEdit_TooGreat : PySem.W.subIn K (.ref C_NoEdit) (.ref C_TooGreat) = some false)
    (m_NoEdit_NoText : PySem.W.subIn K (.ref C_NoEdit) (.ref C_NoText) = some false)
    (m_Clash_MenderError : PySem.W.subIn K (.ref C_Clash) (.ref C_MenderError) = some true)
    (m_Clash_NoPlace : PySem.W.subIn K (.ref C_Clash) (.ref C_NoPlace) = some false)
    (m_Clash_NoName : PySem.W.subIn K (.ref C_Clash) (.ref C_NoName) = some false)
    (m_Clash_NotWhole : PySem.W.subIn K (.ref C_Clash) (.ref C_NotWhole) = some false)
    (m_Clash_NoMend : PySem.W.subIn K (.ref C_Clash) (.ref C_NoMend) = some false)
    (m_Clash_Clash : PySem.W.subIn K (.ref C_Clash) (.ref C_Clash) = some true)
    (m_Clash_NoEdit : PySem.W.subIn K (.ref C_Clash) (.ref C_NoEdit) = some false)
    (m_Clash_TooGreat : PySem.W.subIn K (.ref C_Clash) (.ref C_TooGreat) = some false)
    (m_Clash_NoText : PySem.W.subIn K (.ref C_Clash) (.ref C_NoText) = some false)
    (m_TooGreat_ValueError : PySem.W.subIn K (.ref C_TooGreat) (.type "ValueError") = some true)
    (m_NoText_ValueError : PySem.W.subIn K (.ref C_NoText) (.type "ValueError") = some true)
    (m_NoEdit_ValueError : PySem.W.subIn K (.ref C_NoEdit) (.type "ValueError") = some true)
    (m_Clash_ValueError : PySem.W.subIn K (.ref C_Clash) (.type "ValueError") = some true)
    : ∃ fd : FuncData, (∀ (s : Shared) (u : Value), BindsTo s fd ⟨[u], []⟩ [("_law_script", u)]) ∧ ∀ base : Heap, K.In base → base.Ns mainGlobals mg → FnOk l.prog w K mg base (L2.CX l.prog w) 7 fa fd ["_law_script"] (spOf K lawS) := by
  have e := hfa.symm.trans (PySem.W.mg_of X G a21)
  cases e
  have T : Txt K mg C_TooGreat C_NoText C_NoEdit C_Clash C_MenderError C_NoPlace C_NoName C_NotWhole C_NoMend := ⟨PySem.W.mg_none_of X G z_len, ⟨_, PySem.W.mg_of X G g_MOST_SIGNS_signs⟩, ⟨PySem.W.mg_of X G xa_TooGreat, xq_TooGreat, xk_TooGreat, xb_TooGreat, xt_TooGreat⟩, ⟨_, PySem.W.mg_of X G g_LETTERS⟩, ⟨_, PySem.W.mg_of X G g_FIGURES⟩, ⟨_, PySem.W.mg_of X G g_GREAT⟩, ⟨_, PySem.W.mg_of X G g_MARKS⟩, ⟨PySem.W.mg_of X G xa_NoText, xq_NoText, xk_NoText, xb_NoText, xt_NoText⟩, PySem.W.mg_none_of X G z_isinstance, PySem.W.mg_none_of X G z_str, PySem.W.mg_none_of X G z_int, PySem.W.mg_none_of X G z_bool, PySem.W.mg_of X G na_MenderError, ⟨PySem.W.mg_of X G xa_NoEdit, xq_NoEdit, xk_NoEdit, xb_NoEdit, xt_NoEdit⟩, PySem.W.mg_none_of X G z_tuple, PySem.W.mg_none_of X G z_list, ⟨_, PySem.W.mg_of X G g_MOST_SIGNS_edits⟩, ⟨fI_Clash, _, fun_mk (st := i_Clash) lI_Clash cI_Clash kI_Clash, ⟨⟨_, _, _, _, _, _, _, _, _, _, _, _, _, _, _, oc_Clash, ov_Clash⟩, os_Clash, ob_Clash, ot_Clash, okp_Clash⟩, on1_Clash, on2_Clash, fi_Clash, ti_Clash, (fun_mk (st := i_Clash) lI_Clash cI_Clash kI_Clash).binds (fun _ _ _ _ _ _ us hl => match us, hl with | [_, _, _], _ => rfl), PySem.W.mg_of X G na_Clash⟩, ⟨PySem.W.mg_of X G na_MenderError, yr_MenderError, ys_MenderError, yv_MenderError⟩, PySem.W.mg_none_of X G z_sum, PySem.W.mg_none_of X G z_range, PySem.W.mg_none_of X G z_min, PySem.W.mg_none_of X G z_ValueError, PySem.W.mg_of X G na_NoPlace, PySem.W.mg_of X G na_NoName, PySem.W.mg_of X G na_NotWhole, PySem.W.mg_of X G na_NoMend, PySem.W.mg_of X G na_Clash, PySem.W.mg_of X G na_NoEdit, PySem.W.mg_of X G na_TooGreat, PySem.W.mg_of X G na_NoText, PySem.W.mg_none_of X G z_max, ⟨fa_Clash, fb_Clash, fc_Clash, fd_Clash⟩, xn_Clash_other, xn_Clash_one, PySem.W.mg_none_of X G z_sorted, ⟨mx_ref ⟨ea_TooGreat, eb_TooGreat, ei_TooGreat, ed_TooGreat, ee_TooGreat, e_sp, e_tk, eh_TooGreat⟩ ⟨db_MenderError, dt_MenderError, dd_MenderError, ds_MenderError⟩ m_TooGreat_MenderError, mx_ref ⟨ea_TooGreat, eb_TooGreat, ei_TooGreat, ed_TooGreat, ee_TooGreat, e_sp, e_tk, eh_TooGreat⟩ ⟨db_NoPlace, dt_NoPlace, dd_NoPlace, ds_NoPlace⟩ m_TooGreat_NoPlace, mx_ref ⟨ea_TooGreat, eb_TooGreat, ei_TooGreat, ed_TooGreat, ee_TooGreat, e_sp, e_tk, eh_TooGreat⟩ ⟨db_NoName, dt_NoName, dd_NoName, ds_NoName⟩ m_TooGreat_NoName, mx_ref ⟨ea_TooGreat, eb_TooGreat, ei_TooGreat, ed_TooGreat, ee_TooGreat, e_sp, e_tk, eh_TooGreat⟩ ⟨db_NotWhole, dt_NotWhole, dd_NotWhole, ds_NotWhole⟩ m_TooGreat_NotWhole, mx_ref ⟨ea_TooGreat, eb_TooGreat, ei_TooGreat, ed_TooGreat, ee_TooGreat, e_sp, e_tk, eh_TooGreat⟩ ⟨db_NoMend, dt_NoMend, dd_NoMend, ds_NoMend⟩ m_TooGreat_NoMend, mx_ref ⟨ea_TooGreat, eb_TooGreat, ei_TooGreat, ed_TooGreat, ee_TooGreat, e_sp, e_tk, eh_TooGreat⟩ ⟨db_Clash, dt_Clash, dd_Clash, ds_Clash⟩ m_TooGreat_Clash, mx_ref ⟨ea_TooGreat, eb_TooGreat, ei_TooGreat, ed_TooGreat, ee_TooGreat, e_sp, e_tk, eh_TooGreat⟩ ⟨db_NoEdit, dt_NoEdit, dd_NoEdit, ds_NoEdit⟩ m_TooGreat_NoEdit, mx_ref ⟨ea_TooGreat, eb_TooGreat, ei_TooGreat, ed_TooGreat, ee_TooGreat, e_sp, e_tk, eh_TooGreat⟩ ⟨db_TooGreat, dt_TooGreat, dd_TooGreat, ds_TooGreat⟩ m_TooGreat_TooGreat, mx_ref ⟨ea_TooGreat, eb_TooGreat, ei_TooGreat, ed_TooGreat, ee_TooGreat, e_sp, e_tk, eh_TooGreat⟩ ⟨db_NoText, dt_NoText, dd_NoText, ds_NoText⟩ m_TooGreat_NoText, mx_ref ⟨ea_NoText, eb_NoText, ei_NoText, ed_NoText, ee_NoText, e_sp, e_tk, eh_NoText⟩ ⟨db_MenderError, dt_MenderError, dd_MenderError, ds_MenderError⟩ m_NoText_MenderError, mx_ref ⟨ea_NoText, eb_NoText, ei_NoText, ed_NoText, ee_NoText, e_sp, e_tk, eh_NoText⟩ ⟨db_NoPlace, dt_NoPlace, dd_NoPlace, ds_NoPlace⟩ m_NoText_NoPlace, mx_ref ⟨ea_NoText, eb_NoText, ei_NoText, ed_NoText, ee_NoText, e_sp, e_tk, eh_NoText⟩ ⟨db_NoName, dt_NoName, dd_NoName, ds_NoName⟩ m_NoText_NoName, mx_ref ⟨ea_NoText, eb_NoText, ei_NoText, ed_NoText, ee_NoText, e_sp, e_tk, eh_NoText⟩ ⟨db_NotWhole, dt_NotWhole, dd_NotWhole, ds_NotWhole⟩ m_NoText_NotWhole, mx_ref ⟨ea_NoText, eb_NoText, ei_NoText, ed_NoText, ee_NoText, e_sp, e_tk, eh_NoText⟩ ⟨db_NoMend, dt_NoMend, dd_NoMend, ds_NoMend⟩ m_NoText_NoMend, mx_ref ⟨ea_NoText, eb_NoText, ei_NoText, ed_NoText, ee_NoText, e_sp, e_tk, eh_NoText⟩ ⟨db_Clash, dt_Clash, dd_Clash, ds_Clash⟩ m_NoText_Clash, mx_ref ⟨ea_NoText, eb_NoText, ei_NoText, ed_NoText, ee_NoText, e_sp, e_tk, eh_NoText⟩ ⟨db_NoEdit, dt_NoEdit, dd_NoEdit, ds_NoEdit⟩ m_NoText_NoEdit, mx_ref ⟨ea_NoText, eb_NoText, ei_NoText, ed_NoText, ee_NoText, e_sp, e_tk, eh_NoText⟩ ⟨db_TooGreat, dt_TooGreat, dd_TooGreat, ds_TooGreat⟩ m_NoText_TooGreat, mx_ref ⟨ea_NoText, eb_NoText, ei_NoText, ed_NoText, ee_NoText, e_sp, e_tk, eh_NoText⟩ ⟨db_NoText, dt_NoText, dd_NoText, ds_NoText⟩ m_NoText_NoText, mx_ref ⟨ea_NoEdit, eb_NoEdit, ei_NoEdit, ed_NoEdit, ee_NoEdit, e_sp, e_tk, eh_NoEdit⟩ ⟨db_MenderError, dt_MenderError, dd_MenderError, ds_MenderError⟩ m_NoEdit_MenderError, mx_ref ⟨ea_NoEdit, eb_NoEdit, ei_NoEdit, ed_NoEdit, ee_NoEdit, e_sp, e_tk, eh_NoEdit⟩ ⟨db_NoPlace, dt_NoPlace, dd_NoPlace, ds_NoPlace⟩ m_NoEdit_NoPlace, mx_ref ⟨ea_NoEdit, eb_NoEdit, ei_NoEdit, ed_NoEdit, ee_NoEdit, e_sp, e_tk, eh_NoEdit⟩ ⟨db_NoName, dt_NoName, dd_NoName, ds_NoName⟩ m_NoEdit_NoName, mx_ref ⟨ea_NoEdit, eb_NoEdit, ei_NoEdit, ed_NoEdit, ee_NoEdit, e_sp, e_tk, eh_NoEdit⟩ ⟨db_NotWhole, dt_NotWhole, dd_NotWhole, ds_NotWhole⟩ m_NoEdit_NotWhole, mx_ref ⟨ea_NoEdit, eb_NoEdit, ei_NoEdit, ed_NoEdit, ee_NoEdit, e_sp, e_tk, eh_NoEdit⟩ ⟨db_NoMend, dt_NoMend, dd_NoMend, ds_NoMend⟩ m_NoEdit_NoMend, mx_ref ⟨ea_NoEdit, eb_NoEdit, ei_NoEdit, ed_NoEdit, ee_NoEdit, e_sp, e_tk, eh_NoEdit⟩ ⟨db_Clash, dt_Clash, dd_Clash, ds_Clash⟩ m_NoEdit_Clash, mx_ref ⟨ea_NoEdit, eb_NoEdit, ei_NoEdit, ed_NoEdit, ee_NoEdit, e_sp, e_tk, eh_NoEdit⟩ ⟨db_NoEdit, dt_NoEdit, dd_NoEdit, ds_NoEdit⟩ m_NoEdit_NoEdit, mx_ref ⟨ea_NoEdit, eb_NoEdit, ei_NoEdit, ed_NoEdit, ee_NoEdit, e_sp, e_tk, eh_NoEdit⟩ ⟨db_TooGreat, dt_TooGreat, dd_TooGreat, ds_TooGreat⟩ m_NoEdit_TooGreat, mx_ref ⟨ea_NoEdit, eb_NoEdit, ei_NoEdit, ed_NoEdit, ee_NoEdit, e_sp, e_tk, eh_NoEdit⟩ ⟨db_NoText, dt_NoText, dd_NoText, ds_NoText⟩ m_NoEdit_NoText, mx_ref ⟨ea_Clash, eb_Clash, ei_Clash, ed_Clash, ee_Clash, e_sp, e_tk, eh_Clash⟩ ⟨db_MenderError, dt_MenderError, dd_MenderError, ds_MenderError⟩ m_Clash_MenderError, mx_ref ⟨ea_Clash, eb_Clash, ei_Clash, ed_Clash, ee_Clash, e_sp, e_tk, eh_Clash⟩ ⟨db_NoPlace, dt_NoPlace, dd_NoPlace, ds_NoPlace⟩ m_Clash_NoPlace, mx_ref ⟨ea_Clash, eb_Clash, ei_Clash, ed_Clash, ee_Clash, e_sp, e_tk, eh_Clash⟩ ⟨db_NoName, dt_NoName, dd_NoName, ds_NoName⟩ m_Clash_NoName, mx_ref ⟨ea_Clash, eb_Clash, ei_Clash, ed_Clash, ee_Clash, e_sp, e_tk, eh_Clash⟩ ⟨db_NotWhole, dt_NotWhole, dd_NotWhole, ds_NotWhole⟩ m_Clash_NotWhole, mx_ref ⟨ea_Clash, eb_Clash, ei_Clash, ed_Clash, ee_Clash, e_sp, e_tk, eh_Clash⟩ ⟨db_NoMend, dt_NoMend, dd_NoMend, ds_NoMend⟩ m_Clash_NoMend, mx_ref ⟨ea_Clash, eb_Clash, ei_Clash, ed_Clash, ee_Clash, e_sp, e_tk, eh_Clash⟩ ⟨db_Clash, dt_Clash, dd_Clash, ds_Clash⟩ m_Clash_Clash, mx_ref ⟨ea_Clash, eb_Clash, ei_Clash, ed_Clash, ee_Clash, e_sp, e_tk, eh_Clash⟩ ⟨db_NoEdit, dt_NoEdit, dd_NoEdit, ds_NoEdit⟩ m_Clash_NoEdit, mx_ref ⟨ea_Clash, eb_Clash, ei_Clash, ed_Clash, ee_Clash, e_sp, e_tk, eh_Clash⟩ ⟨db_TooGreat, dt_TooGreat, dd_TooGreat, ds_TooGreat⟩ m_Clash_TooGreat, mx_ref ⟨ea_Clash, eb_Clash, ei_Clash, ed_Clash, ee_Clash, e_sp, e_tk, eh_Clash⟩ ⟨db_NoText, dt_NoText, dd_NoText, ds_NoText⟩ m_Clash_NoText, mx_ty ⟨ea_TooGreat, eb_TooGreat, ei_TooGreat, ed_TooGreat, ee_TooGreat, e_sp, e_tk, eh_TooGreat⟩ (by decide +kernel) m_TooGreat_ValueError, mx_ty ⟨ea_NoText, eb_NoText, ei_NoText, ed_NoText, ee_NoText, e_sp, e_tk, eh_NoText⟩ (by decide +kernel) m_NoText_ValueError, mx_ty ⟨ea_NoEdit, eb_NoEdit, ei_NoEdit, ed_NoEdit, ee_NoEdit, e_sp, e_tk, eh_NoEdit⟩ (by decide +kernel) m_NoEdit_ValueError, mx_ty ⟨ea_Clash, eb_Clash, ei_Clash, ed_Clash, ee_Clash, e_sp, e_tk, eh_Clash⟩ (by decide +kernel) m_Clash_ValueError⟩⟩
  have D_need_text : Dfd K mg "need_text" ["text"] s_need_text := dfd_mk X G a1 l1 c1 k1 (fun _ _ _ _ _ _ us hl => match us, hl with | [_], _ => rfl)
  have D_is_place : Dfd K mg "is_place" ["thing", "most"] s_is_place := dfd_mk X G a2 l2 c2 k2 (fun _ _ _ _ _ _ us hl => match us, hl with | [_, _], _ => rfl)
  have D_is_text : Dfd K mg "is_text" ["thing"] s_is_text := dfd_mk X G a3 l3 c3 k3 (fun _ _ _ _ _ _ us hl => match us, hl with | [_], _ => rfl)
  have D_need_edits : Dfd K mg "need_edits" ["text", "edits"] s_need_edits := dfd_mk X G a4 l4 c4 k4 (fun _ _ _ _ _ _ us hl => match us, hl with | [_, _], _ => rfl)
  have D_done : Dfd K mg "done" ["text", "edits"] s_done := dfd_mk X G a5 l5 c5 k5 (fun _ _ _ _ _ _ us hl => match us, hl with | [_, _], _ => rfl)
  have D_grown : Dfd K mg "grown" ["edit"] s_grown := dfd_mk X G a6 l6 c6 k6 (fun _ _ _ _ _ _ us hl => match us, hl with | [_], _ => rfl)
  have D_touch : Dfd K mg "touch" ["one", "other"] s_touch := dfd_mk X G a7 l7 c7 k7 (fun _ _ _ _ _ _ us hl => match us, hl with | [_, _], _ => rfl)
  have D_need_apart : Dfd K mg "need_apart" ["edits", "others"] s_need_apart := dfd_mk X G a8 l8 c8 k8 (fun _ _ _ _ _ _ us hl => match us, hl with | [_, _], _ => rfl)
  have D_moved : Dfd K mg "moved" ["text", "edits", "others"] s_moved := dfd_mk X G a9 l9 c9 k9 (fun _ _ _ _ _ _ us hl => match us, hl with | [_, _, _], _ => rfl)
  have D_law_cell_at : Dfd K mg "_law_cell_at" ["_law_script", "_law_k"] s_law_cell_at := dfd_mk X G a10 l10 c10 k10 (fun _ _ _ _ _ _ us hl => match us, hl with | [_, _], _ => rfl)
  have D_law_line : Dfd K mg "_law_line" ["_law_cell"] s_law_line := dfd_mk X G a11 l11 c11 k11 (fun _ _ _ _ _ _ us hl => match us, hl with | [_], _ => rfl)
  have D_law_text : Dfd K mg "_law_text" ["_law_script", "_law_at"] s_law_text := dfd_mk X G a12 l12 c12 k12 (fun _ _ _ _ _ _ us hl => match us, hl with | [_, _], _ => rfl)
  have D_law_edits : Dfd K mg "_law_edits" ["_law_script", "_law_at", "_law_text_here"] s_law_edits := dfd_mk X G a13 l13 c13 k13 (fun _ _ _ _ _ _ us hl => match us, hl with | [_, _, _], _ => rfl)
  have D_law_behind : Dfd K mg "_law_behind" ["_law_text_here", "_law_edits_here"] s_law_behind := dfd_mk X G a14 l14 c14 k14 (fun _ _ _ _ _ _ us hl => match us, hl with | [_, _], _ => rfl)
  have D_law_alone : Dfd K mg "_law_alone" ["_law_e", "_law_due"] s_law_alone := dfd_mk X G a15 l15 c15 k15 (fun _ _ _ _ _ _ us hl => match us, hl with | [_, _], _ => rfl)
  have D_law_near : Dfd K mg "_law_near" ["_law_script", "_law_text_here", "_law_edits_here"] s_law_near := dfd_mk X G a16 l16 c16 k16 (fun _ _ _ _ _ _ us hl => match us, hl with | [_, _, _], _ => rfl)
  have D_law_long : Dfd K mg "_law_long" ["_law_text_here", "_law_edits_here", "_law_cell"] s_law_long := dfd_mk X G a17 l17 c17 k17 (fun _ _ _ _ _ _ us hl => match us, hl with | [_, _, _], _ => rfl)
  have D_law_clash : Dfd K mg "_law_clash" ["_law_one", "_law_other"] s_law_clash := dfd_mk X G a18 l18 c18 k18 (fun _ _ _ _ _ _ us hl => match us, hl with | [_, _], _ => rfl)
  have D_law_first : Dfd K mg "_law_first" ["_law_edits_here", "_law_others"] s_law_first := dfd_mk X G a19 l19 c19 k19 (fun _ _ _ _ _ _ us hl => match us, hl with | [_, _], _ => rfl)
  have D_law_refused : Dfd K mg "_law_refused" ["_law_text_here", "_law_edits_here", "_law_others", "_law_due"] s_law_refused := dfd_mk X G a20 l20 c20 k20 (fun _ _ _ _ _ _ us hl => match us, hl with | [_, _, _, _], _ => rfl)
  refine ⟨PySem.W.fnOf "law" "law" (defArgs s_law) (defBody s_law) (defScope s_law) .none kV21 dc21 pm21 an21 cd21 ct21, fun s u => .of_eq rfl, fun base _ _ => ?_⟩
  have c_grown : Cal l.prog w K mg base 1 "grown" ["edit"] S_grown := ok_grown T D_grown
  have c_is_place : Cal l.prog w K mg base 1 "is_place" ["thing", "most"] S_is_place := ok_is_place T D_is_place
  have c_need_text : Cal l.prog w K mg base 1 "need_text" ["text"] (S_need_text C_NoText C_TooGreat) := ok_need_text T D_need_text
  have c_is_text : Cal l.prog w K mg base 2 "is_text" ["thing"] S_is_text := ok_is_text T D_is_text c_need_text
  have c_need_edits : Cal l.prog w K mg base 3 "need_edits" ["text", "edits"] (S_need_edits C_NoText C_TooGreat C_NoEdit) := ok_need_edits T D_need_edits c_is_place c_is_text c_need_text
  have c_done : Cal l.prog w K mg base 4 "done" ["text", "edits"] (S_done C_NoText C_TooGreat C_NoEdit) := ok_done T D_done c_need_edits
  have c_touch : Cal l.prog w K mg base 1 "touch" ["one", "other"] S_touch := ok_touch T D_touch
  have c_need_apart : Cal l.prog w K mg base 3 "need_apart" ["edits", "others"] (S_need_apart C_Clash) := ok_need_apart T D_need_apart c_touch
  have c_moved : Cal l.prog w K mg base 5 "moved" ["text", "edits", "others"] (S_moved C_NoText C_TooGreat C_NoEdit C_Clash) := ok_moved T D_moved c_grown c_done c_need_apart c_need_edits
  have c_law_behind : Cal l.prog w K mg base 1 "_law_behind" ["_law_text_here", "_law_edits_here"] S_law_behind := ok_law_behind T D_law_behind
  have c_law_alone : CalT l.prog w K mg base 1 "_law_alone" ["_law_e", "_law_due"] (S_law_alone C_TooGreat C_Clash) := ok_law_alone T D_law_alone
  have c_law_refused : Cal l.prog w K mg base 6 "_law_refused" ["_law_text_here", "_law_edits_here", "_law_others", "_law_due"] S_law_refused := ok_law_refused T D_law_refused c_moved c_law_alone
  have c_law_clash : Cal l.prog w K mg base 1 "_law_clash" ["_law_one", "_law_other"] S_law_clash := ok_law_clash T D_law_clash
  have c_law_first : Cal l.prog w K mg base 2 "_law_first" ["_law_edits_here", "_law_others"] S_law_first := ok_law_first T D_law_first c_law_clash
  have c_law_cell_at : Cal l.prog w K mg base 1 "_law_cell_at" ["_law_script", "_law_k"] S_law_cell_at := ok_law_cell_at T D_law_cell_at
  have c_law_long : Cal l.prog w K mg base 1 "_law_long" ["_law_text_here", "_law_edits_here", "_law_cell"] S_law_long := ok_law_long T D_law_long
  have c_law_edits : Cal l.prog w K mg base 2 "_law_edits" ["_law_script", "_law_at", "_law_text_here"] S_law_edits := ok_law_edits T D_law_edits c_law_cell_at
  have c_law_near : Cal l.prog w K mg base 3 "_law_near" ["_law_script", "_law_text_here", "_law_edits_here"] S_law_near := ok_law_near T D_law_near c_law_edits c_law_cell_at
  have c_law_line : Cal l.prog w K mg base 1 "_law_line" ["_law_cell"] S_law_line := ok_law_line T D_law_line
  have c_law_text : Cal l.prog w K mg base 2 "_law_text" ["_law_script", "_law_at"] S_law_text := ok_law_text T D_law_text c_law_cell_at c_law_line
  exact ok_law T (fun_mk (st := s_law) l21 c21 k21) c_moved c_done c_law_behind c_law_refused c_law_first c_law_cell_at c_law_long c_law_near c_law_edits c_law_text
end K43
open PySem PySem.W PyProof.Rows
set_option maxRecDepth 100000 in
set_option maxHeartbeats 0 in
theorem PySem.Challenge.cw_mender_k43_moved_over_others_holds : PySem.Challenge.rw_mender_k43_moved_over_others.Holds := by
  w_on; o_law; k_head; (case hw => w_witness2)
  k_fill
  refine PW.law_of (l := PySem.Challenge.rw_mender_k43_moved_over_others) (k := 7) (x := "_law_script") rfl rfl ⟨rfl, by decide, by decide⟩ (fun w h Y => PySem.W.kIn_of Y) ?F
  case F =>
    intro w mg fa h KX G hmg
    refine' K43.all_mk KX G hmg ?a1 ?l1 ?c1 ?k1 ?a2 ?l2 ?c2 ?k2 ?a3 ?l3 ?c3 ?k3 ?a4 ?l4 ?c4 ?k4 ?a5 ?l5 ?c5 ?k5 ?a6 ?l6 ?c6 ?k6 ?a7 ?l7 ?c7 ?k7 ?a8 ?l8 ?c8 ?k8 ?a9 ?l9 ?c9 ?k9 ?a10 ?l10 ?c10 ?k10 ?a11 ?l11 ?c11 ?k11 ?a12 ?l12 ?c12 ?k12 ?a13 ?l13 ?c13 ?k13 ?a14 ?l14 ?c14 ?k14 ?a15 ?l15 ?c15 ?k15 ?a16 ?l16 ?c16 ?k16 ?a17 ?l17 ?c17 ?k17 ?a18 ?l18 ?c18 ?k18 ?a19 ?l19 ?c19 ?k19 ?a20 ?l20 ?c20 ?k20 ?a21 ?l21 ?c21 ?k21 ?z_len ?g_MOST_SIGNS_signs ?xa_TooGreat ?xq_TooGreat ?xk_TooGreat ?xb_TooGreat ?xt_TooGreat ?g_LETTERS ?g_FIGURES ?g_GREAT ?g_MARKS ?xa_NoText ?xq_NoText ?xk_NoText ?xb_NoText ?xt_NoText ?z_isinstance ?z_str ?z_int ?z_bool ?na_MenderError ?xa_NoEdit ?xq_NoEdit ?xk_NoEdit ?xb_NoEdit ?xt_NoEdit ?z_tuple ?z_list ?g_MOST_SIGNS_edits ?na_Clash ?fi_Clash ?lI_Clash ?cI_Clash ?kI_Clash ?ti_Clash ?oc_Clash ?ov_Clash ?os_Clash ?ob_Clash ?ot_Clash ?okp_Clash ?on1_Clash ?on2_Clash ?yr_MenderError ?ys_MenderError ?yv_MenderError ?z_sum ?z_range ?z_min ?z_ValueError ?na_NoPlace ?na_NoName ?na_NotWhole ?na_NoMend ?na_NoEdit ?na_TooGreat ?na_NoText ?z_max ?fa_Clash ?fb_Clash ?fc_Clash ?fd_Clash ?xn_Clash_other ?xn_Clash_one ?z_sorted ?e_sp ?e_tk ?ea_TooGreat ?eb_TooGreat ?ed_TooGreat ?ee_TooGreat ?eh_TooGreat ?ei_TooGreat ?ea_NoText ?eb_NoText ?ed_NoText ?ee_NoText ?eh_NoText ?ei_NoText ?ea_NoEdit ?eb_NoEdit ?ed_NoEdit ?ee_NoEdit ?eh_NoEdit ?ei_NoEdit ?ea_Clash ?eb_Clash ?ed_Clash ?ee_Clash ?eh_Clash ?ei_Clash ?db_MenderError ?dt_MenderError ?dd_MenderError ?ds_MenderError ?db_NoPlace ?dt_NoPlace ?dd_NoPlace ?ds_NoPlace ?db_NoName ?dt_NoName ?dd_NoName ?ds_NoName ?db_NotWhole ?dt_NotWhole ?dd_NotWhole ?ds_NotWhole ?db_NoMend ?dt_NoMend ?dd_NoMend ?ds_NoMend ?db_Clash ?dt_Clash ?dd_Clash ?ds_Clash ?db_NoEdit ?dt_NoEdit ?dd_NoEdit ?ds_NoEdit ?db_TooGreat ?dt_TooGreat ?dd_TooGreat ?ds_TooGreat ?db_NoText ?dt_NoText ?dd_NoText ?ds_NoText ?m_TooGreat_MenderError ?m_TooGreat_NoPlace ?m_TooGreat_NoName ?m_TooGreat_NotWhole ?m_TooGreat_NoMend ?m_TooGreat_Clash ?m_TooGreat_NoEdit ?m_TooGreat_TooGreat ?m_TooGreat_NoText ?m_NoText_MenderError ?m_NoText_NoPlace ?m_NoText_NoName ?m_NoText_NotWhole ?m_NoText_NoMend ?m_NoText_Clash ?m_NoText_NoEdit ?m_NoText_TooGreat ?m_NoText_NoText ?m_NoEdit_MenderError ?m_NoEdit_NoPlace ?m_NoEdit_NoName ?m_NoEdit_NotWhole ?m_NoEdit_NoMend ?m_NoEdit_Clash ?m_NoEdit_NoEdit ?m_NoEdit_TooGreat ?m_NoEdit_NoText ?m_Clash_MenderError ?m_Clash_NoPlace ?m_Clash_NoName ?m_Clash_NotWhole ?m_Clash_NoMend ?m_Clash_Clash ?m_Clash_NoEdit ?m_Clash_TooGreat ?m_Clash_NoText ?m_TooGreat_ValueError ?m_NoText_ValueError ?m_NoEdit_ValueError ?m_Clash_ValueError
    (case a1 => k_is)
    (case l1 => k_is)
    (case c1 => k_is)
    (case k1 => k_is)
    (case a2 => k_is)
    (case l2 => k_is)
    (case c2 => k_is)
    (case k2 => k_is)
    (case a3 => k_is)
    (case l3 => k_is)
    (case c3 => k_is)
    (case k3 => k_is)
    (case a4 => k_is)
    (case l4 => k_is)
    (case c4 => k_is)
    (case k4 => k_is)
    (case a5 => k_is)
    (case l5 => k_is)
    (case c5 => k_is)
    (case k5 => k_is)
    (case a6 => k_is)
    (case l6 => k_is)
    (case c6 => k_is)
    (case k6 => k_is)
    (case a7 => k_is)
    (case l7 => k_is)
    (case c7 => k_is)
    (case k7 => k_is)
    (case a8 => k_is)
    (case l8 => k_is)
    (case c8 => k_is)
    (case k8 => k_is)
    (case a9 => k_is)
    (case l9 => k_is)
    (case c9 => k_is)
    (case k9 => k_is)
    (case a10 => k_is)
    (case l10 => k_is)
    (case c10 => k_is)
    (case k10 => k_is)
    (case a11 => k_is)
    (case l11 => k_is)
    (case c11 => k_is)
    (case k11 => k_is)
    (case a12 => k_is)
    (case l12 => k_is)
    (case c12 => k_is)
    (case k12 => k_is)
    (case a13 => k_is)
    (case l13 => k_is)
    (case c13 => k_is)
    (case k13 => k_is)
    (case a14 => k_is)
    (case l14 => k_is)
    (case c14 => k_is)
    (case k14 => k_is)
    (case a15 => k_is)
    (case l15 => k_is)
    (case c15 => k_is)
    (case k15 => k_is)
    (case a16 => k_is)
    (case l16 => k_is)
    (case c16 => k_is)
    (case k16 => k_is)
    (case a17 => k_is)
    (case l17 => k_is)
    (case c17 => k_is)
    (case k17 => k_is)
    (case a18 => k_is)
    (case l18 => k_is)
    (case c18 => k_is)
    (case k18 => k_is)
    (case a19 => k_is)
    (case l19 => k_is)
    (case c19 => k_is)
    (case k19 => k_is)
    (case a20 => k_is)
    (case l20 => k_is)
    (case c20 => k_is)
    (case k20 => k_is)
    (case a21 => k_is)
    (case l21 => k_is)
    (case c21 => k_is)
    (case k21 => k_is)
    (case z_len => k_is)
    (case g_MOST_SIGNS_signs => k_is)
    (case xa_TooGreat => k_is)
    (case xq_TooGreat => k_exc)
    (case xk_TooGreat => k_is)
    (case xb_TooGreat => k_is)
    (case xt_TooGreat => k_is)
    (case g_LETTERS => k_is)
    (case g_FIGURES => k_is)
    (case g_GREAT => k_is)
    (case g_MARKS => k_is)
    (case xa_NoText => k_is)
    (case xq_NoText => k_exc)
    (case xk_NoText => k_is)
    (case xb_NoText => k_is)
    (case xt_NoText => k_is)
    (case z_isinstance => k_is)
    (case z_str => k_is)
    (case z_int => k_is)
    (case z_bool => k_is)
    (case na_MenderError => k_is)
    (case xa_NoEdit => k_is)
    (case xq_NoEdit => k_exc)
    (case xk_NoEdit => k_is)
    (case xb_NoEdit => k_is)
    (case xt_NoEdit => k_is)
    (case z_tuple => k_is)
    (case z_list => k_is)
    (case g_MOST_SIGNS_edits => k_is)
    (case na_Clash => k_is)
    (case fi_Clash => k_is)
    (case lI_Clash => k_is)
    (case cI_Clash => k_is)
    (case kI_Clash => k_is)
    (case ti_Clash => k_is)
    (case oc_Clash => k_is)
    (case ov_Clash => (first | exact rfl | decide +kernel))
    (case os_Clash => k_is)
    (case ob_Clash => k_is)
    (case ot_Clash => k_is)
    (case okp_Clash => k_is)
    (case on1_Clash => k_is)
    (case on2_Clash => k_is)
    (case yr_MenderError => k_is)
    (case ys_MenderError => k_is)
    (case yv_MenderError => k_is)
    (case z_sum => k_is)
    (case z_range => k_is)
    (case z_min => k_is)
    (case z_ValueError => k_is)
    (case na_NoPlace => k_is)
    (case na_NoName => k_is)
    (case na_NotWhole => k_is)
    (case na_NoMend => k_is)
    (case na_NoEdit => k_is)
    (case na_TooGreat => k_is)
    (case na_NoText => k_is)
    (case z_max => k_is)
    (case fa_Clash => k_is)
    (case fb_Clash => k_is)
    (case fc_Clash => k_is)
    (case fd_Clash => k_is)
    (case xn_Clash_other => k_is)
    (case xn_Clash_one => k_is)
    (case z_sorted => k_is)
    (case e_sp => k_is)
    (case e_tk => k_is)
    (case ea_TooGreat => k_is)
    (case eb_TooGreat => k_is)
    (case ed_TooGreat => k_is)
    (case ee_TooGreat => k_is)
    (case eh_TooGreat => k_is)
    (case ei_TooGreat => k_is)
    (case ea_NoText => k_is)
    (case eb_NoText => k_is)
    (case ed_NoText => k_is)
    (case ee_NoText => k_is)
    (case eh_NoText => k_is)
    (case ei_NoText => k_is)
    (case ea_NoEdit => k_is)
    (case eb_NoEdit => k_is)
    (case ed_NoEdit => k_is)
    (case ee_NoEdit => k_is)
    (case eh_NoEdit => k_is)
    (case ei_NoEdit => k_is)
    (case ea_Clash => k_is)
    (case eb_Clash => k_is)
    (case ed_Clash => k_is)
    (case ee_Clash => k_is)
    (case eh_Clash => k_is)
    (case ei_Clash => k_is)
    (case db_MenderError => k_is)
    (case dt_MenderError => k_is)
    (case dd_MenderError => k_is)
    (case ds_MenderError => k_is)
    (case db_NoPlace => k_is)
    (case dt_NoPlace => k_is)
    (case dd_NoPlace => k_is)
    (case ds_NoPlace => k_is)
    (case db_NoName => k_is)
    (case dt_NoName => k_is)
    (case dd_NoName => k_is)
    (case ds_NoName => k_is)
    (case db_NotWhole => k_is)
    (case dt_NotWhole => k_is)
    (case dd_NotWhole => k_is)
    (case ds_NotWhole => k_is)
    (case db_NoMend => k_is)
    (case dt_NoMend => k_is)
    (case dd_NoMend => k_is)
    (case ds_NoMend => k_is)
    (case db_Clash => k_is)
    (case dt_Clash => k_is)
    (case dd_Clash => k_is)
    (case ds_Clash => k_is)
    (case db_NoEdit => k_is)
    (case dt_NoEdit => k_is)
    (case dd_NoEdit => k_is)
    (case ds_NoEdit => k_is)
    (case db_TooGreat => k_is)
    (case dt_TooGreat => k_is)
    (case dd_TooGreat => k_is)
    (case ds_TooGreat => k_is)
    (case db_NoText => k_is)
    (case dt_NoText => k_is)
    (case dd_NoText => k_is)
    (case ds_NoText => k_is)
    (case m_TooGreat_MenderError => k_is)
    (case m_TooGreat_NoPlace => k_is)
    (case m_TooGreat_NoName => k_is)
    (case m_TooGreat_NotWhole => k_is)
    (case m_TooGreat_NoMend => k_is)
    (case m_TooGreat_Clash => k_is)
    (case m_TooGreat_NoEdit => k_is)
    (case m_TooGreat_TooGreat => k_is)
    (case m_TooGreat_NoText => k_is)
    (case m_NoText_MenderError => k_is)
    (case m_NoText_NoPlace => k_is)
    (case m_NoText_NoName => k_is)
    (case m_NoText_NotWhole => k_is)
    (case m_NoText_NoMend => k_is)
    (case m_NoText_Clash => k_is)
    (case m_NoText_NoEdit => k_is)
    (case m_NoText_TooGreat => k_is)
    (case m_NoText_NoText => k_is)
    (case m_NoEdit_MenderError => k_is)
    (case m_NoEdit_NoPlace => k_is)
    (case m_NoEdit_NoName => k_is)
    (case m_NoEdit_NotWhole => k_is)
    (case m_NoEdit_NoMend => k_is)
    (case m_NoEdit_Clash => k_is)
    (case m_NoEdit_NoEdit => k_is)
    (case m_NoEdit_TooGreat => k_is)
    (case m_NoEdit_NoText => k_is)
    (case m_Clash_MenderError => k_is)
    (case m_Clash_NoPlace => k_is)
    (case m_Clash_NoName => k_is)
    (case m_Clash_NotWhole => k_is)
    (case m_Clash_NoMend => k_is)
    (case m_Clash_Clash => k_is)
    (case m_Clash_NoEdit => k_is)
    (case m_Clash_TooGreat => k_is)
    (case m_Clash_NoText => k_is)
    (case m_TooGreat_ValueError => k_is)
    (case m_NoText_ValueError => k_is)
    (case m_NoEdit_ValueError => k_is)
    (case m_Clash_ValueError => k_is)
