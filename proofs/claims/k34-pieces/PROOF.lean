import PyProof.Rows.All
import Wide.All
import OpenK.AllK
import Wide.FinOn
import PyProof.EqAt
import PyProof.EqKinds
import PyProof.TupleCall
import HandS.ForMost
import HandS.ForExc
import HandS.Evl
import HandS.Deep
import HandS.TupAny
import HandS.IsInst
import HandS.Replace
import HandS.ReplaceLit
import PyProof.ToksMono
import HandS.Dict
import HandS.More
import HandS.SortInts
import PyProof.StrOps2
import HandS.HotCalls
import HandS.ExcIs
import HandS.ExcField
import KE.KExcIs
import HandS.WordsExc
import HandS.Zip
import HandS.SetFor
import HandS.Conv
import HandS.SortKw
import PyProof.MinMaxWalk
import HandS.Style
import HandS.Defaults
import HandS.TryOnly
import HandS.Text
import KE.IntTextLaws
import HandS.CallSlots
import KE.KIntText
import HandS.Small
import PyProof.ZipIter
import PyProof.TypeOfCall
import HandS.CallLocal
import PySem.Challenge.RW_mender_k34_whole_nodes_by_pieces
set_option Elab.async false
set_option linter.all false
set_option maxRecDepth 100000
set_option maxHeartbeats 4000000
namespace PW
open PySem L2

/-- an exception: its class, its fields -/
structure XV where
  C : Addr
  fs : Option (List (Str × PyData))
/-- a value of the plain machine: data, an owned thing, the script, a tuple with owned things in it, a thing of the top, an exception, an exception's dict -/
inductive PV where
  | d (x : PyData)
  | own (n : Nat)
  | scr (ns : List Int)
  | tp (vs : List PV)
  | gl (u : V)
  | exc (x : XV)
  | xd (fs : Option (List (Str × PyData)))
  | dk (kvs : List (Key × PyData))
/-- what an owned thing holds -/
inductive OC where
  | no
  | dl (xs : List PyData)
  | di (kvs : List (Key × PyData))
  | ml (vs : List PV)
  | ob (C : Addr) (fs : List (Str × PV))
  | dm (kvs : List (Key × PV))
  | dt (kvs : List (List Key × PV))
/-- locals by slot, owned lists -/
structure PSt where
  r : List (Option PV)
  o : List OC

theorem same_new {H : Hp} {p : Addr} {o : HO} (h : H p = none) : Same H (upd H p o) := fun a u e => by
  rw [upd_ne (ne_of_none e h)]
  exact e
theorem same_rd {H H' : Hp} {a : Addr} {u : HO} (e : Same H H') (h : Rd H a u) : Rd H' a u := by
  rcases h with h | ⟨o, h⟩
  · exact Or.inl (e a _ h)
  · exact Or.inr ⟨o, e a _ h⟩
theorem same_l {K : PySem.W.Frag} {H H' : Hp} {a : Addr} {xs : List V} (e : Same H H') (h : SqL K H a xs) : SqL K H' a xs := by
  rcases h with h | h
  · exact Or.inl (same_rd e h)
  · exact Or.inr h
theorem same_t {K : PySem.W.Frag} {H H' : Hp} {a : Addr} {xs : List V} (e : Same H H') (h : SqT K H a xs) : SqT K H' a xs := by
  rcases h with h | h
  · exact Or.inl (same_rd e h)
  · exact Or.inr h
mutual
/-- data in the heap: its lists are plain tracked ones -/
inductive Dq (K : PySem.W.Frag) (H : Hp) : V → PyData → Prop
  | non : Dq K H .non .none
  | bl (b : Bool) : Dq K H (.bl b) (.bool b)
  | int (i : Int) : Dq K H (.int i) (.int i)
  | str (x : Str) : Dq K H (.str x) (.str x)
  | lst {a : Addr} {xs : List V} {ds : List PyData} : H a = some (.lst xs) → DqAll K H xs ds → Dq K H (.ref a) (.list ds)
  | tup {a : Addr} {xs : List V} {ds : List PyData} : SqT K H a xs → DqAll K H xs ds → Dq K H (.ref a) (.tuple ds)
inductive DqAll (K : PySem.W.Frag) (H : Hp) : List V → List PyData → Prop
  | nil : DqAll K H [] []
  | cons {v : V} {vs : List V} {d : PyData} {ds : List PyData} : Dq K H v d → DqAll K H vs ds → DqAll K H (v :: vs) (d :: ds)
end
mutual
theorem dq_dp {K : PySem.W.Frag} {H : Hp} : ∀ {v : V} {d : PyData}, Dq K H v d → Dp K H v d
  | _, _, .non => .non
  | _, _, .bl b => .bl b
  | _, _, .int i => .int i
  | _, _, .str x => .str x
  | _, _, .lst h t => .lst (SqL.of h) (dqAll_dp t)
  | _, _, .tup h t => .tup h (dqAll_dp t)
theorem dqAll_dp {K : PySem.W.Frag} {H : Hp} : ∀ {vs : List V} {ds : List PyData}, DqAll K H vs ds → DpAll K H vs ds
  | _, _, .nil => .nil
  | _, _, .cons h t => .cons (dq_dp h) (dqAll_dp t)
end
mutual
theorem dq_same {K : PySem.W.Frag} {H H' : Hp} (e : Same H H') : ∀ {v : V} {d : PyData}, Dq K H v d → Dq K H' v d
  | _, _, .non => .non
  | _, _, .bl b => .bl b
  | _, _, .int i => .int i
  | _, _, .str x => .str x
  | _, _, .lst h t => .lst (e _ _ h) (dqAll_same e t)
  | _, _, .tup h t => .tup (same_t e h) (dqAll_same e t)
theorem dqAll_same {K : PySem.W.Frag} {H H' : Hp} (e : Same H H') : ∀ {vs : List V} {ds : List PyData}, DqAll K H vs ds → DqAll K H' vs ds
  | _, _, .nil => .nil
  | _, _, .cons h t => .cons (dq_same e h) (dqAll_same e t)
end
theorem DqAll.len {K : PySem.W.Frag} {H : Hp} : ∀ {vs : List V} {ds : List PyData}, DqAll K H vs ds → vs.length = ds.length
  | _, _, .nil => rfl
  | _, _, .cons _ t => by rw [List.length_cons, List.length_cons, DqAll.len t]
theorem DqAll.get {K : PySem.W.Frag} {H : Hp} : ∀ {vs : List V} {ds : List PyData}, DqAll K H vs ds → ∀ (i : Nat) v, vs[i]? = some v → ∃ d, ds[i]? = some d ∧ Dq K H v d
  | _, _, .nil, _, _, h => by simp at h
  | _, _, .cons h t, 0, v, e => by
    have e' : _ = v := Option.some.inj e
    subst e'
    exact ⟨_, rfl, h⟩
  | _, _, .cons h t, i + 1, v, e => DqAll.get t i v e
theorem DqAll.getd {K : PySem.W.Frag} {H : Hp} : ∀ {vs : List V} {ds : List PyData}, DqAll K H vs ds → ∀ (i : Nat) d, ds[i]? = some d → ∃ v, vs[i]? = some v ∧ Dq K H v d
  | _, _, .nil, _, _, h => by simp at h
  | _, _, .cons h t, 0, v, e => by
    have e' : _ = v := Option.some.inj e
    subst e'
    exact ⟨_, rfl, h⟩
  | _, _, .cons h t, i + 1, v, e => DqAll.getd t i v e
theorem DqAll.app {K : PySem.W.Frag} {H : Hp} : ∀ {vs ws : List V} {ds es : List PyData}, DqAll K H vs ds → DqAll K H ws es → DqAll K H (vs ++ ws) (ds ++ es)
  | _, _, _, _, .nil, h => h
  | _, _, _, _, .cons h t, q => .cons h (DqAll.app t q)
theorem DqAll.take {K : PySem.W.Frag} {H : Hp} : ∀ {vs : List V} {ds : List PyData} (n : Nat), DqAll K H vs ds → DqAll K H (vs.take n) (ds.take n)
  | _, _, 0, _ => by rw [List.take_zero, List.take_zero]; exact .nil
  | _, _, _ + 1, .nil => by rw [List.take_nil, List.take_nil]; exact .nil
  | _, _, n + 1, .cons h t => by rw [List.take_succ_cons, List.take_succ_cons]; exact .cons h (DqAll.take n t)
theorem DqAll.drop {K : PySem.W.Frag} {H : Hp} : ∀ {vs : List V} {ds : List PyData} (n : Nat), DqAll K H vs ds → DqAll K H (vs.drop n) (ds.drop n)
  | _, _, 0, h => h
  | _, _, _ + 1, .nil => .nil
  | _, _, n + 1, .cons h t => DqAll.drop n t
theorem DqAll.set {K : PySem.W.Frag} {H : Hp} : ∀ {vs : List V} {ds : List PyData} (n : Nat) {v : V} {d : PyData}, DqAll K H vs ds → Dq K H v d → DqAll K H (vs.set n v) (ds.set n d)
  | _, _, _, _, _, .nil, _ => .nil
  | _, _, 0, _, _, .cons h t, q => .cons q t
  | _, _, n + 1, _, _, .cons h t, q => .cons h (DqAll.set n t q)

/-- the frozen part F of the heap H -/
structure Fz (H0 F0 H F : Hp) : Prop where
  f : Same F0 F
  g : Same F H
  h : Same H0 H
  n : ∀ p, H0 p ≠ none → F0 p = none → F p = none

def dV : Option Addr → V
  | none => .non
  | some a => .ref a
/-- the fields of an exception -/
def XdOk (K : PySem.W.Frag) (H : Hp) (d : Option Addr) : Option (List (Str × PyData)) → Prop
  | none => d = none
  | some l => ∃ a vl, d = some a ∧ H a = some (.xd vl) ∧ vl.map (·.1) = l.map (·.1) ∧ DqAll K H (vl.map (·.2)) (l.map (·.2))
theorem XdOk.same {K : PySem.W.Frag} {H H' : Hp} (e : Same H H') {d : Option Addr} {l : Option (List (Str × PyData))} (h : XdOk K H d l) : XdOk K H' d l := by
  cases l with
  | none => exact h
  | some l =>
    obtain ⟨a, vl, h1, h2, h3, h4⟩ := h
    exact ⟨a, vl, h1, e _ _ h2, h3, dqAll_same e h4⟩
mutual
def PVOk (K : PySem.W.Frag) (F : Hp) (A : List Addr) : PV → V → Prop
  | .d x, v => Dq K F v x
  | .scr ns, v => ∃ a, v = .ref a ∧ SqL K F a (ns.map V.int)
  | .own n, v => ∃ p, A[n]? = some p ∧ v = .ref p
  | .tp ps, v => ∃ a us, v = .ref a ∧ SqT K F a us ∧ PVAll K F A ps us
  | .gl u, v => v = u
  | .exc x, v => ∃ a oe d, v = .ref a ∧ F a = some (.ext fun h => h.get? a = some oe) ∧ Zc (.ref x.C) d oe ∧ (∃ vs, oe.data = .fields vs) ∧ XdOk K F d x.fs
  | .xd fs, v => ∃ d, v = dV d ∧ XdOk K F d fs
  | .dk kvs, v => ∃ a vs, v = .ref a ∧ F a = some (.dK vs) ∧ vs.map (·.1) = kvs.map (·.1) ∧ DqAll K F (vs.map (·.2)) (kvs.map (·.2))
def PVAll (K : PySem.W.Frag) (F : Hp) (A : List Addr) : List PV → List V → Prop
  | [], [] => True
  | p :: ps, v :: vs => PVOk K F A p v ∧ PVAll K F A ps vs
  | [], _ :: _ => False
  | _ :: _, [] => False
end
def OCOk (K : PySem.W.Frag) (F H : Hp) (A : List Addr) (p : Addr) : OC → Prop
  | .no => True
  | .dl xs => F p = none ∧ ∃ vs, H p = some (.lst vs) ∧ DqAll K F vs xs
  | .di kvs => F p = none ∧ ∃ vs : List (Key × V), H p = some (.dK vs) ∧ vs.map (·.1) = kvs.map (·.1) ∧ DqAll K F (vs.map (·.2)) (kvs.map (·.2))
  | .ml ps => F p = none ∧ ∃ vs, H p = some (.lst vs) ∧ PVAll K F A ps vs
  | .ob C fs => F p = none ∧ ∃ dx vs, H p = some (.ins C dx vs) ∧ vs.map (·.1) = fs.map (·.1) ∧ PVAll K F A (fs.map (·.2)) (vs.map (·.2))
  | .dm kvs => F p = none ∧ ∃ vs, H p = some (.dK vs) ∧ vs.map (·.1) = kvs.map (·.1) ∧ PVAll K F A (kvs.map (·.2)) (vs.map (·.2))
  | .dt kvs => F p = none ∧ ∃ vs, H p = some (.dT vs) ∧ vs.map (·.1) = kvs.map (·.1) ∧ PVAll K F A (kvs.map (·.2)) (vs.map (·.2))

mutual
theorem PVOk.mono {K : PySem.W.Frag} {F F' : Hp} {A A' : List Addr} (e : Same F F') (a : A <+: A') : ∀ {v : PV} {u : V}, PVOk K F A v u → PVOk K F' A' v u
  | .d x, u, h => dq_same e h
  | .scr ns, u, ⟨p, h, q⟩ => ⟨p, h, same_l e q⟩
  | .own n, u, ⟨p, h, q⟩ => ⟨p, by
      obtain ⟨t, rfl⟩ := a
      rw [List.getElem?_append_left (List.getElem?_eq_some_iff.mp h).1]
      exact h, q⟩
  | .tp ps, u, ⟨p, us, h, q, r⟩ => ⟨p, us, h, same_t e q, PVAll.mono e a r⟩
  | .gl x, u, h => h
  | .exc x, u, ⟨p, oe, d, h1, h2, h3, h4, h5⟩ => ⟨p, oe, d, h1, e _ _ h2, h3, h4, h5.same e⟩
  | .xd fs, u, ⟨d, h1, h2⟩ => ⟨d, h1, h2.same e⟩
  | .dk _, u, ⟨p, vs, h1, h2, h3, h4⟩ => ⟨p, vs, h1, e _ _ h2, h3, dqAll_same e h4⟩
theorem PVAll.mono {K : PySem.W.Frag} {F F' : Hp} {A A' : List Addr} (e : Same F F') (a : A <+: A') : ∀ {ps : List PV} {us : List V}, PVAll K F A ps us → PVAll K F' A' ps us
  | [], [], h => h
  | _ :: _, _ :: _, ⟨h, r⟩ => ⟨PVOk.mono e a h, PVAll.mono e a r⟩
  | [], _ :: _, h => h.elim
  | _ :: _, [], h => h.elim
end
theorem OCOk.mono {K : PySem.W.Frag} {F F' H H' : Hp} {A A' : List Addr} {p : Addr} (e : Same F F') (a : A <+: A') (f : F p = none → F' p = none) (h : ∀ o, H p = some o → H' p = some o) : ∀ {c : OC}, OCOk K F H A p c → OCOk K F' H' A' p c
  | .no, _ => True.intro
  | .dl _, ⟨x, vs, y, z⟩ => ⟨f x, vs, h _ y, dqAll_same e z⟩
  | .di _, ⟨x, vs, y, k, z⟩ => ⟨f x, vs, h _ y, k, dqAll_same e z⟩
  | .ml _, ⟨x, vs, y, z⟩ => ⟨f x, vs, h _ y, PVAll.mono e a z⟩
  | .ob _ _, ⟨x, dx, vs, y, k, z⟩ => ⟨f x, dx, vs, h _ y, k, PVAll.mono e a z⟩
  | .dm _, ⟨x, vs, y, k, z⟩ => ⟨f x, vs, h _ y, k, PVAll.mono e a z⟩
  | .dt _, ⟨x, vs, y, k, z⟩ => ⟨f x, vs, h _ y, k, PVAll.mono e a z⟩
structure WdF (K : PySem.W.Frag) (H0 F0 : Hp) (A0 : List Addr) (s : PSt) (σ : St) (T : List (PV × V)) (H F : Hp) (A : List Addr) : Prop where
  fz : Fz H0 F0 H F
  pre : A0 <+: A
  len : A.length = s.o.length
  nd : A.Nodup
  ad : ∀ p ∈ A, H0 p = none ∧ H p ≠ none
  oc : ∀ (n : Nat) p c, A[n]? = some p → s.o[n]? = some c → OCOk K F H A p c
  sl : s.r.length = σ.length
  pv : ∀ (i : Nat) v, s.r[i]? = some (some v) → ∃ u, σ[i]? = some (some u) ∧ PVOk K F A v u
  tm : ∀ t ∈ T, PVOk K F A t.1 t.2
def Wd (K : PySem.W.Frag) (H0 F0 : Hp) (A0 : List Addr) (s : PSt) (σ : St) (T : List (PV × V)) (H : Hp) : Prop := ∃ F A, WdF K H0 F0 A0 s σ T H F A

section
variable {K : PySem.W.Frag} {H0 F0 : Hp} {A0 : List Addr} {s : PSt} {σ : St} {T : List (PV × V)} {H F : Hp} {A : List Addr}
theorem nodup_ne {A : List Addr} (h : A.Nodup) {m n : Nat} {p q : Addr} (h1 : A[m]? = some q) (h2 : A[n]? = some p) (hm : m ≠ n) : q ≠ p := fun e => by
  subst e
  obtain ⟨l1, e1⟩ := List.getElem?_eq_some_iff.mp h1
  obtain ⟨l2, e2⟩ := List.getElem?_eq_some_iff.mp h2
  exact hm ((List.getElem_inj h).mp (e1.trans e2.symm))
/-- more is frozen, at places that aren't owned or new -/
theorem WdF.more {F' H' : Hp} (w : WdF K H0 F0 A0 s σ T H F A) (e : Same F F') (g : Same F' H') (h : ∀ a, H0 a ≠ none → H' a = H a) (hA : ∀ p ∈ A, F' p = F p ∧ H' p = H p) (nF : ∀ p, H0 p ≠ none → F' p = F p) : WdF K H0 F0 A0 s σ T H' F' A where
  fz := ⟨w.fz.f.trans e, g, fun a u z => (h a (by rw [z]; exact fun z => nomatch z)).trans (w.fz.h a u z), fun p h1 h2 => (nF p h1).trans (w.fz.n p h1 h2)⟩
  pre := w.pre
  len := w.len
  nd := w.nd
  ad := fun q hq => ⟨(w.ad q hq).1, by rw [(hA q hq).2]; exact (w.ad q hq).2⟩
  oc := fun n q c h1 h2 => (w.oc n q c h1 h2).mono e (List.prefix_refl _) (fun z => (hA q (List.mem_of_getElem? h1)).1.trans z) fun o z => (hA q (List.mem_of_getElem? h1)).2.trans z
  sl := w.sl
  pv := fun i v h => by
    obtain ⟨u, a, b⟩ := w.pv i v h
    exact ⟨u, a, b.mono e (List.prefix_refl _)⟩
  tm := fun t ht => (w.tm t ht).mono e (List.prefix_refl _)
/-- a new object that is frozen at once: a tuple, a list -/
theorem WdF.newD {p : Addr} {o : HO} (w : WdF K H0 F0 A0 s σ T H F A) (hp : H p = none) : WdF K H0 F0 A0 s σ T (upd H p o) (upd F p o) A := by
  have fp : F p = none := w.fz.g.free hp
  have h0 : H0 p = none := w.fz.h.free hp
  refine w.more (same_new fp) (fun a u e => ?_) (fun a ha => upd_ne fun z => ha (z ▸ h0)) (fun q hq => ?_) (fun q hq => upd_ne fun z => hq (z ▸ h0))
  · by_cases h : a = p
    · subst h; rw [upd_same] at e ⊢; exact e
    · rw [upd_ne h] at e ⊢; exact w.fz.g a u e
  · have ne : q ≠ p := fun z => (w.ad q hq).2 (z ▸ hp)
    exact ⟨upd_ne ne, upd_ne ne⟩

theorem WdF.tms {T' : List (PV × V)} (w : WdF K H0 F0 A0 s σ T H F A) (h : ∀ t ∈ T', PVOk K F A t.1 t.2) : WdF K H0 F0 A0 s σ T' H F A := { w with tm := h }
theorem WdF.push {v : PV} {u : V} (w : WdF K H0 F0 A0 s σ T H F A) (h : PVOk K F A v u) : WdF K H0 F0 A0 s σ ((v, u) :: T) H F A := w.tms fun t ht => by
  rcases List.mem_cons.mp ht with e | ht
  · rw [e]; exact h
  · exact w.tm t ht
theorem WdF.sub {T' : List (PV × V)} (w : WdF K H0 F0 A0 s σ T H F A) (h : ∀ t ∈ T', t ∈ T) : WdF K H0 F0 A0 s σ T' H F A := { w with tm := fun t ht => w.tm t (h t ht) }

/-- a new thing that is owned -/
theorem WdF.newO {p : Addr} {o : HO} {c : OC} (w : WdF K H0 F0 A0 s σ T H F A) (hp : H p = none) (hv : F p = none → OCOk K F (upd H p o) (A ++ [p]) p c) : WdF K H0 F0 A0 ⟨s.r, s.o ++ [c]⟩ σ T (upd H p o) F (A ++ [p]) where
  fz := ⟨w.fz.f, w.fz.g.trans (same_new hp), w.fz.h.trans (same_new hp), w.fz.n⟩
  pre := w.pre.trans (List.prefix_append _ _)
  len := by rw [List.length_append, List.length_append, w.len]; rfl
  nd := by
    rw [List.nodup_append]
    refine ⟨w.nd, by simp, fun a ha b hb => ?_⟩
    have e : b = p := by simpa using hb
    subst e
    rintro rfl
    exact (w.ad _ ha).2 hp
  ad := fun q hq => by
    rcases List.mem_append.mp hq with h1 | h1
    · have hne : q ≠ p := fun e => (w.ad q h1).2 (e ▸ hp)
      exact ⟨(w.ad q h1).1, by rw [upd_ne hne]; exact (w.ad q h1).2⟩
    · have e : q = p := by simpa using h1
      rw [e]
      refine ⟨?_, by rw [upd_same]; exact fun z => nomatch z⟩
      exact w.fz.h.free hp
  oc := fun n q c' h1 h2 => by
    have fp : F p = none := w.fz.g.free hp
    rcases Nat.lt_trichotomy n A.length with hn | hn | hn
    · rw [List.getElem?_append_left hn] at h1
      rw [List.getElem?_append_left (by rw [← w.len]; exact hn)] at h2
      have hne : q ≠ p := fun e => by subst e; exact (w.ad q (List.mem_of_getElem? h1)).2 hp
      exact (w.oc n q c' h1 h2).mono (Same.refl _) (List.prefix_append _ _) id fun o z => (upd_ne hne).trans z
    · subst hn
      rw [List.getElem?_append_right (Nat.le_refl _), Nat.sub_self] at h1
      rw [List.getElem?_append_right (by rw [w.len]; exact Nat.le_refl _), w.len, Nat.sub_self] at h2
      cases h1
      cases h2
      exact hv fp
    · rw [List.getElem?_eq_none (by rw [List.length_append]; show A.length + 1 ≤ n; omega)] at h1
      cases h1
  sl := w.sl
  pv := fun i v h => by
    obtain ⟨u, a, b⟩ := w.pv i v h
    exact ⟨u, a, b.mono (Same.refl _) (List.prefix_append _ _)⟩
  tm := fun t ht => (w.tm t ht).mono (Same.refl _) (List.prefix_append _ _)
theorem WdF.newL {p : Addr} {vs : List V} {xs : List PyData} (w : WdF K H0 F0 A0 s σ T H F A) (hp : H p = none) (hv : DqAll K F vs xs) : WdF K H0 F0 A0 ⟨s.r, s.o ++ [.dl xs]⟩ σ T (upd H p (.lst vs)) F (A ++ [p]) :=
  w.newO hp fun fp => ⟨fp, vs, upd_same, hv⟩

/-- an owned thing is written -/
theorem WdF.wrO {n : Nat} {p : Addr} {o : HO} {c : OC} (w : WdF K H0 F0 A0 s σ T H F A) (hp : A[n]? = some p) (fp : F p = none) (hl : n < s.o.length) (hv : OCOk K F (upd H p o) A p c) : WdF K H0 F0 A0 ⟨s.r, s.o.set n c⟩ σ T (upd H p o) F A where
  fz := by
    refine ⟨w.fz.f, fun a u e => ?_, fun a u e => ?_, w.fz.n⟩
    · rw [upd_ne (ne_of_none e fp)]
      exact w.fz.g a u e
    · rw [upd_ne (ne_of_none e (w.ad p (List.mem_of_getElem? hp)).1)]
      exact w.fz.h a u e
  pre := w.pre
  len := by rw [List.length_set]; exact w.len
  nd := w.nd
  ad := fun q hq => ⟨(w.ad q hq).1, fun z => by
    by_cases e : q = p
    · subst e; rw [upd_same] at z; cases z
    · rw [upd_ne e] at z; exact (w.ad q hq).2 z⟩
  oc := fun m q c' h1 h2 => by
    by_cases hm : m = n
    · subst hm
      rw [hp] at h1
      cases h1
      rw [List.getElem?_set_self hl] at h2
      cases h2
      exact hv
    · rw [List.getElem?_set_ne (Ne.symm hm)] at h2
      have hne : q ≠ p := nodup_ne w.nd h1 hp hm
      exact (w.oc m q c' h1 h2).mono (Same.refl _) (List.prefix_refl _) id fun o z => (upd_ne hne).trans z
  sl := w.sl
  pv := w.pv
  tm := w.tm
theorem WdF.wr {n : Nat} {p : Addr} {vs : List V} {xs ys : List PyData} (w : WdF K H0 F0 A0 s σ T H F A) (hp : A[n]? = some p) (ho : s.o[n]? = some (.dl xs)) (hv : DqAll K F vs ys) : WdF K H0 F0 A0 ⟨s.r, s.o.set n (.dl ys)⟩ σ T (upd H p (.lst vs)) F A := by
  obtain ⟨fp, _⟩ := w.oc n p _ hp ho
  exact w.wrO hp fp (List.getElem?_eq_some_iff.mp ho).1 ⟨fp, vs, upd_same, hv⟩

/-- a slot is stored -/
theorem WdF.st {i : Nat} {v : PV} {u : V} (w : WdF K H0 F0 A0 s σ T H F A) (h : PVOk K F A v u) : WdF K H0 F0 A0 ⟨s.r.set i (some v), s.o⟩ (σ.set i (some u)) T H F A :=
  { w with
    len := w.len
    oc := w.oc
    sl := by rw [List.length_set, List.length_set]; exact w.sl
    pv := fun j x e => by
      by_cases hj : j = i
      · subst hj
        by_cases hl : j < s.r.length
        · rw [List.getElem?_set_self hl] at e
          cases e
          exact ⟨u, by rw [List.getElem?_set_self (by rw [← w.sl]; exact hl)], h⟩
        · rw [List.getElem?_eq_none (by rw [List.length_set]; omega)] at e
          cases e
      · rw [List.getElem?_set_ne (Ne.symm hj)] at e
        obtain ⟨y, a, b⟩ := w.pv j x e
        exact ⟨y, by rw [List.getElem?_set_ne (Ne.symm hj)]; exact a, b⟩ }
end
end PW
namespace PW
open PySem L2

/-! ### from the hand layer's readings to the plain machine's -/
theorem PE.imp {X : Cx} {e : Expr} {t t' : TE} (h : PE X e t) (i : ∀ σ H Q, t' σ H Q → t σ H Q) : PE X e t' := ⟨fun pins s σ H Q I q => h.run pins s σ H Q I (i σ H Q q)⟩
theorem PT.imp {X : Cx} {e : Expr} {t t' : TT} (h : PT X e t) (i : ∀ σ H Q, t' σ H Q → t σ H Q) : PT X e t' := ⟨fun pins s σ H Q I q => h.run pins s σ H Q I (i σ H Q q)⟩
theorem PTs.imp {X : Cx} {es : List Expr} {t t' : TT} (h : PTs X es t) (i : ∀ σ H Q, t' σ H Q → t σ H Q) : PTs X es t' := ⟨fun pins s σ H Q I q => h.run pins s σ H Q I (i σ H Q q)⟩
theorem PWi.imp {X : Cx} {e : Expr} {t t' : TT} (h : L2.PW X e t) (i : ∀ σ H Q, t' σ H Q → t σ H Q) : L2.PW X e t' := ⟨fun w pins s σ H Q I q => h.run w pins s σ H Q I (i σ H Q q)⟩
theorem PA.imp {X : Cx} {es : List Expr} {t t' : TA} (h : PA X es t) (i : ∀ σ H Q, t' σ H Q → t σ H Q) : PA X es t' := ⟨fun p pins s σ H Q I q => h.run p pins s σ H Q I (i σ H Q q)⟩
theorem PO.imp {X : Cx} {e : Option Expr} {t t' : TO} (h : PO X e t) (i : ∀ σ H Q, t' σ H Q → t σ H Q) : PO X e t' := ⟨fun pins s σ H Q I q => h.run pins s σ H Q I (i σ H Q q)⟩
theorem PS.imp {X : Cx} {st : Stmt} {t t' : TS} (h : PS X st t) (i : ∀ D σ H, t' D σ H → t D σ H) : PS X st t' := ⟨fun pins s σ H D I q => h.run pins s σ H D I (i D σ H q)⟩
theorem PSs.imp {X : Cx} {st : List Stmt} {t t' : TS} (h : PSs X st t) (i : ∀ D σ H, t' D σ H → t D σ H) : PSs X st t' := ⟨fun pins s σ H D I q => h.run pins s σ H D I (i D σ H q)⟩
theorem PG.imp {X : Cx} {e : Expr} {t t' : TG} (h : PG X e t) (i : ∀ v σ H Q, t' v σ H Q → t v σ H Q) : PG X e t' := ⟨fun pins s σ H v u Q I r q => h.run pins s σ H v u Q I r (i v σ H Q q)⟩
theorem PI.imp {X : Cx} {tg e : Expr} {t t' : TI} (h : PI X tg e t) (i : ∀ σ H R, t' σ H R → t σ H R) : PI X tg e t' := ⟨fun pins s σ H R I q => h.run pins s σ H R I (i σ H R q)⟩

abbrev KX := XV → PSt → Prop
abbrev EW := KX → PSt → (PV → PSt → Prop) → Prop
abbrev TW := KX → PSt → (Bool → PSt → Prop) → Prop
abbrev AW := KX → PSt → (List PV → PSt → Prop) → Prop
abbrev OW := KX → PSt → (Option Int → PSt → Prop) → Prop
/-- a list that is walked as it is owned: it has to stay -/
abbrev SrcO := Option (Nat × List PyData)
def Src (c : SrcO) (s : PSt) : Prop := match c with
  | none => True
  | some (n, xs) => s.o[n]? = some (.dl xs)
abbrev IW := KX → PSt → (List PyData → SrcO → PSt → Prop) → Prop
abbrev GW := PyData → PSt → (PSt → Prop) → Prop
structure PEnds where
  nx : PSt → Prop
  rt : PV → PSt → Prop
  bk : PSt → Prop := fun _ => False
  ct : PSt → Prop := fun _ => False
abbrev SW := KX → PSt → PEnds → Prop

/-- what is wanted of exceptions -/
def XL (K : PySem.W.Frag) (H0 F0 : Hp) (A0 : List Addr) (T : List (PV × V)) (W : WX) (kx : KX) : Prop :=
  ∀ x s', kx x s' → ∀ σ' H' d, Wd K H0 F0 A0 s' σ' ((.xd x.fs, dV d) :: T) H' → W (.ref x.C) d σ' H'
theorem Wd.sub {K : PySem.W.Frag} {H0 F0 : Hp} {A0 : List Addr} {s : PSt} {σ : St} {T T' : List (PV × V)} {H : Hp} (w : Wd K H0 F0 A0 s σ T H) (h : ∀ t ∈ T', t ∈ T) : Wd K H0 F0 A0 s σ T' H := by
  obtain ⟨F, A, w⟩ := w
  exact ⟨F, A, w.sub h⟩
theorem Wd.pop {K : PySem.W.Frag} {H0 F0 : Hp} {A0 : List Addr} {s : PSt} {σ : St} {t : PV × V} {T : List (PV × V)} {H : Hp} (w : Wd K H0 F0 A0 s σ (t :: T) H) : Wd K H0 F0 A0 s σ T H := w.sub fun _ h => List.mem_cons_of_mem _ h
theorem XL.more {K : PySem.W.Frag} {H0 F0 : Hp} {A0 : List Addr} {T T' : List (PV × V)} {W : WX} {kx : KX} (h : XL K H0 F0 A0 T W kx) (m : ∀ t ∈ T, t ∈ T') : XL K H0 F0 A0 T' W kx := fun x s' q σ' H' d w => h x s' q σ' H' d (w.sub fun t ht => by
  rcases List.mem_cons.mp ht with z | z
  · rw [z]; exact List.mem_cons_self
  · exact List.mem_cons_of_mem _ (m t z))
theorem XL.push {K : PySem.W.Frag} {H0 F0 : Hp} {A0 : List Addr} {T : List (PV × V)} {t : PV × V} {W : WX} {kx : KX} (h : XL K H0 F0 A0 T W kx) : XL K H0 F0 A0 (t :: T) W kx := h.more fun _ m => List.mem_cons_of_mem _ m

/-- an expression, a test, arguments, a slice's end, what is walked, a target, a statement -/
def tE (K : PySem.W.Frag) (W : WX) (w : EW) : TE := fun σ H Q => ∃ H0 F0 A0 s T kx k, Wd K H0 F0 A0 s σ T H ∧ XL K H0 F0 A0 T W kx ∧ w kx s k ∧ ∀ v s', k v s' → ∀ u H', Wd K H0 F0 A0 s' σ ((v, u) :: T) H' → Q u H'
def tT (K : PySem.W.Frag) (W : WX) (w : TW) : TT := fun σ H Q => ∃ H0 F0 A0 s T kx k, Wd K H0 F0 A0 s σ T H ∧ XL K H0 F0 A0 T W kx ∧ w kx s k ∧ ∀ b s', k b s' → ∀ H', Wd K H0 F0 A0 s' σ T H' → Q b H'
def tA (K : PySem.W.Frag) (W : WX) (w : AW) : TA := fun σ H Q => ∃ H0 F0 A0 s T kx k, Wd K H0 F0 A0 s σ T H ∧ XL K H0 F0 A0 T W kx ∧ w kx s k ∧ ∀ vs s', k vs s' → ∀ us H', us.length = vs.length → Wd K H0 F0 A0 s' σ (vs.zip us ++ T) H' → Q us H'
def tO (K : PySem.W.Frag) (W : WX) (w : OW) : TO := fun σ H Q => ∃ H0 F0 A0 s T kx k, Wd K H0 F0 A0 s σ T H ∧ XL K H0 F0 A0 T W kx ∧ w kx s k ∧ ∀ o s', k o s' → ∀ H', Wd K H0 F0 A0 s' σ T H' → Q o H'
/-- J yields these data as long as T1 stands -/
def ItOk (K : PySem.W.Frag) (J : It) (T1 : List (PV × V)) (c : SrcO) (xs : List PyData) : Prop :=
  ∀ (H0 F0 : Hp) (A0 : List Addr) (s : PSt) (σ : St) (T : List (PV × V)) (H F : Hp) (A : List Addr), WdF K H0 F0 A0 s σ T H F A → (∀ t ∈ T1, t ∈ T) → Src c s → ∀ i, (i < xs.length → J.go i H) ∧ (xs.length ≤ i → J.stop i H) ∧
    (i < xs.length → ∀ x H', J.yld i H x H' → ∃ d, xs[i]? = some d ∧ ∃ F', WdF K H0 F0 A0 s σ ((.d d, x) :: T) H' F' A)
def tI (K : PySem.W.Frag) (W : WX) (w : IW) : TI := fun σ H R => ∃ H0 F0 A0 s T kx k, Wd K H0 F0 A0 s σ T H ∧ XL K H0 F0 A0 T W kx ∧ w kx s k ∧ ∀ xs c s', k xs c s' → ∀ J T1 H', Wd K H0 F0 A0 s' σ (T1 ++ T) H' → ItOk K J T1 c xs → R J H'
def OutL (L : List Nat) (σ σ' : St) : Prop := σ'.length = σ.length ∧ ∀ j, j ∉ L → σ'[j]? = σ[j]?
def tG (K : PySem.W.Frag) (L : List Nat) (g : GW) : TG := fun v σ H Q => ∃ H0 F0 A0 s T x k, Wd K H0 F0 A0 s σ T H ∧ (PV.d x, v) ∈ T ∧ g x s k ∧ ∀ s', k s' → ∀ σ' H', OutL L σ σ' → Wd K H0 F0 A0 s' σ' T H' → Q σ' H'
def tS (K : PySem.W.Frag) (W : WX) (w : SW) : TS := fun D σ H => ∃ H0 F0 A0 s T kx k, Wd K H0 F0 A0 s σ T H ∧ XL K H0 F0 A0 T W kx ∧ w kx s k ∧ (∀ s', k.nx s' → ∀ σ' H', Wd K H0 F0 A0 s' σ' T H' → D.nx σ' H') ∧
  (∀ v s', k.rt v s' → ∀ u σ' H', Wd K H0 F0 A0 s' σ' ((v, u) :: T) H' → D.rt u H') ∧ (∀ s', k.bk s' → ∀ σ' H', Wd K H0 F0 A0 s' σ' T H' → D.bk σ' H') ∧ (∀ s', k.ct s' → ∀ σ' H', Wd K H0 F0 A0 s' σ' T H' → D.ct σ' H')

/-- the data that a value stands for now -/
def ocD : Option OC → Option PyData
  | some (.dl xs) => some (.list xs)
  | _ => none
def dat (s : PSt) : PV → Option PyData
  | .d x => some x
  | .own n => ocD s.o[n]?
  | .scr ns => some (.list (ns.map PyData.int))
  | _ => none
/-- .. where it isn't the script -/
def datq (s : PSt) : PV → Option PyData
  | .d x => some x
  | .own n => ocD s.o[n]?
  | _ => none
theorem datq_ok {K : PySem.W.Frag} {H0 F0 : Hp} {A0 : List Addr} {s : PSt} {σ : St} {T : List (PV × V)} {H F : Hp} {A : List Addr} {v : PV} {u : V} {x : PyData} (w : WdF K H0 F0 A0 s σ T H F A) (p : PVOk K F A v u) (e : datq s v = some x) : Dq K H u x := by
  cases v with
  | d y =>
    cases e
    exact dq_same w.fz.g p
  | scr ns => cases e
  | tp ps => cases e
  | gl g => cases e
  | exc y => cases e
  | xd y => cases e
  | dk y => cases e
  | own n =>
    obtain ⟨q, hq, rfl⟩ := p
    have e : ocD s.o[n]? = some x := e
    cases ho : s.o[n]? with
    | none => rw [ho] at e; cases e
    | some c =>
      rw [ho] at e
      cases c with
      | no => cases e
      | dl xs =>
        cases e
        obtain ⟨_, vs, h1, h2⟩ := w.oc n q _ hq ho
        exact .lst h1 (dqAll_same w.fz.g h2)
      | di kvs => cases e
      | ml ps => cases e
      | ob _ _ => cases e
      | dm _ => cases e
      | dt _ => cases e
theorem ints_dp {K : PySem.W.Frag} {H : Hp} : ∀ ns : List Int, DpAll K H (ns.map V.int) (ns.map PyData.int)
  | [] => .nil
  | n :: r => .cons (.int n) (ints_dp r)
theorem ints_dq {K : PySem.W.Frag} {H : Hp} : ∀ ns : List Int, DqAll K H (ns.map V.int) (ns.map PyData.int)
  | [] => .nil
  | n :: r => .cons (.int n) (ints_dq r)
theorem dat_ok {K : PySem.W.Frag} {H0 F0 : Hp} {A0 : List Addr} {s : PSt} {σ : St} {T : List (PV × V)} {H F : Hp} {A : List Addr} {v : PV} {u : V} {x : PyData} (w : WdF K H0 F0 A0 s σ T H F A) (p : PVOk K F A v u) (e : dat s v = some x) : Dp K H u x := by
  cases v with
  | d y => exact dq_dp (datq_ok w p e)
  | own n => exact dq_dp (datq_ok w p e)
  | tp ps => cases e
  | gl g => cases e
  | exc y => cases e
  | xd y => cases e
  | dk y => cases e
  | scr ns =>
    cases e
    obtain ⟨a, rfl, h⟩ := p
    exact .lst (same_l w.fz.g h) (ints_dp ns)
/-- what is in a list or tuple is frozen data -/
theorem items_ok {K : PySem.W.Frag} {H0 F0 : Hp} {A0 : List Addr} {s : PSt} {σ : St} {T : List (PV × V)} {H F : Hp} {A : List Addr} {v : PV} {u : V} {xs : List PyData} (w : WdF K H0 F0 A0 s σ T H F A) (p : PVOk K F A v u) (e : dat s v = some (.list xs)) :
    ∃ a vs, u = .ref a ∧ SqL K H a vs ∧ DqAll K F vs xs := by
  cases v with
  | d y =>
    cases e
    cases p with
    | lst h t => exact ⟨_, _, rfl, SqL.of (w.fz.g _ _ h), t⟩
  | scr ns =>
    have e : some (PyData.list (ns.map PyData.int)) = some (.list xs) := e
    injection e with e
    injection e with e
    subst e
    obtain ⟨a, rfl, h⟩ := p
    exact ⟨a, _, rfl, same_l w.fz.g h, ints_dq ns⟩
  | tp ps => cases e
  | gl g => cases e
  | exc y => cases e
  | xd y => cases e
  | dk y => cases e
  | own n =>
    obtain ⟨q, hq, rfl⟩ := p
    have e : ocD s.o[n]? = some (.list xs) := e
    cases ho : s.o[n]? with
    | none => rw [ho] at e; cases e
    | some c =>
      rw [ho] at e
      cases c with
      | no => cases e
      | dl ys =>
        cases e
        obtain ⟨_, vs, h1, h2⟩ := w.oc n q _ hq ho
        exact ⟨_, _, rfl, SqL.of h1, h2⟩
      | di kvs => cases e
      | ml ps => cases e
      | ob _ _ => cases e
      | dm _ => cases e
      | dt _ => cases e
theorem itemsT_ok {K : PySem.W.Frag} {H0 F0 : Hp} {A0 : List Addr} {s : PSt} {σ : St} {T : List (PV × V)} {H F : Hp} {A : List Addr} {v : PV} {u : V} {xs : List PyData} (w : WdF K H0 F0 A0 s σ T H F A) (p : PVOk K F A v u) (e : dat s v = some (.tuple xs)) :
    ∃ a vs, u = .ref a ∧ SqT K H a vs ∧ DqAll K F vs xs := by
  cases v with
  | d y =>
    cases e
    cases p with
    | tup h t => exact ⟨_, _, rfl, same_t w.fz.g h, t⟩
  | scr ns => cases e
  | tp ps => cases e
  | gl g => cases e
  | exc y => cases e
  | xd y => cases e
  | dk y => cases e
  | own n =>
    have e : ocD s.o[n]? = some (.tuple xs) := e
    cases ho : s.o[n]? with
    | none => rw [ho] at e; cases e
    | some c =>
      rw [ho] at e
      cases c <;> cases e

/-! ### freezing -/
def subO (n : Nat) (x : PV) : Option PV → Option PV
  | some (.own m) => if m = n then some x else some (.own m)
  | v => v
theorem subO_eq {n m : Nat} {x : PV} (h : m = n) : subO n x (some (.own m)) = some x := if_pos h
theorem subO_ne {n m : Nat} {x : PV} (h : ¬ m = n) : subO n x (some (.own m)) = some (.own m) := if_neg h
def PSt.frzV (s : PSt) (n : Nat) (x : PV) : PSt := ⟨s.r.map (subO n x), s.o.set n .no⟩
def PSt.frz (s : PSt) (n : Nat) (xs : List PyData) : PSt := s.frzV n (.d (.list xs))
/-- a value made data for good -/
def frz (v : PV) (s : PSt) (k : PyData → PSt → Prop) : Prop :=
  match v with
  | .d x => k x s
  | .own n => ∃ xs, s.o[n]? = some (.dl xs) ∧ k (.list xs) (s.frz n xs)
  | _ => False
section
variable {K : PySem.W.Frag} {H0 F0 : Hp} {A0 : List Addr} {s : PSt} {σ : St} {T : List (PV × V)} {H F : Hp} {A : List Addr}
theorem WdF.frzV {n : Nat} {p : Addr} {ho' : HO} {x : PV} (w : WdF K H0 F0 A0 s σ T H F A) (hp : A[n]? = some p) (ho : n < s.o.length) (fp : F p = none) (hv : H p = some ho') (dD : PVOk K (upd F p ho') A x (.ref p)) : ∃ F', WdF K H0 F0 A0 (s.frzV n x) σ ((x, .ref p) :: T) H F' A := by
  have pA := w.ad p (List.mem_of_getElem? hp)
  have sF : Same F (upd F p ho') := same_new fp
  refine ⟨upd F p ho', ⟨w.fz.f.trans sF, fun a u e => ?_, w.fz.h, fun q h1 h2 => ?_⟩, w.pre, ?_, w.nd, w.ad, fun m q c h1 h2 => ?_, ?_, fun i v e => ?_, fun t ht => ?_⟩
  · by_cases h : a = p
    · subst h; rw [upd_same] at e; rw [← e]; exact hv
    · rw [upd_ne h] at e; exact w.fz.g a u e
  · have hq : q ≠ p := fun z => h1 (z ▸ pA.1)
    rw [upd_ne hq]; exact w.fz.n q h1 h2
  · show A.length = (s.o.set n .no).length
    rw [List.length_set]; exact w.len
  · have h2 : (s.o.set n .no)[m]? = some c := h2
    by_cases hm : m = n
    · subst hm
      rw [List.getElem?_set_self ho] at h2
      cases h2
      trivial
    · rw [List.getElem?_set_ne (Ne.symm hm)] at h2
      have hne : q ≠ p := fun e => by
        subst e
        obtain ⟨l1, e1⟩ := List.getElem?_eq_some_iff.mp h1
        obtain ⟨l2, e2⟩ := List.getElem?_eq_some_iff.mp hp
        exact hm ((List.getElem_inj w.nd).mp (e1.trans e2.symm))
      exact (w.oc m q c h1 h2).mono sF (List.prefix_refl _) (fun z => (upd_ne hne).trans z) fun _ z => z
  · show (s.r.map _).length = _
    rw [List.length_map]; exact w.sl
  · have e : (s.r.map (subO n x))[i]? = some (some v) := e
    rw [List.getElem?_map] at e
    cases hr : s.r[i]? with
    | none => rw [hr] at e; cases e
    | some o =>
      rw [hr] at e
      have e : subO n x o = some v := Option.some.inj e
      cases o with
      | none => cases e
      | some y =>
        obtain ⟨u, a, b⟩ := w.pv i y hr
        cases y with
        | d z =>
          cases e
          exact ⟨u, a, b.mono sF (List.prefix_refl _)⟩
        | scr ns =>
          cases e
          exact ⟨u, a, b.mono sF (List.prefix_refl _)⟩
        | tp ps =>
          cases e
          exact ⟨u, a, b.mono sF (List.prefix_refl _)⟩
        | gl ns =>
          cases e
          exact ⟨u, a, b.mono sF (List.prefix_refl _)⟩
        | exc ns =>
          cases e
          exact ⟨u, a, b.mono sF (List.prefix_refl _)⟩
        | xd ns =>
          cases e
          exact ⟨u, a, b.mono sF (List.prefix_refl _)⟩
        | dk ns =>
          cases e
          exact ⟨u, a, b.mono sF (List.prefix_refl _)⟩
        | own m =>
          by_cases hm : m = n
          · rw [subO_eq hm] at e
            cases e
            subst hm
            obtain ⟨q, hq, rfl⟩ := b
            rw [hp] at hq
            cases hq
            exact ⟨_, a, dD⟩
          · rw [subO_ne hm] at e
            cases e
            exact ⟨u, a, b.mono sF (List.prefix_refl _)⟩
  · rcases List.mem_cons.mp ht with e | ht
    · rw [e]; exact dD
    · exact (w.tm t ht).mono sF (List.prefix_refl _)
theorem WdF.frz {n : Nat} {p : Addr} {xs : List PyData} (w : WdF K H0 F0 A0 s σ T H F A) (hp : A[n]? = some p) (ho : s.o[n]? = some (.dl xs)) : ∃ F', WdF K H0 F0 A0 (s.frz n xs) σ ((.d (.list xs), .ref p) :: T) H F' A := by
  obtain ⟨fp, vs, hv, hd⟩ := w.oc n p _ hp ho
  exact w.frzV hp (List.getElem?_eq_some_iff.mp ho).1 fp hv (show Dq K (upd F p (.lst vs)) (.ref p) (.list xs) from .lst upd_same (dqAll_same (same_new fp) hd))
theorem WdF.frzD {n : Nat} {p : Addr} {kvs : List (Key × PyData)} (w : WdF K H0 F0 A0 s σ T H F A) (hp : A[n]? = some p) (ho : s.o[n]? = some (.di kvs)) : ∃ F', WdF K H0 F0 A0 (s.frzV n (.dk kvs)) σ ((.dk kvs, .ref p) :: T) H F' A := by
  obtain ⟨fp, vs, hv, hk, hd⟩ := w.oc n p _ hp ho
  exact w.frzV hp (List.getElem?_eq_some_iff.mp ho).1 fp hv ⟨p, vs, rfl, upd_same, hk, dqAll_same (same_new fp) hd⟩
/-- the same for the value on the top of the temps -/
theorem frz_ok {v : PV} {u : V} {k : PyData → PSt → Prop} (w : Wd K H0 F0 A0 s σ ((v, u) :: T) H) (h : frz v s k) : ∃ x s', k x s' ∧ Wd K H0 F0 A0 s' σ ((.d x, u) :: T) H := by
  cases v with
  | d x => exact ⟨x, s, h, w⟩
  | scr ns => exact h.elim
  | tp ps => exact h.elim
  | gl g => exact h.elim
  | exc y => exact h.elim
  | xd y => exact h.elim
  | dk y => exact h.elim
  | own n =>
    obtain ⟨xs, ho, hk⟩ := h
    obtain ⟨F, A, w⟩ := w
    obtain ⟨p, hp, rfl⟩ := w.tm _ List.mem_cons_self
    obtain ⟨F', w'⟩ := w.frz hp ho
    refine ⟨_, _, hk, F', A, w'.sub fun t ht => ?_⟩
    rcases List.mem_cons.mp ht with e | ht
    · rw [e]; exact List.mem_cons_self
    · exact List.mem_cons_of_mem _ (List.mem_cons_of_mem _ ht)
end

/-! ### the plain machine's words -/
def wVar (i : Nat) : EW := fun _ s k => ∃ v, s.r[i]? = some (some v) ∧ k v s
def wC (x : PyData) : EW := fun _ s k => k (.d x) s
/-- a two-place operation on data that gives data -/
def wOp (R : PyData → PyData → (PyData → Prop) → Prop) (wa wb : EW) : EW := fun kx s k => wa kx s fun x s1 => wb kx s1 fun y s2 => ∃ a b, dat s2 x = some a ∧ dat s2 y = some b ∧ R a b fun z => k (.d z) s2
/-- .. that gives a new list -/
def wOpL (R : PyData → PyData → (List PyData → Prop) → Prop) (wa wb : EW) : EW := fun kx s k => wa kx s fun x s1 => wb kx s1 fun y s2 => ∃ a b, dat s2 x = some a ∧ dat s2 y = some b ∧ R a b fun zs => k (.own s2.o.length) ⟨s2.r, s2.o ++ [.dl zs]⟩
def wUn (R : PyData → (PyData → Prop) → Prop) (wa : EW) : EW := fun kx s k => wa kx s fun x s1 => ∃ a, dat s1 x = some a ∧ R a fun z => k (.d z) s1

section
variable {X : Cx} {W : WX} {a b : Expr} {wa wb : EW} {pos : Pos}
theorem e_var (i : Nat) {x : Str} (hN : X.N[i]? = some x := by rfl) (hv : Vis X.env.scope x := by first | exact Or.inl rfl | exact Or.inr (Or.inl rfl) | exact Or.inr (Or.inr rfl)) (hd : (x == ("__debug__" : Str)) = false := by decide)
    (hcd : (x == ("__classdict__" : Str)) = false := by decide) : PE X (.Name x pos) (tE X.K W (wVar i)) := by
  refine PE.imp (pe_var hN hv hd hcd) fun σ H Q ⟨H0, F0, A0, s, T, kx, k, w, xl, ⟨v, e, hk⟩, q⟩ => ?_
  obtain ⟨F, A, w⟩ := w
  obtain ⟨u, e2, p⟩ := w.pv i v e
  exact ⟨u, e2, q v s hk u H ⟨F, A, w.push p⟩⟩
theorem e_c {u : V} {x : PyData} (h : PE X a (tC u)) (d : ∀ K H, Dq K H u x) : PE X a (tE X.K W (wC x)) := by
  refine PE.imp h fun σ H Q ⟨H0, F0, A0, s, T, kx, k, w, xl, hk, q⟩ => ?_
  obtain ⟨F, A, w⟩ := w
  exact q _ s hk u H ⟨F, A, w.push (d _ _)⟩
theorem e_int {i : Int} {j : Nat} : PE X (.Constant (.int i) j pos) (tE X.K W (wC (.int i))) := e_c pe_int fun _ _ => .int i
theorem e_str {x : Str} {j : Nat} : PE X (.Constant (.str x) j pos) (tE X.K W (wC (.str x))) := e_c pe_str fun _ _ => .str x
theorem e_bl {b : Bool} {j : Nat} : PE X (.Constant (.bool b) j pos) (tE X.K W (wC (.bool b))) := e_c pe_bl fun _ _ => .bl b
theorem e_non {j : Nat} : PE X (.Constant .none j pos) (tE X.K W (wC .none)) := e_c pe_non fun _ _ => .non
/-- a constant of the module that is an int, a text -/
theorem e_gi {x : Str} {i : Int} (hg : Gl X x) (hm : ∃ t, X.mg x = some (.int i t)) (hd : (x == ("__debug__" : Str)) = false := by decide) : PE X (.Name x pos) (tE X.K W (wC (.int i))) := by
  obtain ⟨t, hm⟩ := hm
  exact e_c (u := .int i) (pe_glob hg hm ⟨t, rfl⟩ hd) fun _ _ => .int i
theorem e_gs {x : Str} {i : Str} (hg : Gl X x) (hm : ∃ t, X.mg x = some (.str i t)) (hd : (x == ("__debug__" : Str)) = false := by decide) : PE X (.Name x pos) (tE X.K W (wC (.str i))) := by
  obtain ⟨t, hm⟩ := hm
  exact e_c (u := .str i) (pe_glob hg hm ⟨t, rfl⟩ hd) fun _ _ => .str i

/-- two operands, then what the values' rule asks -/
theorem tOp_of {r : R2} {σ : St} {H : Hp} {Q : VK} {H0 F0 : Hp} {A0 : List Addr} {s : PSt} {T : List (PV × V)} {kx : KX} {R : PV → PV → PSt → Prop} (w : Wd X.K H0 F0 A0 s σ T H) (xl : XL X.K H0 F0 A0 T W kx)
    (h : wa kx s fun x s1 => wb kx s1 fun y s2 => R x y s2) (hr : ∀ x y s2 u v H2, R x y s2 → Wd X.K H0 F0 A0 s2 σ ((y, v) :: (x, u) :: T) H2 → r u v H2 Q) : tOp r (tE X.K W wa) (tE X.K W wb) σ H Q :=
  ⟨H0, F0, A0, s, T, kx, _, w, xl, h, fun x s1 h1 u H1 w1 => ⟨H0, F0, A0, s1, (x, u) :: T, kx, _, w1, xl.push, h1, fun y s2 h2 v H2 w2 => hr x y s2 u v H2 h2 w2⟩⟩
/-- data that is no object -/
def toV : PyData → Option V
  | .none => some .non
  | .bool b => some (.bl b)
  | .int i => some (.int i)
  | .str x => some (.str x)
  | _ => none
theorem toV_dp {K : PySem.W.Frag} {H : Hp} {z : PyData} {t : V} (h : toV z = some t) : Dq K H t z := by
  cases z with
  | none => cases h; exact .non
  | bool b => cases h; exact .bl b
  | int i => cases h; exact .int i
  | str x => cases h; exact .str x
  | list xs => cases h
  | tuple xs => cases h
  | dict xs => cases h
/-- by a rule on values that gives no object -/
def ROk (K : PySem.W.Frag) (r : R2) (R : PyData → PyData → (PyData → Prop) → Prop) : Prop :=
  ∀ (u v : V) (x y : PyData) (H : Hp) (Q : VK) (P : PyData → Prop), Dp K H u x → Dp K H v y → R x y P → (∀ z t, P z → toV z = some t → Q t H) → r u v H Q
theorem wOp_of {r : R2} {R : PyData → PyData → (PyData → Prop) → Prop} {σ : St} {H : Hp} {Q : VK} (ho : ROk X.K r R) (h : tE X.K W (wOp R wa wb) σ H Q) : tOp r (tE X.K W wa) (tE X.K W wb) σ H Q := by
  obtain ⟨H0, F0, A0, s, T, kx, k, w, xl, h, q⟩ := h
  refine tOp_of w xl h fun x y s2 u v H2 hR w2 => ?_
  obtain ⟨a, b, da, db, hR⟩ := hR
  obtain ⟨F, A, w2⟩ := w2
  refine ho u v a b H2 Q _ (dat_ok w2 (w2.tm _ (List.mem_cons_of_mem _ List.mem_cons_self)) da) (dat_ok w2 (w2.tm _ List.mem_cons_self) db) hR fun z t hz ht => ?_
  exact q _ _ hz t H2 ⟨F, A, (w2.sub fun t h => List.mem_cons_of_mem _ (List.mem_cons_of_mem _ h)).push (toV_dp ht)⟩
theorem e_op {op : Operator} {r : R2} {R : PyData → PyData → (PyData → Prop) → Prop} (hr : OpR X (binaryOp op) r) (ho : ROk X.K r R) (ha : PE X a (tE X.K W wa)) (hb : PE X b (tE X.K W wb)) : PE X (.BinOp a op b pos) (tE X.K W (wOp R wa wb)) :=
  PE.imp (pe_op hr ha hb) fun _ _ _ h => wOp_of ho h
theorem e_cmp {op : CmpOp} {r : R2} {R : PyData → PyData → (PyData → Prop) → Prop} (hr : OpR X (compareOp op) r) (ho : ROk X.K r R) (hm : behindInMarks op b = false) (ha : PE X a (tE X.K W wa)) (hb : PE X b (tE X.K W wb)) : PE X (.Compare a [op] [b] pos) (tE X.K W (wOp R wa wb)) :=
  PE.imp (pe_cmpR hr ha hb hm) fun _ _ _ h => wOp_of ho h

/-! ### the operations -/
def rAddD : PyData → PyData → (PyData → Prop) → Prop := fun a b q => match a, b with
  | .int i, .int j => q (.int (i + j))
  | .str x, .str y => x.length + y.length ≤ sizeLine ∧ q (.str (x ++ y))
  | _, _ => False
def rSubD : PyData → PyData → (PyData → Prop) → Prop := fun a b q => match a, b with
  | .int i, .int j => q (.int (i - j))
  | _, _ => False
def rMulD : PyData → PyData → (PyData → Prop) → Prop := fun a b q => match a, b with
  | .int i, .int j => CMul i j ∧ q (.int (i * j))
  | _, _ => False
def rModD : PyData → PyData → (PyData → Prop) → Prop := fun a b q => match a, b with
  | .int i, .int j => 0 < j ∧ q (.int (i % j))
  | _, _ => False
def rDivD : PyData → PyData → (PyData → Prop) → Prop := fun a b q => match a, b with
  | .int i, .int j => CDiv i j ∧ q (.int (i / j))
  | _, _ => False
theorem dp_int {K : PySem.W.Frag} {H : Hp} {u : V} {i : Int} (h : Dp K H u (.int i)) : u = .int i := by cases h; rfl
theorem dp_str {K : PySem.W.Frag} {H : Hp} {u : V} {i : Str} (h : Dp K H u (.str i)) : u = .str i := by cases h; rfl
theorem dp_bl {K : PySem.W.Frag} {H : Hp} {u : V} {i : Bool} (h : Dp K H u (.bool i)) : u = .bl i := by cases h; rfl
theorem dp_non {K : PySem.W.Frag} {H : Hp} {u : V} (h : Dp K H u .none) : u = .non := by cases h; rfl
theorem op_addD : OpR X (binaryOp .Add) (fun x y H Q => (rI0 fun i j => .int (i + j)) x y H Q ∨ ∃ i j, x = .str i ∧ y = .str j ∧ i.length + j.length ≤ sizeLine ∧ Q (.str (i ++ j)) H) := op_add.or op_add_str
theorem ok_addD {K : PySem.W.Frag} : ROk K (fun x y H Q => (rI0 fun i j => .int (i + j)) x y H Q ∨ ∃ i j, x = .str i ∧ y = .str j ∧ i.length + j.length ≤ sizeLine ∧ Q (.str (i ++ j)) H) rAddD := by
  intro u v x y H Q P hx hy h q
  cases x <;> cases y <;> try exact h.elim
  · cases dp_int hx; cases dp_int hy
    exact .inl ⟨_, _, rfl, rfl, q _ _ h rfl⟩
  · cases dp_str hx; cases dp_str hy
    exact .inr ⟨_, _, rfl, rfl, h.1, q _ _ h.2 rfl⟩
theorem ok_subD {K : PySem.W.Frag} : ROk K (rI0 fun i j => .int (i - j)) rSubD := by
  intro u v x y H Q P hx hy h q
  cases x <;> cases y <;> try exact h.elim
  cases dp_int hx; cases dp_int hy
  exact ⟨_, _, rfl, rfl, q _ _ h rfl⟩
theorem ok_mulD {K : PySem.W.Frag} : ROk K (rI CMul fun i j => .int (i * j)) rMulD := by
  intro u v x y H Q P hx hy h q
  cases x <;> cases y <;> try exact h.elim
  cases dp_int hx; cases dp_int hy
  exact ⟨_, _, rfl, rfl, h.1, q _ _ h.2 rfl⟩
theorem ok_modD {K : PySem.W.Frag} : ROk K (rI (fun _ j => 0 < j) fun i j => .int (i % j)) rModD := by
  intro u v x y H Q P hx hy h q
  cases x <;> cases y <;> try exact h.elim
  cases dp_int hx; cases dp_int hy
  exact ⟨_, _, rfl, rfl, h.1, q _ _ h.2 rfl⟩
theorem ok_divD {K : PySem.W.Frag} : ROk K (rI CDiv fun i j => .int (i / j)) rDivD := by
  intro u v x y H Q P hx hy h q
  cases x <;> cases y <;> try exact h.elim
  cases dp_int hx; cases dp_int hy
  exact ⟨_, _, rfl, rfl, h.1, q _ _ h.2 rfl⟩
abbrev wAdd := wOp rAddD
abbrev wSub := wOp rSubD
abbrev wMul := wOp rMulD
abbrev wMod := wOp rModD
abbrev wDiv := wOp rDivD
theorem e_add (ha : PE X a (tE X.K W wa)) (hb : PE X b (tE X.K W wb)) : PE X (.BinOp a .Add b pos) (tE X.K W (wAdd wa wb)) := e_op op_addD ok_addD ha hb
theorem e_sub (ha : PE X a (tE X.K W wa)) (hb : PE X b (tE X.K W wb)) : PE X (.BinOp a .Sub b pos) (tE X.K W (wSub wa wb)) := e_op op_sub ok_subD ha hb
theorem e_mul (ha : PE X a (tE X.K W wa)) (hb : PE X b (tE X.K W wb)) : PE X (.BinOp a .Mult b pos) (tE X.K W (wMul wa wb)) := e_op op_mul ok_mulD ha hb
theorem e_mod (ha : PE X a (tE X.K W wa)) (hb : PE X b (tE X.K W wb)) : PE X (.BinOp a .Mod b pos) (tE X.K W (wMod wa wb)) := e_op op_mod ok_modD ha hb
theorem e_div (ha : PE X a (tE X.K W wa)) (hb : PE X b (tE X.K W wb)) : PE X (.BinOp a .FloorDiv b pos) (tE X.K W (wDiv wa wb)) := e_op op_fdiv ok_divD ha hb

/-- comparisons of ints -/
def rCmpD (g : Int → Int → Bool) : PyData → PyData → (PyData → Prop) → Prop := fun a b q => match a, b with
  | .int i, .int j => q (.bool (g i j))
  | _, _ => False
theorem ok_cmpD {K : PySem.W.Frag} {g : Int → Int → Bool} : ROk K (rI0 fun i j => .bl (g i j)) (rCmpD g) := by
  intro u v x y H Q P hx hy h q
  cases x <;> cases y <;> try exact h.elim
  cases dp_int hx; cases dp_int hy
  exact ⟨_, _, rfl, rfl, q _ _ h rfl⟩
abbrev wLt := wOp (rCmpD fun i j => decide (i < j))
abbrev wLe := wOp (rCmpD fun i j => decide (i ≤ j))
abbrev wGt := wOp (rCmpD fun i j => decide (j < i))
abbrev wGe := wOp (rCmpD fun i j => decide (j ≤ i))
theorem e_lt (ha : PE X a (tE X.K W wa)) (hb : PE X b (tE X.K W wb)) : PE X (.Compare a [.Lt] [b] pos) (tE X.K W (wLt wa wb)) := e_cmp op_lt ok_cmpD (nomark _) ha hb
theorem e_le (ha : PE X a (tE X.K W wa)) (hb : PE X b (tE X.K W wb)) : PE X (.Compare a [.LtE] [b] pos) (tE X.K W (wLe wa wb)) := e_cmp op_le ok_cmpD (nomark _) ha hb
theorem e_gt (ha : PE X a (tE X.K W wa)) (hb : PE X b (tE X.K W wb)) : PE X (.Compare a [.Gt] [b] pos) (tE X.K W (wGt wa wb)) := e_cmp op_gt ok_cmpD (nomark _) ha hb
theorem e_ge (ha : PE X a (tE X.K W wa)) (hb : PE X b (tE X.K W wb)) : PE X (.Compare a [.GtE] [b] pos) (tE X.K W (wGe wa wb)) := e_cmp op_ge ok_cmpD (nomark _) ha hb

/-- == of data: flat ones, or any whose shape is known -/
def flatD : PyData → Bool
  | .none | .int _ | .str _ | .bool _ => true
  | _ => false
def eqOk (a b : PyData) : Bool := (match a, b with
  | .none, .none | .none, .int _ | .int _, .none | .none, .bool _ | .bool _, .none | .none, .str _ | .str _, .none
  | .int _, .int _ | .bool _, .bool _ | .str _, .str _ | .int _, .str _ | .str _, .int _ | .bool _, .str _ | .str _, .bool _ => true
  | _, _ => false) || (SeqAt.shaped a && SeqAt.shaped b)
def rEqP (n : Bool) : PyData → PyData → (PyData → Prop) → Prop := fun a b q => eqOk a b = true ∧ q (.bool (if n then !PyData.eqv a b else PyData.eqv a b))
theorem op_eqB (hu : X.A.units + 64 < cLine) : OpR X (compareOp .Eq) (fun x y H Q => rEq x y H Q ∨ rEqD X.K x y H Q) := op_eq.or (op_eqD hu)
theorem op_neB (hu : X.A.units + 64 < cLine) : OpR X (compareOp .NotEq) (fun x y H Q => rNe x y H Q ∨ rNeD X.K x y H Q) := op_ne.or (op_neD hu)
theorem eqv_flat {K : PySem.W.Frag} {H : Hp} {u v : V} {a b : PyData} (ha : Dp K H u a) (hb : Dp K H v b) (h : eqOk a b = true) (hn : ¬ (SeqAt.shaped a && SeqAt.shaped b) = true) : scal u v = true ∧ decide (u = v) = PyData.eqv a b := by
  unfold eqOk at h
  rw [Bool.or_eq_true] at h
  rcases h with h | h
  · cases a <;> cases b <;> first | cases h | skip
    all_goals (cases ha; cases hb)
    all_goals first | exact ⟨rfl, rfl⟩ | (refine ⟨rfl, ?_⟩; simp [PyData.eqv]; done) | (refine ⟨rfl, ?_⟩; simp [PyData.eqv]; rw [Bool.eq_iff_iff]; simp)
  · exact absurd h hn
theorem ok_eqP {K : PySem.W.Frag} : ROk K (fun x y H Q => rEq x y H Q ∨ rEqD K x y H Q) (rEqP false) := by
  intro u v x y H Q P hx hy h q
  by_cases hs : (SeqAt.shaped x && SeqAt.shaped y) = true
  · rw [Bool.and_eq_true] at hs
    exact .inr ⟨x, y, hx, hy, hs.1, hs.2, q _ _ h.2 rfl⟩
  · obtain ⟨h1, h2⟩ := eqv_flat hx hy h.1 hs
    exact .inl ⟨h1, by rw [h2]; exact q _ _ h.2 rfl⟩
theorem ok_neP {K : PySem.W.Frag} : ROk K (fun x y H Q => rNe x y H Q ∨ rNeD K x y H Q) (rEqP true) := by
  intro u v x y H Q P hx hy h q
  by_cases hs : (SeqAt.shaped x && SeqAt.shaped y) = true
  · rw [Bool.and_eq_true] at hs
    exact .inr ⟨x, y, hx, hy, hs.1, hs.2, q _ _ h.2 rfl⟩
  · obtain ⟨h1, h2⟩ := eqv_flat hx hy h.1 hs
    exact .inl ⟨h1, by rw [h2]; exact q _ _ h.2 rfl⟩
abbrev wEq := wOp (rEqP false)
abbrev wNe := wOp (rEqP true)
theorem e_eq (hu : X.A.units + 64 < cLine) (ha : PE X a (tE X.K W wa)) (hb : PE X b (tE X.K W wb)) : PE X (.Compare a [.Eq] [b] pos) (tE X.K W (wEq wa wb)) := e_cmp (op_eqB hu) ok_eqP (nomark _) ha hb
theorem e_ne (hu : X.A.units + 64 < cLine) (ha : PE X a (tE X.K W wa)) (hb : PE X b (tE X.K W wb)) : PE X (.Compare a [.NotEq] [b] pos) (tE X.K W (wNe wa wb)) := e_cmp (op_neB hu) ok_neP (nomark _) ha hb
end
end PW
namespace PW
open PySem L2
section
variable {X : Cx} {W : WX} {a b c : Expr} {wa wb : EW} {ta tb : TW} {pos : Pos} {rest : List Expr}
/-! ### is, in -/
def isNoneD : PyData → Bool
  | .none => true
  | _ => false
def wIsN (wa : EW) : EW := fun kx s k => wa kx s fun x s1 => ∃ d, dat s1 x = some d ∧ k (.d (.bool (isNoneD d))) s1
def wNotN (wa : EW) : EW := fun kx s k => wa kx s fun x s1 => ∃ d, dat s1 x = some d ∧ k (.d (.bool (!isNoneD d))) s1
theorem isN_dp {K : PySem.W.Frag} {H : Hp} {u : V} {d : PyData} (h : Dp K H u d) : decide (u = .non) = isNoneD d := by
  cases h <;> simp [isNoneD]
theorem notN_dp {K : PySem.W.Frag} {H : Hp} {u : V} {d : PyData} (h : Dp K H u d) : (!decide (u = .non)) = (!isNoneD d) := by
  cases h <;> simp [isNoneD]
theorem un_of {σ : St} {H : Hp} {H0 F0 : Hp} {A0 : List Addr} {s : PSt} {T : List (PV × V)} {kx : KX} {R : PV → PSt → Prop} {Q : VK} (w : Wd X.K H0 F0 A0 s σ T H) (xl : XL X.K H0 F0 A0 T W kx)
    (h : wa kx s R) (hr : ∀ x s1 u H1, R x s1 → Wd X.K H0 F0 A0 s1 σ ((x, u) :: T) H1 → Q u H1) : tE X.K W wa σ H Q := ⟨H0, F0, A0, s, T, kx, R, w, xl, h, fun x s1 h1 u H1 w1 => hr x s1 u H1 h1 w1⟩
theorem e_isN {j : Nat} {pos' : Pos} (ha : PE X a (tE X.K W wa)) : PE X (.Compare a [.Is] [.Constant .none j pos'] pos) (tE X.K W (wIsN wa)) := by
  refine PE.imp (pe_cmp (pc_isN ha)) fun σ H Q ⟨H0, F0, A0, s, T, kx, k, w, xl, h, q⟩ => un_of w xl h fun x s1 u H1 h1 w1 => ?_
  obtain ⟨d, hd, hk⟩ := h1
  obtain ⟨F, A, w1⟩ := w1
  rw [isN_dp (dat_ok w1 (w1.tm _ List.mem_cons_self) hd)]
  exact q _ _ hk _ H1 ⟨F, A, (w1.sub fun t h => List.mem_cons_of_mem _ h).push (.bl _)⟩
theorem e_notN {j : Nat} {pos' : Pos} (ha : PE X a (tE X.K W wa)) : PE X (.Compare a [.IsNot] [.Constant .none j pos'] pos) (tE X.K W (wNotN wa)) := by
  refine PE.imp (pe_cmp (pc_notN ha)) fun σ H Q ⟨H0, F0, A0, s, T, kx, k, w, xl, h, q⟩ => un_of w xl h fun x s1 u H1 h1 w1 => ?_
  obtain ⟨d, hd, hk⟩ := h1
  obtain ⟨F, A, w1⟩ := w1
  rw [notN_dp (dat_ok w1 (w1.tm _ List.mem_cons_self) hd)]
  exact q _ _ hk _ H1 ⟨F, A, (w1.sub fun t h => List.mem_cons_of_mem _ h).push (.bl _)⟩
/-- in a text, by one sign or any text; in a list or tuple -/
def inD (a : PyData) (xs : List PyData) : Bool := xs.any fun z => PyData.eqv z a
def rInP (n : Bool) : PyData → PyData → (PyData → Prop) → Prop := fun a b q => match a, b with
  | .str x, .str y => (∃ c, x = ⟨#[c]⟩ ∧ q (.bool (if n then !decide (c ∈ y.cps.toList) else decide (c ∈ y.cps.toList))))
  | a, .list ys => SeqAt.shaped a = true ∧ SeqAt.shaped (.list ys) = true ∧ q (.bool (if n then !inD a ys else inD a ys))
  | a, .tuple ys => flatD a = true ∧ ys.all flatD = true ∧ q (.bool (if n then !inD a ys else inD a ys))
  | _, _ => False
theorem flat_dp {K : PySem.W.Frag} {H : Hp} {u : V} {d : PyData} (h : Dp K H u d) (f : flatD d = true) : flatV u = true := by
  cases h <;> first | rfl | cases f
theorem flatAll_dp {K : PySem.W.Frag} {H : Hp} : ∀ {us : List V} {ds : List PyData}, DpAll K H us ds → ds.all flatD = true → us.all flatV = true
  | _, _, .nil, _ => rfl
  | _, _, .cons h t, f => by
    rw [List.all_cons, Bool.and_eq_true] at f
    rw [List.all_cons, flat_dp h f.1, flatAll_dp t f.2]
    rfl
theorem eqV_dp {K : PySem.W.Frag} {H : Hp} {u v : V} {a b : PyData} (ha : Dp K H u a) (hb : Dp K H v b) (fa : flatD a = true) (fb : flatD b = true) : eqV u v = PyData.eqv a b := by
  cases ha <;> cases hb <;> first | cases fa | cases fb | skip
  all_goals simp [eqV, PyData.eqv]
theorem inV_dp {K : PySem.W.Frag} {H : Hp} {u : V} {a : PyData} (ha : Dp K H u a) (fa : flatD a = true) : ∀ {us : List V} {ds : List PyData}, DpAll K H us ds → ds.all flatD = true → inV u us = inD a ds
  | _, _, .nil, _ => rfl
  | _, _, .cons h t, f => by
    rw [List.all_cons, Bool.and_eq_true] at f
    show (eqV _ u || inV u _) = (PyData.eqv _ a || inD a _)
    rw [eqV_dp h ha f.1 fa, inV_dp ha fa t f.2]
def rInR (K : PySem.W.Frag) : R2 := fun x y H Q => (∃ (c : Nat) (z : Str), x = .str ⟨#[c]⟩ ∧ y = .str z ∧ Q (.bl (decide (c ∈ z.cps.toList))) H) ∨ rInD K x y H Q ∨ rIn K false x y H Q
def rNotInR (K : PySem.W.Frag) : R2 := fun x y H Q => (∃ (c : Nat) (z : Str), x = .str ⟨#[c]⟩ ∧ y = .str z ∧ Q (.bl (!decide (c ∈ z.cps.toList))) H) ∨ rNotInD K x y H Q ∨ rIn K true x y H Q
theorem op_inR (hu : X.A.units + 65 < cLine) : OpR X (compareOp .In) (rInR X.K) := op_in_sign.or ((op_inD hu).or op_in_seq)
theorem op_notInR (hu : X.A.units + 65 < cLine) : OpR X (compareOp .NotIn) (rNotInR X.K) := op_notIn_sign.or ((op_notInD hu).or op_notIn_seq)
theorem ok_inP {K : PySem.W.Frag} : ROk K (rInR K) (rInP false) := by
  intro u v x y H Q P hx hy h q
  cases y with
  | str z =>
    cases x <;> try exact h.elim
    cases dp_str hx; cases dp_str hy
    obtain ⟨c, rfl, h⟩ := h
    exact .inl ⟨c, z, rfl, rfl, q _ _ h rfl⟩
  | list ys =>
    have h : SeqAt.shaped x = true ∧ SeqAt.shaped (.list ys) = true ∧ P (.bool (inD x ys)) := by
      cases x <;> exact h
    exact .inr (.inl ⟨x, ys, hx, hy, h.1, h.2.1, q _ _ h.2.2 rfl⟩)
  | tuple ys =>
    have h : flatD x = true ∧ ys.all flatD = true ∧ P (.bool (inD x ys)) := by
      cases x <;> exact h
    cases hy with
    | tup hs ht =>
      refine .inr (.inr ⟨_, _, rfl, .inr hs, flat_dp hx h.1, flatAll_dp ht h.2.1, ?_⟩)
      show Q (.bl (inV u _)) H
      rw [inV_dp hx h.1 ht h.2.1]
      exact q _ _ h.2.2 rfl
  | _ => cases x <;> exact h.elim
theorem ok_notInP {K : PySem.W.Frag} : ROk K (rNotInR K) (rInP true) := by
  intro u v x y H Q P hx hy h q
  cases y with
  | str z =>
    cases x <;> try exact h.elim
    cases dp_str hx; cases dp_str hy
    obtain ⟨c, rfl, h⟩ := h
    exact .inl ⟨c, z, rfl, rfl, q _ _ h rfl⟩
  | list ys =>
    have h : SeqAt.shaped x = true ∧ SeqAt.shaped (.list ys) = true ∧ P (.bool (!inD x ys)) := by
      cases x <;> exact h
    exact .inr (.inl ⟨x, ys, hx, hy, h.1, h.2.1, q _ _ h.2.2 rfl⟩)
  | tuple ys =>
    have h : flatD x = true ∧ ys.all flatD = true ∧ P (.bool (!inD x ys)) := by
      cases x <;> exact h
    cases hy with
    | tup hs ht =>
      refine .inr (.inr ⟨_, _, rfl, .inr hs, flat_dp hx h.1, flatAll_dp ht h.2.1, ?_⟩)
      show Q (.bl (!inV u _)) H
      rw [inV_dp hx h.1 ht h.2.1]
      exact q _ _ h.2.2 rfl
  | _ => cases x <;> exact h.elim
abbrev wIn := wOp (rInP false)
abbrev wNotIn := wOp (rInP true)
theorem e_in (hu : X.A.units + 65 < cLine) (hm : behindInMarks .In b = false) (ha : PE X a (tE X.K W wa)) (hb : PE X b (tE X.K W wb)) : PE X (.Compare a [.In] [b] pos) (tE X.K W (wIn wa wb)) := e_cmp (op_inR hu) ok_inP hm ha hb
theorem e_notIn (hu : X.A.units + 65 < cLine) (hm : behindInMarks .NotIn b = false) (ha : PE X a (tE X.K W wa)) (hb : PE X b (tE X.K W wb)) : PE X (.Compare a [.NotIn] [b] pos) (tE X.K W (wNotIn wa wb)) := e_cmp (op_notInR hu) ok_notInP hm ha hb

/-! ### tests -/
/-- an expression whose value is a bool -/
def wB (wa : EW) : TW := fun kx s k => wa kx s fun x s1 => ∃ c, x = .d (.bool c) ∧ k c s1
theorem tB_of {σ : St} {H : Hp} {Q : Bool → Hp → Prop} (h : tT X.K W (wB wa) σ H Q) : tB (tE X.K W wa) σ H Q := by
  obtain ⟨H0, F0, A0, s, T, kx, k, w, xl, h, q⟩ := h
  refine un_of w xl h fun x s1 u H1 h1 w1 => ?_
  obtain ⟨c, rfl, hk⟩ := h1
  obtain ⟨F, A, w1⟩ := w1
  exact ⟨c, dp_bl (dq_dp (w1.tm _ List.mem_cons_self)), q c s1 hk H1 ⟨F, A, w1.sub fun t h => List.mem_cons_of_mem _ h⟩⟩
/-- a comparison as a test: e_eq and its like hand on PE of the comparison -/
theorem t_op {op : CmpOp} {r : R2} {R : PyData → PyData → (PyData → Prop) → Prop} (hr : OpR X (compareOp op) r) (ho : ROk X.K r R) (hm : behindInMarks op b = false) (ha : PE X a (tE X.K W wa)) (hb : PE X b (tE X.K W wb)) : PT X (.Compare a [op] [b] pos) (tT X.K W (wB (wOp R wa wb))) := by
  refine PT.imp (pt_cmpR hr ha hb hm) fun σ H Q ⟨H0, F0, A0, s, T, kx, k, w, xl, h, q⟩ => ?_
  refine wOp_of ho ⟨H0, F0, A0, s, T, kx, _, w, xl, h, fun v s1 h1 u H1 w1 => ?_⟩
  obtain ⟨c, rfl, hk⟩ := h1
  obtain ⟨F, A, w1⟩ := w1
  exact ⟨c, dp_bl (dq_dp (w1.tm _ List.mem_cons_self)), q c s1 hk H1 ⟨F, A, w1.sub fun t h => List.mem_cons_of_mem _ h⟩⟩
theorem t_eq (hu : X.A.units + 64 < cLine) (ha : PE X a (tE X.K W wa)) (hb : PE X b (tE X.K W wb)) : PT X (.Compare a [.Eq] [b] pos) (tT X.K W (wB (wEq wa wb))) := t_op (op_eqB hu) ok_eqP (nomark _) ha hb
theorem t_ne (hu : X.A.units + 64 < cLine) (ha : PE X a (tE X.K W wa)) (hb : PE X b (tE X.K W wb)) : PT X (.Compare a [.NotEq] [b] pos) (tT X.K W (wB (wNe wa wb))) := t_op (op_neB hu) ok_neP (nomark _) ha hb
theorem t_lt (ha : PE X a (tE X.K W wa)) (hb : PE X b (tE X.K W wb)) : PT X (.Compare a [.Lt] [b] pos) (tT X.K W (wB (wLt wa wb))) := t_op op_lt ok_cmpD (nomark _) ha hb
theorem t_le (ha : PE X a (tE X.K W wa)) (hb : PE X b (tE X.K W wb)) : PT X (.Compare a [.LtE] [b] pos) (tT X.K W (wB (wLe wa wb))) := t_op op_le ok_cmpD (nomark _) ha hb
theorem t_gt (ha : PE X a (tE X.K W wa)) (hb : PE X b (tE X.K W wb)) : PT X (.Compare a [.Gt] [b] pos) (tT X.K W (wB (wGt wa wb))) := t_op op_gt ok_cmpD (nomark _) ha hb
theorem t_ge (ha : PE X a (tE X.K W wa)) (hb : PE X b (tE X.K W wb)) : PT X (.Compare a [.GtE] [b] pos) (tT X.K W (wB (wGe wa wb))) := t_op op_ge ok_cmpD (nomark _) ha hb
theorem t_in (hu : X.A.units + 65 < cLine) (hm : behindInMarks .In b = false) (ha : PE X a (tE X.K W wa)) (hb : PE X b (tE X.K W wb)) : PT X (.Compare a [.In] [b] pos) (tT X.K W (wB (wIn wa wb))) := t_op (op_inR hu) ok_inP hm ha hb
theorem t_notIn (hu : X.A.units + 65 < cLine) (hm : behindInMarks .NotIn b = false) (ha : PE X a (tE X.K W wa)) (hb : PE X b (tE X.K W wb)) : PT X (.Compare a [.NotIn] [b] pos) (tT X.K W (wB (wNotIn wa wb))) := t_op (op_notInR hu) ok_notInP hm ha hb
theorem t_isN {j : Nat} {pos' : Pos} (ha : PE X a (tE X.K W wa)) : PT X (.Compare a [.Is] [.Constant .none j pos'] pos) (tT X.K W (wB (wIsN wa))) := by
  refine PT.imp (pt_cmp (pc_isN ha)) fun σ H Q ⟨H0, F0, A0, s, T, kx, k, w, xl, h, q⟩ => un_of w xl h fun x s1 u H1 h1 w1 => ?_
  obtain ⟨d, hd, c, e, hk⟩ := h1
  obtain ⟨F, A, w1⟩ := w1
  injection e with e
  injection e with e
  exact ⟨c, by rw [isN_dp (dat_ok w1 (w1.tm _ List.mem_cons_self) hd), e], q _ _ hk H1 ⟨F, A, w1.sub fun t h => List.mem_cons_of_mem _ h⟩⟩
theorem t_notN {j : Nat} {pos' : Pos} (ha : PE X a (tE X.K W wa)) : PT X (.Compare a [.IsNot] [.Constant .none j pos'] pos) (tT X.K W (wB (wNotN wa))) := by
  refine PT.imp (pt_cmp (pc_notN ha)) fun σ H Q ⟨H0, F0, A0, s, T, kx, k, w, xl, h, q⟩ => un_of w xl h fun x s1 u H1 h1 w1 => ?_
  obtain ⟨d, hd, c, e, hk⟩ := h1
  obtain ⟨F, A, w1⟩ := w1
  injection e with e
  injection e with e
  exact ⟨c, by rw [notN_dp (dat_ok w1 (w1.tm _ List.mem_cons_self) hd), e], q _ _ hk H1 ⟨F, A, w1.sub fun t h => List.mem_cons_of_mem _ h⟩⟩
/-- any expression whose value is a bool -/
theorem t_val (h : PE X a (tE X.K W wa)) (he : ∀ whole, isTrue a X.env whole = (do let v ← whole; standAt a.pos; holding [v] (truthy v)) := by intro _; rfl) : PT X a (tT X.K W (wB wa)) := PT.imp (pt_val h he) fun _ _ _ h => tB_of h
/-- truth -/
def truD : PyData → (Bool → Prop) → Prop := fun x q => match x with
  | .none => q false
  | .bool b => q b
  | .int i => q (i != 0)
  | .str y => y.length ≤ sizeLine ∧ q ((y.length : Int) != 0)
  | .list xs => q (!xs.isEmpty)
  | .tuple xs => q (!xs.isEmpty)
  | .dict _ => False
def wTru (wa : EW) : TW := fun kx s k => wa kx s fun x s1 => ∃ d, dat s1 x = some d ∧ truD d fun c => k c s1
theorem dpAll_isEmpty {K : PySem.W.Frag} {H : Hp} : ∀ {us : List V} {ds : List PyData}, DpAll K H us ds → us.isEmpty = ds.isEmpty
  | _, _, .nil => rfl
  | _, _, .cons _ _ => rfl
theorem tru_dp {K : PySem.W.Frag} {H : Hp} {u : V} {d : PyData} {P : Bool → Prop} (h : Dp K H u d) (t : truD d P) : ∃ k, TruV K u H k ∧ P k := by
  cases h with
  | non => exact ⟨_, rfl, t⟩
  | bl b => exact ⟨_, rfl, t⟩
  | int i => exact ⟨_, rfl, t⟩
  | str x => exact ⟨_, ⟨t.1, rfl⟩, t.2⟩
  | lst h r => exact ⟨_, .inl ⟨_, h, rfl⟩, by rw [dpAll_isEmpty r]; exact t⟩
  | tup h r => exact ⟨_, .inr (.inl ⟨_, h, rfl⟩), by rw [dpAll_isEmpty r]; exact t⟩
theorem t_tru (ha : PE X a (tE X.K W wa)) (he : ∀ whole, isTrue a X.env whole = (do let v ← whole; standAt a.pos; holding [v] (truthy v)) := by intro _; rfl) : PT X a (tT X.K W (wTru wa)) := by
  refine PT.imp (pt_truth ha he) fun σ H Q ⟨H0, F0, A0, s, T, kx, k, w, xl, h, q⟩ => un_of w xl h fun x s1 u H1 h1 w1 => ?_
  obtain ⟨d, hd, t⟩ := h1
  obtain ⟨F, A, w1⟩ := w1
  obtain ⟨c, h1, h2⟩ := tru_dp (dat_ok w1 (w1.tm _ List.mem_cons_self) hd) t
  exact ⟨c, h1, q c s1 h2 H1 ⟨F, A, w1.sub fun t h => List.mem_cons_of_mem _ h⟩⟩
def wAnd (t u : TW) : TW := fun kx s k => t kx s fun c s1 => (c = true → u kx s1 k) ∧ (c = false → k false s1)
def wOr (t u : TW) : TW := fun kx s k => t kx s fun c s1 => (c = true → k true s1) ∧ (c = false → u kx s1 k)
def wNot (t : TW) : TW := fun kx s k => t kx s fun c s1 => k (!c) s1
theorem tAnd_of {σ : St} {H : Hp} {Q : Bool → Hp → Prop} (h : tT X.K W (wAnd ta tb) σ H Q) : tAnd (tT X.K W ta) (tT X.K W tb) σ H Q := by
  obtain ⟨H0, F0, A0, s, T, kx, k, w, xl, h, q⟩ := h
  refine ⟨H0, F0, A0, s, T, kx, _, w, xl, h, fun c s1 h1 H1 w1 => ?_⟩
  cases c with
  | true => exact iteT ⟨H0, F0, A0, s1, T, kx, k, w1, xl, h1.1 rfl, q⟩
  | false => exact iteF (q _ _ (h1.2 rfl) H1 w1)
theorem tOr_of {σ : St} {H : Hp} {Q : Bool → Hp → Prop} (h : tT X.K W (wOr ta tb) σ H Q) : tOr (tT X.K W ta) (tT X.K W tb) σ H Q := by
  obtain ⟨H0, F0, A0, s, T, kx, k, w, xl, h, q⟩ := h
  refine ⟨H0, F0, A0, s, T, kx, _, w, xl, h, fun c s1 h1 H1 w1 => ?_⟩
  cases c with
  | true => exact iteT (q _ _ (h1.1 rfl) H1 w1)
  | false => exact iteF ⟨H0, F0, A0, s1, T, kx, k, w1, xl, h1.2 rfl, q⟩
theorem t_and1 (ha : PT X a (tT X.K W ta)) : L2.PW X (.BoolOp .And [a] pos) (tT X.K W ta) := pw_and1 ha
theorem t_or1 (ha : PT X a (tT X.K W ta)) : L2.PW X (.BoolOp .Or [a] pos) (tT X.K W ta) := pw_or1 ha
theorem t_andC (ha : PT X a (tT X.K W ta)) (hb : L2.PW X (.BoolOp .And (b :: rest) pos) (tT X.K W tb)) : L2.PW X (.BoolOp .And (a :: b :: rest) pos) (tT X.K W (wAnd ta tb)) := PWi.imp (pw_and ha hb) fun _ _ _ h => tAnd_of h
theorem t_orC (ha : PT X a (tT X.K W ta)) (hb : L2.PW X (.BoolOp .Or (b :: rest) pos) (tT X.K W tb)) : L2.PW X (.BoolOp .Or (a :: b :: rest) pos) (tT X.K W (wOr ta tb)) := PWi.imp (pw_or ha hb) fun _ _ _ h => tOr_of h
theorem t_pw {e : Expr} (h : L2.PW X e (tT X.K W ta)) : PT X e (tT X.K W ta) := h.pt
theorem t_not (ha : PT X a (tT X.K W ta)) : PT X (.UnaryOp .Not a pos) (tT X.K W (wNot ta)) := by
  refine PT.imp (pt_not ha) fun σ H Q ⟨H0, F0, A0, s, T, kx, k, w, xl, h, q⟩ => ?_
  exact ⟨H0, F0, A0, s, T, kx, _, w, xl, h, fun c s1 h1 H1 w1 => q _ _ h1 H1 w1⟩
/-- and, or, not as values (of bools) -/
def wAndV (wa wb : EW) : EW := fun kx s k => wa kx s fun x s1 => ∃ c, x = .d (.bool c) ∧ (c = true → wb kx s1 k) ∧ (c = false → k (.d (.bool false)) s1)
def wOrV (wa wb : EW) : EW := fun kx s k => wa kx s fun x s1 => ∃ c, x = .d (.bool c) ∧ (c = true → k (.d (.bool true)) s1) ∧ (c = false → wb kx s1 k)
def wNotV (wa : EW) : EW := fun kx s k => wa kx s fun x s1 => ∃ c, x = .d (.bool c) ∧ k (.d (.bool (!c))) s1
def wIf (t : TW) (wa wb : EW) : EW := fun kx s k => t kx s fun c s1 => (c = true → wa kx s1 k) ∧ (c = false → wb kx s1 k)
theorem e_andC (ha : PE X a (tE X.K W wa)) (hb : PE X (.BoolOp .And (b :: rest) pos) (tE X.K W wb)) : PE X (.BoolOp .And (a :: b :: rest) pos) (tE X.K W (wAndV wa wb)) := by
  refine PE.imp (pe_and ha hb) fun σ H Q ⟨H0, F0, A0, s, T, kx, k, w, xl, h, q⟩ => un_of w xl h fun x s1 u H1 h1 w1 => ?_
  obtain ⟨c, rfl, h1, h2⟩ := h1
  obtain ⟨F, A, w1⟩ := w1
  refine ⟨c, dp_bl (dq_dp (w1.tm _ List.mem_cons_self)), ?_⟩
  have w2 := w1.sub (T' := T) fun t h => List.mem_cons_of_mem _ h
  cases c with
  | true => exact iteT ⟨H0, F0, A0, s1, T, kx, k, ⟨F, A, w2⟩, xl, h1 rfl, q⟩
  | false => exact iteF (q _ _ (h2 rfl) _ H1 ⟨F, A, w2.push (.bl _)⟩)
theorem e_orC (ha : PE X a (tE X.K W wa)) (hb : PE X (.BoolOp .Or (b :: rest) pos) (tE X.K W wb)) : PE X (.BoolOp .Or (a :: b :: rest) pos) (tE X.K W (wOrV wa wb)) := by
  refine PE.imp (pe_or ha hb) fun σ H Q ⟨H0, F0, A0, s, T, kx, k, w, xl, h, q⟩ => un_of w xl h fun x s1 u H1 h1 w1 => ?_
  obtain ⟨c, rfl, h1, h2⟩ := h1
  obtain ⟨F, A, w1⟩ := w1
  refine ⟨c, dp_bl (dq_dp (w1.tm _ List.mem_cons_self)), ?_⟩
  have w2 := w1.sub (T' := T) fun t h => List.mem_cons_of_mem _ h
  cases c with
  | true => exact iteT (q _ _ (h1 rfl) _ H1 ⟨F, A, w2.push (.bl _)⟩)
  | false => exact iteF ⟨H0, F0, A0, s1, T, kx, k, ⟨F, A, w2⟩, xl, h2 rfl, q⟩
theorem e_one {op : BoolOp} (ha : PE X a (tE X.K W wa)) : PE X (.BoolOp op [a] pos) (tE X.K W wa) := pe_one ha
theorem e_not (ha : PE X a (tE X.K W wa)) : PE X (.UnaryOp .Not a pos) (tE X.K W (wNotV wa)) := by
  refine PE.imp (pe_not ha) fun σ H Q ⟨H0, F0, A0, s, T, kx, k, w, xl, h, q⟩ => un_of w xl h fun x s1 u H1 h1 w1 => ?_
  obtain ⟨c, rfl, h1⟩ := h1
  obtain ⟨F, A, w1⟩ := w1
  exact ⟨c, dp_bl (dq_dp (w1.tm _ List.mem_cons_self)), q _ _ h1 _ H1 ⟨F, A, (w1.sub fun t h => List.mem_cons_of_mem _ h).push (.bl _)⟩⟩
theorem e_if (hc : PT X c (tT X.K W ta)) (ha : PE X a (tE X.K W wa)) (hb : PE X b (tE X.K W wb)) : PE X (.IfExp c a b pos) (tE X.K W (wIf ta wa wb)) := by
  refine PE.imp (pe_ifExp hc ha hb) fun σ H Q ⟨H0, F0, A0, s, T, kx, k, w, xl, h, q⟩ => ?_
  refine ⟨H0, F0, A0, s, T, kx, _, w, xl, h, fun c s1 h1 H1 w1 => ?_⟩
  cases c with
  | true => exact iteT ⟨H0, F0, A0, s1, T, kx, k, w1, xl, h1.1 rfl, q⟩
  | false => exact iteF ⟨H0, F0, A0, s1, T, kx, k, w1, xl, h1.2 rfl, q⟩
end
end PW
namespace PW
open PySem L2
/-! ### arguments, displays, items, slices -/
def frzs : List PV → PSt → (List PyData → PSt → Prop) → Prop
  | [], s, k => k [] s
  | v :: vs, s, k => frz v s fun x s1 => frzs vs s1 fun xs s2 => k (x :: xs) s2
/-- arguments of a def: the script goes as it is, owned lists are frozen -/
def prep : List PV → PSt → (List PV → PSt → Prop) → Prop
  | [], s, k => k [] s
  | .scr ns :: vs, s, k => prep vs s fun xs s2 => k (.scr ns :: xs) s2
  | .gl u :: vs, s, k => prep vs s fun xs s2 => k (.gl u :: xs) s2
  | .exc u :: vs, s, k => prep vs s fun xs s2 => k (.exc u :: xs) s2
  | .dk u :: vs, s, k => prep vs s fun xs s2 => k (.dk u :: xs) s2
  | .own n :: vs, s, k => match s.o[n]? with
    | some (.di kvs) => prep vs (s.frzV n (.dk kvs)) fun xs s2 => k (.dk kvs :: xs) s2
    | _ => frz (.own n) s fun x s1 => prep vs s1 fun xs s2 => k (.d x :: xs) s2
  | v :: vs, s, k => frz v s fun x s1 => prep vs s1 fun xs s2 => k (.d x :: xs) s2
section
variable {K : PySem.W.Frag} {H0 F0 : Hp} {A0 : List Addr} {σ : St} {H : Hp}
theorem frzs_ok : ∀ (vs : List PV) (us : List V) (s : PSt) (T : List (PV × V)) (k : List PyData → PSt → Prop), us.length = vs.length → Wd K H0 F0 A0 s σ (vs.zip us ++ T) H → frzs vs s k →
    ∃ xs s', k xs s' ∧ xs.length = us.length ∧ Wd K H0 F0 A0 s' σ ((xs.map PV.d).zip us ++ T) H
  | [], [], s, T, k, _, w, h => ⟨[], s, h, rfl, w⟩
  | v :: vs, u :: us, s, T, k, e, w, h => by
    obtain ⟨x, s1, h1, w1⟩ := frz_ok w h
    obtain ⟨xs, s2, h2, e2, w2⟩ := frzs_ok vs us s1 ((.d x, u) :: T) _ (Nat.succ.inj e) (w1.sub fun t ht => by
      rcases List.mem_append.mp ht with q | q
      · exact List.mem_cons_of_mem _ (List.mem_append_left _ q)
      · rcases List.mem_cons.mp q with q | q
        · rw [q]; exact List.mem_cons_self
        · exact List.mem_cons_of_mem _ (List.mem_append_right _ q)) h1
    refine ⟨x :: xs, s2, h2, by rw [List.length_cons, List.length_cons, e2], w2.sub fun t ht => ?_⟩
    rcases List.mem_cons.mp ht with q | q
    · rw [q]; exact List.mem_append_right _ List.mem_cons_self
    · rcases List.mem_append.mp q with q | q
      · exact List.mem_append_left _ q
      · exact List.mem_append_right _ (List.mem_cons_of_mem _ q)
  | [], _ :: _, _, _, _, e, _, _ => nomatch e
  | _ :: _, [], _, _, _, e, _, _ => nomatch e
/-- what a prepared argument is -/
def Plain : PV → Prop
  | .own _ => False
  | .tp _ => False
  | _ => True
theorem prep_cons {v : PV} {vs : List PV} {s : PSt} {k : List PV → PSt → Prop} (h : prep (v :: vs) s k) : (Plain v ∧ prep vs s fun xs s2 => k (v :: xs) s2) ∨ (frz v s fun x s1 => prep vs s1 fun xs s2 => k (.d x :: xs) s2) ∨
    ∃ n kvs, v = .own n ∧ s.o[n]? = some (.di kvs) ∧ prep vs (s.frzV n (.dk kvs)) fun xs s2 => k (.dk kvs :: xs) s2 := by
  cases v with
  | scr ns => exact .inl ⟨True.intro, h⟩
  | gl ns => exact .inl ⟨True.intro, h⟩
  | exc ns => exact .inl ⟨True.intro, h⟩
  | d x => exact .inr (.inl h)
  | own n =>
    have h : (match s.o[n]? with
      | some (.di kvs) => prep vs (s.frzV n (.dk kvs)) fun xs s2 => k (.dk kvs :: xs) s2
      | _ => frz (.own n) s fun x s1 => prep vs s1 fun xs s2 => k (.d x :: xs) s2) := h
    split at h
    · rename_i kvs e
      exact .inr (.inr ⟨n, kvs, rfl, e, h⟩)
    · exact .inr (.inl h)
  | tp ps => exact .inr (.inl h)
  | xd ps => exact .inr (.inl h)
  | dk ps => exact .inl ⟨True.intro, h⟩
theorem prep_ok : ∀ (vs : List PV) (us : List V) (s : PSt) (T : List (PV × V)) (k : List PV → PSt → Prop), us.length = vs.length → Wd K H0 F0 A0 s σ (vs.zip us ++ T) H → prep vs s k →
    ∃ xs s', k xs s' ∧ xs.length = us.length ∧ (∀ x ∈ xs, Plain x) ∧ Wd K H0 F0 A0 s' σ (xs.zip us ++ T) H
  | [], [], s, T, k, _, w, h => ⟨[], s, h, rfl, (fun _ z => nomatch z), w⟩
  | v :: vs, u :: us, s, T, k, e, w, h => by
    have go : ∃ x s1, Plain x ∧ (prep vs s1 fun xs s2 => k (x :: xs) s2) ∧ Wd K H0 F0 A0 s1 σ ((x, u) :: (vs.zip us ++ T)) H := by
      rcases prep_cons h with ⟨pl, h⟩ | h | ⟨n, kvs, rfl, ho, h⟩
      · exact ⟨v, s, pl, h, w⟩
      · obtain ⟨x, s1, h1, w1⟩ := frz_ok w h
        exact ⟨.d x, s1, True.intro, h1, w1⟩
      · obtain ⟨F, A, w⟩ := w
        obtain ⟨p, hp, rfl⟩ := w.tm _ List.mem_cons_self
        obtain ⟨F', w'⟩ := w.frzD hp ho
        refine ⟨.dk kvs, _, True.intro, h, F', A, w'.sub fun t ht => ?_⟩
        rcases List.mem_cons.mp ht with e | ht
        · rw [e]; exact List.mem_cons_self
        · exact List.mem_cons_of_mem _ (List.mem_cons_of_mem _ ht)
    obtain ⟨x, s1, px, h1, w1⟩ := go
    obtain ⟨xs, s2, h2, e2, p2, w2⟩ := prep_ok vs us s1 ((x, u) :: T) _ (Nat.succ.inj e) (w1.sub fun t ht => by
      rcases List.mem_append.mp ht with q | q
      · exact List.mem_cons_of_mem _ (List.mem_append_left _ q)
      · rcases List.mem_cons.mp q with q | q
        · rw [q]; exact List.mem_cons_self
        · exact List.mem_cons_of_mem _ (List.mem_append_right _ q)) h1
    refine ⟨x :: xs, s2, h2, by rw [List.length_cons, List.length_cons, e2], fun y hy => ?_, w2.sub fun t ht => ?_⟩
    · rcases List.mem_cons.mp hy with q | q
      · rw [q]; exact px
      · exact p2 y q
    · rcases List.mem_cons.mp ht with q | q
      · rw [q]; exact List.mem_append_right _ List.mem_cons_self
      · rcases List.mem_append.mp q with q | q
        · exact List.mem_append_left _ q
        · exact List.mem_append_right _ (List.mem_cons_of_mem _ q)
  | [], _ :: _, _, _, _, e, _, _ => nomatch e
  | _ :: _, [], _, _, _, e, _, _ => nomatch e
/-- frozen temps, read off -/
theorem temps_dq {s : PSt} {F : Hp} {A : List Addr} : ∀ (xs : List PyData) (us : List V) (T : List (PV × V)), xs.length = us.length → WdF K H0 F0 A0 s σ ((xs.map PV.d).zip us ++ T) H F A → DqAll K F us xs
  | [], [], _, _, _ => .nil
  | x :: xs, u :: us, T, e, w => .cons (w.tm (.d x, u) List.mem_cons_self) (temps_dq xs us T (Nat.succ.inj e) (w.sub fun t h => List.mem_cons_of_mem _ h))
  | [], _ :: _, _, e, _ => nomatch e
  | _ :: _, [], _, e, _ => nomatch e
end
def wNil : AW := fun _ s k => k [] s
def wCons (wa : EW) (wr : AW) : AW := fun kx s k => wa kx s fun x s1 => wr kx s1 fun xs s2 => k (x :: xs) s2
def wTup (ws : AW) : EW := fun kx s k => ws kx s fun vs s1 => frzs vs s1 fun xs s2 => xs.length ≤ sizeLine ∧ k (.d (.tuple xs)) s2
def wLst (ws : AW) : EW := fun kx s k => ws kx s fun vs s1 => frzs vs s1 fun xs s2 => xs.length ≤ sizeLine ∧ k (.own s2.o.length) ⟨s2.r, s2.o ++ [.dl xs]⟩
def ixD (a : PyData) (i : Int) : Option PyData := match a with
  | .list xs => atI xs i
  | .tuple xs => atI xs i
  | .str z => (atI z.cps.toList i).map fun c => .str ⟨#[c]⟩
  | _ => none
def strLe : PyData → Prop
  | .str z => z.length ≤ sizeLine
  | _ => True
def wIx (wa wb : EW) : EW := fun kx s k => wa kx s fun x s1 => wb kx s1 fun y s2 => ∃ a i, dat s2 x = some a ∧ dat s2 y = some (.int i) ∧ strLe a ∧ ∃ z, ixD a i = some z ∧ k (.d z) s2
def cutD {α : Type} (xs : List α) (lo hi : Option Int) : List α := (xs.drop (HT.sIx xs.length 0 lo)).take (HT.sIx xs.length xs.length hi - HT.sIx xs.length 0 lo)
def wNoPart : OW := fun _ s k => k none s
def wPart (wa : EW) : OW := fun kx s k => wa kx s fun x s1 => ∃ i, x = .d (.int i) ∧ k (some i) s1
/-- a slice: of a text, a tuple; a new list -/
def wSl (wa : EW) (wl wh : OW) : EW := fun kx s k => wa kx s fun x s1 => wl kx s1 fun lo s2 => wh kx s2 fun hi s3 => ∃ a, dat s3 x = some a ∧ match a with
  | .str z => z.length ≤ sizeLine ∧ k (.d (.str (cutS z lo hi))) s3
  | .tuple xs => k (.d (.tuple (cutD xs lo hi))) s3
  | .list xs => k (.own s3.o.length) ⟨s3.r, s3.o ++ [.dl (cutD xs lo hi)]⟩
  | _ => False
section
variable {X : Cx} {W : WX} {a b e : Expr} {es : List Expr} {wa wb we : EW} {ws : AW} {wl wh : OW} {pos : Pos}
theorem a_nil : PA X [] (tA X.K W wNil) := PA.imp pa_nil fun σ H Q ⟨H0, F0, A0, s, T, kx, k, w, xl, h, q⟩ => q [] s h [] H rfl w
theorem a_cons (ha : PE X e (tE X.K W we)) (hr : PA X es (tA X.K W ws)) (hs : starEach (e :: es) X.env = (false, eval e X.env) :: starEach es X.env := by rfl) : PA X (e :: es) (tA X.K W (wCons we ws)) := by
  refine PA.imp (pa_cons ha hr hs) fun σ H Q ⟨H0, F0, A0, s, T, kx, k, w, xl, h, q⟩ => ?_
  refine ⟨H0, F0, A0, s, T, kx, _, w, xl, h, fun x s1 h1 u H1 w1 => ?_⟩
  refine ⟨H0, F0, A0, s1, (x, u) :: T, kx, _, w1, xl.push, h1, fun xs s2 h2 us H2 e2 w2 => ?_⟩
  refine q _ _ h2 _ H2 (by rw [List.length_cons, List.length_cons, e2]) (w2.sub fun t ht => ?_)
  rcases List.mem_cons.mp ht with z | z
  · rw [z]; exact List.mem_append_right _ List.mem_cons_self
  · rcases List.mem_append.mp z with z | z
    · exact List.mem_append_left _ z
    · exact List.mem_append_right _ (List.mem_cons_of_mem _ z)
theorem ar_of {σ : St} {H : Hp} {Q : List V → Hp → Prop} {H0 F0 : Hp} {A0 : List Addr} {s : PSt} {T : List (PV × V)} {kx : KX} {R : List PV → PSt → Prop} (w : Wd X.K H0 F0 A0 s σ T H) (xl : XL X.K H0 F0 A0 T W kx)
    (h : ws kx s R) (hr : ∀ vs s1 us H1, R vs s1 → us.length = vs.length → Wd X.K H0 F0 A0 s1 σ (vs.zip us ++ T) H1 → Q us H1) : tA X.K W ws σ H Q := ⟨H0, F0, A0, s, T, kx, R, w, xl, h, fun vs s1 h1 us H1 e w1 => hr vs s1 us H1 h1 e w1⟩
theorem e_tup {x1} (h : PA X es (tA X.K W ws)) : PE X (.Tuple es x1 pos) (tE X.K W (wTup ws)) := by
  refine PE.imp (pe_tup h) fun σ H Q ⟨H0, F0, A0, s, T, kx, k, w, xl, h, q⟩ => ar_of w xl h fun vs s1 us H1 h1 e w1 => ?_
  obtain ⟨xs, s2, ⟨hz, hk⟩, e2, w2⟩ := frzs_ok vs us s1 T _ e w1 h1
  refine ⟨by rw [← e2]; exact hz, fun p hp => ?_⟩
  obtain ⟨F, A, w2⟩ := w2
  have d := temps_dq xs us T e2 w2
  have w3 := w2.newD (o := .tup us) hp
  refine q _ _ hk _ _ ⟨_, A, (w3.sub fun t h => List.mem_append_right _ h).push (.tup (SqT.of upd_same) (dqAll_same (same_new (w2.fz.g.free hp)) d))⟩
theorem e_lst (h : PA X es (tA X.K W ws)) : PE X (.List es pos) (tE X.K W (wLst ws)) := by
  refine PE.imp (pe_lst h) fun σ H Q ⟨H0, F0, A0, s, T, kx, k, w, xl, h, q⟩ => ar_of w xl h fun vs s1 us H1 h1 e w1 => ?_
  obtain ⟨xs, s2, ⟨hz, hk⟩, e2, w2⟩ := frzs_ok vs us s1 T _ e w1 h1
  refine ⟨by rw [← e2]; exact hz, fun p hp => ?_⟩
  obtain ⟨F, A, w2⟩ := w2
  have d := temps_dq xs us T e2 w2
  have w3 := (w2.sub (T' := T) fun t h => List.mem_append_right _ h).newL hp d
  refine q _ _ hk _ _ ⟨_, _, w3.push ⟨p, ?_, rfl⟩⟩
  rw [← w2.len, List.getElem?_append_right (Nat.le_refl _), Nat.sub_self]
  rfl
theorem atI_map {α β : Type} (f : α → β) (xs : List α) (i : Int) : atI (xs.map f) i = (atI xs i).map f := by
  unfold atI
  rw [List.length_map]
  cases ixN xs.length i with
  | none => rfl
  | some j => simp
theorem atI_dq {K : PySem.W.Frag} {H : Hp} {vs : List V} {ds : List PyData} {i : Int} {z : PyData} (h : DqAll K H vs ds) (e : atI ds i = some z) : ∃ v, atI vs i = some v ∧ Dq K H v z := by
  unfold atI at e ⊢
  rw [h.len]
  cases hx : ixN ds.length i with
  | none => rw [hx] at e; cases e
  | some j =>
    rw [hx] at e
    exact h.getd j z e
theorem e_ix (ha : PE X a (tE X.K W wa)) (hb : PE X b (tE X.K W wb)) (hs : PlainIx b := by exact fun _ _ => rfl) : PE X (.Subscript a b pos) (tE X.K W (wIx wa wb)) := by
  refine PE.imp (pe_ix ix_seq ha hb hs) fun σ H Q ⟨H0, F0, A0, s, T, kx, k, w, xl, h, q⟩ => tOp_of w xl h fun x y s2 u v H2 hR w2 => ?_
  obtain ⟨d, i, hd, hi, hz, z, ez, hk⟩ := hR
  obtain ⟨F, A, w2⟩ := w2
  have pu := w2.tm _ (List.mem_cons_of_mem _ List.mem_cons_self)
  have ev := dp_int (dat_ok w2 (w2.tm _ List.mem_cons_self) hi)
  have w3 := w2.sub (T' := T) fun t h => List.mem_cons_of_mem _ (List.mem_cons_of_mem _ h)
  cases d with
  | list xs =>
    obtain ⟨p, vs, e1, h1, h2⟩ := items_ok w2 pu hd
    obtain ⟨t, h3, h4⟩ := atI_dq h2 ez
    exact .inl ⟨p, vs, i, t, e1, ev, h1, h3, q _ _ hk t H2 ⟨F, A, w3.push h4⟩⟩
  | tuple xs =>
    obtain ⟨p, vs, e1, h1, h2⟩ := itemsT_ok w2 pu hd
    obtain ⟨t, h3, h4⟩ := atI_dq h2 ez
    exact .inr (.inl ⟨p, vs, i, t, e1, ev, h1, h3, q _ _ hk t H2 ⟨F, A, w3.push h4⟩⟩)
  | str zs =>
    have ez : (atI zs.cps.toList i).map (fun c => PyData.str ⟨#[c]⟩) = some z := ez
    cases hc : atI zs.cps.toList i with
    | none => rw [hc] at ez; cases ez
    | some c =>
      rw [hc] at ez
      cases ez
      exact .inr (.inr ⟨zs, i, c, dp_str (dat_ok w2 pu hd), ev, hz, hc, q _ _ hk _ H2 ⟨F, A, w3.push (.str _)⟩⟩)
  | _ => cases ez
theorem o_none : PO X none (tO X.K W wNoPart) := PO.imp po_none fun σ H Q ⟨H0, F0, A0, s, T, kx, k, w, xl, h, q⟩ => q _ _ h H w
theorem o_some (h : PE X e (tE X.K W we)) : PO X (some e) (tO X.K W (wPart we)) := by
  refine PO.imp (po_some h) fun σ H Q ⟨H0, F0, A0, s, T, kx, k, w, xl, h, q⟩ => un_of w xl h fun x s1 u H1 h1 w1 => ?_
  obtain ⟨i, rfl, hk⟩ := h1
  obtain ⟨F, A, w1⟩ := w1
  exact ⟨i, dp_int (dq_dp (w1.tm _ List.mem_cons_self)), q _ _ hk H1 ⟨F, A, w1.sub fun t h => List.mem_cons_of_mem _ h⟩⟩
theorem cut_dq {K : PySem.W.Frag} {H : Hp} {vs : List V} {ds : List PyData} (lo hi : Option Int) (h : DqAll K H vs ds) : DqAll K H (cutV vs lo hi) (cutD ds lo hi) := by
  unfold cutV cutD
  rw [h.len]
  exact (h.drop _).take _
abbrev rSlP (K : PySem.W.Frag) : V → Option Int → Option Int → Hp → VK → Prop := fun x lo hi H Q => rSlL K x lo hi H Q ∨ (rSlA K x lo hi H Q ∨ rSlS x lo hi H Q)
theorem sl_of {σ : St} {H : Hp} {Q : VK} (h : tE X.K W (wSl we wl wh) σ H Q) : tSl (rSlP X.K) (tE X.K W we) (tO X.K W wl) (tO X.K W wh) σ H Q := by
  obtain ⟨H0, F0, A0, s, T, kx, k, w, xl, h, q⟩ := h
  refine un_of w xl h fun x s1 u H1 h1 w1 => ?_
  refine ⟨H0, F0, A0, s1, (x, u) :: T, kx, _, w1, xl.push, h1, fun lo s2 h2 H2 w2 => ?_⟩
  refine ⟨H0, F0, A0, s2, (x, u) :: T, kx, _, w2, xl.push, h2, fun hi s3 h3 H3 w3 => ?_⟩
  obtain ⟨d, hd, hk⟩ := h3
  obtain ⟨F, A, w3⟩ := w3
  have pu := w3.tm _ List.mem_cons_self
  have w4 := w3.sub (T' := T) fun t h => List.mem_cons_of_mem _ h
  cases d with
  | list xs =>
    obtain ⟨p, vs, e1, i1, i2⟩ := items_ok w3 pu hd
    refine .inl ⟨p, vs, e1, i1, fun n hn => q _ _ hk _ _ ⟨F, _, (w4.newL hn (cut_dq lo hi i2)).push ⟨n, ?_, rfl⟩⟩⟩
    rw [← w3.len, List.getElem?_append_right (Nat.le_refl _), Nat.sub_self]
    rfl
  | tuple xs =>
    obtain ⟨p, vs, e1, i1, i2⟩ := itemsT_ok w3 pu hd
    refine .inr (.inl ⟨p, vs, e1, i1, fun hw => ?_, fun hw n hn => ?_⟩)
    · have el : cutV vs lo hi = vs := by
        unfold cutV
        rw [hw.1, hw.2, List.drop_zero, Nat.sub_zero, List.take_length]
      have h3 := cut_dq lo hi i2
      rw [el] at h3
      cases x with
      | d y =>
        cases hd
        cases pu with
        | tup k1 k2 =>
          refine q _ _ hk _ _ ⟨F, A, w4.push ?_⟩
          cases e1
          exact .tup k1 (by
            have el2 : cutD xs lo hi = xs := by
              unfold cutD
              rw [← i2.len, hw.1, hw.2, List.drop_zero, Nat.sub_zero, i2.len, List.take_length]
            rw [el2]; exact k2)
      | scr ns => cases hd
      | tp ps => cases hd
      | gl g => cases hd
      | exc y => cases hd
      | xd y => cases hd
      | dk y => cases hd
      | own m =>
        have hd : ocD s3.o[m]? = some (.tuple xs) := hd
        cases ho : s3.o[m]? with
        | none => rw [ho] at hd; cases hd
        | some c => rw [ho] at hd; cases c <;> cases hd
    · have w5 := w4.newD (o := .tup (cutV vs lo hi)) hn
      exact q _ _ hk _ _ ⟨_, A, w5.push (.tup (SqT.of upd_same) (dqAll_same (same_new (w3.fz.g.free hn)) (cut_dq lo hi i2)))⟩
  | str z => exact .inr (.inr ⟨z, dp_str (dat_ok w3 pu hd), hk.1, q _ _ hk.2 _ H3 ⟨F, A, w4.push (.str _)⟩⟩)
  | _ => exact hk.elim
theorem e_sl {lo hi : Option Expr} {p2 : Pos} (he : PE X e (tE X.K W we)) (hl : PO X lo (tO X.K W wl)) (hu : PO X hi (tO X.K W wh)) : PE X (.Subscript e (.Slice lo hi none p2) pos) (tE X.K W (wSl we wl wh)) :=
  PE.imp (pe_slice (sl_list.or (sl_tupA.or sl_str)) he hl hu) fun σ H Q h => sl_of h
theorem tE_mono {σ : St} {H : Hp} {Q Q' : VK} (h : tE X.K W we σ H Q) (f : ∀ v H', Q v H' → Q' v H') : tE X.K W we σ H Q' := by
  obtain ⟨H0, F0, A0, s, T, kx, k, w, xl, h, q⟩ := h
  exact ⟨H0, F0, A0, s, T, kx, k, w, xl, h, fun v s' hk u H' w' => f _ _ (q v s' hk u H' w')⟩
theorem tO_none {σ : St} {H : Hp} {Q : Option Int → Hp → Prop} (h : tO X.K W wNoPart σ H Q) : Q none H := by
  obtain ⟨H0, F0, A0, s, T, kx, k, w, xl, h, q⟩ := h
  exact q none s h H w
theorem tO_int {σ : St} {H : Hp} {Q : Option Int → Hp → Prop} {i : Int} (h : tO X.K W (wPart (wC (.int i))) σ H Q) : Q (some i) H := by
  obtain ⟨H0, F0, A0, s, T, kx, k, w, xl, ⟨i', e, h⟩, q⟩ := h
  cases e
  exact q _ s h H w
/-- list + list: a new list -/
def rCatD : PyData → PyData → (List PyData → Prop) → Prop := fun a b q => match a, b with
  | .list xs, .list ys => xs.length + ys.length ≤ sizeLine ∧ q (xs ++ ys)
  | _, _ => False
def wCat (wa wb : EW) : EW := fun kx s k => wa kx s fun x s1 => wb kx s1 fun y s2 => ∃ xs ys, datq s2 x = some (.list xs) ∧ datq s2 y = some (.list ys) ∧ xs.length + ys.length ≤ sizeLine ∧ k (.own s2.o.length) ⟨s2.r, s2.o ++ [.dl (xs ++ ys)]⟩
theorem itemsq_ok {K : PySem.W.Frag} {H0 F0 : Hp} {A0 : List Addr} {s : PSt} {σ : St} {T : List (PV × V)} {H F : Hp} {A : List Addr} {v : PV} {u : V} {xs : List PyData} (w : WdF K H0 F0 A0 s σ T H F A) (p : PVOk K F A v u) (e : datq s v = some (.list xs)) :
    ∃ a vs, u = .ref a ∧ H a = some (.lst vs) ∧ DqAll K F vs xs := by
  cases v with
  | d y =>
    cases e
    cases p with
    | lst h t => exact ⟨_, _, rfl, w.fz.g _ _ h, t⟩
  | scr ns => cases e
  | tp ps => cases e
  | gl g => cases e
  | exc y => cases e
  | xd y => cases e
  | dk y => cases e
  | own n =>
    obtain ⟨q, hq, rfl⟩ := p
    have e : ocD s.o[n]? = some (.list xs) := e
    cases ho : s.o[n]? with
    | none => rw [ho] at e; cases e
    | some c =>
      rw [ho] at e
      cases c with
      | no => cases e
      | dl ys =>
        cases e
        obtain ⟨_, vs, h1, h2⟩ := w.oc n q _ hq ho
        exact ⟨_, _, rfl, h1, h2⟩
      | di kvs => cases e
      | ml ps => cases e
      | ob _ _ => cases e
      | dm _ => cases e
      | dt _ => cases e
theorem top_at {K : PySem.W.Frag} {H0 F0 : Hp} {A0 : List Addr} {s : PSt} {σ : St} {T : List (PV × V)} {H F : Hp} {A : List Addr} (w : WdF K H0 F0 A0 s σ T H F A) (n : Addr) (F' : Hp) : PVOk K F' (A ++ [n]) (.own s.o.length) (.ref n) := by
  refine ⟨n, ?_, rfl⟩
  rw [← w.len, List.getElem?_append_right (Nat.le_refl _), Nat.sub_self]
  rfl
theorem e_cat (ha : PE X a (tE X.K W wa)) (hb : PE X b (tE X.K W wb)) : PE X (.BinOp a .Add b pos) (tE X.K W (wCat wa wb)) := by
  refine PE.imp (pe_op op_cat ha hb) fun σ H Q ⟨H0, F0, A0, s, T, kx, k, w, xl, h, q⟩ => tOp_of w xl h fun x y s2 u v H2 hR w2 => ?_
  obtain ⟨xs, ys, hx, hy, hz, hk⟩ := hR
  obtain ⟨F, A, w2⟩ := w2
  obtain ⟨p, vs, e1, h1, h2⟩ := itemsq_ok w2 (w2.tm _ (List.mem_cons_of_mem _ List.mem_cons_self)) hx
  obtain ⟨p', vs', e1', h1', h2'⟩ := itemsq_ok w2 (w2.tm _ List.mem_cons_self) hy
  have w3 := w2.sub (T' := T) fun t h => List.mem_cons_of_mem _ (List.mem_cons_of_mem _ h)
  refine ⟨p, p', vs, vs', e1, e1', h1, h1', by rw [h2.len, h2'.len]; exact hz, fun n hn => q _ _ hk _ _ ⟨F, _, (w3.newL hn (h2.app h2')).push (top_at w3 n F)⟩⟩
end
end PW
namespace PW
open PySem L2
/-! ### calls of the text's own defs -/
inductive RV where
  | d (x : PyData)
  | new (xs : List PyData)
/-- a def by its arguments, the lists lent to it, what is wanted of what it hands back, of what it raises -/
abbrev FS := List PV → List OC → (RV → List OC → Prop) → (XV → List OC → Prop) → Prop
def RetOk (K : PySem.W.Frag) (H0 F0 : Hp) (A0 : List Addr) (r : RV) (v : V) (o : List OC) (H : Hp) : Prop :=
  match r with
  | .d x => Wd K H0 F0 A0 ⟨[], o⟩ [] [(.d x, v)] H
  | .new xs => Wd K H0 F0 A0 ⟨[], o ++ [.dl xs]⟩ [] [(.own o.length, v)] H
def spOf (K : PySem.W.Frag) (S : FS) : Sp := fun vs H Q E => ∃ H0 F0 A0 args o ret exc, Wd K H0 F0 A0 ⟨args.map some, o⟩ (vs.map some) [] H ∧ A0.length = o.length ∧ S args o ret exc ∧
  (∀ r o', ret r o' → o'.length = o.length → ∀ v H', RetOk K H0 F0 A0 r v o' H' → Q v H') ∧ ∀ x o', exc x o' → o'.length = o.length → ∀ d H', Wd K H0 F0 A0 ⟨[], o'⟩ [] [(.xd x.fs, dV d)] H' → E (.ref x.C) d H'
section
variable {K : PySem.W.Frag} {H0 F0 : Hp} {A0 : List Addr} {s : PSt} {σ : St} {T : List (PV × V)} {H F H' F' : Hp} {A : List Addr}
/-- the heap behind a call that was lent nothing -/
theorem WdF.after (w : WdF K H0 F0 A0 s σ T H F A) (z : Fz H F H' F') : WdF K H0 F0 A0 s σ T H' F' A where
  fz := ⟨w.fz.f.trans z.f, z.g, w.fz.h.trans z.h, fun p h1 h2 => z.n p (fun e => h1 (w.fz.h.free e)) (w.fz.n p h1 h2)⟩
  pre := w.pre
  len := w.len
  nd := w.nd
  ad := fun q hq => ⟨(w.ad q hq).1, fun e => (w.ad q hq).2 (z.h.free e)⟩
  oc := fun n p c h1 h2 => by
    exact (w.oc n p c h1 h2).mono z.f (List.prefix_refl _) (fun a => z.n p (w.ad p (List.mem_of_getElem? h1)).2 a) fun o a => z.h _ _ a
  sl := w.sl
  pv := fun i v h => by
    obtain ⟨u, a, b⟩ := w.pv i v h
    exact ⟨u, a, b.mono z.f (List.prefix_refl _)⟩
  tm := fun t ht => (w.tm t ht).mono z.f (List.prefix_refl _)
/-- H without p -/
def lendH (H : Hp) (p : Addr) : Hp := fun b => if b = p then none else H b
theorem lendH_ne {H : Hp} {p b : Addr} (h : b ≠ p) : lendH H p b = H b := if_neg h
theorem lendH_eq {H : Hp} {p : Addr} : lendH H p p = none := if_pos rfl
/-- .. one list lent -/
theorem WdF.afterL {n : Nat} {p : Addr} {c : OC} (w : WdF K H0 F0 A0 s σ T H F A) (hn : A[n]? = some p) (z : Fz (lendH H p) F H' F') (hp : H' p ≠ none) (hc : OCOk K F' H' A p c) : WdF K H0 F0 A0 ⟨s.r, s.o.set n c⟩ σ T H' F' A where
  fz := by
    have p0 := (w.ad p (List.mem_of_getElem? hn)).1
    refine ⟨w.fz.f.trans z.f, z.g, fun a u e => ?_, fun q h1 h2 => ?_⟩
    · have ne : a ≠ p := ne_of_none e p0
      exact z.h a u (by rw [lendH_ne ne]; exact w.fz.h a u e)
    · have ne : q ≠ p := fun e => h1 (e ▸ p0)
      exact z.n q (by rw [lendH_ne ne]; exact fun e => h1 (w.fz.h.free e)) (w.fz.n q h1 h2)
  pre := w.pre
  len := by rw [List.length_set]; exact w.len
  nd := w.nd
  ad := fun q hq => ⟨(w.ad q hq).1, fun e => by
    by_cases h : q = p
    · exact hp (h ▸ e)
    · exact (w.ad q hq).2 (by rw [← lendH_ne (H := H) h]; exact z.h.free e)⟩
  oc := fun m q c' h1 h2 => by
    by_cases hm : m = n
    · subst hm
      rw [hn] at h1
      cases h1
      have hl : m < s.o.length := by rw [← w.len]; exact (List.getElem?_eq_some_iff.mp hn).1
      have h2 : (s.o.set m c)[m]? = some c' := h2
      rw [List.getElem?_set_self hl] at h2
      cases h2
      exact hc
    · have h2 : (s.o.set n c)[m]? = some c' := h2
      rw [List.getElem?_set_ne (Ne.symm hm)] at h2
      have ne := nodup_ne w.nd h1 hn hm
      exact (w.oc m q c' h1 h2).mono z.f (List.prefix_refl _) (fun a => z.n q (by rw [lendH_ne ne]; exact (w.ad q (List.mem_of_getElem? h1)).2) a) fun o a => z.h _ _ (by rw [lendH_ne ne]; exact a)
  sl := w.sl
  pv := fun i v h => by
    obtain ⟨u, a, b⟩ := w.pv i v h
    exact ⟨u, a, b.mono z.f (List.prefix_refl _)⟩
  tm := fun t ht => (w.tm t ht).mono z.f (List.prefix_refl _)
/-- one more owned list, that stands already -/
theorem WdF.addL {q : Addr} {c : OC} (w : WdF K H0 F0 A0 s σ T H F A) (hq : q ∉ A) (h0 : H0 q = none) (h1 : H q ≠ none) (hc : OCOk K F H (A ++ [q]) q c) : WdF K H0 F0 A0 ⟨s.r, s.o ++ [c]⟩ σ T H F (A ++ [q]) where
  fz := w.fz
  pre := w.pre.trans (List.prefix_append _ _)
  len := by rw [List.length_append, List.length_append, w.len]; rfl
  nd := by
    rw [List.nodup_append]
    refine ⟨w.nd, by simp, fun a ha b hb => ?_⟩
    have e : b = q := by simpa using hb
    rw [e]
    exact fun e => hq (e ▸ ha)
  ad := fun p hp => by
    rcases List.mem_append.mp hp with h | h
    · exact w.ad p h
    · have e : p = q := by simpa using h
      rw [e]; exact ⟨h0, h1⟩
  oc := fun n p c' e1 e2 => by
    rcases Nat.lt_trichotomy n A.length with hn | hn | hn
    · rw [List.getElem?_append_left hn] at e1
      have e2 : (s.o ++ [c])[n]? = some c' := e2
      rw [List.getElem?_append_left (by rw [← w.len]; exact hn)] at e2
      exact (w.oc n p c' e1 e2).mono (Same.refl _) (List.prefix_append _ _) id fun _ z => z
    · subst hn
      have e2 : (s.o ++ [c])[A.length]? = some c' := e2
      rw [List.getElem?_append_right (Nat.le_refl _), Nat.sub_self] at e1
      rw [List.getElem?_append_right (by rw [w.len]; exact Nat.le_refl _), w.len, Nat.sub_self] at e2
      cases e1
      cases e2
      exact hc
    · rw [List.getElem?_eq_none (by rw [List.length_append]; show A.length + 1 ≤ n; omega)] at e1
      cases e1
  sl := w.sl
  pv := fun i v h => by
    obtain ⟨u, a, b⟩ := w.pv i v h
    exact ⟨u, a, b.mono (Same.refl _) (List.prefix_append _ _)⟩
  tm := fun t ht => (w.tm t ht).mono (Same.refl _) (List.prefix_append _ _)
end
/-- f(a, ..): nothing lent -/
def wCall (S : FS) (ws : AW) : EW := fun kx s k => ws kx s fun vs s1 => prep vs s1 fun xs s2 => S xs [] (fun r _ => match r with | .d z => k (.d z) s2 | .new zs => k (.own s2.o.length) ⟨s2.r, s2.o ++ [.dl zs]⟩) (fun x _ => kx x s2)
/-- f(l, a, ..): the first one, an owned list, is lent -/
def wCallL (S : FS) (ws : AW) : EW := fun kx s k => ws kx s fun vs s1 => ∃ n rest, vs = .own n :: rest ∧ prep rest s1 fun xs s2 => ∃ c, s2.o[n]? = some (.dl c) ∧ S (.own 0 :: xs) [.dl c]
  (fun r o => ∃ c', o = [.dl c'] ∧ match r with | .d z => k (.d z) ⟨s2.r, s2.o.set n (.dl c')⟩ | .new zs => k (.own s2.o.length) ⟨s2.r, s2.o.set n (.dl c') ++ [.dl zs]⟩) (fun x o => ∃ c', o = [.dl c'] ∧ kx x ⟨s2.r, s2.o.set n (.dl c')⟩)
section
variable {X : Cx} {W : WX} {k : Nat} {f : Addr} {fd : FuncData} {ps : List Str} {S : FS} {x : Str} {p pos : Pos} {e : Expr} {es : List Expr} {ws : AW}
theorem args_wd {K : PySem.W.Frag} {H0 F0 : Hp} {A0 : List Addr} {s : PSt} {σ : St} {T : List (PV × V)} {H F : Hp} {A : List Addr} (w : WdF K H0 F0 A0 s σ T H F A) (xs : List PV) (us : List V) (e : xs.length = us.length) (hp : ∀ x ∈ xs, Plain x) (ht : ∀ t ∈ xs.zip us, t ∈ T) :
    ∀ (i : Nat) v, (xs.map some)[i]? = some (some v) → ∃ u, (us.map some)[i]? = some (some u) ∧ ∀ A', PVOk K F A' v u := fun i v hv => by
  rw [List.getElem?_map] at hv
  cases hx : xs[i]? with
  | none => rw [hx] at hv; cases hv
  | some y =>
    rw [hx] at hv
    have hv : some y = some v := Option.some.inj hv
    cases hv
    have hi : i < xs.length := (List.getElem?_eq_some_iff.mp hx).1
    have hu : us[i]? = some us[i] := List.getElem?_eq_getElem (by rw [← e]; exact hi)
    refine ⟨us[i], by rw [List.getElem?_map, hu]; rfl, fun A' => ?_⟩
    have hz : (xs.zip us)[i]? = some (v, us[i]) := by
      rw [List.getElem?_zip_eq_some]
      exact ⟨hx, hu⟩
    have q := w.tm _ (ht _ (List.mem_of_getElem? hz))
    cases v with
    | d z => exact q
    | scr ns => exact q
    | gl g => exact q
    | exc y => exact q
    | xd y => exact q
    | dk y => exact q
    | tp ps => exact (hp _ (List.mem_of_getElem? hx)).elim
    | own n => exact (hp _ (List.mem_of_getElem? hx)).elim
theorem e_call (F : FnOk X.prog X.w X.K X.mg X.base (L2.CX X.prog X.w) k f fd ps (spOf X.K S)) (tk : Takes X W) (hr : Room k X.A) (hg : Gl X x) (hm : X.mg x = some (.ref f)) (hk : PySem.W.keepIn X.K (.ref f) = true) (hb : Binds X.K fd ps [])
    (ha : PA X (e :: es) (tA X.K W ws)) (hdb : (x == ("__debug__" : Str)) = false := by decide) (he : starEach (e :: es) X.env = (false, eval e X.env) :: starEach es X.env := by rfl) (hpl : (backTo pos (starEach es X.env)).any (·.1) = false := by rfl) :
    PE X (.Call (.Name x p) (e :: es) [] pos) (tE X.K W (wCall S ws)) := by
  refine PE.imp (pe_callS F hr hg hm hk hb (fun σ => passAt tk σ) ha hdb he hpl) fun σ H Q ⟨H0, F0, A0, s, T, kx, kk, w, xl, h, q⟩ => ar_of w xl h fun vs s1 us H1 h1 e1 w1 => ?_
  obtain ⟨xs, s2, hS, e2, pl, w2⟩ := prep_ok vs us s1 T _ e1 w1 h1
  obtain ⟨F1, A, w2⟩ := w2
  have w3 := w2.sub (T' := T) fun t h => List.mem_append_right _ h
  refine ⟨H1, F1, [], xs, [], _, _, ⟨F1, [], ?_⟩, rfl, hS, fun r o hr ho v H' ret => ?_, fun y o hx ho d H' w' => ?_⟩
  · refine ⟨⟨Same.refl _, w2.fz.g, Same.refl _, fun p _ h => h⟩, List.prefix_refl _, rfl, List.nodup_nil, (fun _ z => nomatch z), (fun n p c z => by simp at z), (by rw [List.length_map, List.length_map, e2]), (fun i v hv => ?_), (fun _ z => nomatch z)⟩
    obtain ⟨u, a, b⟩ := args_wd w2 xs us e2 pl (fun t h => List.mem_append_left _ h) i v hv
    exact ⟨u, a, b _⟩
  · cases List.eq_nil_of_length_eq_zero ho
    cases r with
    | d z =>
      obtain ⟨F', A', w'⟩ := ret
      have dz : Dq X.K F' v z := w'.tm (.d z, v) List.mem_cons_self
      exact q _ _ hr v H' ⟨F', A, (w3.after w'.fz).push dz⟩
    | new zs =>
      obtain ⟨F', A', w'⟩ := ret
      obtain ⟨qq, hq, rfl⟩ := w'.tm (.own 0, v) List.mem_cons_self
      have ad := w'.ad qq (List.mem_of_getElem? hq)
      have oc := w'.oc 0 qq (.dl zs) hq rfl
      have w4 := w3.after w'.fz
      have nin : qq ∉ A := fun hA => (w2.ad qq hA).2 ad.1
      refine q _ _ hr _ H' ⟨F', A ++ [qq], (w4.addL (c := .dl zs) nin (w3.fz.h.free ad.1) ad.2 oc).push ⟨qq, ?_, rfl⟩⟩
      rw [← w4.len, List.getElem?_append_right (Nat.le_refl _), Nat.sub_self]
      rfl
  · obtain ⟨F', A', w'⟩ := w'
    have px : PVOk X.K F' A (.xd y.fs) (dV d) := w'.tm (.xd y.fs, dV d) List.mem_cons_self
    exact xl y s2 hx σ H' d ⟨F', A, (w3.after w'.fz).push px⟩
theorem e_callL (F : FnOk X.prog X.w X.K X.mg X.base (L2.CX X.prog X.w) k f fd ps (spOf X.K S)) (tk : Takes X W) (hr : Room k X.A) (hg : Gl X x) (hm : X.mg x = some (.ref f)) (hk : PySem.W.keepIn X.K (.ref f) = true) (hb : Binds X.K fd ps [])
    (ha : PA X (e :: es) (tA X.K W ws)) (hdb : (x == ("__debug__" : Str)) = false := by decide) (he : starEach (e :: es) X.env = (false, eval e X.env) :: starEach es X.env := by rfl) (hpl : (backTo pos (starEach es X.env)).any (·.1) = false := by rfl) :
    PE X (.Call (.Name x p) (e :: es) [] pos) (tE X.K W (wCallL S ws)) := by
  refine PE.imp (pe_callS F hr hg hm hk hb (fun σ => passAt tk σ) ha hdb he hpl) fun σ H Q ⟨H0, F0, A0, s, T, kx, kk, w, xl, h, q⟩ => ar_of w xl h fun vs s1 us H1 h1 e1 w1 => ?_
  obtain ⟨n, rest, rfl, h1⟩ := h1
  cases us with
  | nil => cases e1
  | cons u us =>
    obtain ⟨xs, s2, hS, e2, pl, w2⟩ := prep_ok rest us s1 ((.own n, u) :: T) _ (Nat.succ.inj e1) (w1.sub fun t ht => by
      rcases List.mem_append.mp ht with z | z
      · exact List.mem_append_left _ (List.mem_cons_of_mem _ z)
      · rcases List.mem_cons.mp z with z | z
        · rw [z]; exact List.mem_append_left _ List.mem_cons_self
        · exact List.mem_append_right _ z) h1
    obtain ⟨F1, A, w2⟩ := w2
    obtain ⟨pp, hpp, eu⟩ := w2.tm (.own n, u) (List.mem_append_right _ List.mem_cons_self)
    subst eu
    have w3 := w2.sub (T' := T) fun t h => List.mem_append_right _ (List.mem_cons_of_mem _ h)
    have adp := w3.ad pp (List.mem_of_getElem? hpp)
    obtain ⟨c, hc, hS⟩ := hS
    have ocp := w3.oc n pp (.dl c) hpp hc
    have out : ∀ {H' F' : Hp} {A' : List Addr} {o1 : List OC} {T' : List (PV × V)} {c' : List PyData}, WdF X.K (lendH H1 pp) F1 [pp] ⟨[], o1⟩ [] T' H' F' A' → o1[0]? = some (.dl c') → WdF X.K H0 F0 A0 ⟨s2.r, s2.o.set n (.dl c')⟩ σ T H' F' A := fun {H' F' A' o1 T' c'} w' ho => by
      obtain ⟨t, rfl⟩ := w'.pre
      have h0 : ([pp] ++ t)[0]? = some pp := rfl
      exact w3.afterL hpp w'.fz (w'.ad pp (List.mem_of_getElem? h0)).2 (c := .dl c') (w'.oc 0 pp (.dl c') h0 ho)
    refine ⟨lendH H1 pp, F1, [pp], .own 0 :: xs, [.dl c], _, _, ⟨F1, [pp], ?_⟩, rfl, hS, fun r o hr ho v H' ret => ?_, fun y o hx ho d H' w' => ?_⟩
    · refine ⟨⟨Same.refl _, w2.fz.g, fun a u e => ?_, fun p _ h => h⟩, List.prefix_refl _, rfl, by simp, fun a ha => ?_, fun m a c' e3 e4 => ?_, ?_, fun i v hv => ?_, fun _ z => nomatch z⟩
      · by_cases hh : a = pp
        · rw [hh, lendH_eq] at e; cases e
        · rw [lendH_ne hh] at e; exact e
      · have e : a = pp := by simpa using ha
        rw [e]
        exact ⟨lendH_eq, adp.2⟩
      · cases m with
        | zero =>
          cases e3
          cases e4
          exact ocp
        | succ m => cases e3
      · show ((PV.own 0 :: xs).map some).length = ((V.ref pp :: us).map some).length
        rw [List.length_map, List.length_map, List.length_cons, List.length_cons, e2]
      · cases i with
        | zero =>
          cases hv
          exact ⟨.ref pp, rfl, pp, rfl, rfl⟩
        | succ i =>
          obtain ⟨u, a, b⟩ := args_wd w2 xs us e2 pl (fun t h => List.mem_append_left _ h) i v hv
          exact ⟨u, a, b _⟩
    · obtain ⟨c', rfl, hr⟩ := hr
      cases r with
      | d z =>
        obtain ⟨F', A', w'⟩ := ret
        have dz : Dq X.K F' v z := w'.tm (.d z, v) List.mem_cons_self
        exact q _ _ hr v H' ⟨F', A, (out w' rfl).push dz⟩
      | new zs =>
        obtain ⟨F', A', w'⟩ := ret
        obtain ⟨qq, hq, rfl⟩ := w'.tm (.own 1, v) List.mem_cons_self
        have ad := w'.ad qq (List.mem_of_getElem? hq)
        have oc := w'.oc 1 qq (.dl zs) hq rfl
        have w4 := out (c' := c') w' rfl
        have nep : qq ≠ pp := by
          obtain ⟨t, et⟩ := w'.pre
          subst et
          exact nodup_ne w'.nd (m := 1) (n := 0) hq rfl (by decide)
        have hqn : H1 qq = none := by
          have := ad.1
          rw [lendH_ne nep] at this
          exact this
        have nin : qq ∉ A := fun hA => (w2.ad qq hA).2 hqn
        refine q _ _ hr _ H' ⟨F', A ++ [qq], (w4.addL (c := .dl zs) nin (w3.fz.h.free hqn) ad.2 oc).push ⟨qq, ?_, rfl⟩⟩
        show (A ++ [qq])[s2.o.length]? = some qq
        rw [← w3.len, List.getElem?_append_right (Nat.le_refl _), Nat.sub_self]
        rfl
    · obtain ⟨c', rfl, hx⟩ := hx
      obtain ⟨F', A', w'⟩ := w'
      have px : PVOk X.K F' A (.xd y.fs) (dV d) := w'.tm (.xd y.fs, dV d) List.mem_cons_self
      exact xl y _ hx σ H' d ⟨F', A, (out w' rfl).push px⟩
/-- f() -/
def wCall0 (S : FS) : EW := fun kx s k => S [] [] (fun r _ => match r with | .d z => k (.d z) s | .new zs => k (.own s.o.length) ⟨s.r, s.o ++ [.dl zs]⟩) (fun _ _ => False)
theorem e_call0 (F : FnOk X.prog X.w X.K X.mg X.base (L2.CX X.prog X.w) k f fd ps (spOf X.K S)) (hr : Room k X.A) (hg : Gl X x) (hm : X.mg x = some (.ref f)) (hk : PySem.W.keepIn X.K (.ref f) = true) (hb : Binds X.K fd ps [])
    (hdb : (x == ("__debug__" : Str)) = false := by decide) : PE X (.Call (.Name x p) [] [] pos) (tE X.K W (wCall0 S)) := by
  refine PE.imp (pe_call0 F hr hg hm hk hb .nil passL hdb) fun σ H Q ⟨H0, F0, A0, s, T, kx, kk, w, xl, hS, q⟩ => ?_
  obtain ⟨F1, A, w3⟩ := w
  refine ⟨H, F1, [], [], [], _, _, ⟨F1, [], ?_⟩, rfl, hS, fun r o hr ho v H' ret => ?_, fun y o hx ho d H' w' => hx.elim⟩
  · exact ⟨⟨Same.refl _, w3.fz.g, Same.refl _, fun p _ h => h⟩, List.prefix_refl _, rfl, List.nodup_nil, (fun _ z => nomatch z), (fun n p c z => by simp at z), rfl, (fun i v hv => by simp at hv), (fun _ z => nomatch z)⟩
  · cases List.eq_nil_of_length_eq_zero ho
    cases r with
    | d z =>
      obtain ⟨F', A', w'⟩ := ret
      have dz : Dq X.K F' v z := w'.tm (.d z, v) List.mem_cons_self
      exact q _ _ hr v H' ⟨F', A, (w3.after w'.fz).push dz⟩
    | new zs =>
      obtain ⟨F', A', w'⟩ := ret
      obtain ⟨qq, hq, rfl⟩ := w'.tm (.own 0, v) List.mem_cons_self
      have ad := w'.ad qq (List.mem_of_getElem? hq)
      have oc := w'.oc 0 qq (.dl zs) hq rfl
      have w4 := w3.after w'.fz
      have nin : qq ∉ A := fun hA => (w3.ad qq hA).2 ad.1
      refine q _ _ hr _ H' ⟨F', A ++ [qq], (w4.addL (c := .dl zs) nin (w3.fz.h.free ad.1) ad.2 oc).push ⟨qq, ?_, rfl⟩⟩
      rw [← w4.len, List.getElem?_append_right (Nat.le_refl _), Nat.sub_self]
      rfl
end
end PW
namespace PW
open PySem L2
/-! ### built-in functions and methods -/
def lenD : PyData → (Int → Prop) → Prop := fun a q => match a with
  | .str z => z.length ≤ sizeLine ∧ q (z.length : Int)
  | .list xs => q (xs.length : Int)
  | .tuple xs => q (xs.length : Int)
  | _ => False
def wLen (wa : EW) : EW := fun kx s k => wa kx s fun x s1 => ∃ d, dat s1 x = some d ∧ lenD d fun n => k (.d (.int n)) s1
def wInt1 (wa : EW) : EW := fun kx s k => wa kx s fun x s1 => (∃ i, x = .d (.int i) ∧ k (.d (.int i)) s1) ∨ ∃ b, x = .d (.bool b) ∧ k (.d (.int (if b then 1 else 0))) s1
def wAbs (wa : EW) : EW := fun kx s k => wa kx s fun x s1 => ∃ i, x = .d (.int i) ∧ k (.d (.int (if i < 0 then -i else i))) s1
def wMax2 (wa wb : EW) : EW := fun kx s k => wa kx s fun x s1 => wb kx s1 fun y s2 => ∃ i j, x = .d (.int i) ∧ y = .d (.int j) ∧ k (.d (.int (if j > i then j else i))) s2
def wMin2 (wa wb : EW) : EW := fun kx s k => wa kx s fun x s1 => wb kx s1 fun y s2 => ∃ i j, x = .d (.int i) ∧ y = .d (.int j) ∧ k (.d (.int (if j < i then j else i))) s2
def tyD : PyData → String
  | .none => "NoneType"
  | .bool _ => "bool"
  | .int _ => "int"
  | .str _ => "str"
  | .list _ => "list"
  | .tuple _ => "tuple"
  | .dict _ => "dict"
/-- the type of what an owned thing holds -/
def tyOC : Option OC → Option String
  | some (.dl _) => some "list"
  | some (.ml _) => some "list"
  | some (.di _) => some "dict"
  | some (.dm _) => some "dict"
  | _ => none
def tyPV (s : PSt) : PV → Option String
  | .d x => some (tyD x)
  | .scr _ => some "list"
  | .tp _ => some "tuple"
  | .dk _ => some "dict"
  | .own n => tyOC s.o[n]?
  | _ => none
def wIsi (t : String) (wa : EW) : EW := fun kx s k => wa kx s fun x s1 => ∃ d r, tyPV s1 x = some d ∧ kitB d t = some r ∧ k (.d (.bool r)) s1
def wIsi2 (t u : String) (wa : EW) : EW := fun kx s k => wa kx s fun x s1 => ∃ d r r', tyPV s1 x = some d ∧ kitB d t = some r ∧ kitB d u = some r' ∧ k (.d (.bool (r || r'))) s1
/-- list(xs): a new one -/
def wListOf (wa : EW) : EW := fun kx s k => wa kx s fun x s1 => ∃ xs, (dat s1 x = some (.list xs) ∨ dat s1 x = some (.tuple xs)) ∧ k (.own s1.o.length) ⟨s1.r, s1.o ++ [.dl xs]⟩
def wTupOf (wa : EW) : EW := fun kx s k => wa kx s fun x s1 => ∃ xs, (dat s1 x = some (.list xs) ∨ dat s1 x = some (.tuple xs)) ∧ k (.d (.tuple xs)) s1
/-- methods of texts: o.m(e) -/
def wM1 (R : Str → PyData → (PyData → Prop) → Prop) (wo we : EW) : EW := fun kx s k => wo kx s fun x s1 => ∃ a, x = .d (.str a) ∧ we kx s1 fun y s2 => ∃ b, dat s2 y = some b ∧ R a b fun z => k (.d z) s2
def wM1L (R : Str → PyData → (List PyData → Prop) → Prop) (wo we : EW) : EW := fun kx s k => wo kx s fun x s1 => ∃ a, x = .d (.str a) ∧ we kx s1 fun y s2 => ∃ b, dat s2 y = some b ∧ R a b fun zs => k (.own s2.o.length) ⟨s2.r, s2.o ++ [.dl zs]⟩
def rFindD : Str → PyData → (PyData → Prop) → Prop := fun a b q => match b with
  | .str b => q (.int (Txt.find a b))
  | _ => False
def strsOf : List PyData → Option (List Str)
  | [] => some []
  | .str x :: r => (strsOf r).map (x :: ·)
  | _ :: _ => none
def rJoinD : Str → PyData → (PyData → Prop) → Prop := fun a b q => match b with
  | .list xs => ∃ ys, strsOf xs = some ys ∧ (ys.map (·.length)).sum + ys.length * a.length ≤ 16777216 ∧ q (.str (Txt.join a ys))
  | .tuple xs => ∃ ys, strsOf xs = some ys ∧ (ys.map (·.length)).sum + ys.length * a.length ≤ 16777216 ∧ q (.str (Txt.join a ys))
  | _ => False
def rSplitD : Str → PyData → (List PyData → Prop) → Prop := fun a b q => match b with
  | .str b => (b.length == 0) = false ∧ a.length + 2 ≤ sizeLine ∧ q ((Txt.split a b).map PyData.str)
  | _ => False
/-- methods of owned lists -/
def wApp (wo we : EW) : EW := fun kx s k => wo kx s fun x s1 => ∃ n ws, x = .own n ∧ s1.o[n]? = some (.dl ws) ∧ we kx s1 fun y s2 => frz y s2 fun d s3 => ∃ xs, s3.o[n]? = some (.dl xs) ∧ xs.length < sizeLine ∧ k (.d .none) ⟨s3.r, s3.o.set n (.dl (xs ++ [d]))⟩
def wExt (wo we : EW) : EW := fun kx s k => wo kx s fun x s1 => ∃ n ws, x = .own n ∧ s1.o[n]? = some (.dl ws) ∧ we kx s1 fun y s2 => ∃ xs ys, s2.o[n]? = some (.dl xs) ∧ datq s2 y = some (.list ys) ∧ xs.length + ys.length ≤ sizeLine ∧ k (.d .none) ⟨s2.r, s2.o.set n (.dl (xs ++ ys))⟩
def wPop (wo : EW) : EW := fun kx s k => wo kx s fun x s1 => ∃ n xs d, x = .own n ∧ s1.o[n]? = some (.dl xs) ∧ xs[xs.length - 1]? = some d ∧ k (.d d) ⟨s1.r, s1.o.set n (.dl xs.dropLast)⟩
section
variable {X : Cx} {W : WX} {a b e wo_e : Expr} {wa wb we wo : EW} {pos p : Pos}
theorem len_dp {K : PySem.W.Frag} {H : Hp} {u : V} {d : PyData} {P : Int → Prop} (h : Dp K H u d) (t : lenD d P) : ∃ n : Nat, LenV K u H n ∧ P n := by
  cases h with
  | str x => exact ⟨_, ⟨t.1, rfl⟩, t.2⟩
  | @lst a xs ds h r => exact ⟨xs.length, .inl ⟨_, h, rfl⟩, by
      have e : xs.length = ds.length := DpAll_len r
      rw [e]; exact t⟩
  | @tup a xs ds h r => exact ⟨xs.length, .inr ⟨_, h, rfl⟩, by
      have e : xs.length = ds.length := DpAll_len r
      rw [e]; exact t⟩
  | _ => exact t.elim
where DpAll_len {K : PySem.W.Frag} {H : Hp} : ∀ {vs : List V} {ds : List PyData}, DpAll K H vs ds → vs.length = ds.length
  | _, _, .nil => rfl
  | _, _, .cons _ t => by rw [List.length_cons, List.length_cons, DpAll_len t]
/-- one argument, then what the call's rule asks -/
theorem cb1_of {r : List V → Hp → VK → Prop} {σ : St} {H : Hp} {Q : VK} {H0 F0 : Hp} {A0 : List Addr} {s : PSt} {T : List (PV × V)} {kx : KX} {R : PV → PSt → Prop} (w : Wd X.K H0 F0 A0 s σ T H) (xl : XL X.K H0 F0 A0 T W kx)
    (h : wa kx s R) (hr : ∀ x s1 u H1, R x s1 → Wd X.K H0 F0 A0 s1 σ ((x, u) :: T) H1 → r [u] H1 Q) : tCB r (tCons (tE X.K W wa) tNil) σ H Q := un_of w xl h fun x s1 u H1 h1 w1 => hr x s1 u H1 h1 w1
theorem cb2_of {r : List V → Hp → VK → Prop} {σ : St} {H : Hp} {Q : VK} {H0 F0 : Hp} {A0 : List Addr} {s : PSt} {T : List (PV × V)} {kx : KX} {R : PV → PV → PSt → Prop} (w : Wd X.K H0 F0 A0 s σ T H) (xl : XL X.K H0 F0 A0 T W kx)
    (h : wa kx s fun x s1 => wb kx s1 fun y s2 => R x y s2) (hr : ∀ x y s2 u v H2, R x y s2 → Wd X.K H0 F0 A0 s2 σ ((y, v) :: (x, u) :: T) H2 → r [u, v] H2 Q) : tCB r (tCons (tE X.K W wa) (tCons (tE X.K W wb) tNil)) σ H Q :=
  ⟨H0, F0, A0, s, T, kx, _, w, xl, h, fun x s1 h1 u H1 w1 => ⟨H0, F0, A0, s1, (x, u) :: T, kx, _, w1, xl.push, h1, fun y s2 h2 v H2 w2 => hr x y s2 u v H2 h2 w2⟩⟩
theorem e_len (hm : X.mg "len" = none) (ha : PE X a (tE X.K W wa)) (hg : Gl X "len" := by rfl) (he : starEach [a] X.env = (false, eval a X.env) :: starEach [] X.env := by rfl) (hpl : (backTo pos (starEach [] X.env)).any (·.1) = false := by rfl) :
    PE X (.Call (.Name "len" p) [a] [] pos) (tE X.K W (wLen wa)) := by
  refine PE.imp (pe_callB call_len hg hm PySem.boot_len (pa_cons ha pa_nil he) (he := he) (hpl := hpl)) fun σ H Q ⟨H0, F0, A0, s, T, kx, k, w, xl, h, q⟩ => cb1_of w xl h fun x s1 u H1 h1 w1 => ?_
  obtain ⟨d, hd, t⟩ := h1
  obtain ⟨F, A, w1⟩ := w1
  obtain ⟨n, h1, h2⟩ := len_dp (dat_ok w1 (w1.tm _ List.mem_cons_self) hd) t
  exact ⟨u, n, rfl, h1, q _ _ h2 _ H1 ⟨F, A, (w1.sub fun t h => List.mem_cons_of_mem _ h).push (.int _)⟩⟩
theorem e_int1 (hm : X.mg "int" = none) (ha : PE X a (tE X.K W wa)) (hg : Gl X "int" := by rfl) (he : starEach [a] X.env = (false, eval a X.env) :: starEach [] X.env := by rfl) (hpl : (backTo pos (starEach [] X.env)).any (·.1) = false := by rfl) :
    PE X (.Call (.Name "int" p) [a] [] pos) (tE X.K W (wInt1 wa)) := by
  refine PE.imp (pe_callTy call_int1 hg hm (by decide +kernel) (pa_cons ha pa_nil he) (he := he) (hpl := hpl)) fun σ H Q ⟨H0, F0, A0, s, T, kx, k, w, xl, h, q⟩ => cb1_of w xl h fun x s1 u H1 h1 w1 => ?_
  obtain ⟨F, A, w1⟩ := w1
  have w2 := w1.sub (T' := T) fun t h => List.mem_cons_of_mem _ h
  rcases h1 with ⟨i, rfl, hk⟩ | ⟨b, rfl, hk⟩
  · cases dp_int (dq_dp (w1.tm _ List.mem_cons_self))
    exact .inl ⟨i, rfl, q _ _ hk _ H1 ⟨F, A, w2.push (.int _)⟩⟩
  · cases dp_bl (dq_dp (w1.tm _ List.mem_cons_self))
    exact .inr ⟨b, rfl, q _ _ hk _ H1 ⟨F, A, w2.push (.int _)⟩⟩
theorem e_abs (hm : X.mg "abs" = none) (ha : PE X a (tE X.K W wa)) (hg : Gl X "abs" := by rfl) (he : starEach [a] X.env = (false, eval a X.env) :: starEach [] X.env := by rfl) (hpl : (backTo pos (starEach [] X.env)).any (·.1) = false := by rfl) :
    PE X (.Call (.Name "abs" p) [a] [] pos) (tE X.K W (wAbs wa)) := by
  refine PE.imp (pe_callB call_abs hg hm (by decide +kernel) (pa_cons ha pa_nil he) (he := he) (hpl := hpl)) fun σ H Q ⟨H0, F0, A0, s, T, kx, k, w, xl, h, q⟩ => cb1_of w xl h fun x s1 u H1 h1 w1 => ?_
  obtain ⟨F, A, w1⟩ := w1
  obtain ⟨i, rfl, hk⟩ := h1
  cases dp_int (dq_dp (w1.tm _ List.mem_cons_self))
  exact ⟨i, rfl, q _ _ hk _ H1 ⟨F, A, (w1.sub fun t h => List.mem_cons_of_mem _ h).push (.int _)⟩⟩
theorem e_max2 (hc : X.calm = true) (hm : X.mg "max" = none) (ha : PE X a (tE X.K W wa)) (hb : PE X b (tE X.K W wb)) (hg : Gl X "max" := by rfl) (he : starEach [a, b] X.env = (false, eval a X.env) :: starEach [b] X.env := by rfl) (he2 : starEach [b] X.env = (false, eval b X.env) :: starEach [] X.env := by rfl) (hpl : (backTo pos (starEach [b] X.env)).any (·.1) = false := by rfl) :
    PE X (.Call (.Name "max" p) [a, b] [] pos) (tE X.K W (wMax2 wa wb)) := by
  refine PE.imp (pe_callB (call_max2 hc) hg hm (by decide +kernel) (pa_cons ha (pa_cons hb pa_nil he2) he) (he := he) (hpl := hpl)) fun σ H Q ⟨H0, F0, A0, s, T, kx, k, w, xl, h, q⟩ => cb2_of w xl h fun x y s2 u v H2 h2 w2 => ?_
  obtain ⟨F, A, w2⟩ := w2
  obtain ⟨i, j, rfl, rfl, hk⟩ := h2
  cases dp_int (dq_dp (w2.tm _ List.mem_cons_self))
  cases dp_int (dq_dp (w2.tm (.d (.int i), u) (List.mem_cons_of_mem _ List.mem_cons_self)))
  exact ⟨i, j, rfl, q _ _ hk _ H2 ⟨F, A, (w2.sub fun t h => List.mem_cons_of_mem _ (List.mem_cons_of_mem _ h)).push (.int _)⟩⟩
theorem e_min2 (hc : X.calm = true) (hm : X.mg "min" = none) (ha : PE X a (tE X.K W wa)) (hb : PE X b (tE X.K W wb)) (hg : Gl X "min" := by rfl) (he : starEach [a, b] X.env = (false, eval a X.env) :: starEach [b] X.env := by rfl) (he2 : starEach [b] X.env = (false, eval b X.env) :: starEach [] X.env := by rfl) (hpl : (backTo pos (starEach [b] X.env)).any (·.1) = false := by rfl) :
    PE X (.Call (.Name "min" p) [a, b] [] pos) (tE X.K W (wMin2 wa wb)) := by
  refine PE.imp (pe_callB (call_min2 hc) hg hm (by decide +kernel) (pa_cons ha (pa_cons hb pa_nil he2) he) (he := he) (hpl := hpl)) fun σ H Q ⟨H0, F0, A0, s, T, kx, k, w, xl, h, q⟩ => cb2_of w xl h fun x y s2 u v H2 h2 w2 => ?_
  obtain ⟨F, A, w2⟩ := w2
  obtain ⟨i, j, rfl, rfl, hk⟩ := h2
  cases dp_int (dq_dp (w2.tm _ List.mem_cons_self))
  cases dp_int (dq_dp (w2.tm (.d (.int i), u) (List.mem_cons_of_mem _ List.mem_cons_self)))
  exact ⟨i, j, rfl, q _ _ hk _ H2 ⟨F, A, (w2.sub fun t h => List.mem_cons_of_mem _ (List.mem_cons_of_mem _ h)).push (.int _)⟩⟩
theorem ty_pv {K : PySem.W.Frag} {H0 F0 : Hp} {A0 : List Addr} {s : PSt} {σ : St} {T : List (PV × V)} {H F : Hp} {A : List Addr} {v : PV} {u : V} {d : PyData} (w : WdF K H0 F0 A0 s σ T H F A) (p : PVOk K F A v u) (e : dat s v = some d) : TyX K H u (.type (tyD d)) := by
  have g : Dq K H u d → TyX K H u (.type (tyD d)) := fun h => by
    cases h with
    | non => exact .base .non
    | bl b => exact .base (.bl b)
    | int i => exact .base (.int i)
    | str x => exact .base (.str x)
    | lst h r => exact .base (.lst h)
    | tup h r =>
      rcases h with (h | ⟨o, h⟩) | ⟨o, its, n, e, c, _⟩
      · exact .base (.tup h)
      · exact .fTuple h
      · exact .kTuple e c
  cases v with
  | d x => exact g (datq_ok w p e)
  | own n => exact g (datq_ok w p e)
  | tp ps => cases e
  | gl g => cases e
  | exc y => cases e
  | xd y => cases e
  | dk y => cases e
  | scr ns =>
    cases e
    obtain ⟨a, rfl, h⟩ := p
    rcases same_l w.fz.g h with (h | ⟨o, h⟩) | ⟨o, its, n, e, c, _⟩
    · exact .base (.lst h)
    · exact .base (.frz h)
    · exact .kList e c
theorem tyx_tup {K : PySem.W.Frag} {H : Hp} {a : Addr} {us : List V} (h : SqT K H a us) : TyX K H (.ref a) (.type "tuple") := by
  rcases h with (h | ⟨o, h⟩) | ⟨o, its, n, e, c, _⟩
  · exact .base (.tup h)
  · exact .fTuple h
  · exact .kTuple e c
theorem tyx_pv {K : PySem.W.Frag} {H0 F0 : Hp} {A0 : List Addr} {s : PSt} {σ : St} {T : List (PV × V)} {H F : Hp} {A : List Addr} {v : PV} {u : V} {t : String} (w : WdF K H0 F0 A0 s σ T H F A) (p : PVOk K F A v u) (e : tyPV s v = some t) : TyX K H u (.type t) := by
  cases v with
  | d x => cases e; exact ty_pv w p rfl
  | scr ns => cases e; exact ty_pv w p rfl
  | tp ps =>
    cases e
    obtain ⟨a, us, rfl, h, _⟩ := p
    exact tyx_tup (same_t w.fz.g h)
  | dk kvs =>
    cases e
    obtain ⟨a, vs, rfl, h, _⟩ := p
    exact .base (.dK (w.fz.g _ _ h))
  | own n =>
    obtain ⟨q, hq, rfl⟩ := p
    have e : tyOC s.o[n]? = some t := e
    cases ho : s.o[n]? with
    | none => rw [ho] at e; cases e
    | some c =>
      rw [ho] at e
      have oc := w.oc n q c hq ho
      cases c with
      | dl xs => cases e; obtain ⟨_, vs, h, _⟩ := oc; exact .base (.lst h)
      | ml xs => cases e; obtain ⟨_, vs, h, _⟩ := oc; exact .base (.lst h)
      | di xs => cases e; obtain ⟨_, vs, h, _⟩ := oc; exact .base (.dK h)
      | dm xs => cases e; obtain ⟨_, vs, h, _⟩ := oc; exact .base (.dK h)
      | _ => cases e
  | _ => cases e
/-- isinstance(x, T), T a built-in class -/
theorem e_isi {x : Str} {T : String} {q1 : Pos} (hm : X.mg "isinstance" = none) (hT : X.mg x = none) (hb : bootBuiltins x = some (.type T)) (ha : PE X a (tE X.K W wa)) (hgT : Gl X x := by rfl) (hg : Gl X "isinstance" := by rfl)
    (hn : x ≠ "__name__" := by decide) (hd : (x == ("__debug__" : Str)) = false := by decide)
    (he : starEach [a, .Name x q1] X.env = (false, eval a X.env) :: starEach [.Name x q1] X.env := by rfl) (he2 : starEach [.Name x q1] X.env = (false, eval (.Name x q1) X.env) :: starEach [] X.env := by rfl) (hpl : (backTo pos (starEach [.Name x q1] X.env)).any (·.1) = false := by rfl) :
    PE X (.Call (.Name "isinstance" p) [a, .Name x q1] [] pos) (tE X.K W (wIsi T wa)) := by
  have pt : PE X (.Name x q1) (tC (.ty T)) := pe_bltn hgT hT hb rfl hn hd
  refine PE.imp (pe_callB call_isi hg hm (by decide +kernel) (pa_cons ha (pa_cons pt pa_nil he2) he) (he := he) (hpl := hpl)) fun σ H Q ⟨H0, F0, A0, s, T', kx, k, w, xl, h, q⟩ => ?_
  refine un_of w xl h fun x s1 u H1 h1 w1 => ?_
  obtain ⟨d, r, hd, hk, hq⟩ := h1
  obtain ⟨F, A, w1⟩ := w1
  exact ⟨u, .ty T, _, _, r, rfl, .ty T, tyx_pv w1 (w1.tm _ List.mem_cons_self) hd, kit_ty hk, q _ _ hq _ H1 ⟨F, A, (w1.sub fun t h => List.mem_cons_of_mem _ h).push (.bl _)⟩⟩
theorem e_listOf (hm : X.mg "list" = none) (ha : PE X a (tE X.K W wa)) (hg : Gl X "list" := by rfl) (he : starEach [a] X.env = (false, eval a X.env) :: starEach [] X.env := by rfl) (hpl : (backTo pos (starEach [] X.env)).any (·.1) = false := by rfl) :
    PE X (.Call (.Name "list" p) [a] [] pos) (tE X.K W (wListOf wa)) := by
  refine PE.imp (pe_callTy call_list_of hg hm (by decide +kernel) (pa_cons ha pa_nil he) (he := he) (hpl := hpl)) fun σ H Q ⟨H0, F0, A0, s, T, kx, k, w, xl, h, q⟩ => cb1_of w xl h fun x s1 u H1 h1 w1 => ?_
  obtain ⟨xs, hd, hk⟩ := h1
  obtain ⟨F, A, w1⟩ := w1
  have w2 := w1.sub (T' := T) fun t h => List.mem_cons_of_mem _ h
  rcases hd with hd | hd
  · obtain ⟨pp, vs, rfl, h1, h2⟩ := items_ok w1 (w1.tm _ List.mem_cons_self) hd
    exact ⟨pp, vs, rfl, .inl h1, fun n hn => q _ _ hk _ _ ⟨F, _, (w2.newL hn h2).push (top_at w2 n F)⟩⟩
  · obtain ⟨pp, vs, rfl, h1, h2⟩ := itemsT_ok w1 (w1.tm _ List.mem_cons_self) hd
    exact ⟨pp, vs, rfl, .inr h1, fun n hn => q _ _ hk _ _ ⟨F, _, (w2.newL hn h2).push (top_at w2 n F)⟩⟩
theorem e_tupOf (hm : X.mg "tuple" = none) (ha : PE X a (tE X.K W wa)) (hg : Gl X "tuple" := by rfl) (he : starEach [a] X.env = (false, eval a X.env) :: starEach [] X.env := by rfl) (hpl : (backTo pos (starEach [] X.env)).any (·.1) = false := by rfl) :
    PE X (.Call (.Name "tuple" p) [a] [] pos) (tE X.K W (wTupOf wa)) := by
  refine PE.imp (pe_callTy call_tuple_of hg hm (by decide +kernel) (pa_cons ha pa_nil he) (he := he) (hpl := hpl)) fun σ H Q ⟨H0, F0, A0, s, T, kx, k, w, xl, h, q⟩ => cb1_of w xl h fun x s1 u H1 h1 w1 => ?_
  obtain ⟨xs, hd, hk⟩ := h1
  obtain ⟨F, A, w1⟩ := w1
  have w2 := w1.sub (T' := T) fun t h => List.mem_cons_of_mem _ h
  rcases hd with hd | hd
  · obtain ⟨pp, vs, rfl, h1, h2⟩ := items_ok w1 (w1.tm _ List.mem_cons_self) hd
    exact ⟨pp, vs, rfl, .inl ⟨h1, fun n hn => q _ _ hk _ _ ⟨_, A, (w2.newD (o := .tup vs) hn).push (.tup (SqT.of upd_same) (dqAll_same (same_new (w2.fz.g.free hn)) h2))⟩⟩⟩
  · cases x with
    | d y =>
      cases hd
      have pd : Dq X.K F u (.tuple xs) := w1.tm (.d (.tuple xs), u) List.mem_cons_self
      obtain ⟨pp, vs, rfl, h1, h2⟩ := itemsT_ok w1 (v := .d (.tuple xs)) pd rfl
      exact ⟨pp, vs, rfl, .inr ⟨h1, q _ _ hk _ _ ⟨F, A, w2.push pd⟩⟩⟩
    | scr ns => cases hd
    | tp ps => cases hd
    | gl g => cases hd
    | exc y => cases hd
    | xd y => cases hd
    | dk y => cases hd
    | own m =>
      have hd : ocD s1.o[m]? = some (.tuple xs) := hd
      cases ho : s1.o[m]? with
      | none => rw [ho] at hd; cases hd
      | some c => rw [ho] at hd; cases c <;> cases hd
/-! methods -/
theorem str_at {K : PySem.W.Frag} {H0 F0 : Hp} {A0 : List Addr} {s : PSt} {σ : St} {T : List (PV × V)} {H : Hp} {u : V} {z : Str} (w : Wd K H0 F0 A0 s σ T H) (h : (PV.d (.str z), u) ∈ T) : u = .str z := by
  obtain ⟨F, A, w⟩ := w
  exact dp_str (dq_dp (w.tm _ h))
/-- o.m(e), m a method of texts that gives data -/
theorem e_m1 {name : Str} {id : String} {r : V → List V → Hp → VK → Prop} {R : Str → PyData → (PyData → Prop) → Prop} {apos : Pos} (slot : Slot "str" name id) (hty : typeOf (.builtin id) = pure (.type "method_descriptor")) (hm : MtR X id r)
    (hR : ∀ (z : Str) (v : V) (b : PyData) (H : Hp) (Q : VK) (P : PyData → Prop), Dp X.K H v b → R z b P → (∀ y t, P y → toV y = some t → Q t H) → r (.str z) [v] H Q) (ho : PE X wo_e (tE X.K W wo)) (ha : PE X a (tE X.K W wa))
    (hbase : attributeBase wo_e name X.env (eval wo_e X.env) = eval wo_e X.env := by rfl)
    (hfew : ((backTo pos (starEach [a] X.env)).all (fun x => !x.1) && (backToKw pos (keywordEach [] X.env)).all (fun x => x.1.isSome)
      && decide ([a].length + ([] : List Keyword).length + (if ([] : List Keyword).isEmpty then 0 else 1) < 30)) = true := by rfl)
    (hline : (apos.endLine == pos.line) = true := by rfl) (hs : starEach [a] X.env = (false, eval a X.env) :: starEach [] X.env := by rfl) (hplain : (backTo pos (starEach [] X.env)).any (·.1) = false := by rfl) :
    PE X (.Call (.Attribute wo_e name apos) [a] [] pos) (tE X.K W (wM1 R wo wa)) := by
  refine PE.imp (pe_bm PySem.F.plainAttrs_str slot hty hm ho (pa_cons ha pa_nil hs) hbase hfew hline hs hplain) fun σ H Q ⟨H0, F0, A0, s, T, kx, k, w, xl, h, q⟩ => ?_
  refine ⟨H0, F0, A0, s, T, kx, _, w, xl, h, fun x s1 h1 u H1 w1 => ?_⟩
  obtain ⟨z, rfl, h1⟩ := h1
  cases str_at w1 List.mem_cons_self
  refine ⟨rfl, H0, F0, A0, s1, _, kx, _, w1, xl.push, h1, fun y s2 h2 v H2 w2 => ?_⟩
  obtain ⟨b, hb, h2⟩ := h2
  obtain ⟨F, A, w2⟩ := w2
  exact hR z v b H2 Q _ (dat_ok w2 (w2.tm _ List.mem_cons_self) hb) h2 fun y t hy ht => q _ _ hy t H2 ⟨F, A, (w2.sub fun t h => List.mem_cons_of_mem _ (List.mem_cons_of_mem _ h)).push (toV_dp ht)⟩
/-- .. that gives a new list of texts -/
theorem e_m1L {name : Str} {id : String} {r : V → List V → Hp → VK → Prop} {R : Str → PyData → (List PyData → Prop) → Prop} {apos : Pos} (slot : Slot "str" name id) (hty : typeOf (.builtin id) = pure (.type "method_descriptor")) (hm : MtR X id r)
    (hR : ∀ (z : Str) (v : V) (b : PyData) (H : Hp) (Q : VK) (P : List PyData → Prop), Dp X.K H v b → R z b P → (∀ ys, P ys → ∀ p vs, H p = none → (∀ F, DqAll X.K F vs ys) → Q (.ref p) (upd H p (.lst vs))) → r (.str z) [v] H Q) (ho : PE X wo_e (tE X.K W wo)) (ha : PE X a (tE X.K W wa))
    (hbase : attributeBase wo_e name X.env (eval wo_e X.env) = eval wo_e X.env := by rfl)
    (hfew : ((backTo pos (starEach [a] X.env)).all (fun x => !x.1) && (backToKw pos (keywordEach [] X.env)).all (fun x => x.1.isSome)
      && decide ([a].length + ([] : List Keyword).length + (if ([] : List Keyword).isEmpty then 0 else 1) < 30)) = true := by rfl)
    (hline : (apos.endLine == pos.line) = true := by rfl) (hs : starEach [a] X.env = (false, eval a X.env) :: starEach [] X.env := by rfl) (hplain : (backTo pos (starEach [] X.env)).any (·.1) = false := by rfl) :
    PE X (.Call (.Attribute wo_e name apos) [a] [] pos) (tE X.K W (wM1L R wo wa)) := by
  refine PE.imp (pe_bm PySem.F.plainAttrs_str slot hty hm ho (pa_cons ha pa_nil hs) hbase hfew hline hs hplain) fun σ H Q ⟨H0, F0, A0, s, T, kx, k, w, xl, h, q⟩ => ?_
  refine ⟨H0, F0, A0, s, T, kx, _, w, xl, h, fun x s1 h1 u H1 w1 => ?_⟩
  obtain ⟨z, rfl, h1⟩ := h1
  cases str_at w1 List.mem_cons_self
  refine ⟨rfl, H0, F0, A0, s1, _, kx, _, w1, xl.push, h1, fun y s2 h2 v H2 w2 => ?_⟩
  obtain ⟨b, hb, h2⟩ := h2
  obtain ⟨F, A, w2⟩ := w2
  have w3 := w2.sub (T' := T) fun t h => List.mem_cons_of_mem _ (List.mem_cons_of_mem _ h)
  exact hR z v b H2 Q _ (dat_ok w2 (w2.tm _ List.mem_cons_self) hb) h2 fun ys hy n vs hn hd => q _ _ hy _ _ ⟨F, _, (w3.newL hn (hd F)).push (top_at w3 n F)⟩
theorem strs_dp {K : PySem.W.Frag} {H : Hp} : ∀ {xs : List PyData} {ys : List Str} {vs : List V}, strsOf xs = some ys → DpAll K H vs xs → vs = ys.map V.str
  | [], ys, _, e, .nil => by cases e; rfl
  | .str x :: r, ys, _, e, .cons h t => by
    have e : (strsOf r).map (x :: ·) = some ys := e
    cases hr : strsOf r with
    | none => rw [hr] at e; cases e
    | some zs =>
      rw [hr] at e
      cases e
      rw [strs_dp hr t, dp_str h]
      rfl
  | .none :: _, _, _, e, _ => nomatch e
  | .bool _ :: _, _, _, e, _ => nomatch e
  | .int _ :: _, _, _, e, _ => nomatch e
  | .list _ :: _, _, _, e, _ => nomatch e
  | .tuple _ :: _, _, _, e, _ => nomatch e
  | .dict _ :: _, _, _, e, _ => nomatch e
theorem strs_dq {K : PySem.W.Frag} {H : Hp} : ∀ (ys : List Str), DqAll K H (ys.map V.str) (ys.map PyData.str)
  | [] => .nil
  | y :: r => .cons (.str y) (strs_dq r)
theorem e_find {apos : Pos} (ho : PE X wo_e (tE X.K W wo)) (ha : PE X a (tE X.K W wa))
    (hbase : attributeBase wo_e "find" X.env (eval wo_e X.env) = eval wo_e X.env := by rfl)
    (hfew : ((backTo pos (starEach [a] X.env)).all (fun x => !x.1) && (backToKw pos (keywordEach [] X.env)).all (fun x => x.1.isSome)
      && decide ([a].length + ([] : List Keyword).length + (if ([] : List Keyword).isEmpty then 0 else 1) < 30)) = true := by rfl)
    (hline : (apos.endLine == pos.line) = true := by rfl) (hs : starEach [a] X.env = (false, eval a X.env) :: starEach [] X.env := by rfl) (hplain : (backTo pos (starEach [] X.env)).any (·.1) = false := by rfl) :
    PE X (.Call (.Attribute wo_e "find" apos) [a] [] pos) (tE X.K W (wM1 rFindD wo wa)) :=
  e_m1 PySem.F.slot_str_find PySem.F.type_str_find mt_find (fun z v b H Q P hb h q => by
    cases b <;> try exact h.elim
    cases dp_str hb
    exact ⟨_, _, rfl, rfl, q _ _ h rfl⟩) ho ha hbase hfew hline hs hplain
theorem e_split {apos : Pos} (ho : PE X wo_e (tE X.K W wo)) (ha : PE X a (tE X.K W wa))
    (hbase : attributeBase wo_e "split" X.env (eval wo_e X.env) = eval wo_e X.env := by rfl)
    (hfew : ((backTo pos (starEach [a] X.env)).all (fun x => !x.1) && (backToKw pos (keywordEach [] X.env)).all (fun x => x.1.isSome)
      && decide ([a].length + ([] : List Keyword).length + (if ([] : List Keyword).isEmpty then 0 else 1) < 30)) = true := by rfl)
    (hline : (apos.endLine == pos.line) = true := by rfl) (hs : starEach [a] X.env = (false, eval a X.env) :: starEach [] X.env := by rfl) (hplain : (backTo pos (starEach [] X.env)).any (·.1) = false := by rfl) :
    PE X (.Call (.Attribute wo_e "split" apos) [a] [] pos) (tE X.K W (wM1L rSplitD wo wa)) :=
  e_m1L PySem.F.slot_str_split PySem.F.type_str_split mt_split (fun z v b H Q P hb h q => by
    cases b <;> try exact h.elim
    cases dp_str hb
    exact ⟨_, _, rfl, rfl, h.1, h.2.1, fun p hp => q _ h.2.2 p _ hp fun F => strs_dq _⟩) ho ha hbase hfew hline hs hplain
theorem e_join {apos : Pos} (ho : PE X wo_e (tE X.K W wo)) (ha : PE X a (tE X.K W wa))
    (hbase : attributeBase wo_e "join" X.env (eval wo_e X.env) = eval wo_e X.env := by rfl)
    (hfew : ((backTo pos (starEach [a] X.env)).all (fun x => !x.1) && (backToKw pos (keywordEach [] X.env)).all (fun x => x.1.isSome)
      && decide ([a].length + ([] : List Keyword).length + (if ([] : List Keyword).isEmpty then 0 else 1) < 30)) = true := by rfl)
    (hline : (apos.endLine == pos.line) = true := by rfl) (hs : starEach [a] X.env = (false, eval a X.env) :: starEach [] X.env := by rfl) (hplain : (backTo pos (starEach [] X.env)).any (·.1) = false := by rfl) :
    PE X (.Call (.Attribute wo_e "join" apos) [a] [] pos) (tE X.K W (wM1 rJoinD wo wa)) :=
  e_m1 PySem.F.slot_str_join PySem.F.type_str_join mt_join (fun z v b H Q P hb h q => by
    cases b with
    | list xs =>
      obtain ⟨ys, e, hz, h⟩ := h
      cases hb with
      | lst h1 h2 =>
        rw [strs_dp e h2] at h1
        exact ⟨_, _, ys, rfl, rfl, .inl h1, hz, q _ _ h rfl⟩
    | tuple xs =>
      obtain ⟨ys, e, hz, h⟩ := h
      cases hb with
      | tup h1 h2 =>
        rw [strs_dp e h2] at h1
        exact ⟨_, _, ys, rfl, rfl, .inr h1, hz, q _ _ h rfl⟩
    | _ => exact h.elim) ho ha hbase hfew hline hs hplain
theorem own_at {K : PySem.W.Frag} {H0 F0 : Hp} {A0 : List Addr} {s : PSt} {σ : St} {T : List (PV × V)} {H F : Hp} {A : List Addr} {u : V} {n : Nat} {xs : List PyData} (w : WdF K H0 F0 A0 s σ T H F A) (h : (PV.own n, u) ∈ T) (ho : s.o[n]? = some (.dl xs)) :
    ∃ p vs, A[n]? = some p ∧ u = .ref p ∧ H p = some (.lst vs) ∧ DqAll K F vs xs := by
  obtain ⟨p, hp, e⟩ := w.tm _ h
  obtain ⟨_, vs, h1, h2⟩ := w.oc n p _ hp ho
  exact ⟨p, vs, hp, e, h1, h2⟩
theorem e_app {apos : Pos} (ho : PE X wo_e (tE X.K W wo)) (ha : PE X a (tE X.K W wa))
    (hbase : attributeBase wo_e "append" X.env (eval wo_e X.env) = eval wo_e X.env := by rfl)
    (hfew : ((backTo pos (starEach [a] X.env)).all (fun x => !x.1) && (backToKw pos (keywordEach [] X.env)).all (fun x => x.1.isSome)
      && decide ([a].length + ([] : List Keyword).length + (if ([] : List Keyword).isEmpty then 0 else 1) < 30)) = true := by rfl)
    (hline : (apos.endLine == pos.line) = true := by rfl) (hs : starEach [a] X.env = (false, eval a X.env) :: starEach [] X.env := by rfl) (hplain : (backTo pos (starEach [] X.env)).any (·.1) = false := by rfl) :
    PE X (.Call (.Attribute wo_e "append" apos) [a] [] pos) (tE X.K W (wApp wo wa)) := by
  refine PE.imp (pe_bm PySem.F.plainAttrs_list PySem.F.slot_list_append PySem.F.type_list_append mt_append ho (pa_cons ha pa_nil hs) hbase hfew hline hs hplain) fun σ H Q ⟨H0, F0, A0, s, T, kx, k, w, xl, h, q⟩ => ?_
  refine ⟨H0, F0, A0, s, T, kx, _, w, xl, h, fun x s1 h1 u H1 w1 => ?_⟩
  obtain ⟨n, ws, rfl, ow, h1⟩ := h1
  have ty : tyV X.K "list" u H1 := by
    obtain ⟨F, A, w1⟩ := w1
    obtain ⟨p, vs, hp, rfl, hv, _⟩ := own_at w1 List.mem_cons_self ow
    exact .inl ⟨rfl, vs, SqL.of hv⟩
  refine ⟨ty, H0, F0, A0, s1, _, kx, _, w1, xl.push, h1, fun y s2 h2 v H2 w2 => ?_⟩
  obtain ⟨d, s3, h3, w3⟩ := frz_ok w2 h2
  obtain ⟨xs, ox, hz, hk⟩ := h3
  obtain ⟨F, A, w3⟩ := w3
  obtain ⟨p, vs, hp, rfl, hv, hd⟩ := own_at w3 (List.mem_cons_of_mem _ List.mem_cons_self) ox
  have dv : Dq X.K F v d := w3.tm (.d d, v) List.mem_cons_self
  refine ⟨p, vs, v, rfl, rfl, hv, by rw [hd.len]; exact hz, q _ _ hk _ _ ⟨F, A, ((w3.sub (T' := T) fun t h => List.mem_cons_of_mem _ (List.mem_cons_of_mem _ h)).wr hp ox (hd.app (.cons dv .nil))).push .non⟩⟩
theorem e_ext {apos : Pos} (ho : PE X wo_e (tE X.K W wo)) (ha : PE X a (tE X.K W wa))
    (hbase : attributeBase wo_e "extend" X.env (eval wo_e X.env) = eval wo_e X.env := by rfl)
    (hfew : ((backTo pos (starEach [a] X.env)).all (fun x => !x.1) && (backToKw pos (keywordEach [] X.env)).all (fun x => x.1.isSome)
      && decide ([a].length + ([] : List Keyword).length + (if ([] : List Keyword).isEmpty then 0 else 1) < 30)) = true := by rfl)
    (hline : (apos.endLine == pos.line) = true := by rfl) (hs : starEach [a] X.env = (false, eval a X.env) :: starEach [] X.env := by rfl) (hplain : (backTo pos (starEach [] X.env)).any (·.1) = false := by rfl) :
    PE X (.Call (.Attribute wo_e "extend" apos) [a] [] pos) (tE X.K W (wExt wo wa)) := by
  refine PE.imp (pe_bm PySem.F.plainAttrs_list PySem.F.slot_list_extend PySem.F.type_list_extend mt_extend ho (pa_cons ha pa_nil hs) hbase hfew hline hs hplain) fun σ H Q ⟨H0, F0, A0, s, T, kx, k, w, xl, h, q⟩ => ?_
  refine ⟨H0, F0, A0, s, T, kx, _, w, xl, h, fun x s1 h1 u H1 w1 => ?_⟩
  obtain ⟨n, ws, rfl, ow, h1⟩ := h1
  have ty : tyV X.K "list" u H1 := by
    obtain ⟨F, A, w1⟩ := w1
    obtain ⟨p, vs, hp, rfl, hv, _⟩ := own_at w1 List.mem_cons_self ow
    exact .inl ⟨rfl, vs, SqL.of hv⟩
  refine ⟨ty, H0, F0, A0, s1, _, kx, _, w1, xl.push, h1, fun y s2 h2 v H2 w2 => ?_⟩
  obtain ⟨xs, ys, ox, oy, hz, hk⟩ := h2
  obtain ⟨F, A, w3⟩ := w2
  obtain ⟨p, vs, hp, rfl, hv, hd⟩ := own_at w3 (List.mem_cons_of_mem _ List.mem_cons_self) ox
  obtain ⟨b, zs, rfl, hb, hy⟩ := itemsq_ok w3 (w3.tm _ List.mem_cons_self) oy
  refine ⟨p, b, vs, zs, rfl, rfl, hv, hb, by rw [hd.len, hy.len]; exact hz, q _ _ hk _ _ ⟨F, A, ((w3.sub (T' := T) fun t h => List.mem_cons_of_mem _ (List.mem_cons_of_mem _ h)).wr hp ox (hd.app hy)).push .non⟩⟩
theorem DqAll.init {K : PySem.W.Frag} {H : Hp} {vs : List V} {ds : List PyData} (h : DqAll K H vs ds) : DqAll K H vs.dropLast ds.dropLast := by
  rw [List.dropLast_eq_take, List.dropLast_eq_take, h.len]
  exact h.take _
theorem e_pop {apos : Pos} (ho : PE X wo_e (tE X.K W wo)) (hbase : attributeBase wo_e "pop" X.env (eval wo_e X.env) = eval wo_e X.env := by rfl) (hline : (apos.endLine == pos.line) = true := by rfl) :
    PE X (.Call (.Attribute wo_e "pop" apos) [] [] pos) (tE X.K W (wPop wo)) := by
  refine PE.imp (pe_bm0 PySem.F.plainAttrs_list PySem.F.slot_list_pop PySem.F.type_list_pop mt_pop ho hbase hline) fun σ H Q ⟨H0, F0, A0, s, T, kx, k, w, xl, h, q⟩ => ?_
  refine ⟨H0, F0, A0, s, T, kx, _, w, xl, h, fun x s1 h1 u H1 w1 => ?_⟩
  obtain ⟨n, xs, d, rfl, ox, hl, hk⟩ := h1
  obtain ⟨F, A, w1⟩ := w1
  obtain ⟨p, vs, hp, rfl, hv, hd⟩ := own_at w1 List.mem_cons_self ox
  obtain ⟨v, e1, e2⟩ := hd.getd _ _ hl
  refine ⟨.inl ⟨rfl, vs, SqL.of hv⟩, p, vs, v, rfl, rfl, hv, by rw [hd.len]; exact e1, q _ _ hk _ _ ⟨F, A, ((w1.sub (T' := T) fun t h => List.mem_cons_of_mem _ h).wr hp ox hd.init).push e2⟩⟩
end
end PW
namespace PW
open PySem L2
/-! ### statements -/
def PSt.st (s : PSt) (i : Nat) (v : PV) : PSt := ⟨s.r.set i (some v), s.o⟩
mutual
/-- all owned things in it stand ahead of the m-th -/
def PV.lt (m : Nat) : PV → Bool
  | .own n => decide (n < m)
  | .tp ps => PV.ltAll m ps
  | _ => true
def PV.ltAll (m : Nat) : List PV → Bool
  | [] => true
  | p :: ps => PV.lt m p && PV.ltAll m ps
end
/-- owned things from the m-th on are forgotten -/
def cutP (m : Nat) : Option PV → Option PV
  | some (.own n) => if n < m then some (.own n) else none
  | some (.tp ps) => if PV.ltAll m ps = true then some (.tp ps) else none
  | v => v
/-- what is in an owned thing -/
def OC.pvs : OC → List PV
  | .ml ps => ps
  | .ob _ fs => fs.map (·.2)
  | .dm kvs => kvs.map (·.2)
  | .dt kvs => kvs.map (·.2)
  | _ => []
def OC.cut (m : Nat) : OC → OC
  | .dl xs => .dl xs
  | .di kvs => .di kvs
  | .no => .no
  | c => if PV.ltAll m c.pvs = true then c else .no
def cutL (m : Nat) (o : List OC) : List OC := (o.take m).map (OC.cut m)
def PSt.trim (s : PSt) (m : Nat) : PSt := ⟨s.r.map (cutP m), cutL m s.o⟩
/-- slots are forgotten -/
def PSt.wipe (s : PSt) : List Nat → PSt
  | [] => s
  | v :: vs => ⟨(s.wipe vs).r.set v none, s.o⟩
def wSeq (a b : SW) : SW := fun kx s k => a kx s { k with nx := fun s1 => b kx s1 k }
def wNext : SW := fun _ s k => k.nx s
def wBrk : SW := fun _ s k => k.bk s
def wCnt : SW := fun _ s k => k.ct s
def wAsg (we : EW) (i : Nat) : SW := fun kx s k => we kx s fun v s1 => k.nx (s1.st i v)
def wDrop (we : EW) : SW := fun kx s k => we kx s fun _ s1 => k.nx s1
def wRet (we : EW) : SW := fun kx s k => we kx s fun v s1 => k.rt v s1
def wRetN : SW := fun _ s k => k.rt (.d .none) s
def wIfS (t : TW) (a b : SW) : SW := fun kx s k => t kx s fun c s1 => (c = true → a kx s1 k) ∧ (c = false → b kx s1 k)
/-- a target by data -/
def gN (i : Nat) : GW := fun x s k => k (s.st i (.d x))
abbrev GWs := List PyData → PSt → (PSt → Prop) → Prop
def gT (n : Nat) (gs : GWs) : GW := fun x s k => ∃ xs, x = .tuple xs ∧ xs.length = n ∧ gs xs s k
def gsNil : GWs := fun xs s k => xs = [] ∧ k s
def gsCons (g : GW) (gs : GWs) : GWs := fun xs s k => ∃ x r, xs = x :: r ∧ g x s fun s1 => gs r s1 k
def wUnp (we : EW) (g : GW) : SW := fun kx s k => we kx s fun v s1 => frz v s1 fun x s2 => g x s2 k.nx
def wSetIx (wv wo wi : EW) : SW := fun kx s k => wv kx s fun v s1 => wo kx s1 fun x s2 => wi kx s2 fun y s3 => frz v s3 fun d s4 => ∃ n xs i j, x = .own n ∧ y = .d (.int i) ∧ s4.o[n]? = some (.dl xs) ∧ ixN xs.length i = some j ∧ k.nx ⟨s4.r, s4.o.set n (.dl (xs.set j d))⟩
def wAug (R : PyData → PyData → (PyData → Prop) → Prop) (i : Nat) (we : EW) : SW := fun kx s k => ∃ x, s.r[i]? = some (some (.d x)) ∧ we kx s fun y s1 => ∃ b, dat s1 y = some b ∧ R x b fun z => k.nx (s1.st i (.d z))
def wWh (t : TW) (b : SW) : SW := fun kx s k => ∃ I : Nat → PSt → Prop, (∃ m, I m s) ∧ ∀ m s1, I m s1 → t kx s1 fun c s2 =>
  (c = true → b kx s2 { k with nx := fun s3 => ∃ m', m' < m ∧ (I m' s3 ∨ I m' (s3.trim s.o.length)), ct := fun s3 => ∃ m', m' < m ∧ (I m' s3 ∨ I m' (s3.trim s.o.length)), bk := k.nx }) ∧ (c = false → k.nx s2)
def wFor (wi : IW) (g : GW) (b : SW) : SW := fun kx s k => wi kx s fun xs c s0 => ∃ I : Nat → PSt → Prop, I 0 s0 ∧ (∀ j s1, j ≤ xs.length → I j s1 → Src c s1) ∧ (∀ j x s1, xs[j]? = some x → I j s1 → g x s1 fun s2 =>
  b kx s2 { k with nx := fun s3 => I (j + 1) s3 ∨ I (j + 1) (s3.trim s0.o.length), ct := fun s3 => I (j + 1) s3 ∨ I (j + 1) (s3.trim s0.o.length), bk := k.nx }) ∧ ∀ s1, I xs.length s1 → k.nx s1
def wRaise (C : Addr) : SW := fun kx s _ => kx ⟨C, none⟩ s
section
variable {K : PySem.W.Frag} {H0 F0 : Hp} {A0 : List Addr} {s : PSt} {σ : St} {T : List (PV × V)} {H F : Hp} {A : List Addr}
theorem cutP_is {m : Nat} {v : PV} : ∀ {o : Option PV}, cutP m o = some v → o = some v ∧ v.lt m = true
  | none, h => nomatch h
  | some (.own n), h => by
    by_cases hn : n < m
    · have e : cutP m (some (.own n)) = some (.own n) := if_pos hn
      rw [e] at h
      cases h
      exact ⟨rfl, decide_eq_true hn⟩
    · have e : cutP m (some (.own n)) = none := if_neg hn
      rw [e] at h
      cases h
  | some (.tp ps), h => by
    by_cases hn : PV.ltAll m ps = true
    · have e : cutP m (some (.tp ps)) = some (.tp ps) := if_pos hn
      rw [e] at h
      cases h
      exact ⟨rfl, hn⟩
    · have e : cutP m (some (.tp ps)) = none := if_neg hn
      rw [e] at h
      cases h
  | some (.d x), h => by cases h; exact ⟨rfl, rfl⟩
  | some (.scr x), h => by cases h; exact ⟨rfl, rfl⟩
  | some (.gl x), h => by cases h; exact ⟨rfl, rfl⟩
  | some (.exc x), h => by cases h; exact ⟨rfl, rfl⟩
  | some (.xd x), h => by cases h; exact ⟨rfl, rfl⟩
  | some (.dk x), h => by cases h; exact ⟨rfl, rfl⟩
theorem cutP_of {m : Nat} {v : PV} (h : v.lt m = true) : cutP m (some v) = some v := by
  cases v with
  | own n => exact if_pos (of_decide_eq_true h)
  | tp ps => exact if_pos h
  | _ => rfl
theorem ocut_if {m : Nat} : ∀ c : OC, OC.cut m c = if PV.ltAll m c.pvs = true then c else .no
  | .ml ps => rfl
  | .ob _ _ => rfl
  | .dm _ => rfl
  | .dt _ => rfl
  | .no => rfl
  | .dl _ => rfl
  | .di _ => rfl
theorem ocut_is {m : Nat} (c : OC) : OC.cut m c = .no ∨ OC.cut m c = c := by
  rw [ocut_if]
  split
  · exact .inr rfl
  · exact .inl rfl
mutual
theorem lt_mono {m n : Nat} (h : m ≤ n) : ∀ {v : PV}, v.lt m = true → v.lt n = true
  | .own k, e => decide_eq_true (Nat.lt_of_lt_of_le (of_decide_eq_true e) h)
  | .tp ps, e => ltAll_mono h (ps := ps) e
  | .d _, _ => rfl
  | .scr _, _ => rfl
  | .gl _, _ => rfl
  | .exc _, _ => rfl
  | .xd _, _ => rfl
  | .dk _, _ => rfl
theorem ltAll_mono {m n : Nat} (h : m ≤ n) : ∀ {ps : List PV}, PV.ltAll m ps = true → PV.ltAll n ps = true
  | [], _ => rfl
  | p :: ps, e => by
    have e : (PV.lt m p && PV.ltAll m ps) = true := e
    rw [Bool.and_eq_true] at e
    show (PV.lt n p && PV.ltAll n ps) = true
    rw [lt_mono h e.1, ltAll_mono h e.2]
    rfl
end
mutual
theorem PVOk.lt {K : PySem.W.Frag} {F : Hp} {A : List Addr} : ∀ {v : PV} {u : V}, PVOk K F A v u → v.lt A.length = true
  | .own n, _, ⟨_, hp, _⟩ => decide_eq_true (List.getElem?_eq_some_iff.mp hp).1
  | .tp ps, _, ⟨_, us, _, _, r⟩ => PVAll.lt r
  | .d _, _, _ => rfl
  | .scr _, _, _ => rfl
  | .gl _, _, _ => rfl
  | .exc _, _, _ => rfl
  | .xd _, _, _ => rfl
  | .dk _, _, _ => rfl
theorem PVAll.lt {K : PySem.W.Frag} {F : Hp} {A : List Addr} : ∀ {ps : List PV} {us : List V}, PVAll K F A ps us → PV.ltAll A.length ps = true
  | [], [], _ => rfl
  | p :: ps, u :: us, ⟨h, r⟩ => by
    show (PV.lt _ p && PV.ltAll _ ps) = true
    rw [PVOk.lt h, PVAll.lt r]
    rfl
  | [], _ :: _, h => h.elim
  | _ :: _, [], h => h.elim
end
mutual
theorem PVOk.take {K : PySem.W.Frag} {F : Hp} {A : List Addr} {m : Nat} : ∀ {v : PV} {u : V}, PVOk K F A v u → v.lt m = true → PVOk K F (A.take m) v u
  | .own n, _, ⟨p, hp, e⟩, h => ⟨p, by rw [List.getElem?_take, if_pos (of_decide_eq_true h)]; exact hp, e⟩
  | .tp ps, _, ⟨a, us, e, q, r⟩, h => ⟨a, us, e, q, PVAll.take r h⟩
  | .d _, _, h, _ => h
  | .scr _, _, h, _ => h
  | .gl _, _, h, _ => h
  | .exc _, _, h, _ => h
  | .xd _, _, h, _ => h
  | .dk _, _, h, _ => h
theorem PVAll.take {K : PySem.W.Frag} {F : Hp} {A : List Addr} {m : Nat} : ∀ {ps : List PV} {us : List V}, PVAll K F A ps us → PV.ltAll m ps = true → PVAll K F (A.take m) ps us
  | [], [], _, _ => True.intro
  | p :: ps, u :: us, ⟨h, r⟩, e => by
    have e : (PV.lt m p && PV.ltAll m ps) = true := e
    rw [Bool.and_eq_true] at e
    exact ⟨PVOk.take h e.1, PVAll.take r e.2⟩
  | [], _ :: _, h, _ => h.elim
  | _ :: _, [], h, _ => h.elim
end
theorem OCOk.tk {m : Nat} {p : Addr} : ∀ {c : OC}, OCOk K F H A p c → PV.ltAll m c.pvs = true → OCOk K F H (A.take m) p c
  | .ml ps, ⟨a, vs, b, r⟩, h => ⟨a, vs, b, PVAll.take r h⟩
  | .ob _ _, ⟨a, dx, vs, b, k, r⟩, h => ⟨a, dx, vs, b, k, PVAll.take r h⟩
  | .dm _, ⟨a, vs, b, k, r⟩, h => ⟨a, vs, b, k, PVAll.take r h⟩
  | .dt _, ⟨a, vs, b, k, r⟩, h => ⟨a, vs, b, k, PVAll.take r h⟩
  | .no, h, _ => h
  | .dl _, h, _ => h
  | .di _, h, _ => h
theorem OCOk.cut {m : Nat} {p : Addr} {c : OC} (h : OCOk K F H A p c) : OCOk K F H (A.take m) p (OC.cut m c) := by
  rw [ocut_if]
  split
  · rename_i e
    exact h.tk e
  · trivial
theorem ocut_up {m n : Nat} (h : m ≤ n) {c : OC} (e : OC.cut m c = c) : OC.cut n c = c ∨ c = .no := by
  rw [ocut_if] at e ⊢
  split at e
  · rename_i z
    rw [if_pos (ltAll_mono h z)]
    exact .inl rfl
  · exact .inr e.symm
theorem cutL_at {m n : Nat} {o : List OC} {c : OC} (h : (cutL m o)[n]? = some c) : n < m ∧ ∃ c0, o[n]? = some c0 ∧ c = OC.cut m c0 := by
  unfold cutL at h
  rw [List.getElem?_map, List.getElem?_take] at h
  by_cases hn : n < m
  · rw [if_pos hn] at h
    cases ho : o[n]? with
    | none => rw [ho] at h; cases h
    | some c0 =>
      rw [ho] at h
      exact ⟨hn, c0, rfl, (Option.some.inj h).symm⟩
  · rw [if_neg hn] at h
    cases h
theorem cutL_len (m : Nat) (o : List OC) : (cutL m o).length = min m o.length := by
  unfold cutL
  rw [List.length_map, List.length_take]
theorem WdF.trim {m : Nat} (w : WdF K H0 F0 A0 s σ T H F A) (hm : A0.length ≤ m) (hT : ∀ t ∈ T, t.1.lt m = true) : WdF K H0 F0 A0 (s.trim m) σ T H F (A.take m) where
  fz := w.fz
  pre := by
    obtain ⟨t, e⟩ := w.pre
    subst e
    rw [List.take_append, List.take_of_length_le hm]
    exact List.prefix_append _ _
  len := by
    show (A.take m).length = (cutL m s.o).length
    rw [List.length_take, cutL_len, w.len]
  nd := w.nd.sublist (List.take_sublist _ _)
  ad := fun p hp => w.ad p (List.mem_of_mem_take hp)
  oc := fun n p c h1 h2 => by
    obtain ⟨hn, c0, h3, rfl⟩ := cutL_at (o := s.o) h2
    rw [List.getElem?_take, if_pos hn] at h1
    exact (w.oc n p c0 h1 h3).cut
  sl := by
    show (s.r.map _).length = _
    rw [List.length_map]; exact w.sl
  pv := fun i v h => by
    have h : (s.r.map (cutP m))[i]? = some (some v) := h
    rw [List.getElem?_map] at h
    cases hr : s.r[i]? with
    | none => rw [hr] at h; cases h
    | some o =>
      rw [hr] at h
      obtain ⟨h, hl⟩ := cutP_is (Option.some.inj h)
      subst h
      obtain ⟨u, a, b⟩ := w.pv i v hr
      exact ⟨u, a, b.take hl⟩
  tm := fun t ht => (w.tm t ht).take (hT t ht)
theorem WdF.own_lt (w : WdF K H0 F0 A0 s σ T H F A) : A0.length ≤ s.o.length ∧ ∀ t ∈ T, t.1.lt s.o.length = true := by
  refine ⟨by rw [← w.len]; exact w.pre.length_le, fun t ht => ?_⟩
  rw [← w.len]
  exact (w.tm t ht).lt
theorem Wd.trim {m : Nat} (w : Wd K H0 F0 A0 s σ T H) (hm : A0.length ≤ m) (hT : ∀ t ∈ T, t.1.lt m = true) : Wd K H0 F0 A0 (s.trim m) σ T H := by
  obtain ⟨F, A, w⟩ := w
  exact ⟨F, _, w.trim hm hT⟩
theorem Wd.own_lt (w : Wd K H0 F0 A0 s σ T H) : A0.length ≤ s.o.length ∧ ∀ t ∈ T, t.1.lt s.o.length = true := by
  obtain ⟨F, A, w⟩ := w
  exact w.own_lt
theorem mem_skip {α : Type} {a t : α} {l : List α} (h : t ∈ l) : t ∈ a :: l := List.mem_cons_of_mem _ h
theorem mem_keep {α : Type} {a t : α} {l m : List α} (f : ∀ t ∈ l, t ∈ m) (h : t ∈ a :: l) : t ∈ a :: m := by
  rcases List.mem_cons.mp h with e | h
  · rw [e]; exact List.mem_cons_self
  · exact List.mem_cons_of_mem _ (f t h)
end
section
variable {X : Cx} {W : WX} {st : Stmt} {rest body orelse : List Stmt} {wa wb : SW} {we wo wi : EW} {wt : TW} {e o a : Expr} {pos : Pos} {g : GW}
theorem s_cons (h1 : PS X st (tS X.K W wa)) (h2 : PSs X rest (tS X.K W wb)) : PSs X (st :: rest) (tS X.K W (wSeq wa wb)) := by
  refine PSs.imp (pss_cons h1 h2) fun D σ H ⟨H0, F0, A0, s, T, kx, k, w, xl, h, q1, q2, q3, q4⟩ => ?_
  exact ⟨H0, F0, A0, s, T, kx, _, w, xl, h, fun s' h' σ' H' w' => ⟨H0, F0, A0, s', T, kx, k, w', xl, h', q1, q2, q3, q4⟩, q2, q3, q4⟩
theorem s_one (h1 : PS X st (tS X.K W wa)) : PSs X [st] (tS X.K W wa) := pss_one h1
theorem s_nil : PSs X [] (tS X.K W wNext) := PSs.imp pss_nil fun D σ H ⟨H0, F0, A0, s, T, kx, k, w, xl, h, q1, q2, q3, q4⟩ => q1 s h σ H w
theorem s_pass : PS X (.Pass pos) (tS X.K W wNext) := PS.imp ps_pass fun D σ H ⟨H0, F0, A0, s, T, kx, k, w, xl, h, q1, q2, q3, q4⟩ => q1 s h σ H w
theorem s_brk : PS X (.Break pos) (tS X.K W wBrk) := PS.imp ps_break fun D σ H ⟨H0, F0, A0, s, T, kx, k, w, xl, h, q1, q2, q3, q4⟩ => q3 s h σ H w
theorem s_cnt : PS X (.Continue pos) (tS X.K W wCnt) := PS.imp ps_continue fun D σ H ⟨H0, F0, A0, s, T, kx, k, w, xl, h, q1, q2, q3, q4⟩ => q4 s h σ H w
theorem s_expr (he : PE X e (tE X.K W we)) (hs : swapsWith e none pos.line X.env = pure false := by rfl) : PS X (.Expr e pos) (tS X.K W (wDrop we)) := by
  refine PS.imp (ps_expr he hs) fun D σ H ⟨H0, F0, A0, s, T, kx, k, w, xl, h, q1, q2, q3, q4⟩ => ?_
  exact ⟨H0, F0, A0, s, T, kx, _, w, xl, h, fun v s' h' u H' w' => q1 s' h' σ H' w'.pop⟩
theorem s_ret (he : PE X e (tE X.K W we)) : PS X (.Return (some e) pos) (tS X.K W (wRet we)) := by
  refine PS.imp (ps_ret he) fun D σ H ⟨H0, F0, A0, s, T, kx, k, w, xl, h, q1, q2, q3, q4⟩ => ?_
  exact ⟨H0, F0, A0, s, T, kx, _, w, xl, h, fun v s' h' u H' w' => q2 v s' h' u σ H' w'⟩
theorem s_retN : PS X (.Return none pos) (tS X.K W wRetN) := by
  refine PS.imp ps_retN fun D σ H ⟨H0, F0, A0, s, T, kx, k, w, xl, h, q1, q2, q3, q4⟩ => ?_
  obtain ⟨F, A, w⟩ := w
  exact q2 _ s h _ σ H ⟨F, A, w.push .non⟩
theorem s_if (hc : PT X e (tT X.K W wt)) (ha : PSs X body (tS X.K W wa)) (hb : PSs X orelse (tS X.K W wb)) : PS X (.If e body orelse pos) (tS X.K W (wIfS wt wa wb)) := by
  refine PS.imp (ps_if hc ha hb) fun D σ H ⟨H0, F0, A0, s, T, kx, k, w, xl, h, q1, q2, q3, q4⟩ => ?_
  refine ⟨H0, F0, A0, s, T, kx, _, w, xl, h, fun c s' h' H' w' => ?_⟩
  cases c with
  | true => exact iteT ⟨H0, F0, A0, s', T, kx, k, w', xl, h'.1 rfl, q1, q2, q3, q4⟩
  | false => exact iteF ⟨H0, F0, A0, s', T, kx, k, w', xl, h'.2 rfl, q1, q2, q3, q4⟩
theorem s_set {i : Nat} {x : Str} {pos' : Pos} (hN : X.N.Nodup) (hi : X.N[i]? = some x) (hx : Loc X.env.scope x) (he : PE X e (tE X.K W we)) (hs : swapsWith e (some (.Name x pos')) pos.line X.env = pure false := by rfl) (hf : X.fn x = true ∨ X.env.scope.names.lookup x = some .local := by first | exact .inl rfl | exact .inr rfl | assumption) :
    PS X (.Assign [.Name x pos'] e pos) (tS X.K W (wAsg we i)) := by
  refine PS.imp (ps_set hN hi hx he hs hf) fun D σ H ⟨H0, F0, A0, s, T, kx, k, w, xl, h, q1, q2, q3, q4⟩ => ?_
  refine ⟨H0, F0, A0, s, T, kx, _, w, xl, h, fun v s' h' u H' w' => ?_⟩
  obtain ⟨F, A, w'⟩ := w'
  exact q1 _ h' _ H' ⟨F, A, (w'.sub fun t h => List.mem_cons_of_mem _ h).st (w'.tm _ List.mem_cons_self)⟩
/-! targets -/
theorem g_name {i : Nat} {x : Str} (hN : X.N.Nodup) (hi : X.N[i]? = some x) (hx : Loc X.env.scope x) (hf : X.fn x = true ∨ X.env.scope.names.lookup x = some .local := by first | exact .inl rfl | exact .inr rfl | assumption) : PG X (.Name x pos) (tG X.K [i] (gN i)) := by
  refine PG.imp (pg_name hN hi hx hf) fun v σ H Q ⟨H0, F0, A0, s, T, x, k, w, m, h, q⟩ => ?_
  obtain ⟨F, A, w⟩ := w
  exact q _ h _ H ⟨by rw [List.length_set], fun j hj => List.getElem?_set_ne (fun e => hj (by rw [e]; exact List.mem_cons_self))⟩ ⟨F, A, w.st (w.tm _ m)⟩
def tGs (K : PySem.W.Frag) (L : List Nat) (g : GWs) : TGs := fun vs σ H Q => ∃ H0 F0 A0 s T xs k, Wd K H0 F0 A0 s σ T H ∧ vs.length = xs.length ∧ (∀ t ∈ (xs.map PV.d).zip vs, t ∈ T) ∧ g xs s k ∧ ∀ s', k s' → ∀ σ' H', OutL L σ σ' → Wd K H0 F0 A0 s' σ' T H' → Q σ' H'
theorem PGs.imp {es : List Expr} {t t' : TGs} (h : PGs X es t) (i : ∀ v σ H Q, t' v σ H Q → t v σ H Q) : PGs X es t' := ⟨fun pins s σ H v u Q I r q => h.run pins s σ H v u Q I r (i v σ H Q q)⟩
theorem gs_nil : PGs X [] (tGs X.K [] gsNil) := by
  refine PGs.imp pgs_nil fun vs σ H Q ⟨H0, F0, A0, s, T, xs, k, w, e, m, ⟨hx, h⟩, q⟩ => ?_
  subst hx
  exact ⟨List.eq_nil_of_length_eq_zero e, q s h σ H ⟨rfl, fun _ _ => rfl⟩ w⟩
theorem gs_cons {es : List Expr} {g1 : GW} {g2 : GWs} {L1 L2 : List Nat} (h1 : PG X e (tG X.K L1 g1)) (h2 : PGs X es (tGs X.K L2 g2)) (hs : (assignEach (e :: es) X.env).map (·.2) = assign e X.env :: (assignEach es X.env).map (·.2) := by rfl) : PGs X (e :: es) (tGs X.K (L1 ++ L2) (gsCons g1 g2)) := by
  refine PGs.imp (pgs_cons h1 h2 hs) fun vs σ H Q ⟨H0, F0, A0, s, T, xs, k, w, e, m, ⟨x, r, hx, h⟩, q⟩ => ?_
  subst hx
  cases vs with
  | nil => cases e
  | cons v vs =>
    refine ⟨v, vs, rfl, H0, F0, A0, s, T, x, _, w, m _ List.mem_cons_self, h, fun s' h' σ' H' l' w' => ?_⟩
    exact ⟨H0, F0, A0, s', T, r, k, w', Nat.succ.inj e, fun t ht => m t (List.mem_cons_of_mem _ ht), h', fun s2 h2 σ2 H2 l2 w2 => q s2 h2 σ2 H2 ⟨l2.1.trans l'.1, fun j hj => (l2.2 j fun z => hj (List.mem_append_right _ z)).trans (l'.2 j fun z => hj (List.mem_append_left _ z))⟩ w2⟩
theorem g_tup {es : List Expr} {kk n : Nat} {gs : GWs} {L : List Nat} (hc : X.calm = true) (h : PGs X es (tGs X.K L gs)) (hn : (assignEach es X.env).length = n := by rfl) (hst : (assignEach es X.env).findIdx? (·.1) = none := by rfl) : PG X (.Tuple es kk pos) (tG X.K L (gT n gs)) := by
  refine PG.imp (pg_tup hc h hn hst) fun v σ H Q ⟨H0, F0, A0, s, T, x, k, w, m, ⟨xs, hx, hl, h⟩, q⟩ => ?_
  subst hx
  obtain ⟨F, A, w⟩ := w
  have pv : PVOk X.K F A (.d (.tuple xs)) v := w.tm _ m
  obtain ⟨p, vs, e1, h1, h2⟩ := itemsT_ok w pv rfl
  refine ⟨p, vs, e1, h1, h2.len.trans hl, H0, F0, A0, s, (xs.map PV.d).zip vs ++ T, xs, k, ⟨F, A, w.tms fun t ht => ?_⟩, h2.len, fun t ht => List.mem_append_left _ ht, h, fun s' h' σ' H' l' w' => q s' h' σ' H' l' (w'.sub fun t ht => List.mem_append_right _ ht)⟩
  rcases List.mem_append.mp ht with z | z
  · have zip_ok : ∀ {vs : List V} {xs : List PyData}, DqAll X.K F vs xs → ∀ t ∈ (xs.map PV.d).zip vs, PVOk X.K F A t.1 t.2 := by
      intro vs xs hd
      induction vs generalizing xs with
      | nil => cases hd; exact fun t ht => by simp at ht
      | cons v vs ih =>
        cases hd with
        | cons d r =>
          intro t ht
          rcases List.mem_cons.mp ht with e | ht
          · rw [e]; exact d
          · exact ih r t ht
    exact zip_ok h2 t z
  · exact w.tm t z
/-- a, b = e -/
theorem s_unp {tg : Expr} {L : List Nat} (he : PE X e (tE X.K W we)) (hg : PG X tg (tG X.K L g)) (hs : swapsWithSole [tg] e pos.line X.env = pure false := by rfl) (hw : swappedStores [tg] e X.env = pure none := by rfl)
    (h1 : (assignEach [tg] X.env).map (·.2) = [assign tg X.env] := by rfl) : PS X (.Assign [tg] e pos) (tS X.K W (wUnp we g)) := by
  refine PS.imp (ps_asg he hg hs hw h1) fun D σ H ⟨H0, F0, A0, s, T, kx, k, w, xl, h, q1, q2, q3, q4⟩ => ?_
  refine ⟨H0, F0, A0, s, T, kx, _, w, xl, h, fun v s' h' u H' w' => ?_⟩
  obtain ⟨d, s2, h2, w2⟩ := frz_ok w' h'
  exact ⟨H0, F0, A0, s2, _, d, k.nx, w2, List.mem_cons_self, h2, fun s3 h3 σ3 H3 _ w3 => q1 s3 h3 σ3 H3 w3.pop⟩
theorem dqAll_set {K : PySem.W.Frag} {F : Hp} {vs : List V} {ds : List PyData} {v : V} {d : PyData} (j : Nat) (h : DqAll K F vs ds) (q : Dq K F v d) : DqAll K F (vs.set j v) (ds.set j d) := h.set j q
/-- o[i] = e, o an owned list -/
theorem s_setIx {i : Expr} {wv : EW} {p2 : Pos} (he : PE X e (tE X.K W wv)) (ho : PE X o (tE X.K W wo)) (hi : PE X i (tE X.K W wi))
    (ha : ∀ v, assign (.Subscript o i p2) X.env v = (do
      let ov ← holding [v] (eval o X.env)
      let iv ← holding [v, ov] (eval i X.env)
      standAt p2
      holding [v, ov, iv] (setItem ov iv v)
      release [v, ov, iv] []) := by intro _; rfl)
    (hs : swapsWithSole [.Subscript o i p2] e pos.line X.env = pure false := by rfl) (hw : swappedStores [.Subscript o i p2] e X.env = pure none := by rfl)
    (h1 : (assignEach [.Subscript o i p2] X.env).map (·.2) = [assign (.Subscript o i p2) X.env] := by rfl) : PS X (.Assign [.Subscript o i p2] e pos) (tS X.K W (wSetIx wv wo wi)) := by
  refine PS.imp (ps_asg he (pg_sub ho hi set_list ha) hs hw h1) fun D σ H ⟨H0, F0, A0, s, T, kx, k, w, xl, h, q1, q2, q3, q4⟩ => ?_
  refine ⟨H0, F0, A0, s, T, kx, _, w, xl, h, fun v s1 h1 u H1 w1 => ?_⟩
  refine ⟨H0, F0, A0, s1, _, kx, _, w1, xl.push, h1, fun x s2 h2 ux H2 w2 => ?_⟩
  refine ⟨H0, F0, A0, s2, _, kx, _, w2, xl.push.push, h2, fun y s3 h3 uy H3 w3 => ?_⟩
  obtain ⟨d, s4, h4, w4⟩ := frz_ok (T := (y, uy) :: (x, ux) :: T) (w3.sub fun t ht => by
    rcases List.mem_cons.mp ht with e | ht
    · rw [e]; exact List.mem_cons_of_mem _ (List.mem_cons_of_mem _ List.mem_cons_self)
    · rcases List.mem_cons.mp ht with e | ht
      · rw [e]; exact List.mem_cons_self
      · rcases List.mem_cons.mp ht with e | ht
        · rw [e]; exact List.mem_cons_of_mem _ List.mem_cons_self
        · exact List.mem_cons_of_mem _ (List.mem_cons_of_mem _ (List.mem_cons_of_mem _ ht))) h3
  obtain ⟨n, xs, i, j, rfl, rfl, ox, hj, hk⟩ := h4
  obtain ⟨F, A, w4⟩ := w4
  obtain ⟨p, vs, hp, rfl, hv, hd⟩ := own_at w4 (List.mem_cons_of_mem _ (List.mem_cons_of_mem _ List.mem_cons_self)) ox
  have dv : Dq X.K F u d := w4.tm (.d d, u) List.mem_cons_self
  have di : Dq X.K F uy (.int i) := w4.tm (.d (.int i), uy) (List.mem_cons_of_mem _ List.mem_cons_self)
  cases dp_int (dq_dp di)
  refine ⟨p, vs, i, j, rfl, rfl, hv, by rw [hd.len]; exact hj, q1 _ hk σ _ ⟨F, A, (w4.sub (T' := T) fun t h => List.mem_cons_of_mem _ (List.mem_cons_of_mem _ (List.mem_cons_of_mem _ h))).wr hp ox (hd.set j dv)⟩⟩
/-- x += e -/
theorem s_aug {i : Nat} {x : Str} {op : Operator} {r : R2} {R : PyData → PyData → (PyData → Prop) → Prop} {pos' : Pos} (hN : X.N.Nodup) (hi : X.N[i]? = some x) (hx : Loc X.env.scope x) (hr : OpR X (inplaceOp op) r) (hR : ROk X.K r R) (he : PE X e (tE X.K W we))
    (hf : X.fn x = true ∨ X.env.scope.names.lookup x = some .local := by first | exact .inl rfl | exact .inr rfl | assumption) : PS X (.AugAssign (.Name x pos') op e pos) (tS X.K W (wAug R i we)) := by
  have hp : PIp X op r := hr
  refine PS.imp (ps_aug hN hi hx he hp hf) fun D σ H ⟨H0, F0, A0, s, T, kx, k, w, xl, h, q1, q2, q3, q4⟩ => ?_
  obtain ⟨z, hz, h⟩ := h
  obtain ⟨F, A, w⟩ := w
  obtain ⟨u, hu, pu⟩ := w.pv i _ hz
  refine ⟨u, hu, H0, F0, A0, s, (.d z, u) :: T, kx, _, ⟨F, A, w.push pu⟩, xl.push, h, fun y s1 h1 v H1 w1 => ?_⟩
  obtain ⟨b, hb, h1⟩ := h1
  obtain ⟨F1, A1, w1⟩ := w1
  have pz : PVOk X.K F1 A1 (.d z) u := w1.tm _ (List.mem_cons_of_mem _ List.mem_cons_self)
  refine hR u v z b H1 _ _ (dat_ok w1 pz rfl) (dat_ok w1 (w1.tm _ List.mem_cons_self) hb) h1 fun c t hc ht => ?_
  exact q1 _ hc _ H1 ⟨F1, A1, (w1.sub fun t h => List.mem_cons_of_mem _ (List.mem_cons_of_mem _ h)).st (toV_dp ht)⟩
theorem iop_addD : OpR X (inplaceOp .Add) (fun x y H Q => (rI0 fun i j => .int (i + j)) x y H Q ∨ ∃ i j, x = .str i ∧ y = .str j ∧ i.length + j.length ≤ sizeLine ∧ Q (.str (i ++ j)) H) := iop_add.or iop_add_str
theorem s_augAdd {i : Nat} {x : Str} {pos' : Pos} (hN : X.N.Nodup) (hi : X.N[i]? = some x) (hx : Loc X.env.scope x) (he : PE X e (tE X.K W we))
    (hf : X.fn x = true ∨ X.env.scope.names.lookup x = some .local := by first | exact .inl rfl | exact .inr rfl | assumption) : PS X (.AugAssign (.Name x pos') .Add e pos) (tS X.K W (wAug rAddD i we)) := s_aug hN hi hx iop_addD ok_addD he hf
/-! loops -/
theorem s_while (hp : PassesOwn (model X.prog X.w) X.A X.env X.xe) (hc : PT X e (tT X.K W wt)) (hb : PSs X body (tS X.K W wb)) : PS X (.While e body [] pos) (tS X.K W (wWh wt wb)) := by
  refine PS.imp (ps_while hp hc hb) fun D σ H ⟨H0, F0, A0, s, T, kx, k, w, xl, ⟨I, ⟨m0, i0⟩, h⟩, q1, q2, q3, q4⟩ => ?_
  have lt := w.own_lt
  refine ⟨fun m σ' H' => ∃ s', Wd X.K H0 F0 A0 s' σ' T H' ∧ I m s', ⟨m0, s, w, i0⟩, fun m σ1 H1 ⟨s1, w1, i1⟩ => ?_⟩
  refine ⟨H0, F0, A0, s1, T, kx, _, w1, xl, h m s1 i1, fun c s2 h2 H2 w2 => ?_⟩
  cases c with
  | false => exact iteF (q1 _ (h2.2 rfl) σ1 H2 w2)
  | true =>
    have nx : ∀ s3, (∃ m', m' < m ∧ (I m' s3 ∨ I m' (s3.trim s.o.length))) → ∀ σ' H', Wd X.K H0 F0 A0 s3 σ' T H' → ∃ m', m' < m ∧ ∃ s', Wd X.K H0 F0 A0 s' σ' T H' ∧ I m' s' := fun s3 ⟨m', hm, h3⟩ σ' H' w3 => by
      rcases h3 with h3 | h3
      · exact ⟨m', hm, s3, w3, h3⟩
      · exact ⟨m', hm, _, w3.trim lt.1 lt.2, h3⟩
    refine iteT ⟨fun σ' H' => ∃ m', m' < m ∧ ∃ s', Wd X.K H0 F0 A0 s' σ' T H' ∧ I m' s', fun _ _ z => z, H0, F0, A0, s2, T, kx, _, w2, xl, h2.1 rfl, nx, q2, ?_, nx⟩
    exact fun s' h' σ' H' w' => q1 s' h' σ' H' w'
theorem s_for {tg iter : Expr} {iw : IW} {L : List Nat} (hp : PassesOwn (model X.prog X.w) X.A X.env X.xe) (hc : X.calm = true) (hi : PI X tg iter (tI X.K W iw)) (hg : PG X tg (tG X.K L g)) (hb : PSs X body (tS X.K W wb))
    (hs : ∀ v, foldedSetIterable iter X.env v = pure v := by intro _; rfl) : PS X (.For tg iter body [] pos) (tS X.K W (wFor iw g wb)) := by
  refine PS.imp (ps_for hp hc hi hg hb hs) fun D σ H ⟨H0, F0, A0, s, T, kx, k, w, xl, h, q1, q2, q3, q4⟩ => ?_
  refine ⟨H0, F0, A0, s, T, kx, _, w, xl, h, fun xs c s0 h0 J T1 H1 w1 hJ => ?_⟩
  obtain ⟨I, i0, hC, turn, fin⟩ := h0
  have lt := w1.own_lt
  refine ⟨fun i m σ' H' => m = xs.length - i ∧ i ≤ xs.length ∧ ∃ s', Wd X.K H0 F0 A0 s' σ' (T1 ++ T) H' ∧ I i s', ⟨_, rfl, Nat.zero_le _, s0, w1, i0⟩, ?_⟩
  rintro i m σ2 H2 ⟨rfl, hi, s2, ⟨F, A, w2⟩, i2⟩
  obtain ⟨j1, j2, j3⟩ := hJ H0 F0 A0 s2 σ2 (T1 ++ T) H2 F A w2 (fun t ht => List.mem_append_left _ ht) (hC i s2 hi i2) i
  by_cases hlt : i < xs.length
  · refine .inr ⟨j1 hlt, fun σ' H' => ∃ s', Wd X.K H0 F0 A0 s' σ' (T1 ++ T) H' ∧ I (i + 1) s', fun σ' H' ⟨s', w', i'⟩ => ⟨xs.length - (i + 1), by omega, rfl, hlt, s', w', i'⟩, fun x H' hy => ?_⟩
    obtain ⟨d, hd, F', w3⟩ := j3 hlt x H' hy
    refine ⟨H0, F0, A0, s2, _, d, _, ⟨F', A, w3⟩, List.mem_cons_self, turn i d s2 hd i2, fun s4 h4 σ4 H4 _ w4 => ?_⟩
    have nx : ∀ s3, (I (i + 1) s3 ∨ I (i + 1) (s3.trim s0.o.length)) → ∀ σ' H', Wd X.K H0 F0 A0 s3 σ' ((.d d, x) :: (T1 ++ T)) H' → ∃ s', Wd X.K H0 F0 A0 s' σ' (T1 ++ T) H' ∧ I (i + 1) s' := fun s3 h3 σ' H' w3 => by
      rcases h3 with h3 | h3
      · exact ⟨s3, w3.pop, h3⟩
      · exact ⟨_, w3.pop.trim lt.1 lt.2, h3⟩
    refine ⟨H0, F0, A0, s4, _, kx, _, w4, xl.more fun t ht => List.mem_cons_of_mem _ (List.mem_append_right _ ht), h4, nx, fun v s' h' u σ' H' w' => q2 v s' h' u σ' H' (w'.sub fun t ht => ?_), fun s' h' σ' H' w' => q1 s' h' σ' H' (w'.sub fun t ht => List.mem_cons_of_mem _ (List.mem_append_right _ ht)), nx⟩
    rcases List.mem_cons.mp ht with e | ht
    · rw [e]; exact List.mem_cons_self
    · exact List.mem_cons_of_mem _ (List.mem_cons_of_mem _ (List.mem_append_right _ ht))
  · have e : i = xs.length := by omega
    subst e
    exact .inl ⟨j2 (Nat.le_refl _), q1 s2 (fin s2 i2) σ2 H2 ⟨F, A, w2.sub fun t ht => List.mem_append_right _ ht⟩⟩
theorem s_raise {C : Addr} {c : Expr} (hc : X.calm = true) (tk : Takes X W) (hm : PMk X c (fun _ H Q => Q (.ref C) none H)) : PS X (.Raise (some c) none pos) (tS X.K W (wRaise C)) :=
  PS.imp (ps_raise hc tk hm) fun D σ H ⟨H0, F0, A0, s, T, kx, k, ⟨F, A, w⟩, xl, h, q1, q2, q3, q4⟩ => xl ⟨C, none⟩ s h σ H none ⟨F, A, w.push ⟨none, rfl, rfl⟩⟩
end
end PW

namespace PW
open PySem L2
/-! ### what a for or a comprehension walks -/
/-- the items of a list: the script's ints, or data, frozen -/
def lst (v : PV) (s : PSt) (k : List PyData → PSt → Prop) : Prop :=
  match v with
  | .scr ns => k (ns.map PyData.int) s
  | v => frz v s fun x s1 => ∃ xs, x = .list xs ∧ k xs s1
def wL (we : EW) : IW := fun kx s k => we kx s fun v s1 => lst v s1 fun xs s2 => k xs none s2
/-- an owned list, walked as it is -/
def wLO (we : EW) : IW := fun kx s k => we kx s fun v s1 => ∃ n xs, v = .own n ∧ s1.o[n]? = some (.dl xs) ∧ k xs (some (n, xs)) s1
def wTp (we : EW) : IW := fun kx s k => we kx s fun v s1 => ∃ xs, v = .d (.tuple xs) ∧ k xs none s1
def charsD (z : Str) : List PyData := z.cps.toList.map fun c => .str ⟨#[c]⟩
def wSt (we : EW) : IW := fun kx s k => we kx s fun v s1 => ∃ z, v = .d (.str z) ∧ k (charsD z) none s1
def intsD (lo : Int) (n : Nat) : List PyData := (List.range n).map fun i => PyData.int (lo + (i : Nat))
def wRg1 (we : EW) : IW := fun kx s k => we kx s fun v s1 => ∃ j, v = .d (.int j) ∧ -(2 ^ 62) ≤ j ∧ j < 2 ^ 62 ∧ k (intsD 0 j.toNat) none s1
def wRg2 (wa wb : EW) : IW := fun kx s k => wa kx s fun v s1 => wb kx s1 fun u s2 => ∃ i j, v = .d (.int i) ∧ u = .d (.int j) ∧ (-(2 ^ 62) ≤ i ∧ i < 2 ^ 62 ∧ -(2 ^ 62) ≤ j ∧ j < 2 ^ 62) ∧ k (intsD i (j - i).toNat) none s2
def enumD : Nat → List PyData → List PyData
  | _, [] => []
  | i, x :: r => .tuple [.int (i : Nat), x] :: enumD (i + 1) r
def zipD : List PyData → List PyData → List PyData
  | x :: r, y :: t => .tuple [x, y] :: zipD r t
  | _, _ => []
def wEn (we : EW) : IW := fun kx s k => we kx s fun v s1 => lst v s1 fun xs s2 => k (enumD 0 xs) none s2
def wZp (wa wb : EW) : IW := fun kx s k => wa kx s fun v s1 => wb kx s1 fun u s2 => lst v s2 fun xs s3 => lst u s3 fun ys s4 => k (zipD xs ys) none s4
theorem enumD_get : ∀ (xs : List PyData) (n i : Nat), (enumD n xs)[i]? = (xs[i]?).map fun x => .tuple [.int ((n + i : Nat) : Int), x]
  | [], _, _ => by simp [enumD]
  | x :: r, n, 0 => rfl
  | x :: r, n, i + 1 => by
    rw [enumD, List.getElem?_cons_succ, List.getElem?_cons_succ, enumD_get r (n + 1) i]
    rw [show n + 1 + i = n + (i + 1) by omega]
theorem enumD_len : ∀ (xs : List PyData) (n : Nat), (enumD n xs).length = xs.length
  | [], _ => rfl
  | x :: r, n => by rw [enumD, List.length_cons, List.length_cons, enumD_len r]
theorem zipD_get : ∀ (xs ys : List PyData) (i : Nat) x y, xs[i]? = some x → ys[i]? = some y → (zipD xs ys)[i]? = some (.tuple [x, y])
  | [], _, _, _, _, h, _ => by simp at h
  | _ :: _, [], _, _, _, _, h => by simp at h
  | x :: r, y :: t, 0, _, _, h1, h2 => by cases h1; cases h2; rfl
  | x :: r, y :: t, i + 1, _, _, h1, h2 => zipD_get r t i _ _ h1 h2
theorem zipD_len : ∀ (xs ys : List PyData), (zipD xs ys).length = min xs.length ys.length
  | [], _ => by simp [zipD]
  | _ :: _, [] => by simp [zipD]
  | x :: r, y :: t => by rw [zipD, List.length_cons, zipD_len r t, List.length_cons, List.length_cons]; omega
/-- a source: a list that is the script or frozen data -/
def LSrc : PV → List PyData → Prop
  | .scr ns, xs => xs = ns.map PyData.int
  | .d x, xs => x = .list xs
  | _, _ => False
theorem lsrc_ok {K : PySem.W.Frag} {H0 F0 : Hp} {A0 : List Addr} {s : PSt} {σ : St} {T : List (PV × V)} {H F : Hp} {A : List Addr} {v : PV} {u : V} {xs : List PyData} (w : WdF K H0 F0 A0 s σ T H F A) (h : LSrc v xs) (m : (v, u) ∈ T) : ∃ a vs, u = .ref a ∧ SqL K H a vs ∧ DqAll K F vs xs := by
  have p := w.tm _ m
  cases v with
  | scr ns => cases h; exact items_ok w p rfl
  | d x => cases h; exact items_ok w p rfl
  | own n => exact h.elim
  | tp n => exact h.elim
  | gl n => exact h.elim
  | exc n => exact h.elim
  | xd n => exact h.elim
  | dk n => exact h.elim
theorem lst_ok {K : PySem.W.Frag} {H0 F0 : Hp} {A0 : List Addr} {s : PSt} {σ : St} {T : List (PV × V)} {H : Hp} {v : PV} {u : V} {k : List PyData → PSt → Prop} (w : Wd K H0 F0 A0 s σ ((v, u) :: T) H) (h : lst v s k) :
    ∃ v' xs s', k xs s' ∧ LSrc v' xs ∧ Wd K H0 F0 A0 s' σ ((v', u) :: T) H := by
  cases v with
  | scr ns => exact ⟨.scr ns, _, s, h, rfl, w⟩
  | d x =>
    obtain ⟨xs, rfl, h⟩ := h
    exact ⟨.d (.list xs), _, s, h, rfl, w⟩
  | own n =>
    have h : frz (.own n) s fun x s1 => ∃ xs, x = .list xs ∧ k xs s1 := h
    obtain ⟨x, s1, h1, w1⟩ := frz_ok w h
    obtain ⟨xs, rfl, h1⟩ := h1
    exact ⟨.d (.list xs), _, s1, h1, rfl, w1⟩
  | tp n => exact h.elim
  | gl n => exact h.elim
  | exc n => exact h.elim
  | xd n => exact h.elim
  | dk n => exact h.elim
theorem it_list {K : PySem.W.Frag} {v : PV} {a : Addr} {xs : List PyData} (h : LSrc v xs) : ItOk K (Itl K a) [(v, .ref a)] none xs := by
  intro H0 F0 A0 s σ T H F A w ht _ i
  obtain ⟨a', vs, e, h1, h2⟩ := lsrc_ok w h (ht _ List.mem_cons_self)
  cases e
  have hl := h2.len
  refine ⟨fun hi => ⟨vs, vs[i]'(by omega), h1, List.getElem?_eq_getElem (by omega)⟩, fun hi => ⟨vs, h1, by omega⟩, fun _ x H' hy => ?_⟩
  obtain ⟨rfl, hx⟩ := hy
  obtain ⟨d, hd, dq⟩ := h2.get i x (hx vs h1)
  exact ⟨d, hd, F, w.push dq⟩
theorem it_tup {K : PySem.W.Frag} {a : Addr} {xs : List PyData} : ItOk K (Itt K a) [(.d (.tuple xs), .ref a)] none xs := by
  intro H0 F0 A0 s σ T H F A w ht _ i
  have p : PVOk K F A (.d (.tuple xs)) (.ref a) := w.tm _ (ht _ List.mem_cons_self)
  obtain ⟨a', vs, e, h1, h2⟩ := itemsT_ok w p rfl
  cases e
  have hl := h2.len
  refine ⟨fun hi => ⟨vs, vs[i]'(by omega), h1, List.getElem?_eq_getElem (by omega)⟩, fun hi => ⟨vs, h1, by omega⟩, fun _ x H' hy => ?_⟩
  obtain ⟨rfl, hx⟩ := hy
  obtain ⟨d, hd, dq⟩ := h2.get i x (hx vs h1)
  exact ⟨d, hd, F, w.push dq⟩
theorem it_str {K : PySem.W.Frag} {z : Str} : ItOk K (Its z) [] none (charsD z) := by
  intro H0 F0 A0 s σ T H F A w ht _ i
  have hl : (charsD z).length = z.cps.size := by unfold charsD; rw [List.length_map]; simp
  refine ⟨fun hi => by rw [hl] at hi; exact hi, fun hi => by rw [hl] at hi; exact hi, fun _ x H' hy => ?_⟩
  obtain ⟨rfl, c, hc, rfl⟩ := hy
  refine ⟨.str ⟨#[c]⟩, ?_, F, w.push (.str _)⟩
  unfold charsD
  rw [List.getElem?_map, Array.getElem?_toList, hc]
  rfl
theorem it_range {K : PySem.W.Frag} {lo : Int} {n : Nat} : ItOk K (Itr lo n) [] none (intsD lo n) := by
  intro H0 F0 A0 s σ T H F A w ht _ i
  have hl : (intsD lo n).length = n := by unfold intsD; rw [List.length_map, List.length_range]
  refine ⟨fun hi => by rw [hl] at hi; exact hi, fun hi => by rw [hl] at hi; exact hi, fun hi x H' hy => ?_⟩
  rw [hl] at hi
  obtain ⟨rfl, rfl⟩ := hy
  refine ⟨.int (lo + (i : Nat)), ?_, F, w.push (.int _)⟩
  unfold intsD
  rw [List.getElem?_map, List.getElem?_range hi]
  rfl
theorem it_enum {K : PySem.W.Frag} {v : PV} {a : Addr} {xs : List PyData} (h : LSrc v xs) : ItOk K (Ite K a) [(v, .ref a)] none (enumD 0 xs) := by
  intro H0 F0 A0 s σ T H F A w ht _ i
  obtain ⟨a', vs, e, h1, h2⟩ := lsrc_ok w h (ht _ List.mem_cons_self)
  cases e
  have hl := h2.len
  rw [enumD_len]
  refine ⟨fun hi => ⟨vs, vs[i]'(by omega), h1, List.getElem?_eq_getElem (by omega)⟩, fun hi => ⟨vs, h1, by omega⟩, fun _ x H' hy => ?_⟩
  obtain ⟨t, y, rfl, ht, rfl, hx⟩ := hy
  obtain ⟨d, hd, dq⟩ := h2.get i y (hx vs h1)
  refine ⟨.tuple [.int (i : Nat), d], by rw [enumD_get, hd, Nat.zero_add]; rfl, _, (w.newD (o := .tup [.int (i : Nat), y]) ht).push (.tup (SqT.of upd_same) (.cons (.int _) (.cons (dq_same (same_new (w.fz.g.free ht)) dq) .nil)))⟩
theorem it_zip {K : PySem.W.Frag} {v v' : PV} {a b : Addr} {xs ys : List PyData} (h : LSrc v xs) (h' : LSrc v' ys) : ItOk K (Itz K a b) [(v, .ref a), (v', .ref b)] none (zipD xs ys) := by
  intro H0 F0 A0 s σ T H F A w ht _ i
  obtain ⟨a', vs, e, h1, h2⟩ := lsrc_ok w h (ht _ List.mem_cons_self)
  obtain ⟨b', ws, e', h1', h2'⟩ := lsrc_ok w h' (ht _ (List.mem_cons_of_mem _ List.mem_cons_self))
  cases e
  cases e'
  have hl := h2.len
  have hl' := h2'.len
  rw [zipD_len]
  refine ⟨fun hi => ⟨vs, ws, vs[i]'(by omega), ws[i]'(by omega), h1, h1', List.getElem?_eq_getElem (by omega), List.getElem?_eq_getElem (by omega)⟩, fun hi => ⟨vs, ws, h1, h1', by omega⟩, fun _ x H' hy => ?_⟩
  obtain ⟨t, y, z, rfl, ht, rfl, hx, hz⟩ := hy
  obtain ⟨d, hd, dq⟩ := h2.get i y (hx vs h1)
  obtain ⟨d', hd', dq'⟩ := h2'.get i z (hz ws h1')
  have sn := same_new (o := .tup [y, z]) (w.fz.g.free ht)
  refine ⟨.tuple [d, d'], zipD_get _ _ _ _ _ hd hd', _, (w.newD (o := .tup [y, z]) ht).push (.tup (SqT.of upd_same) (.cons (dq_same sn dq) (.cons (dq_same sn dq') .nil)))⟩
section
variable {X : Cx} {W : WX} {e a b tg : Expr} {we wa wb : EW} {pos p : Pos}
theorem i_list (he : PE X e (tE X.K W we)) : PI X tg e (tI X.K W (wL we)) := by
  refine PI.imp (pi_list he) fun σ H R ⟨H0, F0, A0, s, T, kx, k, w, xl, h, q⟩ => un_of w xl h fun v s1 u H1 h1 w1 => ?_
  obtain ⟨v', xs, s2, h2, hs, w2⟩ := lst_ok w1 h1
  obtain ⟨F, A, w3⟩ := id w2
  obtain ⟨a, vs, rfl, h3, h4⟩ := lsrc_ok w3 hs List.mem_cons_self
  exact ⟨a, rfl, ⟨vs, h3⟩, q _ _ _ h2 _ [(v', .ref a)] H1 w2 (it_list hs)⟩
theorem it_own {K : PySem.W.Frag} {n : Nat} {a : Addr} {xs : List PyData} : ItOk K (Itl K a) [(.own n, .ref a)] (some (n, xs)) xs := by
  intro H0 F0 A0 s σ T H F A w ht hs i
  obtain ⟨p, vs, hp, e, h1, h2⟩ := own_at w (ht _ List.mem_cons_self) hs
  cases e
  have hl := h2.len
  refine ⟨fun hi => ⟨vs, vs[i]'(by omega), SqL.of h1, List.getElem?_eq_getElem (by omega)⟩, fun hi => ⟨vs, SqL.of h1, by omega⟩, fun _ x H' hy => ?_⟩
  obtain ⟨rfl, hx⟩ := hy
  obtain ⟨d, hd, dq⟩ := h2.get i x (hx vs (SqL.of h1))
  exact ⟨d, hd, F, w.push dq⟩
theorem i_listO (he : PE X e (tE X.K W we)) : PI X tg e (tI X.K W (wLO we)) := by
  refine PI.imp (pi_list he) fun σ H R ⟨H0, F0, A0, s, T, kx, k, w, xl, h, q⟩ => un_of w xl h fun v s1 u H1 h1 w1 => ?_
  obtain ⟨n, xs, rfl, ho, h1⟩ := h1
  obtain ⟨F, A, w3⟩ := id w1
  obtain ⟨p, vs, hp, rfl, h3, h4⟩ := own_at w3 List.mem_cons_self ho
  exact ⟨p, rfl, ⟨vs, SqL.of h3⟩, q _ _ _ h1 _ [(.own n, .ref p)] H1 w1 it_own⟩
theorem i_tup (he : PE X e (tE X.K W we)) : PI X tg e (tI X.K W (wTp we)) := by
  refine PI.imp (pi_tup he) fun σ H R ⟨H0, F0, A0, s, T, kx, k, w, xl, h, q⟩ => un_of w xl h fun v s1 u H1 h1 w1 => ?_
  obtain ⟨xs, rfl, h1⟩ := h1
  obtain ⟨F, A, w3⟩ := id w1
  have pv : PVOk X.K F A (.d (.tuple xs)) u := w3.tm _ List.mem_cons_self
  obtain ⟨a, vs, rfl, h3, h4⟩ := itemsT_ok w3 pv rfl
  exact ⟨a, rfl, ⟨vs, h3⟩, q _ _ _ h1 _ [(.d (.tuple xs), .ref a)] H1 w1 it_tup⟩
theorem i_str (he : PE X e (tE X.K W we)) : PI X tg e (tI X.K W (wSt we)) := by
  refine PI.imp (pi_str he) fun σ H R ⟨H0, F0, A0, s, T, kx, k, w, xl, h, q⟩ => un_of w xl h fun v s1 u H1 h1 w1 => ?_
  obtain ⟨z, rfl, h1⟩ := h1
  cases str_at w1 List.mem_cons_self
  exact ⟨z, rfl, q _ _ _ h1 _ [] H1 w1.pop it_str⟩
theorem i_rg1 (hm : X.mg "range" = none) (he : PE X e (tE X.K W we)) (hg : Gl X "range" := by rfl) (hs : starEach [e] X.env = [(false, eval e X.env)] := by rfl) : PI X tg (.Call (.Name "range" p) [e] [] pos) (tI X.K W (wRg1 we)) := by
  refine PI.imp (pi_range1 hg hm (pa_cons he pa_nil hs) hs) fun σ H R ⟨H0, F0, A0, s, T, kx, k, w, xl, h, q⟩ => un_of w xl h fun v s1 u H1 h1 w1 => ?_
  obtain ⟨j, rfl, l1, l2, h1⟩ := h1
  obtain ⟨F, A, w2⟩ := id w1
  cases dp_int (dq_dp (w2.tm _ List.mem_cons_self))
  exact ⟨j, rfl, l1, l2, q _ _ _ h1 _ [] H1 w1.pop it_range⟩
theorem i_rg2 (hm : X.mg "range" = none) (ha : PE X a (tE X.K W wa)) (hb : PE X b (tE X.K W wb)) (hg : Gl X "range" := by rfl) (hs : starEach [a, b] X.env = [(false, eval a X.env), (false, eval b X.env)] := by rfl) (hs2 : starEach [b] X.env = [(false, eval b X.env)] := by rfl) :
    PI X tg (.Call (.Name "range" p) [a, b] [] pos) (tI X.K W (wRg2 wa wb)) := by
  refine PI.imp (pi_range2 hg hm (pa_cons ha (pa_cons hb pa_nil hs2) (by rw [hs, hs2])) hs hs2) fun σ H R ⟨H0, F0, A0, s, T, kx, k, w, xl, h, q⟩ => un_of w xl h fun v s1 u H1 h1 w1 => ?_
  refine ⟨H0, F0, A0, s1, _, kx, _, w1, xl.push, h1, fun v2 s2 h2 u2 H2 w2 => ?_⟩
  obtain ⟨i, j, rfl, rfl, l, h2⟩ := h2
  obtain ⟨F, A, w3⟩ := id w2
  cases dp_int (dq_dp (w3.tm _ List.mem_cons_self))
  cases dp_int (dq_dp (w3.tm (.d (.int i), u) (List.mem_cons_of_mem _ List.mem_cons_self)))
  exact ⟨i, j, rfl, l, q _ _ _ h2 _ [] H2 w2.pop.pop it_range⟩
theorem i_enum {elts : List Expr} {kk : Nat} {tpos : Pos} (hm : X.mg "enumerate" = none) (he : PE X e (tE X.K W we)) (hg : Gl X "enumerate" := by rfl) (hs : starEach [e] X.env = [(false, eval e X.env)] := by rfl) : PI X (.Tuple elts kk tpos) (.Call (.Name "enumerate" p) [e] [] pos) (tI X.K W (wEn we)) := by
  refine PI.imp (pi_enum hg hm (pa_cons he pa_nil hs) hs) fun σ H R ⟨H0, F0, A0, s, T, kx, k, w, xl, h, q⟩ => un_of w xl h fun v s1 u H1 h1 w1 => ?_
  obtain ⟨v', xs, s2, h2, hs, w2⟩ := lst_ok w1 h1
  obtain ⟨F, A, w3⟩ := id w2
  obtain ⟨a, vs, rfl, h3, h4⟩ := lsrc_ok w3 hs List.mem_cons_self
  exact ⟨a, vs, rfl, h3, q _ _ _ h2 _ [(v', .ref a)] H1 w2 (it_enum hs)⟩
theorem i_zip {elts : List Expr} {kk : Nat} {tpos : Pos} (hm : X.mg "zip" = none) (ha : PE X a (tE X.K W wa)) (hb : PE X b (tE X.K W wb)) (hg : Gl X "zip" := by rfl) (hs : starEach [a, b] X.env = (false, eval a X.env) :: starEach [b] X.env := by rfl) (hs2 : starEach [b] X.env = (false, eval b X.env) :: starEach [] X.env := by rfl) (hpl : (backTo pos (starEach [b] X.env)).any (·.1) = false := by rfl) :
    PI X (.Tuple elts kk tpos) (.Call (.Name "zip" p) [a, b] [] pos) (tI X.K W (wZp wa wb)) := by
  refine PI.imp (pi_zip hg hm (pa_cons ha (pa_cons hb pa_nil hs2) hs) hs hpl) fun σ H R ⟨H0, F0, A0, s, T, kx, k, w, xl, h, q⟩ => un_of w xl h fun v s1 u H1 h1 w1 => ?_
  refine ⟨H0, F0, A0, s1, _, kx, _, w1, xl.push, h1, fun v2 s2 h2 u2 H2 w2 => ?_⟩
  obtain ⟨v1, xs, s3, h3, hs3, w3⟩ := lst_ok (T := (v2, u2) :: T) (w2.sub fun t ht => by
    rcases List.mem_cons.mp ht with e | ht
    · rw [e]; exact List.mem_cons_of_mem _ List.mem_cons_self
    · rcases List.mem_cons.mp ht with e | ht
      · rw [e]; exact List.mem_cons_self
      · exact List.mem_cons_of_mem _ (List.mem_cons_of_mem _ ht)) h2
  obtain ⟨v3, ys, s4, h4, hs4, w4⟩ := lst_ok (T := (v1, u) :: T) (w3.sub fun t ht => by
    rcases List.mem_cons.mp ht with e | ht
    · rw [e]; exact List.mem_cons_of_mem _ List.mem_cons_self
    · rcases List.mem_cons.mp ht with e | ht
      · rw [e]; exact List.mem_cons_self
      · exact List.mem_cons_of_mem _ (List.mem_cons_of_mem _ ht)) h3
  obtain ⟨F, A, w5⟩ := id w4
  obtain ⟨a, vs, rfl, i3, i4⟩ := lsrc_ok w5 hs3 (List.mem_cons_of_mem _ List.mem_cons_self)
  obtain ⟨b, ws, rfl, j3, j4⟩ := lsrc_ok w5 hs4 List.mem_cons_self
  refine ⟨a, b, vs, ws, rfl, i3, j3, q _ _ _ h4 _ [(v1, .ref a), (v3, .ref b)] H2 (w4.sub fun t ht => ?_) (it_zip hs3 hs4)⟩
  rcases List.mem_cons.mp ht with e | ht
  · rw [e]; exact List.mem_cons_of_mem _ List.mem_cons_self
  · rcases List.mem_cons.mp ht with e | ht
    · rw [e]; exact List.mem_cons_self
    · exact List.mem_cons_of_mem _ (List.mem_cons_of_mem _ ht)
end
end PW
namespace PW
open PySem L2
/-! ### comprehensions -/
def wYes : TW := fun _ s k => k true s
def wLc (wi : IW) (g : GW) (tt : TW) (we : EW) (vs : List Nat) : EW := fun kx s k => wi kx s fun xs c s1 => ∃ I : Nat → List PyData → PSt → Prop, I 0 [] (s1.wipe vs) ∧ (∀ j acc s2, j ≤ xs.length → I j acc s2 → Src c s2) ∧
  (∀ j x acc s2, xs[j]? = some x → s2.o.length = s1.o.length → I j acc s2 → g x ⟨s2.r, s2.o ++ [.dl acc]⟩ fun s3 => tt (fun _ _ => False) s3 fun b s4 =>
    (b = true → we (fun _ _ => False) s4 fun y s5 => frz y s5 fun d s6 => s6.o[s1.o.length]? = some (.dl acc) ∧ acc.length < sizeLine ∧ I (j + 1) (acc ++ [d]) ((s6.trim s1.o.length).wipe vs)) ∧
    (b = false → s4.o[s1.o.length]? = some (.dl acc) ∧ I (j + 1) acc ((s4.trim s1.o.length).wipe vs))) ∧
  ∀ acc s2, s2.o.length = s1.o.length → I xs.length acc s2 → k (.own s1.o.length) ⟨s2.r, s2.o ++ [.dl acc]⟩
section
variable {K : PySem.W.Frag} {H0 F0 : Hp} {A0 : List Addr} {s : PSt} {σ : St} {T : List (PV × V)} {H F : Hp} {A : List Addr}
theorem wipe_r (s : PSt) : ∀ vs : List Nat, (s.wipe vs).o = s.o ∧ (s.wipe vs).r.length = s.r.length ∧ ∀ (i : Nat) v, (s.wipe vs).r[i]? = some (some v) → s.r[i]? = some (some v) ∧ i ∉ vs
  | [] => ⟨rfl, rfl, fun i v h => ⟨h, List.not_mem_nil⟩⟩
  | w :: vs => by
    obtain ⟨h1, h2, h3⟩ := wipe_r s vs
    refine ⟨rfl, ?_, fun i v h => ?_⟩
    · show ((s.wipe vs).r.set w none).length = _
      rw [List.length_set]; exact h2
    · have h : ((s.wipe vs).r.set w none)[i]? = some (some v) := h
      by_cases e : i = w
      · subst e
        by_cases hl : i < (s.wipe vs).r.length
        · rw [List.getElem?_set_self hl] at h; cases h
        · rw [List.getElem?_eq_none (by rw [List.length_set]; omega)] at h; cases h
      · rw [List.getElem?_set_ne (Ne.symm e)] at h
        obtain ⟨a, b⟩ := h3 i v h
        exact ⟨a, fun z => (List.mem_cons.mp z).elim e b⟩
theorem WdF.relO {s' : PSt} {σ' : St} (w : WdF K H0 F0 A0 s σ T H F A) (hn : s'.o.length = s.o.length) (ho : ∀ (n : Nat) c, s'.o[n]? = some c → c = .no ∨ s.o[n]? = some c) (hl : s'.r.length = σ'.length) (h : ∀ (i : Nat) v, s'.r[i]? = some (some v) → s.r[i]? = some (some v) ∧ ∀ u, σ[i]? = some (some u) → σ'[i]? = some (some u)) : WdF K H0 F0 A0 s' σ' T H F A :=
  { fz := w.fz, pre := w.pre, len := by rw [hn]; exact w.len, nd := w.nd, ad := w.ad, sl := hl, tm := w.tm,
    oc := fun n p c h1 h2 => by
      rcases ho n c h2 with e | e
      · rw [e]; trivial
      · exact w.oc n p c h1 e
    pv := fun i v e => by
      obtain ⟨a, b⟩ := h i v e
      obtain ⟨u, c, d⟩ := w.pv i v a
      exact ⟨u, b u c, d⟩ }
theorem WdF.rel {s' : PSt} {σ' : St} (w : WdF K H0 F0 A0 s σ T H F A) (ho : s'.o = s.o) (hl : s'.r.length = σ'.length) (h : ∀ (i : Nat) v, s'.r[i]? = some (some v) → s.r[i]? = some (some v) ∧ ∀ u, σ[i]? = some (some u) → σ'[i]? = some (some u)) : WdF K H0 F0 A0 s' σ' T H F A :=
  w.relO (by rw [ho]) (fun n c e => .inr (by rw [← ho]; exact e)) hl h
theorem wipe_len (σ : St) (vs : List Nat) : (wipe σ vs).length = σ.length := wipe_length σ vs
theorem wipe_eq {σ σ' : St} {vs L : List Nat} (h : OutL L (wipe σ vs) σ') (hl : ∀ i ∈ L, i ∈ vs) : wipe σ' vs = wipe σ vs := by
  apply List.ext_getElem?
  intro i
  by_cases hi : i ∈ vs
  · have z : ∀ σ : St, i < σ.length → (wipe σ vs)[i]? = some none := by
      intro σ hs
      have : ∀ vs : List Nat, i ∈ vs → (wipe σ vs)[i]? = some none := by
        intro vs
        induction vs with
        | nil => intro h; cases h
        | cons v vs ih =>
          intro h
          show ((wipe σ vs).set v none)[i]? = some none
          by_cases e : i = v
          · subst e
            rw [List.getElem?_set_self (by rw [wipe_len]; exact hs)]
          · rw [List.getElem?_set_ne (Ne.symm e)]
            exact ih ((List.mem_cons.mp h).resolve_left e)
      exact this vs hi
    by_cases hs : i < σ.length
    · rw [z σ' (by rw [h.1, wipe_len]; exact hs), z σ hs]
    · rw [List.getElem?_eq_none (by rw [wipe_len, h.1, wipe_len]; omega), List.getElem?_eq_none (by rw [wipe_len]; omega)]
  · rw [wipe_out hi, h.2 i fun z => hi (hl i z)]
end
theorem src_app {c : SrcO} {s : PSt} {x : List OC} (h : Src c s) : Src c ⟨s.r, s.o ++ x⟩ := by
  cases c with
  | none => trivial
  | some p =>
    obtain ⟨n, xs⟩ := p
    have h : s.o[n]? = some (.dl xs) := h
    show (s.o ++ x)[n]? = some (.dl xs)
    rw [List.getElem?_append_left (List.getElem?_eq_some_iff.mp h).1]
    exact h
section
variable {X : Cx} {W : WX} {elt tg iter c : Expr} {ifs : List Expr} {scope : Scope} {own : List (Str × Nat)} {pos : Pos} {iw : IW} {g : GW} {tt : TW} {we : EW} {L : List Nat}
abbrev W0 : WX := fun _ _ _ _ => False
theorem ts_nil : PTs X [] (tT X.K W wYes) := PTs.imp pts_nil fun σ H Q ⟨H0, F0, A0, s, T, kx, k, w, xl, h, q⟩ => q _ _ h H w
theorem ts_one {t : TW} (h : PT X c (tT X.K W t)) : PTs X [c] (tT X.K W t) := pts_one h
theorem XL.none {K : PySem.W.Frag} {H0 F0 : Hp} {A0 : List Addr} {T : List (PV × V)} {W : WX} : XL K H0 F0 A0 T W (fun _ _ => False) := fun _ _ h => h.elim
theorem lc_of (hL : ∀ i ∈ L, i ∈ own.map (·.2)) {σ : St} {H : Hp} {Q : VK} (h : tE X.K W (wLc iw g tt we (own.map (·.2))) σ H Q) : tLc (tI X.K W iw) (tG X.K L g) (tT X.K W0 tt) (tE X.K W0 we) (own.map (·.2)) σ H Q := by
  obtain ⟨H0, F0, A0, s, T, kx, k, w, xl, h, q⟩ := h
  generalize own.map (·.2) = vs at *
  refine ⟨H0, F0, A0, s, T, kx, _, w, xl, h, fun xs c s1 h1 J T1 H1 w1 hJ D hD => ?_⟩
  obtain ⟨I, i0, hC, turn, fin⟩ := h1
  have lt := w1.own_lt
  have n : Nat := s1.o.length
  -- the word between the turns
  refine ⟨fun i m H' => m = xs.length - i ∧ i ≤ xs.length ∧ ∃ s2 acc, s2.o.length = s1.o.length ∧ I i acc s2 ∧ Wd X.K H0 F0 A0 ⟨s2.r, s2.o ++ [.dl acc]⟩ (wipe σ vs) ((.own s1.o.length, .ref D) :: (T1 ++ T)) H', ⟨_, rfl, Nat.zero_le _, s1.wipe vs, [], by rw [(wipe_r s1 vs).1], i0, ?_⟩, ?_⟩
  · obtain ⟨F, A, w1⟩ := w1
    have w2 := w1.newL hD .nil
    have w3 := w2.push (top_at w1 D F)
    obtain ⟨e1, e2, e3⟩ := wipe_r s1 vs
    refine ⟨F, _, w3.rel (s' := ⟨(s1.wipe vs).r, (s1.wipe vs).o ++ [.dl []]⟩) (by rw [e1]) ?_ fun i v e => ?_⟩
    · show (s1.wipe vs).r.length = _
      rw [e2, wipe_len]; exact w1.sl
    · obtain ⟨a, b⟩ := e3 i v e
      exact ⟨a, fun u hu => by rw [wipe_out b]; exact hu⟩
  · rintro i m H2 ⟨rfl, hi, s2, acc, hn, i2, ⟨F, A, w2⟩⟩
    obtain ⟨j1, j2, j3⟩ := hJ H0 F0 A0 _ _ _ H2 F A w2 (fun t ht => List.mem_cons_of_mem _ (List.mem_append_left _ ht)) (src_app (hC i acc s2 hi i2)) i
    by_cases hlt : i < xs.length
    · refine .inr ⟨j1 hlt, fun H' => ∃ s2 acc, s2.o.length = s1.o.length ∧ I (i + 1) acc s2 ∧ Wd X.K H0 F0 A0 ⟨s2.r, s2.o ++ [.dl acc]⟩ (wipe σ vs) ((.own s1.o.length, .ref D) :: (T1 ++ T)) H', fun H' ⟨s', a', e', i', w'⟩ => ⟨xs.length - (i + 1), by omega, rfl, hlt, s', a', e', i', w'⟩, fun x H' hy => ?_⟩
      obtain ⟨d, hd, F', w3⟩ := j3 hlt x H' hy
      have lT : ∀ t ∈ (PV.own s1.o.length, V.ref D) :: (T1 ++ T), t.1.lt (s1.o.length + 1) = true := fun t ht => by
        rcases List.mem_cons.mp ht with z | z
        · subst z; exact decide_eq_true (Nat.lt_succ_self _)
        · exact lt_mono (Nat.le_succ _) (lt.2 t z)
      -- a state behind the turn, cut to the length
      have back : ∀ (s6 : PSt) (σ2 : St) (H4 : Hp) (a' : List PyData), wipe σ2 vs = wipe σ vs → s6.o[s1.o.length]? = some (.dl a') → Wd X.K H0 F0 A0 s6 σ2 ((.own s1.o.length, .ref D) :: (T1 ++ T)) H4 →
          Wd X.K H0 F0 A0 ⟨((s6.trim s1.o.length).wipe vs).r, ((s6.trim s1.o.length).wipe vs).o ++ [.dl a']⟩ (wipe σ vs) ((.own s1.o.length, .ref D) :: (T1 ++ T)) H4 := fun s6 σ2 H4 a' hw ho w6 => by
        have w7 := w6.trim (m := s1.o.length + 1) (by have := lt.1; omega) lT
        obtain ⟨F7, A7, w7⟩ := w7
        obtain ⟨e1, e2, e3⟩ := wipe_r (s6.trim s1.o.length) vs
        refine ⟨F7, A7, w7.relO ?_ (fun n c hc => ?_) ?_ fun j v e => ?_⟩
        · show (((s6.trim s1.o.length).wipe vs).o ++ [OC.dl a']).length = (cutL (s1.o.length + 1) s6.o).length
          rw [e1, List.length_append, cutL_len]
          show (cutL s1.o.length s6.o).length + 1 = _
          rw [cutL_len]
          have := (List.getElem?_eq_some_iff.mp ho).1
          omega
        · have hc : (((s6.trim s1.o.length).wipe vs).o ++ [OC.dl a'])[n]? = some c := hc
          show c = .no ∨ (cutL (s1.o.length + 1) s6.o)[n]? = some c
          have hlen : (cutL s1.o.length s6.o).length = s1.o.length := by
            rw [cutL_len]
            have := (List.getElem?_eq_some_iff.mp ho).1
            omega
          rw [e1] at hc
          have hc : (cutL s1.o.length s6.o ++ [OC.dl a'])[n]? = some c := hc
          rcases Nat.lt_or_ge n s1.o.length with hn | hn
          · rw [List.getElem?_append_left (by rw [hlen]; exact hn)] at hc
            obtain ⟨_, c0, h3, rfl⟩ := cutL_at hc
            rcases ocut_is (m := s1.o.length) c0 with z | z
            · exact .inl z
            · refine .inr ?_
              unfold cutL
              rw [List.getElem?_map, List.getElem?_take, if_pos (Nat.lt_succ_of_lt hn), h3, z]
              show some (OC.cut (s1.o.length + 1) c0) = some c0
              rcases ocut_up (Nat.le_succ s1.o.length) z with y | y
              · exact congrArg some y
              · subst y; rfl
          · rw [List.getElem?_append_right (by rw [hlen]; exact hn), hlen] at hc
            have e : n = s1.o.length := by
              cases hk : n - s1.o.length with
              | zero => omega
              | succ k => rw [hk] at hc; cases hc
            subst e
            rw [Nat.sub_self] at hc
            cases hc
            refine .inr ?_
            unfold cutL
            rw [List.getElem?_map, List.getElem?_take, if_pos (Nat.lt_succ_self _), ho]
            rfl
        · show ((s6.trim s1.o.length).wipe vs).r.length = _
          rw [e2, ← hw, wipe_len, ← w7.sl]
          show (s6.r.map _).length = (s6.r.map _).length
          rw [List.length_map, List.length_map]
        · obtain ⟨a, b⟩ := e3 j v e
          refine ⟨?_, fun u hu => by rw [← hw, wipe_out b]; exact hu⟩
          have a : (s6.r.map (cutP s1.o.length))[j]? = some (some v) := a
          show (s6.r.map (cutP (s1.o.length + 1)))[j]? = some (some v)
          rw [List.getElem?_map] at a ⊢
          cases hr : s6.r[j]? with
          | none => rw [hr] at a; cases a
          | some o =>
            rw [hr] at a
            obtain ⟨rfl, hl⟩ := cutP_is (Option.some.inj a)
            exact congrArg some (cutP_of (lt_mono (Nat.le_succ _) hl))
      refine ⟨H0, F0, A0, _, _, d, _, ⟨F', A, w3⟩, List.mem_cons_self, turn i d acc s2 hd hn i2, fun s3 h3 σ2 H3 l3 w4 => ?_⟩
      have hw := wipe_eq l3 hL
      refine ⟨hw, H0, F0, A0, s3, _, _, _, w4, XL.none, h3, fun b s4 h4 H4 w5 => ?_⟩
      cases b with
      | false =>
        obtain ⟨ho, hI⟩ := h4.2 rfl
        refine iteF ⟨_, acc, ?_, hI, back s4 σ2 H4 acc hw ho w5.pop⟩
        rw [(wipe_r _ vs).1]
        show (cutL s1.o.length s4.o).length = _
        rw [cutL_len]
        have := (List.getElem?_eq_some_iff.mp ho).1
        omega
      | true =>
        refine iteT ⟨H0, F0, A0, s4, _, _, _, w5, XL.none, h4.1 rfl, fun y s5 h5 u H5 w6 => ?_⟩
        obtain ⟨dd, s6, h6, w7⟩ := frz_ok w6 h5
        obtain ⟨ho, hz, hI⟩ := h6
        obtain ⟨F8, A8, w8⟩ := w7
        obtain ⟨p, vs', hp, ep, hv, hdq⟩ := own_at w8 (List.mem_cons_of_mem _ (List.mem_cons_of_mem _ List.mem_cons_self)) ho
        cases ep
        have du : Dq X.K F8 u dd := w8.tm (.d dd, u) List.mem_cons_self
        refine ⟨vs', hv, by rw [hdq.len]; exact hz, _, acc ++ [dd], ?_, hI, ?_⟩
        · rw [(wipe_r _ vs).1]
          show (cutL s1.o.length s6.o).length = _
          rw [cutL_len]
          have := (List.getElem?_eq_some_iff.mp ho).1
          omega
        · have w9 := (w8.sub (T' := (.own s1.o.length, .ref D) :: (T1 ++ T)) fun t h => List.mem_cons_of_mem _ (List.mem_cons_of_mem _ h)).wr hp ho (hdq.app (.cons du .nil))
          have b := back ⟨s6.r, s6.o.set s1.o.length (.dl (acc ++ [dd]))⟩ σ2 _ (acc ++ [dd]) hw (by
            show (s6.o.set s1.o.length _)[s1.o.length]? = _
            rw [List.getElem?_set_self (List.getElem?_eq_some_iff.mp ho).1]) ⟨F8, A8, w9⟩
          have e : (((⟨s6.r, s6.o.set s1.o.length (.dl (acc ++ [dd]))⟩ : PSt).trim s1.o.length).wipe vs) = ((s6.trim s1.o.length).wipe vs) := by
            have : (⟨s6.r, s6.o.set s1.o.length (.dl (acc ++ [dd]))⟩ : PSt).trim s1.o.length = s6.trim s1.o.length := by
              unfold PSt.trim cutL
              show (⟨s6.r.map _, ((s6.o.set s1.o.length _).take s1.o.length).map _⟩ : PSt) = ⟨s6.r.map _, (s6.o.take s1.o.length).map _⟩
              rw [List.take_set_of_le (Nat.le_refl _)]
            rw [this]
          rw [e] at b
          exact b
    · have e : i = xs.length := by omega
      subst e
      refine .inl ⟨j2 (Nat.le_refl _), q _ _ (fin acc s2 hn i2) (.ref D) H2 ⟨F, A, (w2.rel rfl ?_ fun i v e => ⟨e, fun u hu => (wipe_some hu).1⟩).sub fun t ht => ?_⟩⟩
      · have := w2.sl
        rw [wipe_len] at this
        exact this
      · rcases List.mem_cons.mp ht with e | ht
        · rw [e]; exact List.mem_cons_self
        · exact List.mem_cons_of_mem _ (List.mem_append_right _ ht)
theorem e_lc (hc : X.calm = true) (hN : X.N.Nodup) (hi : PI X tg iter (tI X.K W iw)) (ok : BlkOk X.N X.env.scope scope own) (hL : ∀ i ∈ L, i ∈ own.map (·.2))
    (hg : ∀ (s : Shared) (H : Hp) (C : Addr) (cl : List (Str × Addr)) (fp : List Addr), PG (X.blk s H scope (compEnvC scope cl C X.env) fp) tg (tG X.K L g)) (ht : ∀ (s : Shared) (H : Hp) (C : Addr) (cl : List (Str × Addr)) (fp : List Addr), PTs (X.blk s H scope (compEnvC scope cl C X.env) fp) ifs (tT X.K W0 tt))
    (he : ∀ (s : Shared) (H : Hp) (C : Addr) (cl : List (Str × Addr)) (fp : List Addr), PE (X.blk s H scope (compEnvC scope cl C X.env) fp) elt (tE X.K W0 we)) (hs : ∀ x, foldedSetIterable iter X.env x = pure x := by intro _; rfl) :
    PE X (.ListComp elt [⟨tg, iter, ifs, 0⟩] scope pos) (tE X.K W (wLc iw g tt we (own.map (·.2)))) :=
  PE.imp (pe_lc hc hN hi ok hg ht he hs) fun σ H Q h => lc_of hL h
/-- name = [..] on one line -/
theorem s_setLc {i : Nat} {y : Str} {py spos : Pos} (hc : X.calm = true) (hN : X.N.Nodup) (hy : X.N[i]? = some y) (hyl : X.env.scope.names.lookup y = some .local)
    (hsw : swapsWith (.ListComp elt [⟨tg, iter, ifs, 0⟩] scope pos) (some (.Name y py)) spos.line X.env = pure true) (hi : PI X tg iter (tI X.K W iw)) (ok : BlkOk X.N X.env.scope scope own) (hL : ∀ i ∈ L, i ∈ own.map (·.2))
    (hg : ∀ (s : Shared) (H : Hp) (C : Addr) (cl : List (Str × Addr)) (fp : List Addr), PG (X.blk s H scope (compEnvC scope cl C X.env) fp) tg (tG X.K L g)) (ht : ∀ (s : Shared) (H : Hp) (C : Addr) (cl : List (Str × Addr)) (fp : List Addr), PTs (X.blk s H scope (compEnvC scope cl C X.env) fp) ifs (tT X.K W0 tt))
    (he : ∀ (s : Shared) (H : Hp) (C : Addr) (cl : List (Str × Addr)) (fp : List Addr), PE (X.blk s H scope (compEnvC scope cl C X.env) fp) elt (tE X.K W0 we)) (hs : ∀ x, foldedSetIterable iter X.env x = pure x := by intro _; rfl) :
    PS X (.Assign [.Name y py] (.ListComp elt [⟨tg, iter, ifs, 0⟩] scope pos) spos) (tS X.K W (wAsg (wLc iw g tt we (own.map (·.2))) i)) := by
  refine PS.imp (ps_setLc hc hN hy hyl hsw hi ok hg ht he hs) fun D σ H ⟨H0, F0, A0, s, T, kx, k, w, xl, h, q1, q2, q3, q4⟩ => ?_
  refine lc_of hL ⟨H0, F0, A0, s, T, kx, _, w, xl, h, fun v s' h' u H' w' => ?_⟩
  obtain ⟨F, A, w'⟩ := w'
  exact q1 _ h' _ H' ⟨F, A, (w'.sub fun t h => List.mem_cons_of_mem _ h).st (w'.tm _ List.mem_cons_self)⟩
end
end PW
namespace PW
open PySem L2 PySem.Spec PyProof.Rows
/-! ### a def by its body -/
def retK (n : Nat) (ret : RV → List OC → Prop) : PV → PSt → Prop := fun v s => match v with
  | .d x => ret (.d x) (cutL n s.o)
  | .own m => n ≤ m ∧ ∃ xs, s.o[m]? = some (.dl xs) ∧ ret (.new xs) (cutL n s.o)
  | _ => False
def bodyE (n : Nat) (ret : RV → List OC → Prop) : PEnds := { nx := fun s => ret (.d .none) (cutL n s.o), rt := retK n ret }
def pst0 (args : List PV) (o : List OC) (N : Nat) : PSt := ⟨args.map some ++ List.replicate (N - args.length) none, o⟩
section
variable {K : PySem.W.Frag} {H0 F0 : Hp} {A0 : List Addr} {s : PSt} {σ : L2.St} {T : List (PV × V)} {H F : Hp} {A : List Addr}
/-- only the lent lists are looked at -/
theorem Wd.lent {x : List (PV × V)} (w : Wd K H0 F0 A0 s σ T H) (hx : ∀ t ∈ x, t ∈ T ∧ t.1.lt A0.length = true) : Wd K H0 F0 A0 ⟨[], cutL A0.length s.o⟩ [] x H := by
  obtain ⟨F, A, w⟩ := w.sub (T' := x) fun t ht => (hx t ht).1
  have w2 := w.trim (m := A0.length) (Nat.le_refl _) fun t ht => (hx t ht).2
  exact ⟨F, _, w2.rel rfl rfl fun i v e => by simp at e⟩
theorem Wd.ret {n : Nat} {ret : RV → List OC → Prop} {v : PV} {u : V} {R : Prop} (w : Wd K H0 F0 A0 s σ ((v, u) :: T) H) (hn : n = A0.length) (h : retK n ret v s) (q : ∀ r o', ret r o' → o'.length = n → ∀ v H', RetOk K H0 F0 A0 r v o' H' → (v = u → H' = H → R)) : R := by
  subst hn
  have hl : (cutL A0.length s.o).length = A0.length := by
    rw [cutL_len]
    have := w.own_lt.1
    omega
  cases v with
  | d x => exact q _ _ h hl u H (w.lent fun t ht => by
      have e : t = (.d x, u) := by simpa using ht
      rw [e]; exact ⟨List.mem_cons_self, rfl⟩) rfl rfl
  | scr ns => exact h.elim
  | tp ns => exact h.elim
  | gl ns => exact h.elim
  | exc ns => exact h.elim
  | xd ns => exact h.elim
  | dk ns => exact h.elim
  | own m =>
    obtain ⟨hm, xs, ho, h⟩ := h
    refine q _ _ h hl u H ?_ rfl rfl
    obtain ⟨F, A, w⟩ := w
    obtain ⟨p, vs, hp, rfl, hv, hd⟩ := own_at w List.mem_cons_self ho
    have ad := w.ad p (List.mem_of_getElem? hp)
    have oc := w.oc m p _ hp ho
    have w2 := (w.sub (T' := []) (fun _ z => nomatch z)).trim (m := A0.length) (Nat.le_refl _) (fun _ z => nomatch z)
    have w3 := w2.rel (s' := ⟨[], cutL A0.length s.o⟩) (σ' := []) rfl rfl fun i v e => by simp at e
    have nin : p ∉ A.take A0.length := fun hA => by
      obtain ⟨j, hj⟩ := List.getElem?_of_mem hA
      rw [List.getElem?_take] at hj
      split at hj
      · rename_i h1
        exact nodup_ne w.nd hj hp (by omega) rfl
      · cases hj
    refine ⟨F, _, (w3.addL (c := .dl xs) nin ad.1 ad.2 oc).push ⟨p, ?_, rfl⟩⟩
    show (A.take A0.length ++ [p])[(cutL A0.length s.o).length]? = some p
    rw [← w3.len, List.getElem?_append_right (Nat.le_refl _), Nat.sub_self]
    rfl
end
section
variable {P : Program} {w : World} {K : PySem.W.Frag} {mg : Str → Option Value} {base : Heap}
theorem fn_len {ps : List Str} {S : FS} (len : ∀ args o r e, S args o r e → args.length = ps.length) (vs : List V) (H : Hp) (Q : VK) (E : XK) (h : spOf K S vs H Q E) : vs.length = ps.length := by
  obtain ⟨H0, F0, A0, args, o, ret, exc, ⟨F, A, w⟩, _, h, _⟩ := h
  have := w.sl
  rw [List.length_map, List.length_map] at this
  rw [← this]
  exact len _ _ _ _ h
/-- the body's reading from the promise -/
theorem fn_core {N : List Str} {S : FS} {wb : SW} (pure : ∀ args o ret exc, S args o ret exc → wb (fun x s => exc x (cutL o.length s.o)) (pst0 args o N.length) (bodyE o.length ret)) (vs : List V) (H : Hp) (Q : VK) (E : XK) (h : spOf K S vs H Q E) :
    tS K (fun cls d _ H => E cls d H) wb { nx := fun _ H' => Q .non H', rt := Q } (L2.start N vs) H := by
  obtain ⟨H0, F0, A0, args, o, ret, exc, wd, ho, h, q1, q2⟩ := h
  refine ⟨H0, F0, A0, pst0 args o N.length, [], _, _, ?_, fun y s' hy σ' H' d w' => ?_, pure args o ret exc h, fun s' hs σ' H' w' => ?_, fun v s' hv u σ' H' w' => ?_, fun _ z => z.elim, fun _ z => z.elim⟩
  · obtain ⟨F, A, wd⟩ := wd
    have e := wd.sl
    rw [List.length_map, List.length_map] at e
    refine ⟨F, A, wd.rel rfl ?_ fun i v hv => ?_⟩
    · show (args.map some ++ List.replicate (N.length - args.length) none).length = (vs.map some ++ List.replicate (N.length - vs.length) none).length
      rw [e]
      simp [e]
    · have hv : (args.map some ++ List.replicate (N.length - args.length) none)[i]? = some (some v) := hv
      show (args.map some)[i]? = some (some v) ∧ ∀ u, (vs.map some)[i]? = some (some u) → (vs.map some ++ List.replicate (N.length - vs.length) none)[i]? = some (some u)
      by_cases hi : i < args.length
      · rw [List.getElem?_append_left (by rw [List.length_map]; exact hi)] at hv
        refine ⟨hv, fun u hu => ?_⟩
        rw [List.getElem?_append_left (by rw [List.length_map, ← e]; exact hi)]
        exact hu
      · rw [List.getElem?_append_right (by rw [List.length_map]; omega)] at hv
        have := List.mem_of_getElem? hv
        have := List.eq_of_mem_replicate this
        cases this
  · have hl : (cutL o.length s'.o).length = o.length := by
      rw [cutL_len, ← ho]
      have := w'.own_lt.1
      omega
    refine q2 y _ hy hl d H' ?_
    have := w'.lent (x := [(.xd y.fs, dV d)]) (fun t ht => by
      have e : t = (.xd y.fs, dV d) := by simpa using ht
      rw [e]; exact ⟨List.mem_cons_self, rfl⟩)
    rw [ho] at this
    exact this
  · have hl : (cutL o.length s'.o).length = o.length := by
      rw [cutL_len, ← ho]
      have := w'.own_lt.1
      omega
    refine q1 _ _ hs hl .non H' ?_
    obtain ⟨F, A, w'⟩ := w'
    have w2 : Wd K H0 F0 A0 s' σ' [(.d .none, .non)] H' := ⟨F, A, w'.push (v := .d .none) (u := .non) .non⟩
    have := w2.lent (x := [(.d .none, .non)]) (fun t ht => by
      have e : t = (.d .none, .non) := by simpa using ht
      rw [e]; exact ⟨List.mem_cons_self, rfl⟩)
    rw [ho] at this
    exact this
  · refine w'.ret ho.symm hv fun r o' hr hl v H'' hret e1 e2 => ?_
    subst e1
    subst e2
    exact q1 r o' hr hl v H'' hret
theorem fn_ok {x qual : Str} {st : Stmt} {f : Addr} {fd : FuncData} {N ps : List Str} {k : Nat} {S : FS} {wb : SW} (F : Fun K x qual st f fd) (Sc : FnScope N ps (defScope st)) (len : ∀ args o r e, S args o r e → args.length = ps.length)
    (body : ∀ (cdv : Value) (A : Around) (outer : List Env) (s : Shared) (H : Hp) (E : XK), Room k (A.deeper (envOfC qual (defScope st) s.heap.objs.size f cdv)) →
      PSs (cxOf (L2.CX P w) P w K mg base N qual (defScope st) f cdv A outer s H E) (defBody st) (tS K (fun cls d _ H => E cls d H) wb))
    (pure : ∀ args o ret exc, S args o ret exc → wb (fun x s => exc x (cutL o.length s.o)) (pst0 args o N.length) (bodyE o.length ret)) : FnOk P w K mg base (L2.CX P w) (k + 1) f fd ps (spOf K S) := by
  exact F.okX Sc (fn_len len) fun cdv A outer s H vs Q E hr h => ⟨_, body cdv A outer s H E hr, fn_core pure vs H Q E h⟩
/-- a def that may be called -/
structure Cal (P : Program) (w : World) (K : PySem.W.Frag) (mg : Str → Option Value) (base : Heap) (k : Nat) (x : Str) (ps : List Str) (S : FS) : Prop where
  ex : ∃ f fd, FnOk P w K mg base (L2.CX P w) k f fd ps (spOf K S) ∧ mg x = some (.ref f) ∧ PySem.W.keepIn K (.ref f) = true ∧ Binds K fd ps []
/-- a def of the text, as the top leaves it -/
structure Dfd (K : PySem.W.Frag) (mg : Str → Option Value) (x : Str) (ps : List Str) (st : Stmt) : Prop where
  ex : ∃ f fd, Fun K x x st f fd ∧ mg x = some (.ref f) ∧ Binds K fd ps []
theorem Dfd.cal {x : Str} {ps N : List Str} {st : Stmt} {k : Nat} {S : FS} {wb : SW} (D : Dfd K mg x ps st) (Sc : FnScope N ps (defScope st)) (len : ∀ args o r e, S args o r e → args.length = ps.length)
    (body : ∀ (f : Addr) (cdv : Value) (A : Around) (outer : List Env) (s : Shared) (H : Hp) (E : XK), Room k (A.deeper (envOfC x (defScope st) s.heap.objs.size f cdv)) →
      PSs (cxOf (L2.CX P w) P w K mg base N x (defScope st) f cdv A outer s H E) (defBody st) (tS K (fun cls d _ H => E cls d H) wb))
    (pure : ∀ args o ret exc, S args o ret exc → wb (fun x s => exc x (cutL o.length s.o)) (pst0 args o N.length) (bodyE o.length ret)) : Cal P w K mg base (k + 1) x ps S := by
  obtain ⟨f, fd, F, m, b⟩ := D.ex
  exact ⟨f, fd, fn_ok F Sc len (body f) pure, m, F.kp, b⟩
theorem Cal.mono {k j : Nat} {x : Str} {ps : List Str} {S : FS} (C : Cal P w K mg base j x ps S) (h : j ≤ k) : Cal P w K mg base k x ps S := by
  obtain ⟨f, fd, F, m, kp, b⟩ := C.ex
  exact ⟨f, fd, F.mono h, m, kp, b⟩
/-- a weaker promise -/
theorem Cal.imp {k : Nat} {x : Str} {ps : List Str} {S S' : FS} (C : Cal P w K mg base k x ps S) (h : ∀ args o r e, S' args o r e → S args o r e) : Cal P w K mg base k x ps S' := by
  obtain ⟨f, fd, F, m, kp, b⟩ := C.ex
  exact ⟨f, fd, F.imp fun vs H Q E ⟨H0, F0, A0, args, o, ret, exc, wd, ho, hS, q⟩ => ⟨H0, F0, A0, args, o, ret, exc, wd, ho, h _ _ _ _ hS, q⟩, m, kp, b⟩
theorem dfd_mk {x : Str} {ps : List Str} {st : Stmt} {f : Addr} {h : Heap} {oc : Value} {od an : Option Addr} {osl : Array (Option Value)} {kV doc pm cdv ct : Value} (X : K.In h) (G : h.Ns mainGlobals mg)
    (a : PySem.W.nsIn K mainGlobals x = some (some (.ref f))) (l : K.lookup f = some ⟨oc, od, .func (PySem.W.fnOf x x (defArgs st) (defBody st) (defScope st) .none kV doc pm an cdv ct), osl⟩) (c : PySem.W.codeIn K cdv x = true) (k : PySem.W.keepIn K (.ref f) = true)
    (hb : ∀ (kV doc pm : Value) (an : Option Addr) (cdv ct : Value) (us : List Value), us.length = ps.length → bindArgs (PySem.W.fnOf x x (defArgs st) (defBody st) (defScope st) .none kV doc pm an cdv ct) ⟨us, []⟩ = pure (ps.zip us)) : Dfd K mg x ps st := by
  have F := fun_mk (st := st) l c k
  exact ⟨f, _, F, PySem.W.mg_of X G a, F.binds hb⟩
end
section
variable {X : Cx} {W : WX} {k j : Nat} {ps : List Str} {S : FS} {x : Str} {p pos : Pos} {e : Expr} {es : List Expr} {ws : AW}
theorem c_call (C : Cal X.prog X.w X.K X.mg X.base k x ps S) (tk : Takes X W) (hr : Room j X.A) (ha : PA X (e :: es) (tA X.K W ws)) (hk : k ≤ j := by decide) (hg : Gl X x := by rfl)
    (hdb : (x == ("__debug__" : Str)) = false := by decide) (he : starEach (e :: es) X.env = (false, eval e X.env) :: starEach es X.env := by rfl) (hpl : (backTo pos (starEach es X.env)).any (·.1) = false := by rfl) :
    PE X (.Call (.Name x p) (e :: es) [] pos) (tE X.K W (wCall S ws)) := by
  obtain ⟨f, fd, F, m, kp, b⟩ := C.ex
  exact e_call F tk (hr.mono hk) hg m kp b ha hdb he hpl
theorem c_callL (C : Cal X.prog X.w X.K X.mg X.base k x ps S) (tk : Takes X W) (hr : Room j X.A) (ha : PA X (e :: es) (tA X.K W ws)) (hk : k ≤ j := by decide) (hg : Gl X x := by rfl)
    (hdb : (x == ("__debug__" : Str)) = false := by decide) (he : starEach (e :: es) X.env = (false, eval e X.env) :: starEach es X.env := by rfl) (hpl : (backTo pos (starEach es X.env)).any (·.1) = false := by rfl) :
    PE X (.Call (.Name x p) (e :: es) [] pos) (tE X.K W (wCallL S ws)) := by
  obtain ⟨f, fd, F, m, kp, b⟩ := C.ex
  exact e_callL F tk (hr.mono hk) hg m kp b ha hdb he hpl
theorem c_call0 (C : Cal X.prog X.w X.K X.mg X.base k x [] S) (hr : Room j X.A) (hk : k ≤ j := by decide) (hg : Gl X x := by rfl) (hdb : (x == ("__debug__" : Str)) = false := by decide) : PE X (.Call (.Name x p) [] [] pos) (tE X.K W (wCall0 S)) := by
  obtain ⟨f, fd, F, m, kp, b⟩ := C.ex
  exact e_call0 F (hr.mono hk) hg m kp b hdb
end
/-! ### the law -/
def lawS : FS := fun args o ret _ => ∃ ns, args = [.scr ns] ∧ o = [] ∧ ns.length ≤ 63 ∧ ret (.d (.bool true)) []
theorem law_of {l : PySem.W.OpenLaw} {k : Nat} {q : Program} {loose : List Str} {XP : (Str → Option Value) → Heap → Prop} {YP : World → Heap → Prop} {d : DefRec} {K : Params → PySem.W.Frag} {x : Str}
    (hn : l.most = some 63) (hdf : d.params.defaults = []) (hr : Room k callerA) (hY : ∀ (w : World) (h : Heap), YP w h → (K w.params).In h)
    (F : ∀ (w : World) (mg : Str → Option Value) (fa : Addr) (h : Heap), (K w.params).In h → h.Ns mainGlobals mg → mg d.name = some (.ref fa) →
      ∃ fd : FuncData, (∀ (s : Shared) (u : Value), BindsTo s fd ⟨[u], []⟩ [(x, u)]) ∧
        ∀ base : Heap, (K w.params).In base → base.Ns mainGlobals mg → FnOk l.prog w (K w.params) mg base (L2.CX l.prog w) k fa fd [x] (spOf (K w.params) lawS)) :
    PySem.W.WalkO q loose XP YP l.row.toRowW d [] (fun f vs => PySem.call f vs) := by
  refine L2.walk_of (n := 63) (CX := fun w => L2.CX l.prog w) (sp := fun w => spOf (K w.params) lawS) hn (by decide) hdf hr hY F (fun w H a ns hl _ hS => ?_) (fun w H s e s' z => ?_)
  · refine ⟨H, H, [], [.scr ns], [], fun r _ => r = .d (.bool true), fun _ _ => False, ⟨H, [], ?_⟩, rfl, ⟨ns, rfl, rfl, hl, rfl⟩, fun r o' hr ho v H' hret => ?_, fun _ _ z => z.elim⟩
    · refine ⟨⟨Same.refl _, Same.refl _, Same.refl _, fun _ _ h => h⟩, List.prefix_refl _, rfl, List.nodup_nil, (fun _ z => nomatch z), (fun n p c z => by simp at z), rfl, fun i v hv => ?_, (fun _ z => nomatch z)⟩
      cases i with
      | zero => cases hv; exact ⟨.ref a, rfl, a, rfl, hS⟩
      | succ i => simp at hv
    · subst hr
      obtain ⟨F', A', w'⟩ := hret
      have dz : Dq (K w.params) F' v (.bool true) := w'.tm (.d (.bool true), v) List.mem_cons_self
      exact dp_bl (dq_dp dz)
  · obtain ⟨_, _, _, _, _, _, _, _, _, _, _, _, z⟩ := z
    exact z.elim
end PW
namespace PW
open PySem L2 PySem.Spec PyProof.Rows
theorem hu64 {k : Nat} {A : Around} (hr : Room k A) : A.units + 64 < cLine := by have := hr.un; omega
theorem hu65 {k : Nat} {A : Around} (hr : Room k A) : A.units + 65 < cLine := by have := hr.un; omega
def wNeg (wa : EW) : EW := fun kx s k => wa kx s fun x s1 => ∃ i, x = .d (.int i) ∧ k (.d (.int (-i))) s1
/-- a constant of the module that is a tuple -/
structure GTup (K : PySem.W.Frag) (mg : Str → Option Value) (x : Str) (ds : List PyData) : Prop where
  ex : ∃ p, mg x = some (.ref p) ∧ ∀ H, Dq K H (.ref p) (.tuple ds)
/-- what a written Value is as data -/
def vD : Value → Option PyData
  | .none => some .none
  | .bool b => some (.bool b)
  | .int i _ => some (.int i)
  | .str x _ => some (.str x)
  | _ => none
def vDs : List Value → Option (List PyData)
  | [] => some []
  | v :: r => match vD v, vDs r with
    | some d, some ds => some (d :: ds)
    | _, _ => none
theorem vDs_ok {K : PySem.W.Frag} {H : Hp} : ∀ (vs : List Value) (ds : List PyData), vDs vs = some ds → ∃ us, Vals us vs ∧ DqAll K H us ds
  | [], ds, e => by cases e; exact ⟨[], .nil, .nil⟩
  | v :: r, ds, e => by
    cases hv : vD v with
    | none => simp [vDs, hv] at e
    | some d =>
      cases hr : vDs r with
      | none => simp [vDs, hv, hr] at e
      | some es =>
        simp only [vDs, hv, hr, Option.some.injEq] at e
        subst e
        obtain ⟨us, h1, h2⟩ := vDs_ok (K := K) (H := H) r es hr
        cases v with
        | none => cases hv; exact ⟨.non :: us, .cons rfl h1, .cons .non h2⟩
        | bool b => cases hv; exact ⟨.bl b :: us, .cons rfl h1, .cons (.bl b) h2⟩
        | int i t => cases hv; exact ⟨.int i :: us, .cons ⟨t, rfl⟩ h1, .cons (.int i) h2⟩
        | str x t => cases hv; exact ⟨.str x :: us, .cons ⟨t, rfl⟩ h1, .cons (.str x) h2⟩
        | _ => cases hv
theorem gtup_mk {K : PySem.W.Frag} {mg : Str → Option Value} {x : Str} {ds : List PyData} {p : Addr} {dd : Option Addr} {its : Array Value} {n : Nat} {sl : Array (Option Value)} {h : Heap} (X : K.In h) (G : h.Ns mainGlobals mg)
    (a : PySem.W.nsIn K mainGlobals x = some (some (.ref p))) (l : K.lookup p = some ⟨.type "tuple", dd, .seq its n, sl⟩) (hv : vDs its.toList = some ds) (hz : its.size ≤ sizeLine) : GTup K mg x ds := by
  refine ⟨p, PySem.W.mg_of X G a, fun H => ?_⟩
  obtain ⟨us, h1, h2⟩ := vDs_ok (K := K) (H := H) _ _ hv
  exact .tup (.inr ⟨_, its, n, l, rfl, rfl, hz, h1⟩) h2
/-- an error class of the text without an __init__ of its own -/
structure Exc1 (K : PySem.W.Frag) (mg : Str → Option Value) (x : Str) (C : Addr) : Prop where
  g : mg x = some (.ref C)
  q : PySem.W.excIn K C [.type "ValueError", .type "Exception", .type "BaseException", .type "object"] "ValueError.__new__" = true
  k : PySem.W.keepIn K (.ref C) = true
  b : PySem.W.subIn K (.ref C) (.type "BaseException") = some true
  t : PySem.W.typeIn K (.ref C) = some (.type "type")
theorem Exc1.mk1 {X : Cx} {x : Str} {C : Addr} {m : Str} {j : Nat} {p p2 pos : Pos} (E : Exc1 X.K X.mg x C) (hg : Gl X x := by rfl) (hdb : (x == ("__debug__" : Str)) = false := by decide) : PMk X (.Call (.Name x p) [.Constant (.str m) j p2] [] pos) (fun _ H Q => Q (.ref C) none H) :=
  pmk_own PySem.F.excBase_ValueError E.q E.g E.k (raises_own E.b E.t) hg hdb
section
variable {X : Cx} {W : WX} {a b c e : Expr} {wa wb wc we : EW} {pos p : Pos}
theorem e_neg (ha : PE X a (tE X.K W wa)) : PE X (.UnaryOp .USub a pos) (tE X.K W (wNeg wa)) := by
  refine PE.imp (pe_un un_neg ha) fun σ H Q ⟨H0, F0, A0, s, T, kx, k, w, xl, h, q⟩ => un_of w xl h fun x s1 u H1 h1 w1 => ?_
  obtain ⟨i, rfl, hk⟩ := h1
  obtain ⟨F, A, w1⟩ := w1
  exact ⟨i, dp_int (dq_dp (w1.tm _ List.mem_cons_self)), q _ _ hk _ H1 ⟨F, A, (w1.sub fun t h => List.mem_cons_of_mem _ h).push (.int _)⟩⟩
theorem e_gtup {x : Str} {ds : List PyData} (hg : Gl X x) (G : GTup X.K X.mg x ds) (hd : (x == ("__debug__" : Str)) = false := by decide) : PE X (.Name x pos) (tE X.K W (wC (.tuple ds))) := by
  obtain ⟨p, hm, hq⟩ := G.ex
  refine PE.imp (pe_glob (v := .ref p) hg hm rfl hd) fun σ H Q ⟨H0, F0, A0, s, T, kx, k, w, xl, h, q⟩ => ?_
  obtain ⟨F, A, w⟩ := w
  exact q _ s h _ H ⟨F, A, w.push (hq _)⟩
/-- t + u of tuples -/
def wCatT (wa wb : EW) : EW := fun kx s k => wa kx s fun x s1 => wb kx s1 fun y s2 => ∃ xs ys, x = .d (.tuple xs) ∧ y = .d (.tuple ys) ∧ xs.length + ys.length ≤ sizeLine ∧ k (.d (.tuple (xs ++ ys))) s2
theorem e_catT (ha : PE X a (tE X.K W wa)) (hb : PE X b (tE X.K W wb)) : PE X (.BinOp a .Add b pos) (tE X.K W (wCatT wa wb)) := by
  refine PE.imp (pe_op op_catA ha hb) fun σ H Q ⟨H0, F0, A0, s, T, kx, k, w, xl, h, q⟩ => tOp_of w xl h fun x y s2 u v H2 hR w2 => ?_
  obtain ⟨xs, ys, rfl, rfl, hz, hk⟩ := hR
  obtain ⟨F, A, w2⟩ := w2
  have d1 : Dq X.K F u (.tuple xs) := w2.tm (.d (.tuple xs), u) (List.mem_cons_of_mem _ List.mem_cons_self)
  have d2 : Dq X.K F v (.tuple ys) := w2.tm (.d (.tuple ys), v) List.mem_cons_self
  have w3 := w2.sub (T' := T) fun t h => List.mem_cons_of_mem _ (List.mem_cons_of_mem _ h)
  cases d1 with
  | @tup p vs _ h1 h2 =>
    cases d2 with
    | @tup p' vs' _ h1' h2' =>
      have hl := h2.len
      have hl' := h2'.len
      refine ⟨p, p', vs, vs', rfl, rfl, same_t w2.fz.g h1, same_t w2.fz.g h1', by omega, fun e => ?_, fun e e' => ?_, fun e e' n hn => ?_⟩
      · subst e
        cases h2
        exact q _ _ hk _ _ ⟨F, A, w3.push (.tup h1' h2')⟩
      · subst e'
        cases h2'
        rw [List.append_nil] at hk
        exact q _ _ hk _ _ ⟨F, A, w3.push (.tup h1 h2)⟩
      · have sn := same_new (o := .tup (vs ++ vs')) (w2.fz.g.free hn)
        exact q _ _ hk _ _ ⟨_, A, (w3.newD (o := .tup (vs ++ vs')) hn).push (.tup (SqT.of upd_same) (dqAll_same sn (h2.app h2')))⟩
/-- list * int -/
def wRep (wa wb : EW) : EW := fun kx s k => wa kx s fun x s1 => wb kx s1 fun y s2 => ∃ xs i, datq s2 x = some (.list xs) ∧ y = .d (.int i) ∧ -(2 ^ 63) ≤ i ∧ i < 2 ^ 63 ∧ xs.length * i.toNat ≤ sizeLine ∧ k (.own s2.o.length) ⟨s2.r, s2.o ++ [.dl (List.replicate i.toNat xs).flatten]⟩
theorem DqAll.rep {K : PySem.W.Frag} {H : Hp} {vs : List V} {ds : List PyData} (h : DqAll K H vs ds) : ∀ n : Nat, DqAll K H (List.replicate n vs).flatten (List.replicate n ds).flatten
  | 0 => .nil
  | n + 1 => by
    rw [List.replicate_succ, List.replicate_succ, List.flatten_cons, List.flatten_cons]
    exact h.app (DqAll.rep h n)
theorem e_rep (ha : PE X a (tE X.K W wa)) (hb : PE X b (tE X.K W wb)) : PE X (.BinOp a .Mult b pos) (tE X.K W (wRep wa wb)) := by
  refine PE.imp (pe_op op_rep ha hb) fun σ H Q ⟨H0, F0, A0, s, T, kx, k, w, xl, h, q⟩ => tOp_of w xl h fun x y s2 u v H2 hR w2 => ?_
  obtain ⟨xs, i, hx, rfl, h1, h2, hz, hk⟩ := hR
  obtain ⟨F, A, w2⟩ := w2
  cases dp_int (dq_dp (w2.tm _ List.mem_cons_self))
  obtain ⟨p, vs, e1, h3, h4⟩ := itemsq_ok w2 (w2.tm _ (List.mem_cons_of_mem _ List.mem_cons_self)) hx
  have w3 := w2.sub (T' := T) fun t h => List.mem_cons_of_mem _ (List.mem_cons_of_mem _ h)
  exact ⟨p, i, vs, e1, rfl, h3, h1, h2, by rw [h4.len]; exact hz, fun n hn => q _ _ hk _ _ ⟨F, _, (w3.newL hn (h4.rep _)).push (top_at w3 n F)⟩⟩
/-- a < b < c of ints -/
def wChain (R R' : PyData → PyData → (PyData → Prop) → Prop) (wa wb wc : EW) : EW := fun kx s k => wa kx s fun x s1 => wb kx s1 fun y s2 => ∃ a b, dat s2 x = some a ∧ y = .d b ∧ R a b fun z => ∃ r, z = .bool r ∧
  (r = true → wc kx s2 fun v s3 => ∃ c, dat s3 v = some c ∧ R' b c fun z => k (.d z) s3) ∧ (r = false → k (.d (.bool false)) s2)
theorem chain_of {r r' : R2} {R R' : PyData → PyData → (PyData → Prop) → Prop} {σ : L2.St} {H : Hp} {Q : VK} (ho : ROk X.K r R) (ho' : ROk X.K r' R') (h : tE X.K W (wChain R R' wa wb wc) σ H Q) : tChain r r' (tE X.K W wa) (tE X.K W wb) (tE X.K W wc) σ H Q := by
  obtain ⟨H0, F0, A0, s, T, kx, k, w, xl, h, q⟩ := h
  refine ⟨H0, F0, A0, s, T, kx, _, w, xl, h, fun x s1 h1 u H1 w1 => ⟨H0, F0, A0, s1, (x, u) :: T, kx, _, w1, xl.push, h1, fun y s2 h2 v H2 w2 => ?_⟩⟩
  obtain ⟨a, b, da, rfl, hR⟩ := h2
  obtain ⟨F, A, w3⟩ := id w2
  have db : Dq X.K F v b := w3.tm (.d b, v) List.mem_cons_self
  refine ho u v a b H2 _ _ (dat_ok w3 (w3.tm _ (List.mem_cons_of_mem _ List.mem_cons_self)) da) (dq_dp (dq_same w3.fz.g db)) hR fun z t hz ht => ?_
  obtain ⟨rr, rfl, h1, h2⟩ := hz
  cases ht
  refine ⟨rr, rfl, ?_⟩
  cases rr with
  | false => exact iteF (q _ _ (h2 rfl) _ H2 ⟨F, A, (w3.sub fun t h => List.mem_cons_of_mem _ (List.mem_cons_of_mem _ h)).push (.bl _)⟩)
  | true =>
    refine iteT ⟨H0, F0, A0, s2, _, kx, _, w2, xl.push.push, h1 rfl, fun c s3 h3 uc H3 w4 => ?_⟩
    obtain ⟨cc, dc, h3⟩ := h3
    obtain ⟨F4, A4, w4⟩ := w4
    have db' : Dq X.K F4 v b := w4.tm (.d b, v) (List.mem_cons_of_mem _ List.mem_cons_self)
    refine ho' v uc b cc H3 Q _ (dq_dp (dq_same w4.fz.g db')) (dat_ok w4 (w4.tm _ List.mem_cons_self) dc) h3 fun z t hz ht => ?_
    exact q _ _ hz t H3 ⟨F4, A4, (w4.sub fun t h => List.mem_cons_of_mem _ (List.mem_cons_of_mem _ (List.mem_cons_of_mem _ h))).push (toV_dp ht)⟩
theorem e_chain {op op' : CmpOp} {g g' : Int → Int → Bool} (h1 : OpR X (compareOp op) (rI0 fun i j => .bl (g i j))) (h2 : OpR X (compareOp op') (rI0 fun i j => .bl (g' i j))) (ha : PE X a (tE X.K W wa)) (hb : PE X b (tE X.K W wb)) (hc : PE X c (tE X.K W wc))
    (hm : lastMarks [op, op'] [b, c] = false := by with_unfolding_all rfl) : PE X (.Compare a [op, op'] [b, c] pos) (tE X.K W (wChain (rCmpD g) (rCmpD g') wa wb wc)) :=
  PE.imp (pe_chain h1 h2 ha hb hc hm) fun σ H Q h => chain_of ok_cmpD ok_cmpD h
theorem t_chain {op op' : CmpOp} {g g' : Int → Int → Bool} (h1 : OpR X (compareOp op) (rI0 fun i j => .bl (g i j))) (h2 : OpR X (compareOp op') (rI0 fun i j => .bl (g' i j))) (ha : PE X a (tE X.K W wa)) (hb : PE X b (tE X.K W wb)) (hc : PE X c (tE X.K W wc))
    (hm : lastMarks [op, op'] [b, c] = false := by with_unfolding_all rfl) : PT X (.Compare a [op, op'] [b, c] pos) (tT X.K W (wB (wChain (rCmpD g) (rCmpD g') wa wb wc))) := by
  refine PT.imp (pt_chain h1 h2 ha hb hc hm) fun σ H Q ⟨H0, F0, A0, s, T, kx, k, w, xl, h, q⟩ => ?_
  refine chain_of ok_cmpD ok_cmpD ⟨H0, F0, A0, s, T, kx, _, w, xl, h, fun v s1 h1 u H1 w1 => ?_⟩
  obtain ⟨c, rfl, hk⟩ := h1
  obtain ⟨F, A, w1⟩ := w1
  exact ⟨c, dp_bl (dq_dp (w1.tm _ List.mem_cons_self)), q c s1 hk H1 ⟨F, A, w1.sub fun t h => List.mem_cons_of_mem _ h⟩⟩
/-- is True, is not True, of a bool -/
def wIsT (wa : EW) : EW := fun kx s k => wa kx s fun x s1 => ∃ b, x = .d (.bool b) ∧ k (.d (.bool b)) s1
end
end PW

namespace PW
open PySem L2
/-- a text by its signs -/
def tx (l : List Nat) : Str := ⟨l.toArray⟩
abbrev dT (l : List Nat) : PyData := .str (tx l)
theorem tx_cps (l : List Nat) : (tx l).cps.toList = l := rfl
theorem tx_len (l : List Nat) : (tx l).length = l.length := by show l.toArray.size = l.length; simp
theorem tx_app (a b : List Nat) : tx a ++ tx b = tx (a ++ b) := TL.ext_tl (by rw [TL.tl_append]; rfl)
theorem tx_eq (z : Str) : z = tx z.cps.toList := (TL.mk_tl z).symm
theorem tx_of (s : String) : Str.ofString s = tx (s.toList.map Char.toNat) := TL.ext_tl (TL.tl_ofString s)
theorem tx_inj {a b : List Nat} (h : tx a = tx b) : a = b := by
  have := congrArg (fun z : Str => z.cps.toList) h
  exact this
theorem tx_eq_iff {a b : List Nat} : tx a = tx b ↔ a = b := ⟨tx_inj, fun h => h ▸ rfl⟩
theorem le_sz {n : Nat} (h : n ≤ 16777216) : n ≤ sizeLine := h
theorem lt_sz {n : Nat} (h : n < 16777216) : n < sizeLine := h
theorem tx_sz {l : List Nat} (h : l.length ≤ 16777216) : (tx l).length ≤ sizeLine := by rw [tx_len]; exact h
theorem strLe_tx {l : List Nat} (h : l.length ≤ 16777216) : strLe (dT l) := tx_sz h
theorem atI_nat {α : Type} {xs : List α} {i : Nat} (h : i < xs.length) : atI xs (i : Int) = some xs[i] := by
  unfold atI ixN
  rw [if_pos (by omega), if_pos (by omega)]
  show xs[(i : Int).toNat]? = some xs[i]
  rw [Int.toNat_natCast]
  exact List.getElem?_eq_getElem h
theorem ix_tx {l : List Nat} {i : Nat} (h : i < l.length) : ixD (dT l) (i : Int) = some (dT [l[i]]) := by
  show (atI (tx l).cps.toList (i : Int)).map _ = _
  rw [tx_cps, atI_nat h]
  rfl
theorem ix_hd {c : Nat} {r : List Nat} : ixD (dT (c :: r)) 0 = some (dT [c]) := ix_tx (l := c :: r) (i := 0) (by simp)
theorem ix_hdl {c : PyData} {r : List PyData} : ixD (.list (c :: r)) 0 = some c := (atI_nat (xs := c :: r) (i := 0) (by simp))
theorem ix_list {l : List PyData} {i : Nat} (h : i < l.length) : ixD (.list l) (i : Int) = some l[i] := atI_nat h
theorem ix_tup {l : List PyData} {i : Nat} (h : i < l.length) : ixD (.tuple l) (i : Int) = some l[i] := atI_nat h
theorem cut_tx (l : List Nat) (i j : Nat) : cutS (tx l) (some (i : Int)) (some (j : Int)) = tx ((l.take j).drop i) := by
  unfold cutS
  rw [tx_len, HT.sIx_nat, HT.sIx_nat, tx_cps]
  show tx _ = tx _
  congr 1
  rw [List.drop_take]
  apply List.ext_getElem?
  intro k
  rw [List.getElem?_take, List.getElem?_take, List.getElem?_drop, List.getElem?_drop]
  by_cases h : k < min j l.length - min i l.length
  · rw [if_pos h, if_pos (by omega), Nat.min_eq_left (by omega)]
  · rw [if_neg h]
    by_cases h2 : k < j - i
    · rw [if_pos h2, List.getElem?_eq_none (by omega)]
    · rw [if_neg h2]
theorem cut_tx_to (l : List Nat) (j : Nat) : cutS (tx l) none (some (j : Int)) = tx (l.take j) := by
  unfold cutS
  rw [tx_len, HT.sIx_nat, tx_cps]
  show tx ((l.drop 0).take (min j l.length - 0)) = tx _
  congr 1
  rw [List.drop_zero, Nat.sub_zero]
  by_cases h : j ≤ l.length
  · rw [Nat.min_eq_left h]
  · rw [Nat.min_eq_right (by omega), List.take_of_length_le (Nat.le_refl _), List.take_of_length_le (by omega)]
theorem cut_tx_from (l : List Nat) (i : Nat) : cutS (tx l) (some (i : Int)) none = tx (l.drop i) := by
  unfold cutS
  rw [tx_len, HT.sIx_nat, tx_cps]
  show tx ((l.drop (min i l.length)).take (l.length - min i l.length)) = tx _
  congr 1
  by_cases h : i ≤ l.length
  · rw [Nat.min_eq_left h, List.take_of_length_le (by rw [List.length_drop]; omega)]
  · rw [Nat.min_eq_right (by omega), List.drop_of_length_le (Nat.le_refl _), List.drop_of_length_le (by omega), List.take_nil]
theorem cut_tx_init (l : List Nat) : cutS (tx l) none (some (-1)) = tx l.dropLast := by
  unfold cutS
  rw [tx_len, tx_cps]
  show tx ((l.drop 0).take (((-1 : Int) + (l.length : Int)).toNat - 0)) = tx _
  congr 1
  rw [List.drop_zero, Nat.sub_zero, List.dropLast_eq_take]
  congr 1
  omega
theorem cut_tx_tail {l : List Nat} (h : l ≠ []) : cutS (tx l) (some (-1)) none = tx [l.getLast h] := by
  have hp := List.length_pos_iff.mpr h
  unfold cutS
  rw [tx_len, tx_cps]
  show tx ((l.drop (((-1 : Int) + (l.length : Int)).toNat)).take (l.length - (((-1 : Int) + (l.length : Int)).toNat))) = tx _
  congr 1
  have e : ((-1 : Int) + (l.length : Int)).toNat = l.length - 1 := by omega
  rw [e, List.drop_eq_getElem_cons (by omega), List.drop_of_length_le (by omega), List.getLast_eq_getElem]
  have e2 : l.length - (l.length - 1) = 1 := by omega
  rw [e2]
  rfl
theorem cutD_nat {α : Type} (l : List α) (i j : Nat) : cutD l (some (i : Int)) (some (j : Int)) = (l.take j).drop i := by
  unfold cutD
  rw [HT.sIx_nat, HT.sIx_nat, List.drop_take]
  apply List.ext_getElem?
  intro k
  rw [List.getElem?_take, List.getElem?_take, List.getElem?_drop, List.getElem?_drop]
  by_cases h : k < min j l.length - min i l.length
  · rw [if_pos h, if_pos (by omega), Nat.min_eq_left (by omega)]
  · rw [if_neg h]
    by_cases h2 : k < j - i
    · rw [if_pos h2, List.getElem?_eq_none (by omega)]
    · rw [if_neg h2]
theorem cutD_to {α : Type} (l : List α) (j : Nat) : cutD l none (some (j : Int)) = l.take j := cutD_nat l 0 j
theorem cutD_from {α : Type} (l : List α) (i : Nat) : cutD l (some (i : Int)) none = l.drop i := by
  unfold cutD
  rw [HT.sIx_nat]
  show ((l.drop (min i l.length)).take (l.length - min i l.length)) = _
  by_cases h : i ≤ l.length
  · rw [Nat.min_eq_left h, List.take_of_length_le (by rw [List.length_drop]; omega)]
  · rw [Nat.min_eq_right (by omega), List.drop_of_length_le (Nat.le_refl _), List.drop_of_length_le (by omega), List.take_nil]
theorem cutD_last {α : Type} (l : List α) : cutD l none (some (-1)) = l.dropLast := by
  unfold cutD
  show (l.drop 0).take (((-1 : Int) + (l.length : Int)).toNat - 0) = _
  rw [List.drop_zero, Nat.sub_zero, List.dropLast_eq_take]
  congr 1
  omega
theorem ix_last {l : List PyData} (h : l ≠ []) : ixD (.list l) (-1) = some (l.getLast h) := by
  have hp := List.length_pos_iff.mpr h
  show atI l (-1) = _
  unfold atI ixN
  rw [if_neg (by omega), if_pos (by omega)]
  show l[((-1 : Int) + (l.length : Int)).toNat]? = _
  have e : ((-1 : Int) + (l.length : Int)).toNat = l.length - 1 := by omega
  rw [e, List.getElem?_eq_getElem (by omega), List.getLast_eq_getElem]
theorem chars_len (l : List Nat) : (charsD (tx l)).length = l.length := by unfold charsD; rw [tx_cps, List.length_map]
theorem chars_tx (l : List Nat) : charsD (tx l) = l.map fun c => dT [c] := rfl
theorem ints_len (lo : Int) (n : Nat) : (intsD lo n).length = n := by unfold intsD; rw [List.length_map, List.length_range]
theorem ints_get {lo : Int} {n j : Nat} {x : PyData} (h : (intsD lo n)[j]? = some x) : j < n ∧ x = .int (lo + (j : Nat)) := by
  unfold intsD at h
  rw [List.getElem?_map] at h
  have hj : j < n := by
    rcases Nat.lt_or_ge j n with h1 | h1
    · exact h1
    · rw [List.getElem?_eq_none (by rw [List.length_range]; exact h1)] at h; cases h
  rw [List.getElem?_eq_getElem (by rw [List.length_range]; exact hj), List.getElem_range] at h
  cases h
  exact ⟨hj, rfl⟩
theorem map_get {α β : Type} {f : α → β} {l : List α} {j : Nat} {x : β} (h : (l.map f)[j]? = some x) : ∃ (hj : j < l.length), x = f l[j] := by
  rw [List.getElem?_map] at h
  rcases Nat.lt_or_ge j l.length with h1 | h1
  · rw [List.getElem?_eq_getElem h1] at h
    cases h
    exact ⟨h1, rfl⟩
  · rw [List.getElem?_eq_none h1] at h; cases h
theorem br_t {c : Bool} {A B : Prop} (h : c = true) (a : A) : (c = true → A) ∧ (c = false → B) := ⟨fun _ => a, fun z => by rw [h] at z; cases z⟩
theorem br_f {c : Bool} {A B : Prop} (h : c = false) (b : B) : (c = true → A) ∧ (c = false → B) := ⟨(fun z => by rw [h] at z; cases z), fun _ => b⟩
theorem br_s {c : Bool} {A B : Prop} (p : Bool) (e : c = p) (a : p = true → A) (b : p = false → B) : (c = true → A) ∧ (c = false → B) := ⟨fun z => a (e ▸ z), fun z => b (e ▸ z)⟩
theorem br_d {c : Bool} {A B : Prop} (P : Prop) (e : c = true ↔ P) (a : P → A) (b : ¬ P → B) : (c = true → A) ∧ (c = false → B) := ⟨fun z => a (e.mp z), fun z => b fun p => by rw [e.mpr p] at z; cases z⟩
theorem cmul_r {i : Int} {n : Nat} (h : Nat.ble n 18446744073709551615 = true) : CMul i (OfNat.ofNat n) := by
  have h := Nat.le_of_ble_eq_true h
  have e : (OfNat.ofNat n : Int) = (n : Int) := rfl
  exact .inr ⟨by rw [e]; omega, by rw [e]; omega⟩
theorem cmul_l {j : Int} {n : Nat} (h : Nat.ble n 18446744073709551615 = true) : CMul (OfNat.ofNat n) j := by
  have h := Nat.le_of_ble_eq_true h
  have e : (OfNat.ofNat n : Int) = (n : Int) := rfl
  exact .inl ⟨by rw [e]; omega, by rw [e]; omega⟩
theorem cmul_o {i j : Int} (h : (-18446744073709551616 < i ∧ i < 18446744073709551616) ∨ (-18446744073709551616 < j ∧ j < 18446744073709551616)) : CMul i j := by
  rcases h with h | h
  · exact .inl ⟨by omega, by omega⟩
  · exact .inr ⟨by omega, by omega⟩
theorem cdiv_ok {i : Int} {n : Nat} (h : (Nat.ble 1 n && Nat.ble n 1073741823) = true) : CDiv i (OfNat.ofNat n) := by
  rw [Bool.and_eq_true] at h
  have h1 := Nat.le_of_ble_eq_true h.1
  have h2 := Nat.le_of_ble_eq_true h.2
  have e : (OfNat.ofNat n : Int) = (n : Int) := rfl
  exact ⟨by rw [e]; omega, by rw [e]; omega⟩
theorem pos_ok {n : Nat} (h : Nat.ble 1 n = true) : (0 : Int) < OfNat.ofNat n := by
  have h1 := Nat.le_of_ble_eq_true h
  have e : (OfNat.ofNat n : Int) = (n : Int) := rfl
  rw [e]; omega
theorem inr_b {P : Prop} {Q : Bool → Prop} {b : Bool} (c : Bool) (e : b = c) (h : Q c) : P ∨ ∃ b', PV.d (.bool b) = PV.d (.bool b') ∧ Q b' := .inr ⟨b, rfl, e ▸ h⟩
theorem ix_words {L : List (List Nat)} {v : Int} (h0 : 0 ≤ v) (h1 : v < L.length) : ∃ w, w ∈ L ∧ ixD (.list (L.map dT)) v = some (dT w) := by
  obtain ⟨n, rfl⟩ : ∃ n : Nat, v = n := ⟨v.toNat, by omega⟩
  have hn : n < L.length := by omega
  refine ⟨L[n], List.getElem_mem hn, ?_⟩
  rw [ix_list (by rw [List.length_map]; exact hn), List.getElem_map]
theorem ix_sign {l : List Nat} {v : Int} (h0 : 0 ≤ v) (h1 : v < l.length) : ∃ c, c ∈ l ∧ ixD (dT l) v = some (dT [c]) := by
  obtain ⟨n, rfl⟩ : ∃ n : Nat, v = n := ⟨v.toNat, by omega⟩
  have hn : n < l.length := by omega
  exact ⟨l[n], List.getElem_mem hn, ix_tx hn⟩
theorem ix_ints {L : List Int} {v : Int} (h0 : 0 ≤ v) (h1 : v < L.length) : ∃ w, w ∈ L ∧ ixD (.list (L.map PyData.int)) v = some (.int w) := by
  obtain ⟨n, rfl⟩ : ∃ n : Nat, v = n := ⟨v.toNat, by omega⟩
  have hn : n < L.length := by omega
  refine ⟨L[n], List.getElem_mem hn, ?_⟩
  rw [ix_list (by rw [List.length_map]; exact hn), List.getElem_map]
theorem sh_list {xs : List PyData} (h : ∀ x ∈ xs, x.canLay0 = true ∧ x.depth ≤ 60) : PyData.canLayAll0 xs = true ∧ PyData.depthAll xs ≤ 60 := by
  induction xs with
  | nil => exact ⟨rfl, Nat.zero_le _⟩
  | cons x r ih =>
    obtain ⟨a, b⟩ := ih fun y m => h y (List.mem_cons_of_mem _ m)
    obtain ⟨c, d⟩ := h x List.mem_cons_self
    refine ⟨?_, ?_⟩
    · rw [PyData.canLayAll0, c, a]; rfl
    · rw [PyData.depthAll]; exact Nat.max_le.mpr ⟨d, b⟩
theorem shaped_list {xs : List PyData} (h : ∀ x ∈ xs, x.canLay0 = true ∧ x.depth ≤ 60) : SeqAt.shaped (.list xs) = true := by
  obtain ⟨a, b⟩ := sh_list h
  unfold SeqAt.shaped
  rw [Bool.and_eq_true, decide_eq_true_eq]
  exact ⟨a, by rw [PyData.depth]; omega⟩
theorem shaped_tup {xs : List PyData} (h : ∀ x ∈ xs, x.canLay0 = true ∧ x.depth ≤ 60) : SeqAt.shaped (.tuple xs) = true := by
  obtain ⟨a, b⟩ := sh_list h
  unfold SeqAt.shaped
  rw [Bool.and_eq_true, decide_eq_true_eq]
  exact ⟨a, by rw [PyData.depth]; omega⟩
theorem eqOk_of {a b : PyData} (h : SeqAt.shaped a = true) (g : SeqAt.shaped b = true) : eqOk a b = true := by
  unfold eqOk
  rw [h, g, Bool.true_and, Bool.or_true]
theorem strsOf_tx : ∀ L : List (List Nat), strsOf (L.map dT) = some (L.map tx)
  | [] => rfl
  | x :: r => by
    show (strsOf (r.map dT)).map (tx x :: ·) = _
    rw [strsOf_tx r]
    rfl
theorem join_tx (c : List Nat) (L : List (List Nat)) : Txt.join (tx c) (L.map tx) = tx (TL.joinL c L) := by
  rw [TL.join_eq]
  refine TL.ext_tl ?_
  rw [TL.tl_join, List.map_map]
  show TL.joinL c (L.map (TL.tl ∘ tx)) = _
  rw [show (TL.tl ∘ tx) = id from rfl, List.map_id]
  rfl
theorem joinL_in {S : List Nat} {P : Nat → Prop} (hS : ∀ c ∈ S, P c) : ∀ {L : List (List Nat)}, (∀ w ∈ L, ∀ c ∈ w, P c) → ∀ c ∈ TL.joinL S L, P c
  | [], _, c, m => nomatch m
  | [p], h, c, m => h p List.mem_cons_self c m
  | p :: q :: r, h, c, m => by
    rcases List.mem_append.mp m with m | m
    · exact h p List.mem_cons_self c m
    · rcases List.mem_append.mp m with m | m
      · exact hS c m
      · exact joinL_in hS (fun w hw => h w (List.mem_cons_of_mem _ hw)) c m
theorem joinL_len {S : List Nat} {k : Nat} : ∀ {L : List (List Nat)}, (∀ w ∈ L, w.length ≤ k) → (TL.joinL S L).length ≤ (k + S.length) * L.length
  | [], _ => Nat.zero_le _
  | [p], h => by
    have := h p List.mem_cons_self
    show p.length ≤ (k + S.length) * 1
    omega
  | p :: q :: r, h => by
    have h1 := h p List.mem_cons_self
    have h2 := joinL_len (S := S) (L := q :: r) (fun w hw => h w (List.mem_cons_of_mem _ hw))
    show (p ++ (S ++ TL.joinL S (q :: r))).length ≤ _
    rw [List.length_append, List.length_append, show (p :: q :: r).length = (q :: r).length + 1 from rfl, Nat.mul_add, Nat.mul_one]
    omega
theorem sum_tx {k : Nat} : ∀ {L : List (List Nat)}, (∀ w ∈ L, w.length ≤ k) → ((L.map tx).map (·.length)).sum ≤ k * L.length
  | [], _ => Nat.zero_le _
  | p :: r, h => by
    have h1 := h p List.mem_cons_self
    have h2 := sum_tx (L := r) (fun w hw => h w (List.mem_cons_of_mem _ hw))
    rw [List.map_cons, List.map_cons, List.sum_cons, List.length_cons, Nat.mul_add, Nat.mul_one, tx_len]
    omega
/-- where a sign is first -/
def idx (c : Nat) : List Nat → Nat
  | [] => 0
  | a :: r => if a = c then 0 else idx c r + 1
theorem idx_le (c : Nat) : ∀ l, idx c l ≤ l.length
  | [] => Nat.le_refl _
  | a :: r => by
    unfold idx
    split
    · exact Nat.zero_le _
    · have := idx_le c r; rw [List.length_cons]; omega
theorem idx_at (c : Nat) : ∀ (l : List Nat) (i : Nat), l[i]? = some c → (∀ k, k < i → l[k]? ≠ some c) → idx c l = i
  | [], i, h, _ => by simp at h
  | a :: r, 0, h, _ => by
    have : a = c := by simpa using h
    unfold idx
    rw [if_pos this]
  | a :: r, i + 1, h, g => by
    have h0 : a ≠ c := fun e => g 0 (by omega) (by simpa using e)
    unfold idx
    rw [if_neg h0, idx_at c r i (by simpa using h) (fun k hk => by have := g (k + 1) (by omega); simpa using this)]
theorem idx_none (c : Nat) : ∀ (l : List Nat), (∀ i : Nat, l[i]? ≠ some c) → idx c l = l.length
  | [], _ => rfl
  | a :: r, g => by
    have h0 : a ≠ c := fun e => g 0 (by simpa using e)
    unfold idx
    rw [if_neg h0, idx_none c r (fun i => by have := g (i + 1); simpa using this), List.length_cons]
theorem idx_lt_get (c : Nat) : ∀ (l : List Nat), idx c l < l.length → l[idx c l]? = some c
  | [], h => by simp at h
  | a :: r, h => by
    unfold idx at h ⊢
    split
    · rename_i e; simp [e]
    · rename_i e
      rw [if_neg e, List.length_cons] at h
      have := idx_lt_get c r (by omega)
      simpa using this
theorem idx_before (c : Nat) : ∀ (l : List Nat) (k : Nat), k < idx c l → l[k]? ≠ some c
  | [], k, h => by simp [idx] at h
  | a :: r, k, h => by
    unfold idx at h
    split at h
    · omega
    · rename_i e
      cases k with
      | zero => simpa using e
      | succ k => 
        have := idx_before c r k (by omega)
        simpa using this
theorem find_tx (l : List Nat) (c : Nat) : Txt.find (tx l) (tx [c]) = if idx c l < l.length then (idx c l : Int) else -1 := by
  have key : ∀ i, StrLaws.At (tx l) (tx [c]) (tx l).length i ↔ l[i]? = some c := fun i => by
    rw [TL.at_iff (x := tx l) (y := tx [c]) (by show [c] ≠ []; simp) i]
    show TL.pre [c] (l.drop i) = true ↔ _
    unfold TL.pre
    show ((l.drop i).take 1 == [c]) = true ↔ _
    rw [beq_iff_eq]
    rcases Nat.lt_or_ge i l.length with h | h
    · rw [List.drop_eq_getElem_cons h, List.getElem?_eq_getElem h]
      show [l[i]] = [c] ↔ _
      simp
    · rw [List.drop_of_length_le h, List.getElem?_eq_none h]; simp
  rcases PyProof.Rows.find_whole (tx l) (tx [c]) with ⟨h, g⟩ | ⟨i, h, a, g⟩
  · rw [h, idx_none c l (fun i e => g i ((key i).mpr e)), if_neg (Nat.lt_irrefl _)]
  · have := idx_at c l i ((key i).mp a) (fun k hk e => g k hk ((key k).mpr e))
    rw [h, this, if_pos]
    have := (key i).mp a
    rcases Nat.lt_or_ge i l.length with h | h
    · exact h
    · rw [List.getElem?_eq_none h] at this; cases this
/-- parts between one sign -/
def spl1 (c : Nat) : List Nat → List Nat → List (List Nat)
  | acc, [] => [acc]
  | acc, a :: r => if a = c then acc :: spl1 c [] r else spl1 c (acc ++ [a]) r
theorem spl1_eq (c : Nat) : ∀ (l acc : List Nat), TL.spl [c] 0 acc l = spl1 c acc l
  | [], acc => TL.spl_nil _ _ _
  | a :: r, acc => by
    unfold spl1
    by_cases h : a = c
    · subst h
      rw [if_pos rfl, TL.spl_hit (by unfold TL.pre; simp)]
      show acc :: TL.spl [a] 0 [] r = _
      rw [spl1_eq a r]
    · rw [if_neg h, TL.spl_miss (TL.pre_of_head _ _ h), spl1_eq c r]
theorem split_tx (l : List Nat) {c : Nat} (hc : c < 256) : (Txt.split (tx l) (tx [c])).map PyData.str = (spl1 c [] l).map dT := by
  have h := TL.split_spl (tx l) (tx [c]) (by show [c] ≠ []; simp) (TL.kind_ok (by show [c].toArray.all (· < 256) = true; simp [hc]))
  have e : (Txt.split (tx l) (tx [c])).map TL.tl = spl1 c [] l := h.trans (spl1_eq c l [])
  have e2 := congrArg (List.map dT) e
  rw [List.map_map] at e2
  rw [← e2]
  apply List.map_congr_left
  intro z _
  show PyData.str z = PyData.str (tx (TL.tl z))
  rw [show tx (TL.tl z) = z from TL.mk_tl z]
theorem spl1_le (c : Nat) : ∀ l acc, (∀ x ∈ spl1 c acc l, x.length ≤ acc.length + l.length) ∧ (spl1 c acc l).length ≤ l.length + 1
  | [], acc => ⟨fun x m => by
      have : x = acc := by simpa [spl1] using m
      rw [this]; exact Nat.le_refl _, by show [acc].length ≤ 1; simp⟩
  | a :: r, acc => by
    unfold spl1
    split
    · have := spl1_le c r []
      refine ⟨fun x m => ?_, ?_⟩
      · rcases List.mem_cons.mp m with rfl | m
        · omega
        · have h := this.1 x m
          rw [List.length_nil] at h
          rw [List.length_cons]; omega
      · rw [List.length_cons, List.length_cons]
        have := this.2
        omega
    · have := spl1_le c r (acc ++ [a])
      refine ⟨fun x m => ?_, ?_⟩
      · have h := this.1 x m
        rw [List.length_append, List.length_cons, List.length_nil] at h
        rw [List.length_cons]; omega
      · rw [List.length_cons]
        have := this.2
        omega
theorem take_map_succ {α β : Type} {f : α → β} {l : List α} {j : Nat} (h : j < l.length) : (l.take (j + 1)).map f = (l.take j).map f ++ [f l[j]] := by
  rw [List.take_add_one, List.getElem?_eq_getElem h, List.map_append]
  rfl
theorem eqv_tx (a b : List Nat) : PyData.eqv (dT a) (dT b) = decide (a = b) := by
  have : PyData.eqv (dT a) (dT b) = (tx a == tx b) := by simp [PyData.eqv]
  rw [this]
  by_cases h : a = b
  · subst h; simp
  · rw [decide_eq_false h]
    simp only [beq_eq_false_iff_ne, ne_eq]
    exact fun z => h (tx_inj z)
theorem spl1_ne (c : Nat) : ∀ l acc, spl1 c acc l ≠ []
  | [], acc => by unfold spl1; simp
  | a :: r, acc => by
    unfold spl1
    split
    · simp
    · exact spl1_ne c r _

/-- data that is equal to itself: no dict -/
theorem eqv_self : ∀ {d : PyData}, d.canLay0 = true → PyData.eqv d d = true
  | d, h => PySem.SeqAt.eqv_refl d h

end PW

namespace PW
open PySem L2 PySem.Spec PyProof.Rows
/-- a fixed text's name for the signs put in place of others -/
def wRepl (y z : Str) (wo : EW) : EW := fun kx s k => wo kx s fun x s1 => ∃ z0, x = .d (.str z0) ∧ z0.length + (z0.length + 1) * z.length ≤ 16777216 ∧ k (.d (.str (Txt.replace z0 y z))) s1
theorem petImp {X : Cx} {e : Expr} {t t' : TE} (h : PET X e t) (i : ∀ σ H Q, t' σ H Q → t σ H Q) : PET X e t' := fun pins s σ H Q h0 I q => h pins s σ H Q h0 I (i σ H Q q)
theorem pstImp {X : Cx} {e : Stmt} {t t' : TS} (h : PST X e t) (i : ∀ D σ H, t' D σ H → t D σ H) : PST X e t' := fun pins s σ H D h0 I q => h pins s σ H D h0 I (i D σ H q)
theorem psstImp {X : Cx} {e : List Stmt} {t t' : TS} (h : PSsT X e t) (i : ∀ D σ H, t' D σ H → t D σ H) : PSsT X e t' := fun pins s σ H D h0 I q => h pins s σ H D h0 I (i D σ H q)
/-- an expression behind which a token is out -/
def PEU (X : Cx) (e : Expr) (t : TE) : Prop :=
  ∀ (pins : List (Addr × Obj)) (s : Shared) (σ : L2.St) (H : Hp) (Q : VK), Inv X pins σ H s → t σ H Q → wpAny (model X.prog X.w) X.A (eval e X.env) (fun v s' => 1 ≤ s'.toks ∧ EP X pins σ Q v s') X.xe s
section
variable {X : Cx} {W : WX} {e o wo_e : Expr} {st : Stmt} {rest : List Stmt} {we wo : EW} {wa wb : SW} {pos p : Pos} {y z c : Str} {j k : Nat} {c0 c1 cp : Pos}
theorem et_repl {apos : Pos} (ho : PE X o (tE X.K W wo)) (hyz : (y == z) = false := by decide)
    (hst : starEach [.Constant (.str y) j c0, .Constant (.str z) k c1] X.env = [(false, eval (.Constant (.str y) j c0) X.env), (false, eval (.Constant (.str z) k c1) X.env)] := by rfl)
    (hbase : attributeBase o "replace" X.env (eval o X.env) = eval o X.env := by rfl) (hline : (apos.endLine == pos.line) = true := by rfl) :
    PET X (.Call (.Attribute o "replace" apos) [.Constant (.str y) j c0, .Constant (.str z) k c1] [] pos) (tE X.K W (wRepl y z wo)) := by
  refine petImp (CwR.pet_replC ho hyz hst hbase hline) fun σ H Q ⟨H0, F0, A0, s, T, kx, k, w, xl, h, q⟩ => ?_
  refine ⟨H0, F0, A0, s, T, kx, _, w, xl, h, fun x s1 h1 u H1 w1 => ?_⟩
  obtain ⟨z0, rfl, hz, hk⟩ := h1
  cases str_at w1 List.mem_cons_self
  obtain ⟨F, A, w1⟩ := w1
  exact ⟨z0, rfl, hz, q _ _ hk _ H1 ⟨F, A, (w1.sub fun t h => List.mem_cons_of_mem _ h).push (.str _)⟩⟩
theorem st_ret (he : PET X e (tE X.K W we)) : PST X (.Return (some e) pos) (tS X.K W (wRet we)) := by
  refine pstImp (CwR.pst_ret he) fun D σ H ⟨H0, F0, A0, s, T, kx, k, w, xl, h, q1, q2, q3, q4⟩ => ?_
  exact ⟨H0, F0, A0, s, T, kx, _, w, xl, h, fun v s' h' u H' w' => q2 v s' h' u σ H' w'⟩
theorem sst_cons (h1 : PST X st (tS X.K W wa)) (h2 : PSsT X rest (tS X.K W wb)) : PSsT X (st :: rest) (tS X.K W (wSeq wa wb)) := by
  refine psstImp (psst_cons h1 h2) fun D σ H ⟨H0, F0, A0, s, T, kx, k, w, xl, h, q1, q2, q3, q4⟩ => ?_
  exact ⟨H0, F0, A0, s, T, kx, _, w, xl, h, fun s' h' σ' H' w' => ⟨H0, F0, A0, s', T, kx, k, w', xl, h', q1, q2, q3, q4⟩, q2, q3, q4⟩
theorem sst_one (h1 : PST X st (tS X.K W wa)) : PSsT X [st] (tS X.K W wa) := CwR.psst_one h1
theorem st_of (h1 : PS X st (tS X.K W wa)) : PST X st (tS X.K W wa) := PST.of h1
/-- a text is stored; behind it a token is out -/
theorem s_setStr {i : Nat} {x : Str} {pos' : Pos} (hN : X.N.Nodup) (hi : X.N[i]? = some x) (hx : Loc X.env.scope x) (h2 : PSsT X rest (tS X.K W wb))
    (hs : swapsWith (.Constant (.str c) j cp) (some (.Name x pos')) pos.line X.env = pure false := by rfl) (hf : X.fn x = true ∨ X.env.scope.names.lookup x = some .local := by first | exact .inl rfl | exact .inr rfl | assumption) :
    PSs X (.Assign [.Name x pos'] (.Constant (.str c) j cp) pos :: rest) (tS X.K W (wSeq (wAsg (wC (.str c)) i) wb)) := by
  refine PSs.imp (pss_str hN hi hx h2 hs hf) fun D σ H ⟨H0, F0, A0, s, T, kx, k, w, xl, h, q1, q2, q3, q4⟩ => ?_
  obtain ⟨F, A, w⟩ := w
  exact ⟨H0, F0, A0, _, T, kx, k, ⟨F, A, w.st (v := .d (.str c)) (Dq.str c)⟩, xl, h, q1, q2, q3, q4⟩
theorem pss_setU {i : Nat} {x : Str} {te : TE} {u : TS} {pos' : Pos} (hN : X.N.Nodup) (hi : X.N[i]? = some x) (hx : Loc X.env.scope x) (he : PEU X e te) (h2 : PSsT X rest u)
    (hs : swapsWith e (some (.Name x pos')) pos.line X.env = pure false := by rfl) (hf : X.fn x = true ∨ X.env.scope.names.lookup x = some .local := by first | exact .inl rfl | exact .inr rfl | assumption) :
    PSs X (.Assign [.Name x pos'] e pos :: rest) (tSeq (tAsg te (gName i)) u) := by
  refine ⟨fun pins s σ H D I h => ?_⟩
  refine wpAny_execs_cons (wpAny_Assign_Name (thn (he pins s σ H _ I h) fun v s1 ⟨hk, y, H1, I1, r1, q1⟩ => ?_) hs)
  refine wpAny_mono (PySem.wpAny_toks (store_ok (v := y) (u := v) (Q := fun _ s2 => Inv X pins (σ.set i (some y)) H1 s2) I1 hN hi hx r1 (fun _ I2 => I2) hf)) (fun _ s2 q => ?_) fun _ _ z => z.2
  have hk2 : s1.toks ≤ s2.toks := q.1
  exact h2 pins s2 _ H1 D (Nat.le_trans hk hk2) q.2 q1
theorem s_setU {i : Nat} {x : Str} {pos' : Pos} (hN : X.N.Nodup) (hi : X.N[i]? = some x) (hx : Loc X.env.scope x) (he : PEU X e (tE X.K W we)) (h2 : PSsT X rest (tS X.K W wb))
    (hs : swapsWith e (some (.Name x pos')) pos.line X.env = pure false := by rfl) (hf : X.fn x = true ∨ X.env.scope.names.lookup x = some .local := by first | exact .inl rfl | exact .inr rfl | assumption) :
    PSs X (.Assign [.Name x pos'] e pos :: rest) (tS X.K W (wSeq (wAsg we i) wb)) := by
  refine PSs.imp (pss_setU hN hi hx he h2 hs hf) fun D σ H ⟨H0, F0, A0, s, T, kx, k, w, xl, h, q1, q2, q3, q4⟩ => ?_
  refine ⟨H0, F0, A0, s, T, kx, _, w, xl, h, fun v s' h' u H' w' => ?_⟩
  obtain ⟨F, A, w'⟩ := w'
  exact ⟨H0, F0, A0, _, T, kx, k, ⟨F, A, (w'.sub fun t h => List.mem_cons_of_mem _ h).st (w'.tm _ List.mem_cons_self)⟩, xl, h', q1, q2, q3, q4⟩
/-- a method of a text with a written text: behind it a token is out -/
theorem eu_m1 {name : Str} {id : String} {r : V → List V → Hp → VK → Prop} {R : Str → PyData → (PyData → Prop) → Prop} {apos : Pos} (slot : Slot "str" name id) (hty : typeOf (.builtin id) = pure (.type "method_descriptor")) (hm : MtR X id r)
    (hR : ∀ (z : Str) (v : V) (b : PyData) (H : Hp) (Q : VK) (P : PyData → Prop), Dp X.K H v b → R z b P → (∀ y t, P y → toV y = some t → Q t H) → r (.str z) [v] H Q) (ho : PE X wo_e (tE X.K W wo))
    (hbase : attributeBase wo_e name X.env (eval wo_e X.env) = eval wo_e X.env := by rfl)
    (hfew : ((backTo pos (starEach [.Constant (.str c) j cp] X.env)).all (fun x => !x.1) && (backToKw pos (keywordEach [] X.env)).all (fun x => x.1.isSome)
      && decide ([Expr.Constant (.str c) j cp].length + ([] : List Keyword).length + (if ([] : List Keyword).isEmpty then 0 else 1) < 30)) = true := by rfl)
    (hline : (apos.endLine == pos.line) = true := by rfl) (hs : starEach [.Constant (.str c) j cp] X.env = [(false, eval (.Constant (.str c) j cp) X.env)] := by rfl) :
    PEU X (.Call (.Attribute wo_e name apos) [.Constant (.str c) j cp] [] pos) (tE X.K W (wM1 R wo (wC (.str c)))) := by
  intro pins s σ H Q I ⟨H0, F0, A0, s0, T, kx, k, w, xl, h, q⟩
  refine wpAny_Call_method_late hbase hfew hline rfl (thn (ho.run pins s σ H (fun v H1 => ∃ z, v = .str z ∧ r (.str z) [.str c] H1 Q) I ⟨H0, F0, A0, s0, T, kx, _, w, xl, h, fun x s1 h1 u H1 w1 => ?_⟩) fun v s1 ⟨x, H1, I1, r1, zz, e1, q1⟩ => ?_)
  · obtain ⟨z0, rfl, h1⟩ := h1
    cases str_at w1 List.mem_cons_self
    obtain ⟨b, hb, h2⟩ := h1
    cases hb
    obtain ⟨F, A, w1⟩ := w1
    exact ⟨z0, rfl, hR z0 (.str c) (.str c) H1 Q _ (.str c) h2 fun y t hy ht => q _ _ hy t H1 ⟨F, A, (w1.sub fun t h => List.mem_cons_of_mem _ h).push (toV_dp ht)⟩⟩
  subst e1
  obtain ⟨tx, e2⟩ := r1
  subst e2
  refine ⟨"str", _, PySem.F.plainAttrs_str, slot, hty, typeIs_str _ _ _, (fun _ e => nomatch e), ?_⟩
  rw [hs]
  refine Calls.callWith_builtin rfl (Calls.evalArgs_plain (Calls.spliced_cons (Calls.Constant_str (k := j) (pos := cp) (Calls.spliced_nil ?_))))
  refine wpAny_mono (PySem.wpAny_toks (hm pins { s1 with toks := s1.toks + 1 } σ H1 (.str zz) [.str c] (.str zz tx) [.str c s1.toks] Q (I1.tok _) ⟨tx, rfl⟩ (.cons ⟨_, rfl⟩ .nil) q1)) (fun v2 s2 q2 => ⟨?_, q2.2⟩) fun _ _ z => z.2
  have hk : s1.toks + 1 ≤ s2.toks := q2.1
  omega
theorem eu_find {apos : Pos} (ho : PE X wo_e (tE X.K W wo))
    (hbase : attributeBase wo_e "find" X.env (eval wo_e X.env) = eval wo_e X.env := by rfl)
    (hfew : ((backTo pos (starEach [.Constant (.str c) j cp] X.env)).all (fun x => !x.1) && (backToKw pos (keywordEach [] X.env)).all (fun x => x.1.isSome)
      && decide ([Expr.Constant (.str c) j cp].length + ([] : List Keyword).length + (if ([] : List Keyword).isEmpty then 0 else 1) < 30)) = true := by rfl)
    (hline : (apos.endLine == pos.line) = true := by rfl) (hs : starEach [.Constant (.str c) j cp] X.env = [(false, eval (.Constant (.str c) j cp) X.env)] := by rfl) :
    PEU X (.Call (.Attribute wo_e "find" apos) [.Constant (.str c) j cp] [] pos) (tE X.K W (wM1 rFindD wo (wC (.str c)))) :=
  eu_m1 PySem.F.slot_str_find PySem.F.type_str_find mt_find (fun z v b H Q P hb h q => by
    cases b <;> try exact h.elim
    cases dp_str hb
    exact ⟨_, _, rfl, rfl, q _ _ h rfl⟩) ho hbase hfew hline hs
end
theorem repl_strike (l : List Nat) (c : Nat) : Txt.replace (tx l) (tx [c]) (tx []) = tx (l.filter (· != c)) := TL.ext_tl (PyProof.Rows.replace_strikes (tx l) c)
end PW

namespace PW
open PySem L2 PySem.Spec PyProof.Rows
/-- a key by its data -/
def kD : PyData → Option Key
  | .int i => some (.inl i)
  | .str z => some (.inr z)
  | _ => none
theorem kD_dp {K : PySem.W.Frag} {H : Hp} {u : V} {x : PyData} {k : Key} (h : Dp K H u x) (e : kD x = some k) : u = kV k := by
  cases h <;> cases e <;> rfl
def putD (kvs : List (Key × PyData)) (k : Key) (v : PyData) : List (Key × PyData) :=
  if (kvs.any fun kv => decide (kv.1 = k)) = true then kvs.map (fun kv => if kv.1 = k then (kv.1, v) else kv) else kvs ++ [(k, v)]
theorem DqAll.kmap {K : PySem.W.Frag} {F : Hp} {k : Key} {v : V} {d : PyData} (hv : Dq K F v d) : ∀ {vs : List (Key × V)} {kvs : List (Key × PyData)}, vs.map (·.1) = kvs.map (·.1) → DqAll K F (vs.map (·.2)) (kvs.map (·.2)) →
    DqAll K F ((vs.map (fun kv => if kv.1 = k then (kv.1, v) else kv)).map (·.2)) ((kvs.map (fun kv => if kv.1 = k then (kv.1, d) else kv)).map (·.2))
  | [], [], _, _ => .nil
  | [], _ :: _, e, _ => by simp at e
  | _ :: _, [], e, _ => by simp at e
  | p :: vs, q :: kvs, e, h => by
    simp only [List.map_cons, List.cons.injEq] at e
    rw [List.map_cons, List.map_cons] at h
    cases h with
    | cons h t =>
      have ih := DqAll.kmap (k := k) hv e.2 t
      simp only [List.map_cons]
      refine .cons ?_ ih
      rw [← e.1]
      split
      · exact hv
      · exact h
theorem keys_kmap {α : Type} {k : Key} {v : α} : ∀ kvs : List (Key × α), (kvs.map (fun kv => if kv.1 = k then (kv.1, v) else kv)).map (·.1) = kvs.map (·.1)
  | [] => rfl
  | p :: r => by
    simp only [List.map_cons]
    rw [keys_kmap r]
    congr 1
    split <;> rfl
theorem any_keys {α : Type} (k : Key) : ∀ kvs : List (Key × α), (kvs.any fun kv => decide (kv.1 = k)) = (kvs.map (·.1)).any fun j => decide (j = k)
  | [] => rfl
  | p :: r => by rw [List.any_cons, any_keys k r]; rfl
theorem put_ok {K : PySem.W.Frag} {F : Hp} {k : Key} {v : V} {d : PyData} (hv : Dq K F v d) {vs : List (Key × V)} {kvs : List (Key × PyData)} (e : vs.map (·.1) = kvs.map (·.1)) (h : DqAll K F (vs.map (·.2)) (kvs.map (·.2))) :
    (putK vs k v).map (·.1) = (putD kvs k d).map (·.1) ∧ DqAll K F ((putK vs k v).map (·.2)) ((putD kvs k d).map (·.2)) := by
  have ea : (vs.any fun kv => decide (kv.1 = k)) = (kvs.any fun kv => decide (kv.1 = k)) := by rw [any_keys, any_keys, e]
  unfold putK putD
  rw [ea]
  split
  · exact ⟨by rw [keys_kmap, keys_kmap, e], h.kmap hv e⟩
  · rw [List.map_append, List.map_append, List.map_append, List.map_append, e]
    exact ⟨rfl, h.app (.cons hv .nil)⟩
theorem own_atD {K : PySem.W.Frag} {H0 F0 : Hp} {A0 : List Addr} {s : PSt} {σ : L2.St} {T : List (PV × V)} {H F : Hp} {A : List Addr} {u : V} {n : Nat} {kvs : List (Key × PyData)} (w : WdF K H0 F0 A0 s σ T H F A) (h : (PV.own n, u) ∈ T) (ho : s.o[n]? = some (.di kvs)) :
    ∃ p vs, A[n]? = some p ∧ u = .ref p ∧ F p = none ∧ H p = some (.dK vs) ∧ vs.map (·.1) = kvs.map (·.1) ∧ DqAll K F (vs.map (·.2)) (kvs.map (·.2)) := by
  obtain ⟨p, hp, e⟩ := w.tm _ h
  obtain ⟨f, vs, h1, h2, h3⟩ := w.oc n p _ hp ho
  exact ⟨p, vs, hp, e, f, h1, h2, h3⟩
def wDict0 : EW := fun _ s k => k (.own s.o.length) ⟨s.r, s.o ++ [.di []]⟩
/-- {k: v} -/
def wDict1 (wk wv : EW) : EW := fun kx s k => wk kx ⟨s.r, s.o ++ [.di []]⟩ fun x s1 => wv kx s1 fun y s2 => frz y s2 fun d s3 => ∃ a kk, x = .d a ∧ kD a = some kk ∧ s3.o[s.o.length]? = some (.di []) ∧ k (.own s.o.length) ⟨s3.r, s3.o.set s.o.length (.di [(kk, d)])⟩
/-- d[k] = v -/
def wSetK (wv wo wi : EW) : SW := fun kx s k => wv kx s fun v s1 => wo kx s1 fun x s2 => wi kx s2 fun y s3 => frz v s3 fun d s4 => ∃ n kvs a kk, x = .own n ∧ y = .d a ∧ s4.o[n]? = some (.di kvs) ∧ kD a = some kk ∧ kvs.length < sizeLine ∧ k.nx ⟨s4.r, s4.o.set n (.di (putD kvs kk d))⟩
/-- sorted(d), its keys whole numbers -/
def wSortedD (wd : EW) : EW := fun kx s k => wd kx s fun x s1 => ∃ n kvs ks, x = .own n ∧ s1.o[n]? = some (.di kvs) ∧ kvs.map (·.1) = ks.map Sum.inl ∧ ∀ ys : List Int, ys.Perm ks → ys.Pairwise (· ≤ ·) → k (.own s1.o.length) ⟨s1.r, s1.o ++ [.dl (ys.map PyData.int)]⟩
section
variable {X : Cx} {W : WX} {a b e o i : Expr} {wa wb we wo wi wv : EW} {pos p p2 : Pos}
theorem e_dict0 : PE X (.Dict [] [] pos) (tE X.K W wDict0) := by
  refine PE.imp pe_dnewK fun σ H Q ⟨H0, F0, A0, s, T, kx, k, w, xl, h, q⟩ => fun p hp => ?_
  obtain ⟨F, A, w⟩ := w
  have w2 := w.newO (c := .di []) hp fun fp => ⟨fp, [], upd_same, rfl, .nil⟩
  refine q _ _ h _ _ ⟨F, _, w2.push ⟨p, ?_, rfl⟩⟩
  rw [← w.len, List.getElem?_append_right (Nat.le_refl _), Nat.sub_self]
  rfl
theorem e_dict1 (hk : PE X a (tE X.K W wa)) (hv : PE X b (tE X.K W wb)) : PE X (.Dict [some a] [b] pos) (tE X.K W (wDict1 wa wb)) := by
  refine PE.imp (pe_disp (pps_cons hk hv pps_nil) rfl rfl (by simp) (by simp)) fun σ H Q ⟨H0, F0, A0, s, T, kx, k, w, xl, h, q⟩ => fun p hp => ?_
  obtain ⟨F, A, w⟩ := w
  have w2 := w.newO (c := .di []) hp fun fp => ⟨fp, [], upd_same, rfl, .nil⟩
  have w3 : WdF X.K H0 F0 A0 ⟨s.r, s.o ++ [.di []]⟩ σ ((.own s.o.length, .ref p) :: T) (upd H p (.dK [])) F (A ++ [p]) := w2.push ⟨p, by
    rw [← w.len, List.getElem?_append_right (Nat.le_refl _), Nat.sub_self]
    rfl, rfl⟩
  refine ⟨H0, F0, A0, _, _, kx, _, ⟨F, _, w3⟩, xl.push, h, fun x s1 h1 u H1 w4 => ?_⟩
  refine ⟨H0, F0, A0, s1, _, kx, _, w4, xl.push.push, h1, fun y s2 h2 u2 H2 w5 => ?_⟩
  obtain ⟨d, s3, h3, w6⟩ := frz_ok w5 h2
  obtain ⟨y0, kk, rfl, hkk, ho, hq⟩ := h3
  obtain ⟨F6, A6, w6⟩ := w6
  obtain ⟨p', vs, hp', e', f', hH, hks, hds⟩ := own_atD w6 (List.mem_cons_of_mem _ (List.mem_cons_of_mem _ List.mem_cons_self)) ho
  cases e'
  cases vs with
  | cons z r => simp at hks
  | nil =>
  have du : Dq X.K F6 u y0 := w6.tm (.d y0, u) (List.mem_cons_of_mem _ List.mem_cons_self)
  have dv : Dq X.K F6 u2 d := w6.tm (.d d, u2) List.mem_cons_self
  cases kD_dp (dq_dp du) hkk
  refine ⟨hH, [(kk, u2)], rfl, by simp, ?_⟩
  have em : mergeK [] [(kk, u2)] = [(kk, u2)] := rfl
  rw [em]
  have w7 := (w6.sub (T' := (.own s.o.length, .ref p) :: T) fun t h => List.mem_cons_of_mem _ (List.mem_cons_of_mem _ h)).wrO (o := .dK [(kk, u2)]) (c := .di [(kk, d)]) hp' f' (List.getElem?_eq_some_iff.mp ho).1 ⟨f', [(kk, u2)], upd_same, rfl, .cons dv .nil⟩
  exact q _ _ hq _ _ ⟨F6, _, w7⟩
theorem s_setK (hu : X.A.units + 64 < cLine) (he : PE X e (tE X.K W wv)) (ho : PE X o (tE X.K W wo)) (hi : PE X i (tE X.K W wi)) (hs : swapsWith e (some (.Subscript o i p2)) pos.line X.env = pure false := by rfl) :
    PS X (.Assign [.Subscript o i p2] e pos) (tS X.K W (wSetK wv wo wi)) := by
  refine PS.imp (ps_dput (by omega) ho hi he hs) fun D σ H ⟨H0, F0, A0, s, T, kx, k, w, xl, h, q1, q2, q3, q4⟩ => ?_
  refine ⟨H0, F0, A0, s, T, kx, _, w, xl, h, fun v s1 h1 u H1 w1 => ?_⟩
  refine ⟨H0, F0, A0, s1, _, kx, _, w1, xl.push, h1, fun x s2 h2 ux H2 w2 => ?_⟩
  refine ⟨H0, F0, A0, s2, _, kx, _, w2, xl.push.push, h2, fun y s3 h3 uy H3 w3 => ?_⟩
  obtain ⟨d, s4, h4, w4⟩ := frz_ok (T := (y, uy) :: (x, ux) :: T) (w3.sub fun t ht => by
    rcases List.mem_cons.mp ht with e | ht
    · rw [e]; exact List.mem_cons_of_mem _ (List.mem_cons_of_mem _ List.mem_cons_self)
    · rcases List.mem_cons.mp ht with e | ht
      · rw [e]; exact List.mem_cons_self
      · rcases List.mem_cons.mp ht with e | ht
        · rw [e]; exact List.mem_cons_of_mem _ List.mem_cons_self
        · exact List.mem_cons_of_mem _ (List.mem_cons_of_mem _ (List.mem_cons_of_mem _ ht))) h3
  obtain ⟨n, kvs, y0, kk, rfl, rfl, ox, hkk, hz, hk⟩ := h4
  obtain ⟨F, A, w4⟩ := w4
  obtain ⟨p, vs, hp, rfl, fp, hv, hks, hds⟩ := own_atD w4 (List.mem_cons_of_mem _ (List.mem_cons_of_mem _ List.mem_cons_self)) ox
  have dv : Dq X.K F u d := w4.tm (.d d, u) List.mem_cons_self
  have dy : Dq X.K F uy y0 := w4.tm (.d y0, uy) (List.mem_cons_of_mem _ List.mem_cons_self)
  cases kD_dp (dq_dp dy) hkk
  have hl : vs.length = kvs.length := by
    have := congrArg List.length hks
    rw [List.length_map, List.length_map] at this
    exact this
  obtain ⟨e1, e2⟩ := put_ok (k := kk) dv hks hds
  exact ⟨p, _, rfl, DPut.k hv (by rw [hl]; exact hz), q1 _ hk σ _ ⟨F, A, (w4.sub (T' := T) fun t h => List.mem_cons_of_mem _ (List.mem_cons_of_mem _ (List.mem_cons_of_mem _ h))).wrO (c := .di (putD kvs kk d)) hp fp (List.getElem?_eq_some_iff.mp ox).1 ⟨fp, _, upd_same, e1, e2⟩⟩⟩
end
end PW

namespace PW
open PySem L2 PySem.Spec PyProof.Rows
/-- sorted(d) of a dict, all its keys ints, any number of them -/
theorem cr_sortedDn {X : Cx} (hcalm : X.calm = true) : CallR X (.builtin "sorted") (fun xs H Q => ∃ (a : Addr) (kvs : List (Key × V)) (ks : List Int), xs = [.ref a] ∧ Rd H a (.dK kvs) ∧ kvs.map (·.1) = ks.map Sum.inl ∧
    ∀ (ys : List Int) (p : Addr), ys.Perm ks → ys.Pairwise (· ≤ ·) → H p = none → Q (.ref p) (upd H p (.lst (ys.map V.int)))) := by
  intro pins s σ H xs us Q I r q
  obtain ⟨a, kvs, ks, ex, hd, hks, q⟩ := q
  subst ex
  obtain ⟨u, eu, rx⟩ := vals1 r
  subst eu
  cases rx
  obtain ⟨z, lo, vs, rel, dd⟩ := dk_rd I.hok hd
  obtain ⟨ep, hat⟩ := dd.dictAt
  have hkeys : vs.map (·.1) = ks.map Sum.inl := rel.keys.symm.trans hks
  have hl : vs.length = ks.length := by
    have e := congrArg List.length hkeys
    rw [List.length_map, List.length_map] at e
    exact e
  have h16 : vs.length ≤ sizeLine := by rw [← rel.length]; exact z
  refine Calls.call_function_entry PyProof.Rows.kind_sorted PyProof.Rows.plain_sorted PyProof.Rows.entry_sorted (PyProof.Rows.args_sorted1 _) ?_
  unfold Builtin.«sorted»
  refine wpAny_bind (m := checkCount "sorted" 1 1 _) (wpAny_pure ?_)
  refine wpAny_bind (PySem.W.kdu_collect (A := X.A.in1) (PySem.W.kdl_dict (knd := mixKind X.prog X.w) (kvs := vs) (ep := ep) lo) (I.ok.hd hcalm) hat h16 fun h' tk acc hk hacc => ?_)
  have hal : acc.toList.length = ks.length := by rw [Array.length_toList, hacc.1, hl]
  have hS : IntsAre acc.toList ks := ints_each hal fun j v e => by
    obtain ⟨k, x, e1, e2⟩ := hacc.2 j v (by rw [← Array.getElem?_toList]; exact e)
    have e3 : (vs.map (·.1))[j]? = some k := by rw [List.getElem?_map, e1]; rfl
    rw [hkeys, List.getElem?_map] at e3
    cases e4 : ks[j]? with
    | none => rw [e4] at e3; cases e3
    | some y =>
      rw [e4] at e3
      have e5 : Sum.inl y = k := Option.some.inj e3
      subst e5
      rcases keyIs_shape (show keyIs (Sum.inl y) v = true from e2) with ⟨i, t, ek, ev⟩ | ⟨z, t, ek, ev⟩
      · cases ek
        exact ⟨y, t, rfl, ev⟩
      · cases ek
  have I1 : Inv X pins σ H { s with heap := h', toks := tk } := I.kept hk
  have hz : acc.toList.length ≤ sizeLine := by rw [hal, ← hl]; exact h16
  refine wpAny_bind (wpAny_newList ?_ hz)
  have hoL : (h'.push (seqObj "list" acc.toList.toArray 0)).get? h'.objs.size = some (seqObj "list" acc.toList.toArray 0) := Heap.get?_push_size _ rfl
  show wpAny _ _ _ _ _ { s with heap := h'.push (seqObj "list" acc.toList.toArray 0), toks := tk }
  refine wpAny_bind (wpAny_holding (wpAny_call_entry PyProof.Rows.slot_list_sort ⟨_, hoL, rfl⟩ PyProof.Rows.entry_list_sort
    (SrtO.list_sort_ord (s := { s with heap := h'.push (seqObj "list" acc.toList.toArray 0), toks := tk }) SrtO.swo_int hoL hz (fun h2 => SrtO.ints_sortable hS h2) fun out h1 h2 => ⟨.none, rfl, ?_⟩) (PyProof.Rows.args_list_sort _)))
  obtain ⟨k1, k2, k3⟩ := SrtO.ints_out hS h1 h2
  obtain ⟨e', he'⟩ := PyProof.Rows.sortedHeap_at (vs := acc.toList) (out := out.toArray) hoL
  have hlen : ((out.map SrtO.iv).map V.int).length ≤ sizeLine := by
    rw [List.length_map, k2.length_eq, ← hal]
    exact hz
  refine wpAny_pure ⟨_, rfl, .ref h'.objs.size, upd H h'.objs.size (.lst ((out.map SrtO.iv).map V.int)), I1.laid (t' := tk) (fun b u e => ?_) (Nat.le_refl _)
    (show ObjOk X.prog X.w _ _ _ (.lst ((out.map SrtO.iv).map V.int)) from ⟨hlen, out, e', vals_of_ints k1, he'⟩), rfl, q _ _ k2 k3 (I1.hok.fresh (Nat.le_refl _))⟩
  have hb : b < h'.objs.size := Heap.lt_size e
  rw [PyProof.Rows.sortedHeap_old (Nat.ne_of_lt hb) (by rw [size_push']; exact Nat.lt_succ_of_lt hb)]
  exact Heap.get?_push_of_some _ e
section
variable {X : Cx} {W : WX} {a : Expr} {wa : EW} {pos p : Pos}
theorem e_sortedD (hc : X.calm = true) (hm : X.mg "sorted" = none) (ha : PE X a (tE X.K W wa)) (hg : Gl X "sorted" := by rfl) (he : starEach [a] X.env = (false, eval a X.env) :: starEach [] X.env := by rfl) (hpl : (backTo pos (starEach [] X.env)).any (·.1) = false := by rfl) :
    PE X (.Call (.Name "sorted" p) [a] [] pos) (tE X.K W (wSortedD wa)) := by
  refine PE.imp (pe_callB (cr_sortedDn hc) hg hm (by decide +kernel) (pa_cons ha pa_nil he) (he := he) (hpl := hpl)) fun σ H Q ⟨H0, F0, A0, s, T, kx, k, w, xl, h, q⟩ => cb1_of w xl h fun x s1 u H1 h1 w1 => ?_
  obtain ⟨n, kvs, ks, rfl, ox, hks, hk⟩ := h1
  obtain ⟨F, A, w1⟩ := w1
  have w2 := w1.sub (T' := T) fun t h => List.mem_cons_of_mem _ h
  obtain ⟨pp, vs, hp, rfl, fp, hv, hks2, hds⟩ := own_atD w1 List.mem_cons_self ox
  refine ⟨pp, vs, ks, rfl, .inl hv, hks2.trans hks, fun ys q1 h1 h2 hn => q _ _ (hk ys h1 h2) _ _ ⟨F, _, (w2.newL hn (ints_dq ys)).push (top_at w2 q1 F)⟩⟩
end
end PW

namespace PW
open PySem L2 PySem.Spec PyProof.Rows
/-- a text so many times -/
def repS (z : Str) (n : Nat) : Str := ⟨(List.replicate n z.cps.toList).flatten.toArray⟩
theorem repS_tx (l : List Nat) (n : Nat) : repS (tx l) n = tx (List.replicate n l).flatten := rfl
theorem foldl_repN (l : List Nat) : ∀ (k : Nat) (acc : List Nat), List.foldl (fun x1 x2 => x1 ++ x2) acc.toArray (List.replicate k l.toArray) = (acc ++ (List.replicate k l).flatten).toArray
  | 0, acc => by simp
  | k + 1, acc => by
    rw [List.replicate_succ, List.foldl_cons, List.replicate_succ, List.flatten_cons]
    have e : acc.toArray ++ l.toArray = (acc ++ l).toArray := by simp
    rw [e, foldl_repN l k, List.append_assoc]
theorem repS_fold (x : Str) (n : Nat) : (⟨(List.replicate n x.cps).foldl (· ++ ·) #[]⟩ : Str) = repS x n := by
  have h := foldl_repN x.cps.toList n []
  rw [List.nil_append] at h
  unfold repS
  rw [← h]
theorem op_repS {X : Cx} : OpR X (binaryOp .Mult) (fun x y H Q => ∃ z n, x = .str z ∧ y = .int n ∧ -(2 ^ 63) ≤ n ∧ n < 2 ^ 63 ∧ z.length * n.toNat ≤ sizeLine ∧ Q (.str (repS z n.toNat)) H) := by
  intro pins s σ H x y v u Q I rx ry h
  obtain ⟨z, n, rfl, rfl, h1, h2, hz, q⟩ := h
  obtain ⟨t, rfl⟩ := rx
  obtain ⟨t', rfl⟩ := ry
  have h16 : (sizeLine : Nat) = 16777216 := rfl
  refine P.mul_str ?_ (fun hn _ => ?_) (fun hn _ => ?_) ?_
  · rw [decide_eq_false (by omega), decide_eq_false (by omega)]; rfl
  · have hn1 : 1 ≤ n := by omega
    have e : ((z.length * n.toNat : Nat) : Int) = (z.length : Int) * n := by rw [Int.natCast_mul, Int.toNat_of_nonneg (by omega)]
    have h3 : (z.length : Int) * n ≤ 2 ^ 63 - 1 := by rw [← e]; omega
    have h4 := Int.le_ediv_of_mul_le (by omega : 0 < n) h3
    omega
  · exact decide_eq_false (by omega)
  · by_cases hn : n < 1
    · rw [if_pos hn]
      have e0 : repS z n.toNat = Str.empty := by
        have : n.toNat = 0 := by omega
        rw [this]; rfl
      rw [e0] at q
      exact ⟨by decide, .str Str.empty, H, I.tok _, ⟨_, rfl⟩, q⟩
    · rw [if_neg hn]
      by_cases h1' : (n == 1 || z.length == 0) = true
      · rw [if_pos h1']
        have e1 : repS z n.toNat = z := by
          rw [Bool.or_eq_true, beq_iff_eq, beq_iff_eq] at h1'
          rcases h1' with h | h
          · subst h
            show (⟨(List.replicate 1 z.cps.toList).flatten.toArray⟩ : Str) = z
            simp
          · have ez : z.cps.toList = [] := by
              apply List.eq_nil_of_length_eq_zero
              rw [Array.length_toList]; exact h
            refine TL.ext_tl ?_
            show (List.replicate n.toNat z.cps.toList).flatten = z.cps.toList
            rw [ez]
            simp
        rw [e1] at q
        exact ⟨.str z, H, I, ⟨_, rfl⟩, q⟩
      · rw [if_neg h1', repS_fold]
        have hl : (repS z n.toNat).length = n.toNat * z.length := by
          show ((List.replicate n.toNat z.cps.toList).flatten.toArray).size = _
          rw [List.size_toArray, List.length_flatten]
          simp [Str.length]
        refine ⟨?_, .str _, H, I.tok _, ⟨_, rfl⟩, q⟩
        rw [hl, Nat.mul_comm]
        exact hz
def rRepSD : PyData → PyData → (PyData → Prop) → Prop := fun a b q => match a, b with
  | .str z, .int n => (-(2 ^ 63) ≤ n ∧ n < 2 ^ 63) ∧ z.length * n.toNat ≤ sizeLine ∧ q (.str (repS z n.toNat))
  | _, _ => False
abbrev wRepS := wOp rRepSD
theorem ok_repS {K : PySem.W.Frag} : ROk K (fun x y H Q => ∃ z n, x = .str z ∧ y = .int n ∧ -(2 ^ 63) ≤ n ∧ n < 2 ^ 63 ∧ z.length * n.toNat ≤ sizeLine ∧ Q (.str (repS z n.toNat)) H) rRepSD := by
  intro u v x y H Q P hx hy h q
  cases x <;> cases y <;> try exact h.elim
  cases dp_str hx; cases dp_int hy
  obtain ⟨⟨h1, h2⟩, h3, h4⟩ := h
  exact ⟨_, _, rfl, rfl, h1, h2, h3, q _ _ h4 rfl⟩
theorem e_repS {X : Cx} {W : WX} {a b : Expr} {wa wb : EW} {pos : Pos} (ha : PE X a (tE X.K W wa)) (hb : PE X b (tE X.K W wb)) : PE X (.BinOp a .Mult b pos) (tE X.K W (wRepS wa wb)) := e_op op_repS ok_repS ha hb
end PW

namespace PW
open PySem PySem.Spec PyProof.Rows L2
/-! ### exceptions as values: what was caught is tracked by its own object -/
/-- the object at a is oe, for good -/
abbrev excO (a : Addr) (oe : Obj) : HO := .ext fun h => h.get? a = some oe
section
variable {X : Cx} {pins : List (Addr × Obj)} {σ : L2.St} {H : Hp} {s : Shared}
/-- an object that is new since the def began, and not tracked, is tracked from now on -/
theorem inv_track {a : Addr} {oe : Obj} (I : Inv X pins σ H s) (h0 : X.s_0.heap.get? a = none) (hg : s.heap.get? a = some oe) (ha : H a = none) (hl : a ≠ X.env.locals) (hc : ∀ v, oe.data ≠ .cell v) (hp : ∀ p ∈ X.pn ++ pins, p.1 ≠ a) :
    Inv X pins σ (upd H a (excO a oe)) s := by
  have ne0 : ∀ {b o}, X.s_0.heap.get? b = some o → b ≠ a := fun {b o} e z => by
    rw [z, h0] at e
    cases e
  have neH : ∀ {b o}, H b = some o → b ≠ a := fun {b o} e z => by
    rw [z, ha] at e
    cases e
  refine { I with
    base := ⟨I.base.keep, I.base.slot, fun b o e n x => (upd_ne (ne0 e)).trans (I.base.free b o e n x), I.base.there, fun b xs e => ?_, fun b o u e => ?_, fun b ps e => ?_⟩
    free := (upd_ne fun z => hl z.symm).trans I.free
    freeC := fun x c e => ?_
    pin := fun p m => ?_
    hok := fun b o e => ?_ }
  · have q := I.base.tups b xs e
    exact (upd_ne (neH q)).trans q
  · have q := I.base.frzs b o u e
    exact (upd_ne (neH q)).trans q
  · obtain ⟨more, q⟩ := I.base.tbls b ps e
    exact ⟨more, (upd_ne (neH q)).trans q⟩
  · have nc : c ≠ a := fun z => by
      obtain ⟨v, o, e1, e2⟩ := I.cell x c e
      rw [z, hg] at e1
      cases e1
      exact hc _ e2
    exact (upd_ne nc).trans (I.freeC x c e)
  · obtain ⟨e1, e2, e3⟩ := I.pin p m
    exact ⟨e1, (upd_ne (hp p m)).trans e2, e3⟩
  · by_cases hb : b = a
    · rw [hb, upd_same] at e
      cases e
      rw [hb]
      exact ⟨hg, ⟨oe, hg⟩, fun _ _ e k => k oe e⟩
    · rw [upd_ne hb] at e
      exact (I.hok b o e).stay (fun _ _ _ q => q) (fun c q => (upd_ne (neH q)).trans q) fun c xs q => (upd_ne (neH q)).trans q
/-- into an except suite .. -/
theorem inv_in {a : Addr} (I : Inv X pins σ H s) : Inv (X.suite a (X.pn ++ pins)) [] σ H s :=
  ⟨I.ok.suite _ _, I.os, I.bare, I.base, I.loc, I.cell, I.free, I.freeC, fun p hp => I.pin p (by rw [List.append_nil] at hp; exact hp), I.hok, I.len⟩
/-- .. and out of it -/
theorem inv_out {a : Addr} {pn' : List (Addr × Obj)} (I : Inv (X.suite a (X.pn ++ pins)) pn' σ H s) (ok : X.Ok) : Inv X pins σ H s :=
  ⟨ok, I.os, I.bare, I.base, I.loc, I.cell, I.free, I.freeC, fun p hp => I.pin p (List.mem_append_left _ hp), I.hok, I.len⟩
end
def stI (oi : Option Nat) (v : Option V) (σ : L2.St) : L2.St := match oi with
  | none => σ
  | some i => σ.set i v
def endsI (oi : Option Nat) (D : Ends) : Ends := { nx := fun σ H => D.nx (stI oi none σ) H, rt := D.rt, bk := fun σ H => D.bk (stI oi none σ) H, ct := fun σ H => D.ct (stI oi none σ) H }
/-- what the clauses wish of an exception of the body -/
def wishes (K : PySem.W.Frag) (Wout : WX) (D : Ends) : List (Value × Option Nat × TS) → WX
  | [] => Wout
  | (c, oi, ts) :: r => fun cls d σ H => ∃ b, PySem.W.exmOne K cls c = some b ∧ (b = true → ∀ a oe, H a = none → Zc cls d oe → (∃ vs, oe.data = .fields vs) → ts (endsI oi D) (stI oi (some (.ref a)) σ) (upd H a (excO a oe))) ∧ (b = false → wishes K Wout D r cls d σ H)
/-- the clauses and their suites -/
inductive Clauses (X : Cx) : List ExceptHandler → List (Value × Option Nat × TS) → Prop
  | nil : Clauses X [] []
  | only {x : Str} {c : Value} {ts : TS} {b₀ : Stmt} {suite : List Stmt} {np pos' : Pos} {hds : List ExceptHandler} {l : List (Value × Option Nat × TS)} (hc : Names X x c)
      (hsu : ∀ (a : Addr) (pn : List (Addr × Obj)), PSs (X.suite a pn) (b₀ :: suite) ts) (r : Clauses X hds l) : Clauses X (.ExceptHandler (some (.Name x np)) none (b₀ :: suite) pos' :: hds) ((c, none, ts) :: l)
  | as {x n : Str} {c : Value} {i : Nat} {ts : TS} {b₀ : Stmt} {suite : List Stmt} {np pos' : Pos} {hds : List ExceptHandler} {l : List (Value × Option Nat × TS)} (hc : Names X x c) (hN : X.N.Nodup) (hi : X.N[i]? = some n) (hln : X.env.kindOf n = some .local)
      (hsu : ∀ (a : Addr) (pn : List (Addr × Obj)), PSs (X.suite a pn) (b₀ :: suite) ts) (r : Clauses X hds l) : Clauses X (.ExceptHandler (some (.Name x np)) (some n) (b₀ :: suite) pos' :: hds) ((c, some i, ts) :: l)
section
variable {X : Cx} {body : List Stmt} {hd0 : ExceptHandler} {hds : List ExceptHandler} {l : List (Value × Option Nat × TS)} {pos : Pos} {tb : WX → TS} {Wout : WX}
theorem ps_tryT (hst : X.stack = X.env :: X.outer) (hfr : X.env.frame = some X.env.locals) (hex : X.ex = []) (tk : Takes X Wout)
    (hbody : ∀ (W' : WX) (pn : List (Addr × Obj)) (xe : Value → Shared → Prop), Takes (X.tr pn xe) W' → PassesOwn (model X.prog X.w) X.A X.env xe → PSs (X.tr pn xe) body (tb W'))
    (hcl : Clauses X (hd0 :: hds) l) : PS X (.Try body (hd0 :: hds) [] [] pos) (fun D σ H => tb (wishes X.K Wout D l) D σ H) := by
  refine ⟨fun pins s σ H D I hq => ?_⟩
  have okX := I.ok
  have frA : X.A.frames = some (X.env :: X.outer) := okX.frames.trans (congrArg some hst)
  refine wpAny_Try_except ?_
  have run0 := (hbody (wishes X.K Wout D l) (X.pn ++ pins) (fun e s₁ => wpAny (model X.prog X.w) X.A (noteFrame e X.env) (fun _ s₂ => wpAny (model X.prog X.w) X.A (setFlight e none)
    (fun _ s₃ => wpAny (model X.prog X.w) X.A (handleBy e X.env (hd0 :: hds)) (SP X pins D) X.xe s₃) X.xe s₂) X.xe s₁) (fun u t xx => ?_) PassesOwn.looking).run [] s σ H D (I.toTry _) hq
  · refine wpAny_mono run0 (fun fl t hsp => ?_) (fun _ _ z => z)
    cases fl with
    | next =>
      obtain ⟨σ1, H1, I1, q⟩ := hsp
      exact wpAny_execs_nil ⟨σ1, H1, I1.ofTry okX, q⟩
    | ret u =>
      obtain ⟨v, σ1, H1, I1, rv, q⟩ := hsp
      exact ⟨v, σ1, H1, I1.ofTry okX, rv, q⟩
    | brk =>
      obtain ⟨σ1, H1, I1, q⟩ := hsp
      exact ⟨σ1, H1, I1.ofTry okX, q⟩
    | cont =>
      obtain ⟨σ1, H1, I1, q⟩ := hsp
      exact ⟨σ1, H1, I1.ofTry okX, q⟩
  · obtain ⟨a, B, sI, pins1, σ1, H1, cls, d, rfl, I1, below, upS, skyB, aNone, sameOs, bareG, wish⟩ := xx
    have IX : Inv X pins σ1 H1 sI := I1.ofTry okX
    have skyX : Sky B (X.env :: X.outer) a (Zc cls d) X.env.locals t.heap := hst ▸ skyB
    show wpAny (model X.prog X.w) X.A (noteFrame (.ref a) X.env) _ _ _
    refine Sky.land Zc.steady frA hfr skyX fun g3 fly3 up3 => ?_
    have I3 : Inv X pins σ1 H1 { t with heap := g3 } := IX.landed below fly3.1 (upS.trans up3) sameOs bareG
    obtain ⟨ob3, arr3, get3, zc3, dat3⟩ := fly3.there
    have offF : ∀ {g : Heap} {ob : Obj} {arr : Array Value}, g.FunFrames B (X.env :: X.outer) → g.get? a = some ob → ob.data = .fields arr → a ∉ frs (X.env :: X.outer) := fun {g ob arr} ff e dd hm => by
      obtain ⟨_, ob', e', nofld⟩ := ff.mem hm
      rw [e] at e'
      cases e'
      exact nofld _ dd
    have aOff := offF fly3.2.2.1 get3 dat3
    have aLoc : a ≠ X.env.locals := fun z => aOff (List.mem_filterMap.mpr ⟨X.env, List.mem_cons_self, by rw [hfr, z]⟩)
    have apart : ∀ {b o}, sI.heap.get? b = some o → b ∉ frs X.stack → b ≠ a := fun {b o} e hb z => by
      have q := below b o e hb
      rw [z, fly3.2.1] at q
      cases q
    have new0 : X.s_0.heap.get? a = none := by
      cases e : X.s_0.heap.get? a with
      | none => rfl
      | some o =>
        obtain ⟨o', e'⟩ := IX.base.there a o e (by rw [hex]; exact fun z => nomatch z)
        exact absurd rfl (apart e' (by rw [hst]; exact aOff))
    have pinsOff : ∀ p ∈ X.pn ++ pins, p.1 ≠ a := fun p hp => by
      obtain ⟨e1, _, e3, e4, _⟩ := IX.pin p hp
      refine apart e1 fun hm => ?_
      rw [hst] at hm
      obtain ⟨env, he, q⟩ := List.mem_filterMap.mp hm
      rcases List.mem_cons.mp he with z | z
      · rw [z, hfr] at q
        exact e3 (Option.some.inj q).symm
      · exact e4 (List.mem_filterMap.mpr ⟨env, z, q⟩)
    -- the state of a suite
    have inSuite : ∀ {g : Heap} {ob : Obj} {arr : Array Value}, HandSPX.FlyingZ B (X.env :: X.outer) a (Zc cls d) g → t.heap.UpToSlots g → g.get? a = some ob → ob.data = .fields arr → Inv X pins σ1 (upd H1 a (excO a ob)) { t with heap := g } :=
      fun {g ob arr} fl up e dd => inv_track (IX.landed below fl.1 (upS.trans up) sameOs bareG) new0 e aNone aLoc (fun v z => by rw [dd] at z; cases z) pinsOff
    have S3 := inv_in (a := a) I3
    have go : ∀ {hs : List ExceptHandler} {ws : List (Value × Option Nat × TS)}, Clauses X hs ws → wishes X.K Wout D ws cls d σ1 H1 → wpAny (model X.prog X.w) X.A (handleBy (.ref a) X.env hs) (SP X pins D) X.xe { t with heap := g3 } := by
      intro hs ws hk
      have looksT : PySem.W.Looks (model X.prog X.w) g3 (typeOf (.ref a)) cls := fun _ _ _ _ k q => wpAny_typeOf_ref (k _ _ get3) (by rw [zc3.1]; exact q)
      have test : ∀ {x : Str} {c : Value} {np : Pos} {Q : Value → Shared → Prop} {E : Value → Shared → Prop}, Names X x c → Q c { t with heap := g3 } → wpAny (model X.prog X.w) (X.A.mark (some (.ref a))) (eval (.Name x np) X.env) Q E { t with heap := g3 } := fun {x c np Q E} hc q => by
        obtain ⟨hg, hdbg, hm | ⟨hm, hv, hnn⟩⟩ := hc
        · exact ld_glob (X := X.suite a (X.pn ++ pins)) S3 hg hm q hdbg
        · exact ld_blt (X := X.suite a (X.pn ++ pins)) S3 hg hm hv q hnn hdbg
      induction hk with
      | nil =>
        intro wq
        refine wpAny_handleBy_nil ?_
        obtain ⟨q1, q2, q3, ob, arr, tb0, obT, arrT, e1, e2, e3, e4, e5⟩ := id fly3
        unfold PySem.passOn
        refine wpAny_bind (wpAny_field e1 e3 e4 ?_)
        rw [if_neg (show ¬ ((Value.ref tb0 == Value.none) = true) from by simp)]
        have last : wpAny (model X.prog X.w) X.A (setFlight (.ref a) X.env.frame) (fun _ s4 => wpAny (model X.prog X.w) X.A (throw (.ref a) : Sem Flow) (SP X pins D) X.xe s4) X.xe { t with heap := g3 } := by
          rw [hfr]
          refine HandSPX.setFlight_upZ fly3 fun g4 held4 up4 => wpAny_throw (tk _ _ ?_)
          exact ⟨a, B, sI, pins, σ1, H1, cls, d, rfl, IX, below, (upS.trans up3).trans up4, .inr (.inr (by rw [hst]; exact held4)), aNone, sameOs, bareG, wq⟩
        first
          | exact wpAny_bind (wpAny_pure (wpAny_bind last))
          | exact wpAny_bind last
      | @only x c ts b₀ suite np pos' hds2 l2 hc hsu r ih =>
        intro wq
        obtain ⟨b, hb1, yes, no⟩ := wq
        refine wpAny_handleBy_cons (codeAny_handlers_test ?_) (fun z => nomatch z)
        refine test hc ((PySem.W.exm_one (M := model X.prog X.w) I3.kIn looksT hb1).here ?_)
        cases b with
        | false => exact ih (no rfl)
        | true =>
          refine codeAny_handlers_suite (HandSPX.lands_againZ fly3 fun g4 fly4 up4 => ?_)
          obtain ⟨ob4, arr4, get4, zc4, dat4⟩ := fly4.there
          have I4 := inSuite fly4 (up3.trans up4) get4 dat4
          refine wpAny_mono ((hsu a (X.pn ++ pins)).run [] _ _ _ _ (inv_in I4) (yes rfl a ob4 aNone zc4 ⟨_, dat4⟩)) (fun fl s6 hsp => ?_) (fun _ _ z => z.elim)
          cases fl with
          | next =>
            obtain ⟨_, _, I6, q6⟩ := hsp
            exact ⟨_, _, inv_out I6 okX, q6⟩
          | ret u =>
            obtain ⟨_, _, _, I6, rv, q6⟩ := hsp
            exact ⟨_, _, _, inv_out I6 okX, rv, q6⟩
          | brk =>
            obtain ⟨_, _, I6, q6⟩ := hsp
            exact ⟨_, _, inv_out I6 okX, q6⟩
          | cont =>
            obtain ⟨_, _, I6, q6⟩ := hsp
            exact ⟨_, _, inv_out I6 okX, q6⟩
      | @as x n c i ts b₀ suite np pos' hds2 l2 hc hN hi hln hsu r ih =>
        intro wq
        obtain ⟨b, hb1, yes, no⟩ := wq
        refine wpAny_handleBy_cons (codeAny_handlers_test ?_) (fun z => nomatch z)
        refine test hc ((PySem.W.exm_one (M := model X.prog X.w) I3.kIn looksT hb1).here ?_)
        cases b with
        | false => exact ih (no rfl)
        | true =>
          refine codeAny_handlers_suite_as (HandSPX.lands_againZ fly3 fun g4 fly4 up4 => ?_)
          obtain ⟨ob4, arr4, get4, zc4, dat4⟩ := fly4.there
          have I4 := inSuite fly4 (up3.trans up4) get4 dat4
          refine store_ok (X := X.suite a (X.pn ++ pins)) (v := .ref a) (inv_in I4) hN hi (.inl hln) rfl (fun s5 I5 => ?_) (.inr hln)
          refine wpAny_mono ((hsu a (X.pn ++ pins)).run [] s5 _ _ _ I5 (yes rfl a ob4 aNone zc4 ⟨_, dat4⟩)) (fun fl s6 hsp => ?_) (fun _ _ z => z.elim)
          have gone : ∀ {σ6 : L2.St} {H6 : Hp} {Q : Shared → Prop}, Inv (X.suite a (X.pn ++ pins)) [] σ6 H6 s6 → (∀ s7, Inv X pins (σ6.set i none) H6 s7 → Q s7) → wpAny (model X.prog X.w) X.A (do bindName X.env n .none; unbindBehindTheSuite X.env n pos') (fun _ s7 => Q s7) X.xe s6 :=
            fun {σ6 H6 Q} I6 hQ => gone_ok (inv_out I6 okX) hN hi hln hQ
          cases fl with
          | next =>
            obtain ⟨_, _, I6, q6⟩ := hsp
            exact gone I6 fun _ I7 => ⟨_, _, I7, q6⟩
          | ret u =>
            obtain ⟨_, _, _, I6, rv, q6⟩ := hsp
            exact gone I6 fun _ I7 => ⟨_, _, _, I7, rv, q6⟩
          | brk =>
            obtain ⟨_, _, I6, q6⟩ := hsp
            exact gone I6 fun _ I7 => ⟨_, _, I7, q6⟩
          | cont =>
            obtain ⟨_, _, I6, q6⟩ := hsp
            exact gone I6 fun _ I7 => ⟨_, _, I7, q6⟩
    exact go hcl wish
end
end PW
namespace PW
open PySem PySem.Spec PyProof.Rows L2
section
variable {X : Cx} {pins : List (Addr × Obj)} {σ : L2.St} {H : Hp} {s : Shared} {a C : Addr} {oe : Obj} {d : Option Addr}
/-- a tracked exception, by its class and its dict -/
structure ExcAt (H : Hp) (a C : Addr) (oe : Obj) (d : Option Addr) : Prop where
  at_ : H a = some (excO a oe)
  zc : Zc (.ref C) d oe
  fl : ∃ vs, oe.data = .fields vs
  dc : d = none ∨ ∃ dd fs, d = some dd ∧ H dd = some (.xd fs)
theorem ExcAt.inst (I : Inv X pins σ H s) (E : ExcAt H a C oe d) : ∃ od, PySem.W.InstAt s.heap a oe C od ∧ ∀ dd fs, d = some dd → H dd = some (.xd fs) → ∃ o mA, od = some o ∧ s.heap.Ns1 dd mA ∧ (∀ f, RelO (fs.lookup f) (mA f)) ∧ s.heap.get? dd = some o := by
  have ha : s.heap.get? a = some oe := (show _ ∧ _ ∧ _ from I.hok a _ E.at_).1
  obtain ⟨vs, hv⟩ := E.fl
  have no : PySem.W.notCls oe = true := by unfold PySem.W.notCls; rw [hv]
  rcases E.dc with hd | ⟨dd, fs, hd, hx⟩
  · refine ⟨none, ⟨ha, E.zc.1, no, ?_⟩, fun dd fs e => by rw [hd] at e; cases e⟩
    rw [E.zc.2, hd]
    trivial
  · have hk : ObjOk X.prog X.w H s.heap dd (.xd fs) := I.hok dd _ hx
    obtain ⟨mA, hns, hr⟩ := hk
    obtain ⟨o, ho, hl⟩ := lookIn_ns hns
    refine ⟨some o, ⟨ha, E.zc.1, no, ?_⟩, fun dd' fs' e1 e2 => ?_⟩
    · rw [E.zc.2, hd]
      exact ho
    · rw [hd] at e1
      cases e1
      rw [hx] at e2
      cases e2
      exact ⟨o, mA, rfl, hns, hr, ho⟩
end
/-- isinstance(e, c), e a tracked exception -/
def rIsT (K : PySem.W.Frag) : List V → Hp → VK → Prop := fun xs H Q => ∃ (a C : Addr) (oe : Obj) (d : Option Addr) (c : V) (cv : Value) (b : Bool), xs = [.ref a, c] ∧ ExcAt H a C oe d ∧ L2.ExcC K C ∧ (∀ u, RelV c u → u = cv) ∧ PySem.W.kitOne K (.ref C) cv = some b ∧ Q (.bl b) H
theorem call_isT {X : Cx} : CallR X (.builtin "isinstance") (rIsT X.K) := by
  intro pins s σ H xs us Q I r h
  obtain ⟨a, C, oe, d, c, cv, b, rfl, E, xc, hcv, e, q⟩ := h
  cases r with
  | cons ra rr =>
    cases rr with
    | cons rc rr =>
      cases rr
      cases ra
      have ec := hcv _ rc
      subst ec
      obtain ⟨od, J, _⟩ := E.inst I
      obtain ⟨cd, hc, _⟩ := PySem.W.any_some xc.hd
      exact PySem.W.kia_one (PySem.W.kitx_exc (by rw [hc]; rfl) xc.hg xc.hk xc.hs xc.ha xc.hn xc.ht xc.hm) I.kIn J e (fun z => nomatch z) fun tk => ⟨.bl b, H, I.kept (t' := tk) fun _ _ z => z, rfl, q⟩
/-- e.f, e a tracked exception -/
def tXfT (K : PySem.W.Frag) (f : Str) (te : TE) : TE := fun σ H Q => te σ H fun x H1 => ∃ (a C : Addr) (oe : Obj) (dd : Addr) (fs : List (Str × V)) (v : V), x = .ref a ∧ ExcAt H1 a C oe (some dd) ∧ XfC K C ∧ PySem.W.findIn K (.ref C) f = some none ∧ H1 dd = some (.xd fs) ∧ fs.lookup f = some v ∧ Q v H1
theorem pe_xfT {X : Cx} {e : Expr} {te : TE} {pos : Pos} {n : Str} (he : PE X e te) (hb : attributeBase e n X.env (eval e X.env) = eval e X.env := by rfl) : PE X (.Attribute e n pos) (tXfT X.K n te) := by
  refine ⟨fun pins s σ H Q I h => ?_⟩
  refine attr_of hb (thn (he.run pins s σ H _ I h) fun u s1 hh => ?_)
  obtain ⟨x, H1, I1, rx, a, C, oe, dd, fs, v, ex, E, T, hno, hx, l, q⟩ := hh
  subst ex
  obtain rfl : u = Value.ref a := rx
  obtain ⟨od, J, hd⟩ := E.inst I1
  obtain ⟨o, mA, eo, hns, hr, ho⟩ := hd dd fs rfl hx
  subst eo
  obtain ⟨o2, ho2, hl⟩ := lookIn_ns hns
  rw [ho] at ho2
  cases ho2
  obtain ⟨w, hw, rw'⟩ := RelO.some_of (v := v) (o := mA n) (by rw [← l]; exact hr n)
  exact HandSPX.exc_get I1.kIn J T.ga T.gg T.exC (PySem.W.findObj_own T.hdC hno rfl (by rw [hl, hw])) (handed_of rw') ⟨v, H1, I1.tok _, rw', q⟩

/-! ### defs that may be called in an except suite -/
structure FnT (P : Program) (w : World) (K : PySem.W.Frag) (mg : Str → Option Value) (base : Heap) (CX : CXT) (k : Nat) (f : Addr) (fd : FuncData) (ps : List Str) (sp : Sp) : Prop where
  len : ∀ vs H Q E, sp vs H Q E → vs.length = ps.length
  run : ∀ (A : Around) (outer : List Env) (s : Shared) (H : Hp) (args : Args) (us : List Value) (vs : List V) (Q : VK) (E : XK), L2H.RoomH k A → Env0 P w K mg base A outer s H → BindsTo s fd args (ps.zip us) → Vals vs us → sp vs H Q E →
    codeAny (model P w) A (.call (.ref f) args) (CR CX outer P w H s Q E) s
/-- the context of such a def's body -/
def cxT (CX : CXT) (P : Program) (w : World) (K : PySem.W.Frag) (mg : Str → Option Value) (base : Heap) (N : List Str) (qual : Str) (scope : Scope) (f : Addr) (cd : Value) (A : Around) (outer : List Env) (s : Shared) (H : Hp) (E : XK) : Cx :=
  { cxOf CX P w K mg base N qual scope f cd A outer s H E with calm := false }
theorem startT {CX : CXT} {P : Program} {w : World} {K : PySem.W.Frag} {mg : Str → Option Value} {base : Heap} {N ps : List Str} {qual : Str} {scope : Scope} {f : Addr} {cd : Value} {A : Around} {outer : List Env} {s s1 : Shared} {H : Hp} {E : XK} {us : List Value} {vs : List V}
    (Sc : FnScope N ps scope) (env0 : Env0 P w K mg base A outer s H) (hlen : vs.length = ps.length) (rel : Vals vs us)
    (called : InCallC s s.heap.objs.size (bindL (envOfC qual scope s.heap.objs.size f cd).kindOf (ps.zip us) fun _ => none) (cellsFrom (s.heap.objs.size + 1) scope.names []) (bindC (envOfC qual scope s.heap.objs.size f cd).kindOf (ps.zip us) fun _ => none) s1) :
    Inv (cxT CX P w K mg base N qual scope f cd A outer s H E) [] (L2.start N vs) H s1 := by
  obtain ⟨g1, tk, rfl, kept⟩ := called.done
  have noX : ∀ {b : Addr}, b ∈ (cxT CX P w K mg base N qual scope f cd A outer s H E).ex → False := fun {b} z => nomatch (show b ∈ ([] : List Addr) from z)
  have plen : ps.length ≤ N.length := by
    have e := congrArg List.length Sc.pre
    rw [List.length_take] at e
    omega
  have pnd : ps.Nodup := by
    rw [← Sc.pre]
    exact Sc.nd.sublist (List.take_sublist _ _)
  constructor
  · refine ⟨env0.mod, Sc.kind, rfl, rfl, Nat.le_refl _, fun y z c e1 e2 => name_of_addr called.apart (PySem.mem_of_lookup e1) (PySem.mem_of_lookup e2), fun y hy => ?_, fun y c _ e => Nat.le_of_lt (called.above y c (PySem.mem_of_lookup e)), (fun z => nomatch (show false = true from z)), Around.frames_deeper env0.frames, .inr ⟨rfl, rfl⟩,
      fun b z => (noX z).elim, env0.bs, env0.bsz, fun b _ _ z => noX z, fun b z => (noX z).elim, env0.funs, env0.frf⟩
    rcases (show scope.names.lookup y = some .cell ∨ scope.names.lookup y = some .free from hy) with hy | hy
    · exact cell_has hy
    · exact absurd rfl (Sc.nofree _ (PySem.mem_of_lookup hy))
  · rfl
  · exact env0.bare
  · exact Un.kept kept
  · refine ⟨_, called.toInCall.ns, fun i y v e1 e2 _ => ?_⟩
    have hi : i < vs.length := by
      rcases Nat.lt_or_ge i vs.length with z | z
      · exact z
      · unfold L2.start at e2
        rw [List.getElem?_append_right (by simpa using z), List.getElem?_replicate] at e2
        split at e2 <;> cases e2
    have hv : vs[i]? = some v := by
      unfold L2.start at e2
      rw [List.getElem?_append_left (by simpa using hi), List.getElem?_map] at e2
      cases e : vs[i]? with
      | none => rw [e] at e2; cases e2
      | some w => rw [e] at e2; cases e2; rfl
    have hp : ps[i]? = some y := by
      rw [← Sc.pre, List.getElem?_take_of_lt (by omega)]
      exact e1
    obtain ⟨u, hu, ru⟩ := rel.get hv
    refine ⟨u, ru, ?_⟩
    rcases Sc.par y (List.mem_of_getElem? hp) with z | z
    · exact .inl ⟨z, bindL_get pnd hp hu z⟩
    · obtain ⟨c, e⟩ := cell_has (n := s.heap.objs.size + 1) z
      have q := called.cell y c e
      rw [bindC_get pnd hp hu (by show scope.names.lookup y ≠ _; rw [z]; decide)] at q
      exact .inr ⟨.inl z, c, e, q⟩
  · exact fun y c e => ⟨_, called.cell y c e⟩
  · exact env0.hok.fresh (Nat.le_refl _)
  · exact fun y c e => env0.hok.fresh (Nat.le_of_lt (called.above y c (PySem.mem_of_lookup e)))
  · exact fun q hq => nomatch (show q ∈ ([] : List (Addr × Obj)) from hq)
  · exact env0.hok.kept kept
  · unfold L2.start
    show _ = N.length
    rw [List.length_append, List.length_map, List.length_replicate]
    omega
theorem fnT_of {P : Program} {w : World} {K : PySem.W.Frag} {mg : Str → Option Value} {base : Heap} {x qual : Str} {st : Stmt} {f : Addr} {fd : FuncData} {N ps : List Str} {k : Nat} {sp : Sp} (F : Fun K x qual st f fd) (Sc : FnScope N ps (defScope st)) (len : ∀ vs H Q E, sp vs H Q E → vs.length = ps.length)
    (body : ∀ (cdv : Value) (A : Around) (outer : List Env) (s : Shared) (H : Hp) (vs : List V) (Q : VK) (E : XK), L2H.RoomH k (A.deeper (envOfC qual (defScope st) s.heap.objs.size f cdv)) → sp vs H Q E →
      ∃ t, PSs (cxT (L2.CX P w) P w K mg base N qual (defScope st) f cdv A outer s H E) (defBody st) t ∧ t { nx := fun _ H' => Q .non H', rt := Q } (L2.start N vs) H) : FnT P w K mg base (L2.CX P w) (k + 1) f fd ps sp := by
  obtain ⟨oc, od, kV, doc, pm, an, cdv, ct, osl, rfl, lk, hcd⟩ := F.ex
  refine ⟨len, fun A outer s H args us vs Q E room env0 binds rel hsp => ?_⟩
  have keepB : ∀ b o, base.get? b = some o → s.heap.get? b = some o := fun b o e => (env0.bs b o e).1
  have inK : K.In s.heap := env0.mod.kin.keeps keepB
  have kinds : ∀ y ∈ ps.zip us, (defScope st).names.lookup y.1 = some .local ∨ ((defScope st).names.lookup y.1 = some .cell ∧ ((cellsFrom (s.heap.objs.size + 1) (defScope st).names []).lookup y.1).isSome = true) := fun ⟨n, v⟩ hy =>
    (Sc.par n (List.of_mem_zip hy).1).imp id fun z => ⟨z, PySem.W.cellsFrom_some _ _ _ (.inl z)⟩
  refine codeAny_call_function room.depth (inK _ _ lk) rfl Sc.co Sc.gen rfl (PySem.W.codeRec_of inK hcd) (binds _ _ _ _ ?_)
  refine wpAny_newFunctionEnv_cells Sc.kind kinds fun env ee s1 called => ?_
  subst ee
  refine ⟨(env0.mod.nolimit.keeps keepB).keeps called.toInCall.keep, codeAny_func ?_⟩
  obtain ⟨t, ht, hq⟩ := body cdv A outer s H vs Q E (room.deeper _) hsp
  have start := startT (CX := L2.CX P w) (E := E) Sc env0 (len _ _ _ _ hsp) rel called
  refine wpAny_mono (ht.run [] s1 (L2.start N vs) H _ start hq) (fun fl s' hs => ?_) fun _ _ z => z
  cases fl with
  | next =>
    obtain ⟨_, H', J, q⟩ := hs
    exact ⟨V.non, H', J.os, J.bare, J.base, J.hok, rfl, q⟩
  | ret u =>
    obtain ⟨v, _, H', J, rv, q⟩ := hs
    exact ⟨v, H', J.os, J.bare, J.base, J.hok, rv, q⟩
  | brk =>
    obtain ⟨_, _, _, q⟩ := hs
    exact q.elim
  | cont =>
    obtain ⟨_, _, _, q⟩ := hs
    exact q.elim
theorem FnT.mono {P : Program} {w : World} {K : PySem.W.Frag} {mg : Str → Option Value} {base : Heap} {CX : CXT} {j k : Nat} {f : Addr} {fd : FuncData} {ps : List Str} {sp : Sp} (F : FnT P w K mg base CX j f fd ps sp) (h : j ≤ k) : FnT P w K mg base CX k f fd ps sp :=
  ⟨F.len, fun A outer s H args us vs Q E r => F.run A outer s H args us vs Q E (r.mono h)⟩
theorem FnT.ok {P : Program} {w : World} {K : PySem.W.Frag} {mg : Str → Option Value} {base : Heap} {CX : CXT} {k : Nat} {f : Addr} {fd : FuncData} {ps : List Str} {sp : Sp} (F : FnT P w K mg base CX k f fd ps sp) : FnOk P w K mg base CX k f fd ps sp :=
  ⟨F.len, fun A outer s H args us vs Q E r => F.run A outer s H args us vs Q E (L2H.roomH_of r)⟩
section
variable {X : Cx} {CX : CXT} {k : Nat} {f : Addr} {fd : FuncData} {ps : List Str} {sp : Sp} {E : L2.St → XK} {x : Str} {q pos : Pos} {e : Expr} {es : List Expr} {t : TA}
theorem run_fnT {pins : List (Addr × Obj)} {σ : L2.St} {H : Hp} {s : Shared} {Q : VK} {us : List Value} {vs : List V} (F : FnT X.prog X.w X.K X.mg X.base CX k f fd ps sp) (room : L2H.RoomH k X.A) (hb : Binds X.K fd ps []) (hx : PassesAt CX X σ (E σ))
    (I : Inv X pins σ H s) (r : Vals vs us) (h : sp vs H Q (E σ)) : wpAny (model X.prog X.w) X.A (call (.ref f) us) (EP X pins σ Q) X.xe s := by
  have ul : us.length = ps.length := r.length.symm.trans (F.len _ _ _ _ h)
  have bb := hb s us I.kIn (by rw [List.append_nil]; exact ul)
  rw [List.append_nil] at bb
  refine wpAny_call (codeAny_mono (F.run X.A X.stack s H ⟨us, []⟩ us vs Q (E σ) room I.env0 bb r h) fun res s' hq => ?_)
  cases res with
  | error e => exact hx pins H s e s' I hq
  | ok fl =>
    cases fl with
    | ret u => exact I.after hq
    | next => exact hq.elim
    | brk => exact hq.elim
    | cont => exact hq.elim
theorem pe_callT (F : FnT X.prog X.w X.K X.mg X.base CX k f fd ps sp) (room : L2H.RoomH k X.A) (hg : Gl X x) (hm : X.mg x = some (.ref f)) (hk : PySem.W.keepIn X.K (.ref f) = true) (hb : Binds X.K fd ps []) (hx : ∀ σ, PassesAt CX X σ (E σ))
    (ha : PA X (e :: es) t) (hdb : (x == ("__debug__" : Str)) = false := by decide) (he : starEach (e :: es) X.env = (false, eval e X.env) :: starEach es X.env := by rfl) (hpl : (backTo pos (starEach es X.env)).any (·.1) = false := by rfl) :
    PE X (.Call (.Name x q) (e :: es) [] pos) (tCallS sp E t) := by
  refine ⟨fun pins s σ H Q I h => ?_⟩
  refine wpAny_Call_Name_kw (ld_glob I hg hm ?_ hdb)
  refine PySem.W.callWith_K (h₀ := X.base) I.ok.mod.kin hk (thn (ha.run pos pins s σ H _ I h) fun us s1 ⟨vs, H1, I1, r, hs⟩ => ⟨I1.kIn, ?_⟩) he hpl
  exact run_fnT F room hb (hx σ) I1 r hs
end
end PW
namespace PW
open PySem PySem.Spec PyProof.Rows L2
theorem roomT {k : Nat} {A : Around} (r : Room k A) : L2H.RoomH k A := L2H.roomH_of r
theorem roomS {X : Cx} {k : Nat} (r : L2H.RoomH k X.A) (a : Addr) (pn : List (Addr × Obj)) : L2H.RoomH k (X.suite a pn).A := ⟨r.dp, r.un⟩
theorem hu64H {k : Nat} {A : Around} (hr : L2H.RoomH k A) : A.units + 64 < cLine := by have := hr.un; omega
theorem hu65H {k : Nat} {A : Around} (hr : L2H.RoomH k A) : A.units + 65 < cLine := by have := hr.un; omega
section
variable {P : Program} {w : World} {K : PySem.W.Frag} {mg : Str → Option Value} {base : Heap}
/-- a def that may be called in an except suite, too -/
structure CalT (P : Program) (w : World) (K : PySem.W.Frag) (mg : Str → Option Value) (base : Heap) (k : Nat) (x : Str) (ps : List Str) (S : FS) : Prop where
  ex : ∃ f fd, FnT P w K mg base (L2.CX P w) k f fd ps (spOf K S) ∧ mg x = some (.ref f) ∧ PySem.W.keepIn K (.ref f) = true ∧ Binds K fd ps []
theorem CalT.cal {k : Nat} {x : Str} {ps : List Str} {S : FS} (C : CalT P w K mg base k x ps S) : Cal P w K mg base k x ps S := by
  obtain ⟨f, fd, F, r⟩ := C.ex
  exact ⟨f, fd, F.ok, r⟩
theorem Dfd.calT {x : Str} {ps N : List Str} {st : Stmt} {k : Nat} {S : FS} {wb : SW} (D : Dfd K mg x ps st) (Sc : FnScope N ps (defScope st)) (len : ∀ args o r e, S args o r e → args.length = ps.length)
    (body : ∀ (f : Addr) (cdv : Value) (A : Around) (outer : List Env) (s : Shared) (H : Hp) (E : XK), L2H.RoomH k (A.deeper (envOfC x (defScope st) s.heap.objs.size f cdv)) →
      PSs (cxT (L2.CX P w) P w K mg base N x (defScope st) f cdv A outer s H E) (defBody st) (tS K (fun cls d _ H => E cls d H) wb))
    (pure : ∀ args o ret exc, S args o ret exc → wb (fun x s => exc x (cutL o.length s.o)) (pst0 args o N.length) (bodyE o.length ret)) : CalT P w K mg base (k + 1) x ps S := by
  obtain ⟨f, fd, F, m, b⟩ := D.ex
  exact ⟨f, fd, fnT_of F Sc (fn_len len) fun cdv A outer s H vs Q E hr h => ⟨_, body f cdv A outer s H E hr, fn_core pure vs H Q E h⟩, m, F.kp, b⟩
end
section
variable {X : Cx} {W : WX} {k j : Nat} {ps : List Str} {S : FS} {x : Str} {p pos : Pos} {e : Expr} {es : List Expr} {ws : AW} {sp : Sp} {E : L2.St → XK}
/-- the part of a call's rule that isn't the call -/
theorem call_of (h : PA X (e :: es) (tA X.K W ws)) (c : ∀ {t : TA}, PA X (e :: es) t → PE X (.Call (.Name x p) (e :: es) [] pos) (tCallS (spOf X.K S) (WE W) t)) : PE X (.Call (.Name x p) (e :: es) [] pos) (tE X.K W (wCall S ws)) := by
  refine PE.imp (c h) fun σ H Q ⟨H0, F0, A0, s, T, kx, kk, w, xl, h, q⟩ => ar_of w xl h fun vs s1 us H1 h1 e1 w1 => ?_
  obtain ⟨xs, s2, hS, e2, pl, w2⟩ := prep_ok vs us s1 T _ e1 w1 h1
  obtain ⟨F1, A, w2⟩ := w2
  have w3 := w2.sub (T' := T) fun t h => List.mem_append_right _ h
  refine ⟨H1, F1, [], xs, [], _, _, ⟨F1, [], ?_⟩, rfl, hS, fun r o hr ho v H' ret => ?_, fun y o hx ho d H' w' => ?_⟩
  · refine ⟨⟨Same.refl _, w2.fz.g, Same.refl _, fun p _ h => h⟩, List.prefix_refl _, rfl, List.nodup_nil, (fun _ z => nomatch z), (fun n p c z => by simp at z), (by rw [List.length_map, List.length_map, e2]), (fun i v hv => ?_), (fun _ z => nomatch z)⟩
    obtain ⟨u, a, b⟩ := args_wd w2 xs us e2 pl (fun t h => List.mem_append_left _ h) i v hv
    exact ⟨u, a, b _⟩
  · cases List.eq_nil_of_length_eq_zero ho
    cases r with
    | d z =>
      obtain ⟨F', A', w'⟩ := ret
      have dz : Dq X.K F' v z := w'.tm (.d z, v) List.mem_cons_self
      exact q _ _ hr v H' ⟨F', A, (w3.after w'.fz).push dz⟩
    | new zs =>
      obtain ⟨F', A', w'⟩ := ret
      obtain ⟨qq, hq, rfl⟩ := w'.tm (.own 0, v) List.mem_cons_self
      have ad := w'.ad qq (List.mem_of_getElem? hq)
      have oc := w'.oc 0 qq (.dl zs) hq rfl
      have w4 := w3.after w'.fz
      have nin : qq ∉ A := fun hA => (w2.ad qq hA).2 ad.1
      refine q _ _ hr _ H' ⟨F', A ++ [qq], (w4.addL (c := .dl zs) nin (w3.fz.h.free ad.1) ad.2 oc).push ⟨qq, ?_, rfl⟩⟩
      rw [← w4.len, List.getElem?_append_right (Nat.le_refl _), Nat.sub_self]
      rfl
  · obtain ⟨F', A', w'⟩ := w'
    have px : PVOk X.K F' A (.xd y.fs) (dV d) := w'.tm (.xd y.fs, dV d) List.mem_cons_self
    exact xl y s2 hx σ H' d ⟨F', A, (w3.after w'.fz).push px⟩
theorem c_callT (C : CalT X.prog X.w X.K X.mg X.base k x ps S) (tk : Takes X W) (hr : L2H.RoomH j X.A) (ha : PA X (e :: es) (tA X.K W ws)) (hk : k ≤ j := by decide) (hg : Gl X x := by rfl)
    (hdb : (x == ("__debug__" : Str)) = false := by decide) (he : starEach (e :: es) X.env = (false, eval e X.env) :: starEach es X.env := by rfl) (hpl : (backTo pos (starEach es X.env)).any (·.1) = false := by rfl) :
    PE X (.Call (.Name x p) (e :: es) [] pos) (tE X.K W (wCall S ws)) := by
  obtain ⟨f, fd, F, m, kp, b⟩ := C.ex
  exact call_of ha fun h => pe_callT F (hr.mono hk) hg m kp b (fun σ => passAt tk σ) h hdb he hpl
end
/-! ### what exceptions are: told of classes -/
abbrev MX := Addr → V → Option Bool
open Classical in
noncomputable def mxK (K : PySem.W.Frag) : MX := fun c v => if L2.ExcC K c then (match v with
  | .ref D => if PySem.W.exmOne K (.ref c) (.ref D) = PySem.W.kitOne K (.ref c) (.ref D) then PySem.W.exmOne K (.ref c) (.ref D) else none
  | .ty T => PySem.W.kitOne K (.ref c) (.type T)
  | _ => none) else none
/-- a class of exceptions, of the text -/
structure ClsX (K : PySem.W.Frag) (D : Addr) : Prop where
  b : PySem.W.subIn K (.ref D) (.type "BaseException") = some true
  t : PySem.W.typeIn K (.ref D) = some (.type "type")
  d : PySem.W.hasDictIn K D = true
  s : PySem.W.subIn K (.ref D) (.ref D) = some true
theorem mx_ref {K : PySem.W.Frag} {c D : Addr} {b : Bool} (xc : L2.ExcC K c) (xd : ClsX K D) (h : PySem.W.subIn K (.ref c) (.ref D) = some b) : mxK K c (.ref D) = some b := by
  obtain ⟨cd, hc, _⟩ := PySem.W.any_some xd.d
  have e2 : ((PySem.W.clsIn K D).isSome && PySem.W.typeIn K (.ref D) == some (.type "type")) = true := by rw [hc, xd.t]; rfl
  have e1 : (PySem.W.subIn K (.ref D) (.type "BaseException") == some true) = true := by rw [xd.b]; rfl
  have k : PySem.W.kitCls K (.ref c) (.ref D) = some b := (if_pos e2).trans h
  have e : PySem.W.exmOne K (.ref c) (.ref D) = some b := (if_pos e1).trans k
  have o : PySem.W.kitOne K (.ref c) (.ref D) = some b := by
    unfold PySem.W.kitOne
    by_cases z : (Value.ref c == Value.ref D) = true
    · have : c = D := Value.ref.inj (beq_iff_eq.mp z)
      subst this
      rw [xd.s] at h
      rw [if_pos z]
      exact h
    · rw [if_neg z]
      exact k
  unfold mxK
  rw [if_pos xc]
  show (if _ then _ else _) = _
  rw [e, o, if_pos rfl]
theorem mx_ty {K : PySem.W.Frag} {c : Addr} {T : String} {b : Bool} (xc : L2.ExcC K c) (hT : PySem.W.kitMeta T = true) (h : PySem.W.subIn K (.ref c) (.type T) = some b) : mxK K c (.ty T) = some b := by
  unfold mxK
  rw [if_pos xc]
  show PySem.W.kitOne K (.ref c) (.type T) = some b
  unfold PySem.W.kitOne
  rw [if_neg (by intro z; cases beq_iff_eq.mp z)]
  exact (if_pos hT).trans h
theorem mx_exm {K : PySem.W.Frag} {c D : Addr} {b : Bool} (h : mxK K c (.ref D) = some b) : PySem.W.exmOne K (.ref c) (.ref D) = some b := by
  unfold mxK at h
  split at h
  · have h : (if PySem.W.exmOne K (.ref c) (.ref D) = PySem.W.kitOne K (.ref c) (.ref D) then PySem.W.exmOne K (.ref c) (.ref D) else none) = some b := h
    split at h
    · exact h
    · cases h
  · cases h
theorem mx_kit {K : PySem.W.Frag} {c : Addr} {v : V} {b : Bool} (h : mxK K c v = some b) : L2.ExcC K c ∧ ∃ cv, (∀ u, RelV v u → u = cv) ∧ PySem.W.kitOne K (.ref c) cv = some b := by
  unfold mxK at h
  split at h
  · rename_i xc
    refine ⟨xc, ?_⟩
    cases v with
    | ref D =>
      have h : (if PySem.W.exmOne K (.ref c) (.ref D) = PySem.W.kitOne K (.ref c) (.ref D) then PySem.W.exmOne K (.ref c) (.ref D) else none) = some b := h
      split at h
      · rename_i e
        exact ⟨.ref D, fun u hu => hu, by rw [← e]; exact h⟩
      · cases h
    | ty T => exact ⟨.type T, fun u hu => hu, h⟩
    | _ => cases h
  · cases h
/-! ### try -/
def stO (oi : Option Nat) (v : PV) (s : PSt) : PSt := match oi with
  | none => s
  | some i => s.st i v
def clrO (oi : Option Nat) (s : PSt) : PSt := match oi with
  | none => s
  | some i => s.wipe [i]
def clrE (oi : Option Nat) (k : PEnds) : PEnds := { nx := fun s => k.nx (clrO oi s), rt := k.rt, bk := fun s => k.bk (clrO oi s), ct := fun s => k.ct (clrO oi s) }
def tryM (M : MX) : List (Addr × Option Nat × SW) → XV → PSt → KX → PEnds → Prop
  | [], x, s, kx, _ => kx x s
  | (c, oi, h) :: r, x, s, kx, k => ∃ b, M x.C (.ref c) = some b ∧ (b = true → h (fun _ _ => False) (stO oi (.exc x) s) (clrE oi k)) ∧ (b = false → tryM M r x s kx k)
def wTry (M : MX) (b : SW) (cl : List (Addr × Option Nat × SW)) : SW := fun kx s k => b (fun x s1 => tryM M cl x s1 kx k) s k
/-- isinstance(e, c), e what was caught -/
def wIsE (M : MX) (c : V) (we : EW) : EW := fun kx s k => we kx s fun x s1 => ∃ y b, x = .exc y ∧ M y.C c = some b ∧ k (.d (.bool b)) s1
inductive ClsOk (X : Cx) : List ExceptHandler → List (Addr × Option Nat × SW) → Prop
  | nil : ClsOk X [] []
  | only {x : Str} {c : Addr} {h : SW} {b₀ : Stmt} {suite : List Stmt} {np pos' : Pos} {hds : List ExceptHandler} {l : List (Addr × Option Nat × SW)} (hm : X.mg x = some (.ref c)) (hsu : ∀ (a : Addr) (pn : List (Addr × Obj)), PSs (X.suite a pn) (b₀ :: suite) (tS X.K W0 h)) (r : ClsOk X hds l)
      (hg : Gl X x := by rfl) (hdb : (x == ("__debug__" : Str)) = false := by decide) : ClsOk X (.ExceptHandler (some (.Name x np)) none (b₀ :: suite) pos' :: hds) ((c, none, h) :: l)
  | as {x n : Str} {c : Addr} {i : Nat} {h : SW} {b₀ : Stmt} {suite : List Stmt} {np pos' : Pos} {hds : List ExceptHandler} {l : List (Addr × Option Nat × SW)} (hm : X.mg x = some (.ref c)) (hN : X.N.Nodup) (hi : X.N[i]? = some n) (hln : X.env.kindOf n = some .local) (hsu : ∀ (a : Addr) (pn : List (Addr × Obj)), PSs (X.suite a pn) (b₀ :: suite) (tS X.K W0 h)) (r : ClsOk X hds l)
      (hg : Gl X x := by rfl) (hdb : (x == ("__debug__" : Str)) = false := by decide) : ClsOk X (.ExceptHandler (some (.Name x np)) (some n) (b₀ :: suite) pos' :: hds) ((c, some i, h) :: l)
theorem cls_only {X : Cx} {k : Nat} {x : Str} {c : Addr} {h : SW} {b₀ : Stmt} {suite : List Stmt} {np pos' : Pos} {hds : List ExceptHandler} {l : List (Addr × Option Nat × SW)} (hr : L2H.RoomH k X.A) (hm : X.mg x = some (.ref c)) (hsu : ∀ (a : Addr) (pn : List (Addr × Obj)), L2H.RoomH k (X.suite a pn).A → PSs (X.suite a pn) (b₀ :: suite) (tS X.K W0 h)) (r : ClsOk X hds l)
    (hg : Gl X x := by rfl) (hdb : (x == ("__debug__" : Str)) = false := by decide) : ClsOk X (.ExceptHandler (some (.Name x np)) none (b₀ :: suite) pos' :: hds) ((c, none, h) :: l) := .only hm (fun a pn => hsu a pn (roomS hr a pn)) r hg hdb
theorem cls_as {X : Cx} {k : Nat} {x n : Str} {c : Addr} {i : Nat} {h : SW} {b₀ : Stmt} {suite : List Stmt} {np pos' : Pos} {hds : List ExceptHandler} {l : List (Addr × Option Nat × SW)} (hr : L2H.RoomH k X.A) (hm : X.mg x = some (.ref c)) (hN : X.N.Nodup) (hi : X.N[i]? = some n) (hln : X.env.kindOf n = some .local) (hsu : ∀ (a : Addr) (pn : List (Addr × Obj)), L2H.RoomH k (X.suite a pn).A → PSs (X.suite a pn) (b₀ :: suite) (tS X.K W0 h)) (r : ClsOk X hds l)
    (hg : Gl X x := by rfl) (hdb : (x == ("__debug__" : Str)) = false := by decide) : ClsOk X (.ExceptHandler (some (.Name x np)) (some n) (b₀ :: suite) pos' :: hds) ((c, some i, h) :: l) := .as hm hN hi hln (fun a pn => hsu a pn (roomS hr a pn)) r hg hdb
theorem ClsOk.to {X : Cx} {hds : List ExceptHandler} {l : List (Addr × Option Nat × SW)} (h : ClsOk X hds l) : Clauses X hds (l.map fun x => (Value.ref x.1, x.2.1, tS X.K W0 x.2.2)) := by
  induction h with
  | nil => exact .nil
  | only hm hsu r hg hdb ih => exact .only ⟨hg, hdb, .inl hm⟩ hsu ih
  | as hm hN hi hln hsu r hg hdb ih => exact .as ⟨hg, hdb, .inl hm⟩ hN hi hln hsu ih
section
variable {K : PySem.W.Frag} {H0 F0 : Hp} {A0 : List Addr} {s : PSt} {σ : L2.St} {T : List (PV × V)} {H : Hp}
theorem Wd.clr {oi : Option Nat} (w : Wd K H0 F0 A0 s σ T H) : Wd K H0 F0 A0 (clrO oi s) (stI oi none σ) T H := by
  cases oi with
  | none => exact w
  | some i =>
    obtain ⟨F, A, w⟩ := w
    refine ⟨F, A, w.rel rfl ?_ fun j v e => ?_⟩
    · show (s.r.set i none).length = (σ.set i none).length
      rw [List.length_set, List.length_set]
      exact w.sl
    · have e : (s.r.set i none)[j]? = some (some v) := e
      have ne : i ≠ j := fun z => by
        subst z
        by_cases hl : i < s.r.length
        · rw [List.getElem?_set_self hl] at e; cases e
        · rw [List.getElem?_eq_none (by rw [List.length_set]; omega)] at e; cases e
      rw [List.getElem?_set_ne ne] at e
      exact ⟨e, fun u hu => by show (σ.set i none)[j]? = _; rw [List.getElem?_set_ne ne]; exact hu⟩
theorem wish_of {W : WX} {D : Ends} {kx : KX} {k : PEnds} (xl : XL K H0 F0 A0 T W kx) (q1 : ∀ s', k.nx s' → ∀ σ' H', Wd K H0 F0 A0 s' σ' T H' → D.nx σ' H') (q2 : ∀ v s', k.rt v s' → ∀ u σ' H', Wd K H0 F0 A0 s' σ' ((v, u) :: T) H' → D.rt u H')
    (q3 : ∀ s', k.bk s' → ∀ σ' H', Wd K H0 F0 A0 s' σ' T H' → D.bk σ' H') (q4 : ∀ s', k.ct s' → ∀ σ' H', Wd K H0 F0 A0 s' σ' T H' → D.ct σ' H') (x : XV) (s' : PSt) (σ' : L2.St) (H' : Hp) (d : Option Addr) (w : Wd K H0 F0 A0 s' σ' ((.xd x.fs, dV d) :: T) H') :
    ∀ cl : List (Addr × Option Nat × SW), tryM (mxK K) cl x s' kx k → wishes K W D (cl.map fun x => (Value.ref x.1, x.2.1, tS K W0 x.2.2)) (.ref x.C) d σ' H'
  | [], h => xl x s' h σ' H' d w
  | (c, oi, h) :: r, ⟨b, hb, yes, no⟩ => by
    refine ⟨b, mx_exm hb, fun e a oe ha hz hf => ?_, fun e => wish_of xl q1 q2 q3 q4 x s' σ' H' d w r (no e)⟩
    obtain ⟨F, A, w⟩ := w
    obtain ⟨d', ed, hd⟩ := (show PVOk K F A (.xd x.fs) (dV d) from w.tm _ List.mem_cons_self)
    have e' : d' = d := by
      cases d' <;> cases d <;> first | rfl | (cases ed; done) | (cases ed; rfl)
    subst e'
    have fa : F a = none := w.fz.g.free ha
    have w2 := (w.sub (T' := T) fun t m => List.mem_cons_of_mem _ m).newD (o := excO a oe) ha
    have pe : PVOk K (upd F a (excO a oe)) A (.exc x) (.ref a) := ⟨a, oe, d', rfl, upd_same, hz, hf, hd.same (same_new fa)⟩
    refine ⟨H0, F0, A0, stO oi (.exc x) s', T, fun _ _ => False, clrE oi k, ?_, XL.none, yes e, fun s1 h1 σ1 H1 w1 => q1 _ h1 _ _ w1.clr, q2, fun s1 h1 σ1 H1 w1 => q3 _ h1 _ _ w1.clr, fun s1 h1 σ1 H1 w1 => q4 _ h1 _ _ w1.clr⟩
    cases oi with
    | none => exact ⟨_, A, w2⟩
    | some i => exact ⟨_, A, w2.st pe⟩
end
section
variable {X : Cx} {W : WX} {body : List Stmt} {hd0 : ExceptHandler} {hds : List ExceptHandler} {cl : List (Addr × Option Nat × SW)} {pos p : Pos} {wb : SW} {a e : Expr} {we : EW}
theorem s_try (hst : X.stack = X.env :: X.outer) (hfr : X.env.frame = some X.env.locals) (hex : X.ex = []) (tk : Takes X W)
    (hbody : ∀ (W' : WX) (pn : List (Addr × Obj)) (xe : Value → Shared → Prop), Takes (X.tr pn xe) W' → PassesOwn (model X.prog X.w) X.A X.env xe → PSs (X.tr pn xe) body (tS X.K W' wb))
    (hcl : ClsOk X (hd0 :: hds) cl) : PS X (.Try body (hd0 :: hds) [] [] pos) (tS X.K W (wTry (mxK X.K) wb cl)) := by
  refine PS.imp (ps_tryT hst hfr hex tk hbody hcl.to) fun D σ H ⟨H0, F0, A0, s, T, kx, k, w, xl, h, q1, q2, q3, q4⟩ => ?_
  exact ⟨H0, F0, A0, s, T, _, k, w, fun x s' hx σ' H' d w' => wish_of xl q1 q2 q3 q4 x s' σ' H' d w' cl hx, h, q1, q2, q3, q4⟩
/-- isinstance of what was caught -/
theorem isE_of {c : V} {σ : L2.St} {H : Hp} {Q : VK} (h : tE X.K W (wIsE (mxK X.K) c we) σ H Q) : tE X.K W we σ H fun x H1 => rIsT X.K [x, c] H1 Q := by
  obtain ⟨H0, F0, A0, s, T, kx, k, w, xl, h, q⟩ := h
  refine un_of w xl h fun x s1 u H1 h1 w1 => ?_
  obtain ⟨y, b, rfl, hb, hk⟩ := h1
  obtain ⟨F, A, w1⟩ := w1
  obtain ⟨xc, cv, hcv, hkit⟩ := mx_kit hb
  obtain ⟨a, oe, d, rfl, hx, hz, hf, hd⟩ := (show PVOk X.K F A (.exc y) u from w1.tm _ List.mem_cons_self)
  refine ⟨a, y.C, oe, d, c, cv, b, rfl, ⟨w1.fz.g _ _ hx, hz, hf, ?_⟩, xc, hcv, hkit, q _ _ hk _ H1 ⟨F, A, (w1.sub fun t h => List.mem_cons_of_mem _ h).push (.bl _)⟩⟩
  cases hy : y.fs with
  | none => rw [hy] at hd; exact .inl hd
  | some l =>
    rw [hy] at hd
    obtain ⟨dd, vl, h1, h2, _⟩ := hd
    exact .inr ⟨dd, vl, h1, w1.fz.g _ _ h2⟩
theorem e_isE {x : Str} {C : Addr} {q1 : Pos} (hi : X.mg "isinstance" = none) (hm : X.mg x = some (.ref C)) (ha : PE X a (tE X.K W we)) (hgx : Gl X x := by rfl) (hg : Gl X "isinstance" := by rfl) (hdb : (x == ("__debug__" : Str)) = false := by decide)
    (he : starEach [a, .Name x q1] X.env = (false, eval a X.env) :: starEach [.Name x q1] X.env := by rfl) (he2 : starEach [.Name x q1] X.env = (false, eval (.Name x q1) X.env) :: starEach [] X.env := by rfl) (hpl : (backTo pos (starEach [.Name x q1] X.env)).any (·.1) = false := by rfl) :
    PE X (.Call (.Name "isinstance" p) [a, .Name x q1] [] pos) (tE X.K W (wIsE (mxK X.K) (.ref C) we)) := by
  have pt : PE X (.Name x q1) (tC (.ref C)) := pe_glob hgx hm rfl hdb
  exact PE.imp (pe_callB call_isT hg hi (by decide +kernel) (pa_cons ha (pa_cons pt pa_nil he2) he) (he := he) (hpl := hpl)) fun σ H Q h => isE_of h
theorem e_isEB {x : Str} {B : String} {q1 : Pos} (hi : X.mg "isinstance" = none) (hm : X.mg x = none) (hb : bootBuiltins x = some (.type B)) (ha : PE X a (tE X.K W we)) (hgx : Gl X x := by rfl) (hg : Gl X "isinstance" := by rfl) (hn : x ≠ "__name__" := by decide) (hdb : (x == ("__debug__" : Str)) = false := by decide)
    (he : starEach [a, .Name x q1] X.env = (false, eval a X.env) :: starEach [.Name x q1] X.env := by rfl) (he2 : starEach [.Name x q1] X.env = (false, eval (.Name x q1) X.env) :: starEach [] X.env := by rfl) (hpl : (backTo pos (starEach [.Name x q1] X.env)).any (·.1) = false := by rfl) :
    PE X (.Call (.Name "isinstance" p) [a, .Name x q1] [] pos) (tE X.K W (wIsE (mxK X.K) (.ty B) we)) := by
  have pt : PE X (.Name x q1) (tC (.ty B)) := pe_bltn hgx hm hb rfl hn hdb
  exact PE.imp (pe_callB call_isT hg hi (by decide +kernel) (pa_cons ha (pa_cons pt pa_nil he2) he) (he := he) (hpl := hpl)) fun σ H Q h => isE_of h
end
end PW
namespace PW
open PySem L2
/-! ### lists and tuples with owned things in them -/
section
variable {K : PySem.W.Frag} {F : Hp} {A : List Addr}
theorem PVAll.len : ∀ {ps : List PV} {us : List V}, PVAll K F A ps us → us.length = ps.length
  | [], [], _ => rfl
  | _ :: _, _ :: _, ⟨_, r⟩ => congrArg Nat.succ (PVAll.len r)
  | [], _ :: _, h => h.elim
  | _ :: _, [], h => h.elim
theorem PVAll.at : ∀ {ps : List PV} {us : List V}, PVAll K F A ps us → ∀ (i : Nat) v, ps[i]? = some v → ∃ u, us[i]? = some u ∧ PVOk K F A v u
  | [], [], _, _, _, e => by simp at e
  | p :: ps, u :: us, ⟨h, _⟩, 0, v, e => by
    have e : p = v := Option.some.inj e
    subst e
    exact ⟨u, rfl, h⟩
  | _ :: _, _ :: _, ⟨_, r⟩, i + 1, v, e => PVAll.at r i v e
  | [], _ :: _, h, _, _, _ => h.elim
  | _ :: _, [], h, _, _, _ => h.elim
theorem PVAll.of : ∀ {ps : List PV} {us : List V} {T : List (PV × V)}, us.length = ps.length → (∀ t ∈ ps.zip us, PVOk K F A t.1 t.2) → PVAll K F A ps us
  | [], [], _, _, _ => True.intro
  | p :: ps, u :: us, T, e, h => ⟨h (p, u) List.mem_cons_self, PVAll.of (T := T) (Nat.succ.inj e) fun t m => h t (List.mem_cons_of_mem _ m)⟩
  | [], _ :: _, _, e, _ => nomatch e
  | _ :: _, [], _, e, _ => nomatch e
theorem PVAll.app : ∀ {ps : List PV} {us : List V} {qs : List PV} {vs : List V}, PVAll K F A ps us → PVAll K F A qs vs → PVAll K F A (ps ++ qs) (us ++ vs)
  | [], [], _, _, _, h => h
  | _ :: _, _ :: _, _, _, ⟨h, r⟩, q => ⟨h, PVAll.app r q⟩
  | [], _ :: _, _, _, h, _ => h.elim
  | _ :: _, [], _, _, h, _ => h.elim
theorem PVAll.tk : ∀ {ps : List PV} {us : List V} (n : Nat), PVAll K F A ps us → PVAll K F A (ps.take n) (us.take n)
  | _, _, 0, _ => by rw [List.take_zero, List.take_zero]; exact True.intro
  | [], [], _ + 1, _ => True.intro
  | _ :: _, _ :: _, n + 1, ⟨h, r⟩ => ⟨h, PVAll.tk n r⟩
  | [], _ :: _, _ + 1, h => h.elim
  | _ :: _, [], _ + 1, h => h.elim
theorem PVAll.dr : ∀ {ps : List PV} {us : List V} (n : Nat), PVAll K F A ps us → PVAll K F A (ps.drop n) (us.drop n)
  | _, _, 0, h => h
  | [], [], _ + 1, _ => True.intro
  | _ :: _, _ :: _, n + 1, ⟨_, r⟩ => PVAll.dr n r
  | [], _ :: _, _ + 1, h => h.elim
  | _ :: _, [], _ + 1, h => h.elim
theorem PVAll.dl : ∀ {vs : List V} {xs : List PyData}, DqAll K F vs xs → PVAll K F A (xs.map PV.d) vs
  | _, _, .nil => True.intro
  | _, _, .cons h r => ⟨h, PVAll.dl r⟩
theorem PVAll.ati {ps : List PV} {us : List V} {i : Int} {v : PV} (h : PVAll K F A ps us) (e : atI ps i = some v) : ∃ u, atI us i = some u ∧ PVOk K F A v u := by
  unfold atI at e ⊢
  rw [h.len]
  cases hx : ixN ps.length i with
  | none => rw [hx] at e; cases e
  | some j =>
    rw [hx] at e
    exact h.at j v e
variable {H0 F0 : Hp} {A0 : List Addr} {s : PSt} {σ : L2.St} {T : List (PV × V)} {H : Hp}
theorem mown_at {u : V} {n : Nat} {ps : List PV} (w : WdF K H0 F0 A0 s σ T H F A) (h : (PV.own n, u) ∈ T) (ho : s.o[n]? = some (.ml ps)) : ∃ p vs, A[n]? = some p ∧ u = .ref p ∧ F p = none ∧ H p = some (.lst vs) ∧ PVAll K F A ps vs := by
  obtain ⟨p, hp, e⟩ := w.tm _ h
  obtain ⟨f, vs, h1, h2⟩ := w.oc n p _ hp ho
  exact ⟨p, vs, hp, e, f, h1, h2⟩
end
/-- the things in a mixed list or tuple -/
def mitems (s : PSt) : PV → Option (List PV)
  | .tp ps => some ps
  | .own n => match s.o[n]? with
    | some (.ml ps) => some ps
    | _ => none
  | _ => none
theorem mitems_own {s : PSt} {n : Nat} {ps : List PV} (h : mitems s (.own n) = some ps) : s.o[n]? = some (.ml ps) := by
  have h : (match s.o[n]? with | some (.ml ps) => some ps | _ => none) = some ps := h
  split at h
  · rename_i e; cases h; exact e
  · cases h
/-- the things of a tuple -/
def titems : PV → Option (List PV)
  | .tp ps => some ps
  | .d (.tuple xs) => some (xs.map PV.d)
  | _ => none
def wLstM (ws : AW) : EW := fun kx s k => ws kx s fun vs s1 => vs.length ≤ sizeLine ∧ k (.own s1.o.length) ⟨s1.r, s1.o ++ [.ml vs]⟩
def wTupM (ws : AW) : EW := fun kx s k => ws kx s fun vs s1 => vs.length ≤ sizeLine ∧ k (.tp vs) s1
def wIxM (wa wb : EW) : EW := fun kx s k => wa kx s fun x s1 => wb kx s1 fun y s2 => ∃ ps i v, mitems s2 x = some ps ∧ dat s2 y = some (.int i) ∧ atI ps i = some v ∧ k v s2
def wSlM (wa : EW) (wl wh : OW) : EW := fun kx s k => wa kx s fun x s1 => wl kx s1 fun lo s2 => wh kx s2 fun hi s3 => ∃ n ps, x = .own n ∧ s3.o[n]? = some (.ml ps) ∧ k (.own s3.o.length) ⟨s3.r, s3.o ++ [.ml (cutD ps lo hi)]⟩
def wLenM (wa : EW) : EW := fun kx s k => wa kx s fun x s1 => ∃ ps, mitems s1 x = some ps ∧ k (.d (.int ps.length)) s1
/-- m == [], m != [] -/
def wAppM (wo we : EW) : EW := fun kx s k => wo kx s fun x s1 => ∃ n ws, x = .own n ∧ s1.o[n]? = some (.ml ws) ∧ we kx s1 fun y s2 => ∃ ps, s2.o[n]? = some (.ml ps) ∧ ps.length < sizeLine ∧ k (.d .none) ⟨s2.r, s2.o.set n (.ml (ps ++ [y]))⟩
def wPopM (wo : EW) : EW := fun kx s k => wo kx s fun x s1 => ∃ n ps v, x = .own n ∧ s1.o[n]? = some (.ml ps) ∧ ps[ps.length - 1]? = some v ∧ k v ⟨s1.r, s1.o.set n (.ml ps.dropLast)⟩
/-- the truth of a mixed list -/
def wTruM (wa : EW) : TW := fun kx s k => wa kx s fun x s1 => ∃ n ps, x = .own n ∧ s1.o[n]? = some (.ml ps) ∧ k (!ps.isEmpty) s1
abbrev GWM := PV → PSt → (PSt → Prop) → Prop
def gNM (i : Nat) : GWM := fun v s k => k (s.st i v)
abbrev GWMs := List PV → PSt → (PSt → Prop) → Prop
def gTM (n : Nat) (gs : GWMs) : GWM := fun v s k => ∃ ps, titems v = some ps ∧ ps.length = n ∧ gs ps s k
def gsNilM : GWMs := fun ps s k => ps = [] ∧ k s
def gsConsM (g : GWM) (gs : GWMs) : GWMs := fun ps s k => ∃ v r, ps = v :: r ∧ g v s fun s1 => gs r s1 k
def wUnpM (we : EW) (g : GWM) : SW := fun kx s k => we kx s fun v s1 => g v s1 k.nx
def wForM (we : EW) (g : GWM) (b : SW) : SW := fun kx s k => we kx s fun v s0 => ∃ n ps, v = .own n ∧ s0.o[n]? = some (.ml ps) ∧ ∃ I : Nat → PSt → Prop, I 0 s0 ∧ (∀ j s1, j ≤ ps.length → I j s1 → s1.o[n]? = some (.ml ps)) ∧ (∀ j x s1, ps[j]? = some x → I j s1 → g x s1 fun s2 =>
  b kx s2 { k with nx := fun s3 => I (j + 1) s3 ∨ I (j + 1) (s3.trim s0.o.length), ct := fun s3 => I (j + 1) s3 ∨ I (j + 1) (s3.trim s0.o.length), bk := k.nx }) ∧ ∀ s1, I ps.length s1 → k.nx s1
/-- [e for t in m if ..], m a mixed list -/
def wLcM (wl : EW) (g : GWM) (tt : TW) (we : EW) (vs : List Nat) : EW := fun kx s k => wl kx s fun v s1 => ∃ n ps, v = .own n ∧ s1.o[n]? = some (.ml ps) ∧ ∃ I : Nat → List PyData → PSt → Prop, I 0 [] (s1.wipe vs) ∧ (∀ j acc s2, j ≤ ps.length → I j acc s2 → s2.o[n]? = some (.ml ps)) ∧
  (∀ j x acc s2, ps[j]? = some x → s2.o.length = s1.o.length → I j acc s2 → g x ⟨s2.r, s2.o ++ [.dl acc]⟩ fun s3 => tt (fun _ _ => False) s3 fun b s4 =>
    (b = true → we (fun _ _ => False) s4 fun y s5 => frz y s5 fun d s6 => s6.o[s1.o.length]? = some (.dl acc) ∧ acc.length < sizeLine ∧ I (j + 1) (acc ++ [d]) ((s6.trim s1.o.length).wipe vs)) ∧
    (b = false → s4.o[s1.o.length]? = some (.dl acc) ∧ I (j + 1) acc ((s4.trim s1.o.length).wipe vs))) ∧
  ∀ acc s2, s2.o.length = s1.o.length → I ps.length acc s2 → k (.own s1.o.length) ⟨s2.r, s2.o ++ [.dl acc]⟩
section
variable {X : Cx} {W : WX} {a b e o wo_e : Expr} {es : List Expr} {wa wb we wo : EW} {ws : AW} {wl wh : OW} {pos p : Pos}
theorem e_lstM (h : PA X es (tA X.K W ws)) : PE X (.List es pos) (tE X.K W (wLstM ws)) := by
  refine PE.imp (pe_lst h) fun σ H Q ⟨H0, F0, A0, s, T, kx, k, w, xl, h, q⟩ => ar_of w xl h fun vs s1 us H1 h1 e w1 => ?_
  obtain ⟨hz, hk⟩ := h1
  refine ⟨by rw [e]; exact hz, fun n hn => ?_⟩
  obtain ⟨F, A, w1⟩ := w1
  have w2 := (w1.sub (T' := T) fun t h => List.mem_append_right _ h).newO (o := .lst us) (c := .ml vs) hn fun fp => ⟨fp, us, upd_same, (PVAll.of (T := T) e fun t m => (w1.tm t (List.mem_append_left _ m)).mono (Same.refl _) (List.prefix_append _ _))⟩
  exact q _ _ hk _ _ ⟨F, _, w2.push (top_at w1 n F)⟩
theorem e_tupM {x1} (h : PA X es (tA X.K W ws)) : PE X (.Tuple es x1 pos) (tE X.K W (wTupM ws)) := by
  refine PE.imp (pe_tup h) fun σ H Q ⟨H0, F0, A0, s, T, kx, k, w, xl, h, q⟩ => ar_of w xl h fun vs s1 us H1 h1 e w1 => ?_
  obtain ⟨hz, hk⟩ := h1
  refine ⟨by rw [e]; exact hz, fun p hp => ?_⟩
  obtain ⟨F, A, w1⟩ := w1
  have w2 := (w1.sub (T' := T) fun t h => List.mem_append_right _ h).newD (o := .tup us) hp
  have pa : PVAll X.K (upd F p (.tup us)) A vs us := PVAll.of (T := T) e fun t m => (w1.tm t (List.mem_append_left _ m)).mono (same_new (w1.fz.g.free hp)) (List.prefix_refl _)
  exact q _ _ hk _ _ ⟨_, A, w2.push ⟨p, us, rfl, SqT.of upd_same, pa⟩⟩
theorem e_ixM (ha : PE X a (tE X.K W wa)) (hb : PE X b (tE X.K W wb)) (hs : PlainIx b := by exact fun _ _ => rfl) : PE X (.Subscript a b pos) (tE X.K W (wIxM wa wb)) := by
  refine PE.imp (pe_ix ix_seq ha hb hs) fun σ H Q ⟨H0, F0, A0, s, T, kx, k, w, xl, h, q⟩ => tOp_of w xl h fun x y s2 u v H2 hR w2 => ?_
  obtain ⟨ps, i, z, hx, hi, ez, hk⟩ := hR
  obtain ⟨F, A, w2⟩ := w2
  have ev := dp_int (dat_ok w2 (w2.tm _ List.mem_cons_self) hi)
  have w3 := w2.sub (T' := T) fun t h => List.mem_cons_of_mem _ (List.mem_cons_of_mem _ h)
  cases x with
  | own n =>
    obtain ⟨p, vs, hp, rfl, _, h1, h2⟩ := mown_at w2 (List.mem_cons_of_mem _ List.mem_cons_self) (mitems_own hx)
    obtain ⟨t, h3, h4⟩ := h2.ati ez
    exact .inl ⟨p, vs, i, t, rfl, ev, SqL.of h1, h3, q _ _ hk t H2 ⟨F, A, w3.push h4⟩⟩
  | tp qs =>
    cases hx
    obtain ⟨p, us, rfl, h1, h2⟩ := (show PVOk X.K F A (.tp ps) u from w2.tm _ (List.mem_cons_of_mem _ List.mem_cons_self))
    obtain ⟨t, h3, h4⟩ := h2.ati ez
    exact .inr (.inl ⟨p, us, i, t, rfl, ev, same_t w2.fz.g h1, h3, q _ _ hk t H2 ⟨F, A, w3.push h4⟩⟩)
  | _ => cases hx
theorem e_lenM (hm : X.mg "len" = none) (ha : PE X a (tE X.K W wa)) (hg : Gl X "len" := by rfl) (he : starEach [a] X.env = (false, eval a X.env) :: starEach [] X.env := by rfl) (hpl : (backTo pos (starEach [] X.env)).any (·.1) = false := by rfl) :
    PE X (.Call (.Name "len" p) [a] [] pos) (tE X.K W (wLenM wa)) := by
  refine PE.imp (pe_callB call_len hg hm PySem.boot_len (pa_cons ha pa_nil he) (he := he) (hpl := hpl)) fun σ H Q ⟨H0, F0, A0, s, T, kx, k, w, xl, h, q⟩ => cb1_of w xl h fun x s1 u H1 h1 w1 => ?_
  obtain ⟨ps, hx, hk⟩ := h1
  obtain ⟨F, A, w1⟩ := w1
  have w2 := w1.sub (T' := T) fun t h => List.mem_cons_of_mem _ h
  cases x with
  | own n =>
    obtain ⟨p, vs, hp, rfl, _, h1, h2⟩ := mown_at w1 List.mem_cons_self (mitems_own hx)
    exact ⟨_, _, rfl, .inl ⟨_, SqL.of h1, h2.len.symm⟩, q _ _ hk _ H1 ⟨F, A, w2.push (.int _)⟩⟩
  | tp qs =>
    cases hx
    obtain ⟨p, us, rfl, h1, h2⟩ := (show PVOk X.K F A (.tp ps) u from w1.tm _ List.mem_cons_self)
    exact ⟨_, _, rfl, .inr ⟨_, same_t w1.fz.g h1, h2.len.symm⟩, q _ _ hk _ H1 ⟨F, A, w2.push (.int _)⟩⟩
  | _ => cases hx
end
end PW
namespace PW
open PySem L2
section
variable {X : Cx} {W : WX} {a b e o wo_e : Expr} {es : List Expr} {wa wb we wo : EW} {ws : AW} {wl wh : OW} {pos p : Pos}
theorem e_slM {lo hi : Option Expr} {p2 : Pos} (he : PE X e (tE X.K W we)) (hl : PO X lo (tO X.K W wl)) (hu : PO X hi (tO X.K W wh)) : PE X (.Subscript e (.Slice lo hi none p2) pos) (tE X.K W (wSlM we wl wh)) := by
  refine PE.imp (pe_slice (sl_list.or (sl_tupA.or sl_str)) he hl hu) fun σ H Q ⟨H0, F0, A0, s, T, kx, k, w, xl, h, q⟩ => un_of w xl h fun x s1 u H1 h1 w1 => ?_
  refine ⟨H0, F0, A0, s1, (x, u) :: T, kx, _, w1, xl.push, h1, fun lo s2 h2 H2 w2 => ?_⟩
  refine ⟨H0, F0, A0, s2, (x, u) :: T, kx, _, w2, xl.push, h2, fun hi s3 h3 H3 w3 => ?_⟩
  obtain ⟨n, ps, rfl, ho, hk⟩ := h3
  obtain ⟨F, A, w3⟩ := w3
  obtain ⟨p, vs, hp, rfl, _, h1, h2⟩ := mown_at w3 List.mem_cons_self ho
  have w4 := w3.sub (T' := T) fun t h => List.mem_cons_of_mem _ h
  refine .inl ⟨p, vs, rfl, SqL.of h1, fun m hm => q _ _ hk _ _ ⟨F, _, (w4.newO (o := .lst (cutV vs lo hi)) (c := .ml (cutD ps lo hi)) hm fun fp => ⟨fp, _, upd_same, ?_⟩).push (top_at w4 m F)⟩⟩
  have e2 : cutV vs lo hi = (vs.drop (HT.sIx ps.length 0 lo)).take (HT.sIx ps.length ps.length hi - HT.sIx ps.length 0 lo) := by
    unfold cutV
    rw [h2.len]
  rw [e2]
  exact ((h2.dr _).tk _).mono (Same.refl _) (List.prefix_append _ _)
theorem e_appM {apos : Pos} (ho : PE X wo_e (tE X.K W wo)) (ha : PE X a (tE X.K W wa))
    (hbase : attributeBase wo_e "append" X.env (eval wo_e X.env) = eval wo_e X.env := by rfl)
    (hfew : ((backTo pos (starEach [a] X.env)).all (fun x => !x.1) && (backToKw pos (keywordEach [] X.env)).all (fun x => x.1.isSome)
      && decide ([a].length + ([] : List Keyword).length + (if ([] : List Keyword).isEmpty then 0 else 1) < 30)) = true := by rfl)
    (hline : (apos.endLine == pos.line) = true := by rfl) (hs : starEach [a] X.env = (false, eval a X.env) :: starEach [] X.env := by rfl) (hplain : (backTo pos (starEach [] X.env)).any (·.1) = false := by rfl) :
    PE X (.Call (.Attribute wo_e "append" apos) [a] [] pos) (tE X.K W (wAppM wo wa)) := by
  refine PE.imp (pe_bm PySem.F.plainAttrs_list PySem.F.slot_list_append PySem.F.type_list_append mt_append ho (pa_cons ha pa_nil hs) hbase hfew hline hs hplain) fun σ H Q ⟨H0, F0, A0, s, T, kx, k, w, xl, h, q⟩ => ?_
  refine ⟨H0, F0, A0, s, T, kx, _, w, xl, h, fun x s1 h1 u H1 w1 => ?_⟩
  obtain ⟨n, ws, rfl, ow, h1⟩ := h1
  have ty : tyV X.K "list" u H1 := by
    obtain ⟨F, A, w1⟩ := w1
    obtain ⟨p, vs, hp, rfl, _, hv, _⟩ := mown_at w1 List.mem_cons_self ow
    exact .inl ⟨rfl, vs, SqL.of hv⟩
  refine ⟨ty, H0, F0, A0, s1, _, kx, _, w1, xl.push, h1, fun y s2 h2 v H2 w2 => ?_⟩
  obtain ⟨ps, ox, hz, hk⟩ := h2
  obtain ⟨F, A, w3⟩ := w2
  obtain ⟨p, vs, hp, rfl, fp, hv, hd⟩ := mown_at w3 (List.mem_cons_of_mem _ List.mem_cons_self) ox
  have pv := w3.tm (y, v) List.mem_cons_self
  refine ⟨p, vs, v, rfl, rfl, hv, by rw [hd.len]; exact hz, q _ _ hk _ _ ⟨F, A, ((w3.sub (T' := T) fun t h => List.mem_cons_of_mem _ (List.mem_cons_of_mem _ h)).wrO (o := .lst (vs ++ [v])) (c := .ml (ps ++ [y])) hp fp (List.getElem?_eq_some_iff.mp ox).1 ⟨fp, _, upd_same, hd.app ⟨pv, True.intro⟩⟩).push .non⟩⟩
theorem e_popM {apos : Pos} (ho : PE X wo_e (tE X.K W wo)) (hbase : attributeBase wo_e "pop" X.env (eval wo_e X.env) = eval wo_e X.env := by rfl) (hline : (apos.endLine == pos.line) = true := by rfl) :
    PE X (.Call (.Attribute wo_e "pop" apos) [] [] pos) (tE X.K W (wPopM wo)) := by
  refine PE.imp (pe_bm0 PySem.F.plainAttrs_list PySem.F.slot_list_pop PySem.F.type_list_pop mt_pop ho hbase hline) fun σ H Q ⟨H0, F0, A0, s, T, kx, k, w, xl, h, q⟩ => ?_
  refine ⟨H0, F0, A0, s, T, kx, _, w, xl, h, fun x s1 h1 u H1 w1 => ?_⟩
  obtain ⟨n, ps, z, rfl, ox, hl, hk⟩ := h1
  obtain ⟨F, A, w1⟩ := w1
  obtain ⟨p, vs, hp, rfl, fp, hv, hd⟩ := mown_at w1 List.mem_cons_self ox
  obtain ⟨v, e1, e2⟩ := hd.at _ _ hl
  rw [← hd.len] at e1
  have pd : PVAll X.K F A ps.dropLast vs.dropLast := by
    rw [List.dropLast_eq_take, List.dropLast_eq_take, hd.len]
    exact hd.tk _
  exact ⟨.inl ⟨rfl, vs, SqL.of hv⟩, p, vs, v, rfl, rfl, hv, e1, q _ _ hk _ _ ⟨F, A, ((w1.sub (T' := T) fun t h => List.mem_cons_of_mem _ h).wrO (o := .lst vs.dropLast) (c := .ml ps.dropLast) hp fp (List.getElem?_eq_some_iff.mp ox).1 ⟨fp, _, upd_same, pd⟩).push e2⟩⟩
theorem t_truM (ha : PE X a (tE X.K W wa)) (he : ∀ whole, isTrue a X.env whole = (do let v ← whole; standAt a.pos; holding [v] (truthy v)) := by intro _; rfl) : PT X a (tT X.K W (wTruM wa)) := by
  refine PT.imp (pt_truth ha he) fun σ H Q ⟨H0, F0, A0, s, T, kx, k, w, xl, h, q⟩ => un_of w xl h fun x s1 u H1 h1 w1 => ?_
  obtain ⟨n, ps, rfl, ho, hk⟩ := h1
  obtain ⟨F, A, w1⟩ := w1
  obtain ⟨p, vs, hp, rfl, _, h1, h2⟩ := mown_at w1 List.mem_cons_self ho
  refine ⟨_, .inl ⟨_, SqL.of h1, ?_⟩, q _ s1 hk H1 ⟨F, A, w1.sub fun t h => List.mem_cons_of_mem _ h⟩⟩
  have := h2.len
  cases vs <;> cases ps <;> first | rfl | (cases this; done)
/-! targets -/
def tGM (K : PySem.W.Frag) (L : List Nat) (g : GWM) : TG := fun v σ H Q => ∃ H0 F0 A0 s T x k, Wd K H0 F0 A0 s σ T H ∧ (x, v) ∈ T ∧ g x s k ∧ ∀ s', k s' → ∀ σ' H', OutL L σ σ' → Wd K H0 F0 A0 s' σ' T H' → Q σ' H'
def tGMs (K : PySem.W.Frag) (L : List Nat) (g : GWMs) : TGs := fun vs σ H Q => ∃ H0 F0 A0 s T xs k, Wd K H0 F0 A0 s σ T H ∧ vs.length = xs.length ∧ (∀ t ∈ xs.zip vs, t ∈ T) ∧ g xs s k ∧ ∀ s', k s' → ∀ σ' H', OutL L σ σ' → Wd K H0 F0 A0 s' σ' T H' → Q σ' H'
theorem g_nameM {i : Nat} {x : Str} (hN : X.N.Nodup) (hi : X.N[i]? = some x) (hx : Loc X.env.scope x) (hf : X.fn x = true ∨ X.env.scope.names.lookup x = some .local := by first | exact .inl rfl | exact .inr rfl | assumption) : PG X (.Name x pos) (tGM X.K [i] (gNM i)) := by
  refine PG.imp (pg_name hN hi hx hf) fun v σ H Q ⟨H0, F0, A0, s, T, x, k, w, m, h, q⟩ => ?_
  obtain ⟨F, A, w⟩ := w
  exact q _ h _ H ⟨by rw [List.length_set], fun j hj => List.getElem?_set_ne (fun e => hj (by rw [e]; exact List.mem_cons_self))⟩ ⟨F, A, w.st (w.tm _ m)⟩
theorem gs_nilM : PGs X [] (tGMs X.K [] gsNilM) := by
  refine PGs.imp pgs_nil fun vs σ H Q ⟨H0, F0, A0, s, T, xs, k, w, e, m, ⟨hx, h⟩, q⟩ => ?_
  subst hx
  exact ⟨List.eq_nil_of_length_eq_zero e, q s h σ H ⟨rfl, fun _ _ => rfl⟩ w⟩
theorem gs_consM {es : List Expr} {g1 : GWM} {g2 : GWMs} {L1 L2 : List Nat} (h1 : PG X e (tGM X.K L1 g1)) (h2 : PGs X es (tGMs X.K L2 g2)) (hs : (assignEach (e :: es) X.env).map (·.2) = assign e X.env :: (assignEach es X.env).map (·.2) := by rfl) : PGs X (e :: es) (tGMs X.K (L1 ++ L2) (gsConsM g1 g2)) := by
  refine PGs.imp (pgs_cons h1 h2 hs) fun vs σ H Q ⟨H0, F0, A0, s, T, xs, k, w, e, m, ⟨x, r, hx, h⟩, q⟩ => ?_
  subst hx
  cases vs with
  | nil => cases e
  | cons v vs =>
    refine ⟨v, vs, rfl, H0, F0, A0, s, T, x, _, w, m _ List.mem_cons_self, h, fun s' h' σ' H' l' w' => ?_⟩
    exact ⟨H0, F0, A0, s', T, r, k, w', Nat.succ.inj e, fun t ht => m t (List.mem_cons_of_mem _ ht), h', fun s2 h2 σ2 H2 l2 w2 => q s2 h2 σ2 H2 ⟨l2.1.trans l'.1, fun j hj => (l2.2 j fun z => hj (List.mem_append_right _ z)).trans (l'.2 j fun z => hj (List.mem_append_left _ z))⟩ w2⟩
theorem PVAll.zip {K : PySem.W.Frag} {F : Hp} {A : List Addr} : ∀ {ps : List PV} {us : List V}, PVAll K F A ps us → ∀ t ∈ ps.zip us, PVOk K F A t.1 t.2
  | [], _, _, _, m => nomatch m
  | p :: ps, u :: us, ⟨h, r⟩, t, m => by
    rcases List.mem_cons.mp m with e | m
    · rw [e]; exact h
    · exact PVAll.zip r t m
  | _ :: _, [], h, _, _ => h.elim
theorem g_tupM {es : List Expr} {kk n : Nat} {gs : GWMs} {L : List Nat} (hc : X.calm = true) (h : PGs X es (tGMs X.K L gs)) (hn : (assignEach es X.env).length = n := by rfl) (hst : (assignEach es X.env).findIdx? (·.1) = none := by rfl) : PG X (.Tuple es kk pos) (tGM X.K L (gTM n gs)) := by
  refine PG.imp (pg_tup hc h hn hst) fun v σ H Q ⟨H0, F0, A0, s, T, x, k, w, m, ⟨ps, hx, hl, h⟩, q⟩ => ?_
  obtain ⟨F, A, w⟩ := w
  have pv := w.tm _ m
  have got : ∃ a us, v = .ref a ∧ SqT X.K H a us ∧ PVAll X.K F A ps us := by
    cases x with
    | tp qs =>
      cases hx
      obtain ⟨a, us, e, h1, h2⟩ := pv
      exact ⟨a, us, e, same_t w.fz.g h1, h2⟩
    | d y =>
      cases y with
      | tuple xs =>
        cases hx
        obtain ⟨a, us, e, h1, h2⟩ := itemsT_ok w pv rfl
        exact ⟨a, us, e, h1, PVAll.dl h2⟩
      | _ => cases hx
    | _ => cases hx
  obtain ⟨a, us, e1, h1, h2⟩ := got
  refine ⟨a, us, e1, h1, h2.len.trans hl, H0, F0, A0, s, ps.zip us ++ T, ps, k, ⟨F, A, w.tms fun t ht => ?_⟩, h2.len, fun t ht => List.mem_append_left _ ht, h, fun s' h' σ' H' l' w' => q s' h' σ' H' l' (w'.sub fun t ht => List.mem_append_right _ ht)⟩
  rcases List.mem_append.mp ht with z | z
  · exact h2.zip t z
  · exact w.tm t z
theorem s_unpM {tg : Expr} {L : List Nat} {g : GWM} (he : PE X e (tE X.K W we)) (hg : PG X tg (tGM X.K L g)) (hs : swapsWithSole [tg] e pos.line X.env = pure false := by rfl) (hw : swappedStores [tg] e X.env = pure none := by rfl)
    (h1 : (assignEach [tg] X.env).map (·.2) = [assign tg X.env] := by rfl) : PS X (.Assign [tg] e pos) (tS X.K W (wUnpM we g)) := by
  refine PS.imp (ps_asg he hg hs hw h1) fun D σ H ⟨H0, F0, A0, s, T, kx, k, w, xl, h, q1, q2, q3, q4⟩ => ?_
  refine ⟨H0, F0, A0, s, T, kx, _, w, xl, h, fun v s' h' u H' w' => ?_⟩
  exact ⟨H0, F0, A0, s', _, v, k.nx, w', List.mem_cons_self, h', fun s3 h3 σ3 H3 _ w3 => q1 s3 h3 σ3 H3 w3.pop⟩
/-! loops -/
theorem ml_go {K : PySem.W.Frag} {H0 F0 : Hp} {A0 : List Addr} {s : PSt} {σ : L2.St} {T : List (PV × V)} {H F : Hp} {A : List Addr} {n : Nat} {a : Addr} {ps : List PV} (w : WdF K H0 F0 A0 s σ T H F A) (m : (PV.own n, V.ref a) ∈ T) (ho : s.o[n]? = some (.ml ps)) (i : Nat) :
    (i < ps.length → (Itl K a).go i H) ∧ (ps.length ≤ i → (Itl K a).stop i H) ∧ (i < ps.length → ∀ x H', (Itl K a).yld i H x H' → H' = H ∧ ∃ v, ps[i]? = some v ∧ PVOk K F A v x) := by
  obtain ⟨p, vs, hp, e, _, h1, h2⟩ := mown_at w m ho
  cases e
  have hl := h2.len
  refine ⟨fun hi => ⟨vs, vs[i]'(by omega), SqL.of h1, List.getElem?_eq_getElem (by omega)⟩, fun hi => ⟨vs, SqL.of h1, by omega⟩, fun hi x H' hy => ?_⟩
  obtain ⟨rfl, hx⟩ := hy
  have e1 := hx vs (SqL.of h1)
  have e2 : ps[i]? = some ps[i] := List.getElem?_eq_getElem hi
  obtain ⟨u, e3, pv⟩ := h2.at i _ e2
  rw [e1] at e3
  cases e3
  exact ⟨rfl, _, e2, pv⟩
theorem s_forM {tg iter : Expr} {body : List Stmt} {L : List Nat} {g : GWM} {b : SW} (hp : PassesOwn (model X.prog X.w) X.A X.env X.xe) (hc : X.calm = true) (hi : PE X iter (tE X.K W we)) (hg : PG X tg (tGM X.K L g)) (hb : PSs X body (tS X.K W b))
    (hs : ∀ v, foldedSetIterable iter X.env v = pure v := by intro _; rfl) : PS X (.For tg iter body [] pos) (tS X.K W (wForM we g b)) := by
  refine PS.imp (ps_for hp hc (pi_list hi) hg hb hs) fun D σ H ⟨H0, F0, A0, s, T, kx, k, w, xl, h, q1, q2, q3, q4⟩ => ?_
  refine un_of w xl h fun v s0 u H1 h0 w1 => ?_
  obtain ⟨n, ps, rfl, o0, I, i0, hC, turn, fin⟩ := h0
  obtain ⟨a, rfl, vs0, hv0⟩ : ∃ a, u = .ref a ∧ ∃ vs, H1 a = some (.lst vs) := by
    obtain ⟨F, A, w1⟩ := w1
    obtain ⟨p, vs, _, e, _, h1, _⟩ := mown_at w1 List.mem_cons_self o0
    exact ⟨p, e, vs, h1⟩
  have lt := w1.own_lt
  refine ⟨a, rfl, ⟨vs0, SqL.of hv0⟩, fun i m σ' H' => m = ps.length - i ∧ i ≤ ps.length ∧ ∃ s', Wd X.K H0 F0 A0 s' σ' ((.own n, .ref a) :: T) H' ∧ I i s', ⟨_, rfl, Nat.zero_le _, s0, w1, i0⟩, ?_⟩
  rintro i m σ2 H2 ⟨rfl, hi, s2, ⟨F, A, w2⟩, i2⟩
  obtain ⟨j1, j2, j3⟩ := ml_go w2 List.mem_cons_self (hC i s2 hi i2) i
  by_cases hlt : i < ps.length
  · refine .inr ⟨j1 hlt, fun σ' H' => ∃ s', Wd X.K H0 F0 A0 s' σ' ((.own n, .ref a) :: T) H' ∧ I (i + 1) s', fun σ' H' ⟨s', w', i'⟩ => ⟨ps.length - (i + 1), by omega, rfl, hlt, s', w', i'⟩, fun x H' hy => ?_⟩
    obtain ⟨rfl, d, hd, pv⟩ := j3 hlt x H' hy
    refine ⟨H0, F0, A0, s2, _, d, _, ⟨F, A, w2.push pv⟩, List.mem_cons_self, turn i d s2 hd i2, fun s4 h4 σ4 H4 _ w4 => ?_⟩
    have nx : ∀ s3, (I (i + 1) s3 ∨ I (i + 1) (s3.trim s0.o.length)) → ∀ σ' H', Wd X.K H0 F0 A0 s3 σ' ((d, x) :: (.own n, .ref a) :: T) H' → ∃ s', Wd X.K H0 F0 A0 s' σ' ((.own n, .ref a) :: T) H' ∧ I (i + 1) s' := fun s3 h3 σ' H' w3 => by
      rcases h3 with h3 | h3
      · exact ⟨s3, w3.pop, h3⟩
      · exact ⟨_, w3.pop.trim lt.1 lt.2, h3⟩
    refine ⟨H0, F0, A0, s4, _, kx, _, w4, xl.more fun t ht => List.mem_cons_of_mem _ (List.mem_cons_of_mem _ ht), h4, nx, fun v s' h' u σ' H' w' => q2 v s' h' u σ' H' (w'.sub fun t ht => ?_), fun s' h' σ' H' w' => q1 s' h' σ' H' (w'.sub fun t ht => List.mem_cons_of_mem _ (List.mem_cons_of_mem _ ht)), nx⟩
    rcases List.mem_cons.mp ht with e | ht
    · rw [e]; exact List.mem_cons_self
    · exact List.mem_cons_of_mem _ (List.mem_cons_of_mem _ (List.mem_cons_of_mem _ ht))
  · have e : i = ps.length := by omega
    subst e
    exact .inl ⟨j2 (Nat.le_refl _), q1 s2 (fin s2 i2) σ2 H2 ⟨F, A, w2.sub fun t ht => List.mem_cons_of_mem _ ht⟩⟩
end
end PW
namespace PW
open PySem L2
theorem ml_app {s : PSt} {n : Nat} {ps : List PV} {x : List OC} (h : s.o[n]? = some (.ml ps)) : (⟨s.r, s.o ++ x⟩ : PSt).o[n]? = some (.ml ps) := by
  show (s.o ++ x)[n]? = some (.ml ps)
  rw [List.getElem?_append_left (List.getElem?_eq_some_iff.mp h).1]
  exact h
section
variable {X : Cx} {W : WX} {elt tg iter c : Expr} {ifs : List Expr} {scope : Scope} {own : List (Str × Nat)} {pos : Pos} {wl : EW} {g : GWM} {tt : TW} {we : EW} {L : List Nat}
theorem lcM_of (hL : ∀ i ∈ L, i ∈ own.map (·.2)) {σ : St} {H : Hp} {Q : VK} (h : tE X.K W (wLcM wl g tt we (own.map (·.2))) σ H Q) : tLc (iList X.K (tE X.K W wl)) (tGM X.K L g) (tT X.K W0 tt) (tE X.K W0 we) (own.map (·.2)) σ H Q := by
  obtain ⟨H0, F0, A0, s, T, kx, k, w, xl, h, q⟩ := h
  generalize own.map (·.2) = vs at *
  refine un_of w xl h fun v s1 u H1 h1 w1 => ?_
  obtain ⟨m0, xs, rfl, o0, I, i0, hC, turn, fin⟩ := h1
  obtain ⟨a, rfl, vs0, hv0⟩ : ∃ a, u = .ref a ∧ ∃ vs, H1 a = some (.lst vs) := by
    obtain ⟨F, A, w1⟩ := w1
    obtain ⟨p, vs, _, e, _, h1, _⟩ := mown_at w1 List.mem_cons_self o0
    exact ⟨p, e, vs, h1⟩
  refine ⟨a, rfl, ⟨vs0, SqL.of hv0⟩, fun D hD => ?_⟩
  have lt := w1.own_lt
  -- the word between the turns
  refine ⟨fun i m H' => m = xs.length - i ∧ i ≤ xs.length ∧ ∃ s2 acc, s2.o.length = s1.o.length ∧ I i acc s2 ∧ Wd X.K H0 F0 A0 ⟨s2.r, s2.o ++ [.dl acc]⟩ (wipe σ vs) ((.own s1.o.length, .ref D) :: ((PV.own m0, V.ref a) :: T)) H', ⟨_, rfl, Nat.zero_le _, s1.wipe vs, [], by rw [(wipe_r s1 vs).1], i0, ?_⟩, ?_⟩
  · obtain ⟨F, A, w1⟩ := w1
    have w2 := w1.newL hD .nil
    have w3 := w2.push (top_at w1 D F)
    obtain ⟨e1, e2, e3⟩ := wipe_r s1 vs
    refine ⟨F, _, w3.rel (s' := ⟨(s1.wipe vs).r, (s1.wipe vs).o ++ [.dl []]⟩) (by rw [e1]) ?_ fun i v e => ?_⟩
    · show (s1.wipe vs).r.length = _
      rw [e2, wipe_len]; exact w1.sl
    · obtain ⟨a, b⟩ := e3 i v e
      exact ⟨a, fun u hu => by rw [wipe_out b]; exact hu⟩
  · rintro i m H2 ⟨rfl, hi, s2, acc, hn, i2, ⟨F, A, w2⟩⟩
    obtain ⟨j1, j2, j3⟩ := ml_go w2 (List.mem_cons_of_mem _ List.mem_cons_self) (ml_app (hC i acc s2 hi i2)) i
    by_cases hlt : i < xs.length
    · refine .inr ⟨j1 hlt, fun H' => ∃ s2 acc, s2.o.length = s1.o.length ∧ I (i + 1) acc s2 ∧ Wd X.K H0 F0 A0 ⟨s2.r, s2.o ++ [.dl acc]⟩ (wipe σ vs) ((.own s1.o.length, .ref D) :: ((PV.own m0, V.ref a) :: T)) H', fun H' ⟨s', a', e', i', w'⟩ => ⟨xs.length - (i + 1), by omega, rfl, hlt, s', a', e', i', w'⟩, fun x H' hy => ?_⟩
      obtain ⟨rfl, d, hd, pv⟩ := j3 hlt x H' hy
      have w3 := w2.push pv
      have lT : ∀ t ∈ (PV.own s1.o.length, V.ref D) :: ((PV.own m0, V.ref a) :: T), t.1.lt (s1.o.length + 1) = true := fun t ht => by
        rcases List.mem_cons.mp ht with z | z
        · subst z; exact decide_eq_true (Nat.lt_succ_self _)
        · exact lt_mono (Nat.le_succ _) (lt.2 t z)
      -- a state behind the turn, cut to the length
      have back : ∀ (s6 : PSt) (σ2 : St) (H4 : Hp) (a' : List PyData), wipe σ2 vs = wipe σ vs → s6.o[s1.o.length]? = some (.dl a') → Wd X.K H0 F0 A0 s6 σ2 ((.own s1.o.length, .ref D) :: ((PV.own m0, V.ref a) :: T)) H4 →
          Wd X.K H0 F0 A0 ⟨((s6.trim s1.o.length).wipe vs).r, ((s6.trim s1.o.length).wipe vs).o ++ [.dl a']⟩ (wipe σ vs) ((.own s1.o.length, .ref D) :: ((PV.own m0, V.ref a) :: T)) H4 := fun s6 σ2 H4 a' hw ho w6 => by
        have w7 := w6.trim (m := s1.o.length + 1) (by have := lt.1; omega) lT
        obtain ⟨F7, A7, w7⟩ := w7
        obtain ⟨e1, e2, e3⟩ := wipe_r (s6.trim s1.o.length) vs
        refine ⟨F7, A7, w7.relO ?_ (fun n c hc => ?_) ?_ fun j v e => ?_⟩
        · show (((s6.trim s1.o.length).wipe vs).o ++ [OC.dl a']).length = (cutL (s1.o.length + 1) s6.o).length
          rw [e1, List.length_append, cutL_len]
          show (cutL s1.o.length s6.o).length + 1 = _
          rw [cutL_len]
          have := (List.getElem?_eq_some_iff.mp ho).1
          omega
        · have hc : (((s6.trim s1.o.length).wipe vs).o ++ [OC.dl a'])[n]? = some c := hc
          show c = .no ∨ (cutL (s1.o.length + 1) s6.o)[n]? = some c
          have hlen : (cutL s1.o.length s6.o).length = s1.o.length := by
            rw [cutL_len]
            have := (List.getElem?_eq_some_iff.mp ho).1
            omega
          rw [e1] at hc
          have hc : (cutL s1.o.length s6.o ++ [OC.dl a'])[n]? = some c := hc
          rcases Nat.lt_or_ge n s1.o.length with hn | hn
          · rw [List.getElem?_append_left (by rw [hlen]; exact hn)] at hc
            obtain ⟨_, c0, h3, rfl⟩ := cutL_at hc
            rcases ocut_is (m := s1.o.length) c0 with z | z
            · exact .inl z
            · refine .inr ?_
              unfold cutL
              rw [List.getElem?_map, List.getElem?_take, if_pos (Nat.lt_succ_of_lt hn), h3, z]
              show some (OC.cut (s1.o.length + 1) c0) = some c0
              rcases ocut_up (Nat.le_succ s1.o.length) z with y | y
              · exact congrArg some y
              · subst y; rfl
          · rw [List.getElem?_append_right (by rw [hlen]; exact hn), hlen] at hc
            have e : n = s1.o.length := by
              cases hk : n - s1.o.length with
              | zero => omega
              | succ k => rw [hk] at hc; cases hc
            subst e
            rw [Nat.sub_self] at hc
            cases hc
            refine .inr ?_
            unfold cutL
            rw [List.getElem?_map, List.getElem?_take, if_pos (Nat.lt_succ_self _), ho]
            rfl
        · show ((s6.trim s1.o.length).wipe vs).r.length = _
          rw [e2, ← hw, wipe_len, ← w7.sl]
          show (s6.r.map _).length = (s6.r.map _).length
          rw [List.length_map, List.length_map]
        · obtain ⟨a, b⟩ := e3 j v e
          refine ⟨?_, fun u hu => by rw [← hw, wipe_out b]; exact hu⟩
          have a : (s6.r.map (cutP s1.o.length))[j]? = some (some v) := a
          show (s6.r.map (cutP (s1.o.length + 1)))[j]? = some (some v)
          rw [List.getElem?_map] at a ⊢
          cases hr : s6.r[j]? with
          | none => rw [hr] at a; cases a
          | some o =>
            rw [hr] at a
            obtain ⟨rfl, hl⟩ := cutP_is (Option.some.inj a)
            exact congrArg some (cutP_of (lt_mono (Nat.le_succ _) hl))
      refine ⟨H0, F0, A0, _, _, d, _, ⟨F, A, w3⟩, List.mem_cons_self, turn i d acc s2 hd hn i2, fun s3 h3 σ2 H3 l3 w4 => ?_⟩
      have hw := wipe_eq l3 hL
      refine ⟨hw, H0, F0, A0, s3, _, _, _, w4, XL.none, h3, fun b s4 h4 H4 w5 => ?_⟩
      cases b with
      | false =>
        obtain ⟨ho, hI⟩ := h4.2 rfl
        refine iteF ⟨_, acc, ?_, hI, back s4 σ2 H4 acc hw ho w5.pop⟩
        rw [(wipe_r _ vs).1]
        show (cutL s1.o.length s4.o).length = _
        rw [cutL_len]
        have := (List.getElem?_eq_some_iff.mp ho).1
        omega
      | true =>
        refine iteT ⟨H0, F0, A0, s4, _, _, _, w5, XL.none, h4.1 rfl, fun y s5 h5 u H5 w6 => ?_⟩
        obtain ⟨dd, s6, h6, w7⟩ := frz_ok w6 h5
        obtain ⟨ho, hz, hI⟩ := h6
        obtain ⟨F8, A8, w8⟩ := w7
        obtain ⟨p, vs', hp, ep, hv, hdq⟩ := own_at w8 (List.mem_cons_of_mem _ (List.mem_cons_of_mem _ List.mem_cons_self)) ho
        cases ep
        have du : Dq X.K F8 u dd := w8.tm (.d dd, u) List.mem_cons_self
        refine ⟨vs', hv, by rw [hdq.len]; exact hz, _, acc ++ [dd], ?_, hI, ?_⟩
        · rw [(wipe_r _ vs).1]
          show (cutL s1.o.length s6.o).length = _
          rw [cutL_len]
          have := (List.getElem?_eq_some_iff.mp ho).1
          omega
        · have w9 := (w8.sub (T' := (.own s1.o.length, .ref D) :: ((PV.own m0, V.ref a) :: T)) fun t h => List.mem_cons_of_mem _ (List.mem_cons_of_mem _ h)).wr hp ho (hdq.app (.cons du .nil))
          have b := back ⟨s6.r, s6.o.set s1.o.length (.dl (acc ++ [dd]))⟩ σ2 _ (acc ++ [dd]) hw (by
            show (s6.o.set s1.o.length _)[s1.o.length]? = _
            rw [List.getElem?_set_self (List.getElem?_eq_some_iff.mp ho).1]) ⟨F8, A8, w9⟩
          have e : (((⟨s6.r, s6.o.set s1.o.length (.dl (acc ++ [dd]))⟩ : PSt).trim s1.o.length).wipe vs) = ((s6.trim s1.o.length).wipe vs) := by
            have : (⟨s6.r, s6.o.set s1.o.length (.dl (acc ++ [dd]))⟩ : PSt).trim s1.o.length = s6.trim s1.o.length := by
              unfold PSt.trim cutL
              show (⟨s6.r.map _, ((s6.o.set s1.o.length _).take s1.o.length).map _⟩ : PSt) = ⟨s6.r.map _, (s6.o.take s1.o.length).map _⟩
              rw [List.take_set_of_le (Nat.le_refl _)]
            rw [this]
          rw [e] at b
          exact b
    · have e : i = xs.length := by omega
      subst e
      refine .inl ⟨j2 (Nat.le_refl _), q _ _ (fin acc s2 hn i2) (.ref D) H2 ⟨F, A, (w2.rel rfl ?_ fun i v e => ⟨e, fun u hu => (wipe_some hu).1⟩).sub fun t ht => ?_⟩⟩
      · have := w2.sl
        rw [wipe_len] at this
        exact this
      · rcases List.mem_cons.mp ht with e | ht
        · rw [e]; exact List.mem_cons_self
        · exact List.mem_cons_of_mem _ (List.mem_cons_of_mem _ ht)
theorem e_lcM (hc : X.calm = true) (hN : X.N.Nodup) (hi : PE X iter (tE X.K W wl)) (ok : BlkOk X.N X.env.scope scope own) (hL : ∀ i ∈ L, i ∈ own.map (·.2))
    (hg : ∀ (s : Shared) (H : Hp) (C : Addr) (cl : List (Str × Addr)) (fp : List Addr), PG (X.blk s H scope (compEnvC scope cl C X.env) fp) tg (tGM X.K L g)) (ht : ∀ (s : Shared) (H : Hp) (C : Addr) (cl : List (Str × Addr)) (fp : List Addr), PTs (X.blk s H scope (compEnvC scope cl C X.env) fp) ifs (tT X.K W0 tt))
    (he : ∀ (s : Shared) (H : Hp) (C : Addr) (cl : List (Str × Addr)) (fp : List Addr), PE (X.blk s H scope (compEnvC scope cl C X.env) fp) elt (tE X.K W0 we)) (hs : ∀ x, foldedSetIterable iter X.env x = pure x := by intro _; rfl) :
    PE X (.ListComp elt [⟨tg, iter, ifs, 0⟩] scope pos) (tE X.K W (wLcM wl g tt we (own.map (·.2)))) :=
  PE.imp (pe_lc hc hN (pi_list hi) ok hg ht he hs) fun σ H Q h => lcM_of hL h
/-- name = [..] on one line -/
theorem s_setLcM {i : Nat} {y : Str} {py spos : Pos} (hc : X.calm = true) (hN : X.N.Nodup) (hy : X.N[i]? = some y) (hyl : X.env.scope.names.lookup y = some .local)
    (hsw : swapsWith (.ListComp elt [⟨tg, iter, ifs, 0⟩] scope pos) (some (.Name y py)) spos.line X.env = pure true) (hi : PE X iter (tE X.K W wl)) (ok : BlkOk X.N X.env.scope scope own) (hL : ∀ i ∈ L, i ∈ own.map (·.2))
    (hg : ∀ (s : Shared) (H : Hp) (C : Addr) (cl : List (Str × Addr)) (fp : List Addr), PG (X.blk s H scope (compEnvC scope cl C X.env) fp) tg (tGM X.K L g)) (ht : ∀ (s : Shared) (H : Hp) (C : Addr) (cl : List (Str × Addr)) (fp : List Addr), PTs (X.blk s H scope (compEnvC scope cl C X.env) fp) ifs (tT X.K W0 tt))
    (he : ∀ (s : Shared) (H : Hp) (C : Addr) (cl : List (Str × Addr)) (fp : List Addr), PE (X.blk s H scope (compEnvC scope cl C X.env) fp) elt (tE X.K W0 we)) (hs : ∀ x, foldedSetIterable iter X.env x = pure x := by intro _; rfl) :
    PS X (.Assign [.Name y py] (.ListComp elt [⟨tg, iter, ifs, 0⟩] scope pos) spos) (tS X.K W (wAsg (wLcM wl g tt we (own.map (·.2))) i)) := by
  refine PS.imp (ps_setLc hc hN hy hyl hsw (pi_list hi) ok hg ht he hs) fun D σ H ⟨H0, F0, A0, s, T, kx, k, w, xl, h, q1, q2, q3, q4⟩ => ?_
  refine lcM_of hL ⟨H0, F0, A0, s, T, kx, _, w, xl, h, fun v s' h' u H' w' => ?_⟩
  obtain ⟨F, A, w'⟩ := w'
  exact q1 _ h' _ H' ⟨F, A, (w'.sub fun t h => List.mem_cons_of_mem _ h).st (w'.tm _ List.mem_cons_self)⟩
end
end PW
namespace PW
open PySem PySem.Spec PyProof.Rows L2
section
variable {X : Cx} {W : WX} {e o : Expr} {we wo : EW} {pos p : Pos} {y z : Str} {j k : Nat} {c0 c1 p2 : Pos} {i : Int}
/-- the slice e[:i], i written: behind it a token is out -/
theorem peu_head {r : V → Option Int → Option Int → Hp → VK → Prop} {te : TE} (hr : SlR X r) (he : PE X e te) : PEU X (.Subscript e (.Slice none (some (.Constant (.int i) j c0)) none p2) pos) (tSl r te tNoPart (tPart (tC (.int i)))) := by
  intro pins s σ H Q I h
  refine Subscript_ (thn (he.run pins s σ H _ I h) fun v s1 ⟨x, H1, I1, r1, q1⟩ => ?_)
  refine wpAny_Slice ?_
  rw [evalPart_none]
  refine wpAny_pure ?_
  rw [evalPart_some]
  refine wpAny_Constant_int ?_
  refine wpAny_pure ?_
  obtain ⟨i', e', q2⟩ := q1
  cases e'
  have I2 : Inv X pins σ H1 { s1 with toks := s1.toks + 1 } := I1.tok _
  have I3 : Inv X pins σ H1 { s1 with toks := s1.toks + 1, heap := s1.heap.push { cls := .type "slice", data := .fields #[.none, .int i s1.toks, .none] } } := I2.kept (t' := s1.toks + 1) fun b ob q => Heap.get?_push_of_some _ q
  obtain ⟨T, id, hT, ht, hg⟩ := hr pins { s1 with toks := s1.toks + 1, heap := s1.heap.push { cls := .type "slice", data := .fields #[.none, .int i s1.toks, .none] } } σ H1 x v .none (.int i s1.toks) none (some i) s1.heap.objs.size Q I3 r1 (Heap.IsSliceOf.new ..) .none (.int i s1.toks) q2
  have fin : wpAny (model X.prog X.w) X.A (subscriptTail e (.Slice none (some (.Constant (.int i) j c0)) none p2) v (.ref s1.heap.objs.size)) (EP X pins σ Q) X.xe { s1 with toks := s1.toks + 1, heap := s1.heap.push { cls := .type "slice", data := .fields #[.none, .int i s1.toks, .none] } } :=
    tail_any (ops := [.ref s1.heap.objs.size, v]) ht hT hg (by with_unfolding_all rfl)
  exact wpAny_mono (wpAny_toks_of (n := 1) (Nat.succ_le_succ (Nat.zero_le _)) fin) (fun _ _ q => q) fun _ _ q => q.2
theorem eu_head (he : PE X e (tE X.K W we)) : PEU X (.Subscript e (.Slice none (some (.Constant (.int i) j c0)) none p2) pos) (tE X.K W (wSl we wNoPart (wPart (wC (.int i))))) := by
  intro pins s σ H Q I h
  refine peu_head (sl_list.or (sl_tupA.or sl_str)) he pins s σ H Q I ?_
  exact tE_mono (sl_of h) fun v H' h => ⟨i, rfl, tO_int (tO_none h)⟩
/-- o.replace(y, z), a token being out behind o -/
theorem e_replU {apos : Pos} (ho : PEU X o (tE X.K W wo)) (hyz : (y == z) = false := by decide)
    (hst : starEach [.Constant (.str y) j c0, .Constant (.str z) k c1] X.env = [(false, eval (.Constant (.str y) j c0) X.env), (false, eval (.Constant (.str z) k c1) X.env)] := by rfl)
    (hbase : attributeBase o "replace" X.env (eval o X.env) = eval o X.env := by rfl) (hline : (apos.endLine == pos.line) = true := by rfl) :
    PE X (.Call (.Attribute o "replace" apos) [.Constant (.str y) j c0, .Constant (.str z) k c1] [] pos) (tE X.K W (wRepl y z wo)) := by
  refine ⟨fun pins s σ H Q I ⟨H0, F0, A0, s0, T, kx, kk, w, xl, h, q⟩ => ?_⟩
  refine PySem.Call_method2 hbase hst hline (wpAny_mono (ho pins s σ H (fun v H1 => ∃ x, v = .str x ∧ x.length + (x.length + 1) * z.length ≤ 16777216 ∧ Q (.str (Txt.replace x y z)) H1) I ⟨H0, F0, A0, s0, T, kx, _, w, xl, h, fun x s1 h1 u H1 w1 => ?_⟩) (fun v s1 q => ?_) fun _ _ z => z)
  · obtain ⟨z0, rfl, hz, hk⟩ := h1
    cases str_at w1 List.mem_cons_self
    obtain ⟨F, A, w1⟩ := w1
    exact ⟨z0, rfl, hz, q _ _ hk _ H1 ⟨F, A, (w1.sub fun t h => List.mem_cons_of_mem _ h).push (.str _)⟩⟩
  obtain ⟨hk, v', H1, I1, r1, x, e1, hb, q⟩ := q
  subst e1
  obtain ⟨tx, e2⟩ := r1
  subst e2
  refine ⟨"str", _, PySem.F.plainAttrs_str, PySem.F.slot_str_replace, PySem.F.type_str_replace, typeIs_str _ _ _, (fun _ e => nomatch e), Calls.callWith_builtin rfl (Calls.evalArgs_plain (Calls.spliced_cons ?_))⟩
  refine Calls.Constant_str (Calls.spliced_cons (Calls.Constant_str (Calls.spliced_nil ?_)))
  exact PySem.SC.replace (show s1.toks ≠ 0 by omega) (show s1.toks + 1 ≠ 0 by omega) (show s1.toks ≠ s1.toks + 1 by omega) hyz hb fun t' k => ⟨.str (Txt.replace x y z), H1, I1.tok k, ⟨t', rfl⟩, q⟩
end
end PW

namespace PW
open PySem L2
/-! ### calls that are lent the whole heap; recursion -/
/-- H without the things in A -/
def lendA (H : Hp) (A : List Addr) : Hp := fun b => if b ∈ A then none else H b
theorem lendA_out {H : Hp} {A : List Addr} {b : Addr} (h : b ∉ A) : lendA H A b = H b := if_neg h
theorem lendA_in {H : Hp} {A : List Addr} {b : Addr} (h : b ∈ A) : lendA H A b = none := if_pos h
section
variable {K : PySem.W.Frag} {H0 F0 : Hp} {A0 : List Addr} {s : PSt} {σ : L2.St} {T : List (PV × V)} {H F : Hp} {A : List Addr}
theorem WdF.afterH {s' : PSt} {σ' : L2.St} {T' : List (PV × V)} {H' F' : Hp} {A' : List Addr} (w : WdF K H0 F0 A0 s σ T H F A) (z : WdF K (lendA H A) F A s' σ' T' H' F' A') : WdF K H0 F0 A0 ⟨s.r, s'.o⟩ σ T H' F' A' where
  fz := ⟨w.fz.f.trans z.fz.f, z.fz.g, fun a u e => z.fz.h a u (by
      rw [lendA_out fun ha => by rw [(w.ad a ha).1] at e; cases e]
      exact w.fz.h a u e), fun p h1 h2 => z.fz.n p (by
      rw [lendA_out fun ha => h1 (w.ad p ha).1]
      exact fun e => h1 (w.fz.h.free e)) (w.fz.n p h1 h2)⟩
  pre := w.pre.trans z.pre
  len := z.len
  nd := z.nd
  ad := fun q hq => ⟨by
    by_cases h : q ∈ A
    · exact (w.ad q h).1
    · have := (z.ad q hq).1
      rw [lendA_out h] at this
      exact w.fz.h.free this, (z.ad q hq).2⟩
  oc := z.oc
  sl := w.sl
  pv := fun i v h => by
    obtain ⟨u, a, b⟩ := w.pv i v h
    exact ⟨u, a, b.mono z.fz.f z.pre⟩
  tm := fun t ht => (w.tm t ht).mono z.fz.f z.pre
theorem WdF.forH (w : WdF K H0 F0 A0 s σ T H F A) (xs : List PV) (us : List V) (e : us.length = xs.length) (ht : ∀ t ∈ xs.zip us, t ∈ T) : WdF K (lendA H A) F A ⟨xs.map some, s.o⟩ (us.map some) [] H F A where
  fz := ⟨Same.refl _, w.fz.g, fun a u h => by
    by_cases ha : a ∈ A
    · rw [lendA_in ha] at h; cases h
    · rw [lendA_out ha] at h; exact h, fun _ _ h => h⟩
  pre := List.prefix_refl _
  len := w.len
  nd := w.nd
  ad := fun p hp => ⟨lendA_in hp, (w.ad p hp).2⟩
  oc := w.oc
  sl := by show (xs.map some).length = (us.map some).length; rw [List.length_map, List.length_map, e]
  pv := fun i v hv => by
    have hv : (xs.map some)[i]? = some (some v) := hv
    rw [List.getElem?_map] at hv
    cases hx : xs[i]? with
    | none => rw [hx] at hv; cases hv
    | some y =>
      rw [hx] at hv
      have hv : some y = some v := Option.some.inj hv
      cases hv
      have hi : i < xs.length := (List.getElem?_eq_some_iff.mp hx).1
      have hu : us[i]? = some us[i] := List.getElem?_eq_getElem (by rw [e]; exact hi)
      refine ⟨us[i], by rw [List.getElem?_map, hu]; rfl, ?_⟩
      have hz : (xs.zip us)[i]? = some (v, us[i]) := by
        rw [List.getElem?_zip_eq_some]
        exact ⟨hx, hu⟩
      exact w.tm _ (ht _ (List.mem_of_getElem? hz))
  tm := fun _ z => nomatch z
end
/-- f(a, ..): the whole heap is lent -/
def wCallH (S : FS) (ws : AW) : EW := fun kx s k => ws kx s fun vs s1 => S vs s1.o
  (fun r o => match r with | .d z => k (.d z) ⟨s1.r, o⟩ | .new zs => k (.own o.length) ⟨s1.r, o ++ [.dl zs]⟩) (fun x o => kx x ⟨s1.r, o⟩)
section
variable {X : Cx} {W : WX} {k j : Nat} {ps : List Str} {S : FS} {x : Str} {p pos : Pos} {e : Expr} {es : List Expr} {ws : AW} {f : Addr} {fd : FuncData}
theorem e_callH (F : FnOk X.prog X.w X.K X.mg X.base (L2.CX X.prog X.w) k f fd ps (spOf X.K S)) (tk : Takes X W) (hr : Room k X.A) (hg : Gl X x) (hm : X.mg x = some (.ref f)) (hk : PySem.W.keepIn X.K (.ref f) = true) (hb : Binds X.K fd ps [])
    (ha : PA X (e :: es) (tA X.K W ws)) (hdb : (x == ("__debug__" : Str)) = false := by decide) (he : starEach (e :: es) X.env = (false, eval e X.env) :: starEach es X.env := by rfl) (hpl : (backTo pos (starEach es X.env)).any (·.1) = false := by rfl) :
    PE X (.Call (.Name x p) (e :: es) [] pos) (tE X.K W (wCallH S ws)) := by
  refine PE.imp (pe_callS F hr hg hm hk hb (fun σ => passAt tk σ) ha hdb he hpl) fun σ H Q ⟨H0, F0, A0, s, T, kx, kk, w, xl, h, q⟩ => ar_of w xl h fun vs s1 us H1 hS e1 w1 => ?_
  obtain ⟨F1, A, w1⟩ := w1
  have w3 := w1.sub (T' := T) fun t h => List.mem_append_right _ h
  refine ⟨lendA H1 A, F1, A, vs, s1.o, _, _, ⟨F1, A, w1.forH vs us e1 fun t h => List.mem_append_left _ h⟩, w1.len, hS, fun r o hr ho v H' ret => ?_, fun y o hx ho d H' w' => ?_⟩
  · cases r with
    | d z =>
      obtain ⟨F', A', w'⟩ := ret
      have dz : Dq X.K F' v z := w'.tm (.d z, v) List.mem_cons_self
      exact q _ _ hr v H' ⟨F', A', (w3.afterH w').push dz⟩
    | new zs =>
      obtain ⟨F', A', w'⟩ := ret
      have t := w'.tm (.own o.length, v) List.mem_cons_self
      exact q _ _ hr v H' ⟨F', A', (w3.afterH w').push t⟩
  · obtain ⟨F', A', w'⟩ := w'
    have px : PVOk X.K F' A' (.xd y.fs) (dV d) := w'.tm (.xd y.fs, dV d) List.mem_cons_self
    exact xl y _ hx σ H' d ⟨F', A', (w3.afterH w').push px⟩
theorem c_callH (C : Cal X.prog X.w X.K X.mg X.base k x ps S) (tk : Takes X W) (hr : Room j X.A) (ha : PA X (e :: es) (tA X.K W ws)) (hk : k ≤ j := by decide) (hg : Gl X x := by rfl)
    (hdb : (x == ("__debug__" : Str)) = false := by decide) (he : starEach (e :: es) X.env = (false, eval e X.env) :: starEach es X.env := by rfl) (hpl : (backTo pos (starEach es X.env)).any (·.1) = false := by rfl) :
    PE X (.Call (.Name x p) (e :: es) [] pos) (tE X.K W (wCallH S ws)) := by
  obtain ⟨f, fd, F, m, kp, b⟩ := C.ex
  exact e_callH F tk (hr.mono hk) hg m kp b ha hdb he hpl
end
section
variable {P : Program} {w : World} {K : PySem.W.Frag} {mg : Str → Option Value} {base : Heap}
/-- a def of which nothing is promised -/
theorem Dfd.cal0 {x : Str} {ps : List Str} {st : Stmt} {k : Nat} {S : FS} (D : Dfd K mg x ps st) (z : ∀ args o r e, ¬ S args o r e) : Cal P w K mg base k x ps S := by
  obtain ⟨f, fd, F, m, b⟩ := D.ex
  refine ⟨f, fd, ⟨fun vs H Q E h => ?_, fun A outer s H args us vs Q E _ _ _ _ h => ?_⟩, m, F.kp, b⟩
  · obtain ⟨_, _, _, _, _, _, _, _, _, h, _⟩ := h
    exact (z _ _ _ _ h).elim
  · obtain ⟨_, _, _, _, _, _, _, _, _, h, _⟩ := h
    exact (z _ _ _ _ h).elim
end
end PW
namespace PW
open PySem L2 PyProof.Rows
/-! ### x in t, t a tuple whose items are data of any depth -/
section
variable {X : Cx} {W : WX} {a b : Expr} {wa wb : EW} {pos : Pos}
def rInTD (K : PySem.W.Frag) (n : Bool) : R2 := fun x y H Q => ∃ d ds, Dp K H x d ∧ Dp K H y (.tuple ds) ∧ SeqAt.shaped d = true ∧ SeqAt.shaped (.tuple ds) = true ∧ Q (.bl (if n then !(ds.any fun z => PyData.eqv z d) else ds.any fun z => PyData.eqv z d)) H
theorem op_inTD (hu : X.A.units + 65 < cLine) : OpR X (compareOp .In) (rInTD X.K false) := by
  intro pins s σ H x y v u Q I rx ry h
  obtain ⟨d, ds, hd, he, sd, se, q⟩ := h
  obtain ⟨as, r1⟩ := Dp.reads I d x v hd rx
  obtain ⟨bs, r2⟩ := Dp.reads I (.tuple ds) y u he ry
  exact SeqAt.in_tuple_reads r2 r1 (SeqAt.canLay_of_shaped se) (SeqAt.canLay_of_shaped sd) (room_in_shaped sd hu) ⟨.bl _, H, I, rfl, q⟩
theorem op_notInTD (hu : X.A.units + 65 < cLine) : OpR X (compareOp .NotIn) (rInTD X.K true) := by
  intro pins s σ H x y v u Q I rx ry h
  obtain ⟨d, ds, hd, he, sd, se, q⟩ := h
  obtain ⟨as, r1⟩ := Dp.reads I d x v hd rx
  obtain ⟨bs, r2⟩ := Dp.reads I (.tuple ds) y u he ry
  exact SeqAt.notIn_tuple_reads r2 r1 (SeqAt.canLay_of_shaped se) (SeqAt.canLay_of_shaped sd) (room_in_shaped sd hu) ⟨.bl _, H, I, rfl, q⟩
def rInTP (n : Bool) : PyData → PyData → (PyData → Prop) → Prop := fun a b q => ∃ ys, b = .tuple ys ∧ SeqAt.shaped a = true ∧ SeqAt.shaped (.tuple ys) = true ∧ q (.bool (if n then !inD a ys else inD a ys))
theorem ok_inTP {K : PySem.W.Frag} {n : Bool} : ROk K (rInTD K n) (rInTP n) := by
  intro u v x y H Q P hx hy h q
  obtain ⟨ys, rfl, h1, h2, h3⟩ := h
  exact ⟨x, ys, hx, hy, h1, h2, q _ _ h3 rfl⟩
abbrev wInT := wOp (rInTP false)
abbrev wNotInT := wOp (rInTP true)
theorem e_inT (hu : X.A.units + 65 < cLine) (hm : behindInMarks .In b = false) (ha : PE X a (tE X.K W wa)) (hb : PE X b (tE X.K W wb)) : PE X (.Compare a [.In] [b] pos) (tE X.K W (wInT wa wb)) := e_cmp (op_inTD hu) ok_inTP hm ha hb
theorem e_notInT (hu : X.A.units + 65 < cLine) (hm : behindInMarks .NotIn b = false) (ha : PE X a (tE X.K W wa)) (hb : PE X b (tE X.K W wb)) : PE X (.Compare a [.NotIn] [b] pos) (tE X.K W (wNotInT wa wb)) := e_cmp (op_notInTD hu) ok_inTP hm ha hb
theorem t_inT (hu : X.A.units + 65 < cLine) (hm : behindInMarks .In b = false) (ha : PE X a (tE X.K W wa)) (hb : PE X b (tE X.K W wb)) : PT X (.Compare a [.In] [b] pos) (tT X.K W (wB (wInT wa wb))) := t_op (op_inTD hu) ok_inTP hm ha hb
theorem t_notInT (hu : X.A.units + 65 < cLine) (hm : behindInMarks .NotIn b = false) (ha : PE X a (tE X.K W wa)) (hb : PE X b (tE X.K W wb)) : PT X (.Compare a [.NotIn] [b] pos) (tT X.K W (wB (wNotInT wa wb))) := t_op (op_notInTD hu) ok_inTP hm ha hb
end
end PW

namespace PW
open PySem L2
/-! ### all, any, sum, max of lists -/
theorem dqAll_bls {K : PySem.W.Frag} {H : Hp} : ∀ {bs : List Bool} {vs : List V}, DqAll K H vs (bs.map PyData.bool) → vs = bs.map V.bl
  | [], _, .nil => rfl
  | b :: bs, _, .cons h t => by
    cases h
    rw [dqAll_bls t]
    rfl
theorem dqAll_ints {K : PySem.W.Frag} {H : Hp} : ∀ {bs : List Int} {vs : List V}, DqAll K H vs (bs.map PyData.int) → vs = bs.map V.int
  | [], _, .nil => rfl
  | b :: bs, _, .cons h t => by
    cases h
    rw [dqAll_ints t]
    rfl
def wAll (wa : EW) : EW := fun kx s k => wa kx s fun x s1 => ∃ bs : List Bool, dat s1 x = some (.list (bs.map PyData.bool)) ∧ k (.d (.bool (bs.all id))) s1
def wAny (wa : EW) : EW := fun kx s k => wa kx s fun x s1 => ∃ bs : List Bool, dat s1 x = some (.list (bs.map PyData.bool)) ∧ k (.d (.bool (bs.any id))) s1
def wSum (wa : EW) : EW := fun kx s k => wa kx s fun x s1 => ∃ ns : List Int, dat s1 x = some (.list (ns.map PyData.int)) ∧ k (.d (.int ns.sum)) s1
def wMaxL (wa : EW) : EW := fun kx s k => wa kx s fun x s1 => ∃ ns : List Int, dat s1 x = some (.list (ns.map PyData.int)) ∧ 0 < ns.length ∧ ∀ m, m ∈ ns → (∀ y, y ∈ ns → y ≤ m) → k (.d (.int m)) s1
def wMinL (wa : EW) : EW := fun kx s k => wa kx s fun x s1 => ∃ ns : List Int, dat s1 x = some (.list (ns.map PyData.int)) ∧ 0 < ns.length ∧ ∀ m, m ∈ ns → (∀ y, y ∈ ns → m ≤ y) → k (.d (.int m)) s1
section
variable {X : Cx} {W : WX} {a : Expr} {wa : EW} {pos p : Pos}
theorem e_all (hc : X.calm = true) (hm : X.mg "all" = none) (ha : PE X a (tE X.K W wa)) (hg : Gl X "all" := by rfl) (he : starEach [a] X.env = (false, eval a X.env) :: starEach [] X.env := by rfl) (hpl : (backTo pos (starEach [] X.env)).any (·.1) = false := by rfl) :
    PE X (.Call (.Name "all" p) [a] [] pos) (tE X.K W (wAll wa)) := by
  refine PE.imp (pe_callB (cr_all hc) hg hm (by decide +kernel) (pa_cons ha pa_nil he) (he := he) (hpl := hpl)) fun σ H Q ⟨H0, F0, A0, s, T, kx, k, w, xl, h, q⟩ => cb1_of w xl h fun x s1 u H1 h1 w1 => ?_
  obtain ⟨bs, hd, hk⟩ := h1
  obtain ⟨F, A, w1⟩ := w1
  obtain ⟨pp, vs, rfl, h1, h2⟩ := items_ok w1 (w1.tm _ List.mem_cons_self) hd
  cases dqAll_bls h2
  exact ⟨pp, bs, rfl, h1, q _ _ hk _ _ ⟨F, A, (w1.sub (T' := T) fun t h => List.mem_cons_of_mem _ h).push (.bl _)⟩⟩
theorem e_any (hc : X.calm = true) (hm : X.mg "any" = none) (ha : PE X a (tE X.K W wa)) (hg : Gl X "any" := by rfl) (he : starEach [a] X.env = (false, eval a X.env) :: starEach [] X.env := by rfl) (hpl : (backTo pos (starEach [] X.env)).any (·.1) = false := by rfl) :
    PE X (.Call (.Name "any" p) [a] [] pos) (tE X.K W (wAny wa)) := by
  refine PE.imp (pe_callB (cr_any hc) hg hm (by decide +kernel) (pa_cons ha pa_nil he) (he := he) (hpl := hpl)) fun σ H Q ⟨H0, F0, A0, s, T, kx, k, w, xl, h, q⟩ => cb1_of w xl h fun x s1 u H1 h1 w1 => ?_
  obtain ⟨bs, hd, hk⟩ := h1
  obtain ⟨F, A, w1⟩ := w1
  obtain ⟨pp, vs, rfl, h1, h2⟩ := items_ok w1 (w1.tm _ List.mem_cons_self) hd
  cases dqAll_bls h2
  exact ⟨pp, bs, rfl, h1, q _ _ hk _ _ ⟨F, A, (w1.sub (T' := T) fun t h => List.mem_cons_of_mem _ h).push (.bl _)⟩⟩
theorem e_sum (hc : X.calm = true) (hm : X.mg "sum" = none) (ha : PE X a (tE X.K W wa)) (hg : Gl X "sum" := by rfl) (he : starEach [a] X.env = (false, eval a X.env) :: starEach [] X.env := by rfl) (hpl : (backTo pos (starEach [] X.env)).any (·.1) = false := by rfl) :
    PE X (.Call (.Name "sum" p) [a] [] pos) (tE X.K W (wSum wa)) := by
  refine PE.imp (pe_callB (cr_sum hc) hg hm (by decide +kernel) (pa_cons ha pa_nil he) (he := he) (hpl := hpl)) fun σ H Q ⟨H0, F0, A0, s, T, kx, k, w, xl, h, q⟩ => cb1_of w xl h fun x s1 u H1 h1 w1 => ?_
  obtain ⟨bs, hd, hk⟩ := h1
  obtain ⟨F, A, w1⟩ := w1
  obtain ⟨pp, vs, rfl, h1, h2⟩ := items_ok w1 (w1.tm _ List.mem_cons_self) hd
  cases dqAll_ints h2
  exact ⟨pp, bs, rfl, h1, q _ _ hk _ _ ⟨F, A, (w1.sub (T' := T) fun t h => List.mem_cons_of_mem _ h).push (.int _)⟩⟩
theorem e_maxL (hc : X.calm = true) (hm : X.mg "max" = none) (ha : PE X a (tE X.K W wa)) (hg : Gl X "max" := by rfl) (he : starEach [a] X.env = (false, eval a X.env) :: starEach [] X.env := by rfl) (hpl : (backTo pos (starEach [] X.env)).any (·.1) = false := by rfl) :
    PE X (.Call (.Name "max" p) [a] [] pos) (tE X.K W (wMaxL wa)) := by
  refine PE.imp (pe_callB (cr_max hc) hg hm (by decide +kernel) (pa_cons ha pa_nil he) (he := he) (hpl := hpl)) fun σ H Q ⟨H0, F0, A0, s, T, kx, k, w, xl, h, q⟩ => cb1_of w xl h fun x s1 u H1 h1 w1 => ?_
  obtain ⟨bs, hd, h0, hk⟩ := h1
  obtain ⟨F, A, w1⟩ := w1
  obtain ⟨pp, vs, rfl, h1, h2⟩ := items_ok w1 (w1.tm _ List.mem_cons_self) hd
  cases dqAll_ints h2
  exact ⟨pp, bs, rfl, h1, h0, fun m e1 e2 => q _ _ (hk m e1 e2) _ _ ⟨F, A, (w1.sub (T' := T) fun t h => List.mem_cons_of_mem _ h).push (.int _)⟩⟩
theorem e_minL (hc : X.calm = true) (hm : X.mg "min" = none) (ha : PE X a (tE X.K W wa)) (hg : Gl X "min" := by rfl) (he : starEach [a] X.env = (false, eval a X.env) :: starEach [] X.env := by rfl) (hpl : (backTo pos (starEach [] X.env)).any (·.1) = false := by rfl) :
    PE X (.Call (.Name "min" p) [a] [] pos) (tE X.K W (wMinL wa)) := by
  refine PE.imp (pe_callB (cr_min hc) hg hm (by decide +kernel) (pa_cons ha pa_nil he) (he := he) (hpl := hpl)) fun σ H Q ⟨H0, F0, A0, s, T, kx, k, w, xl, h, q⟩ => cb1_of w xl h fun x s1 u H1 h1 w1 => ?_
  obtain ⟨bs, hd, h0, hk⟩ := h1
  obtain ⟨F, A, w1⟩ := w1
  obtain ⟨pp, vs, rfl, h1, h2⟩ := items_ok w1 (w1.tm _ List.mem_cons_self) hd
  cases dqAll_ints h2
  exact ⟨pp, bs, rfl, h1, h0, fun m e1 e2 => q _ _ (hk m e1 e2) _ _ ⟨F, A, (w1.sub (T' := T) fun t h => List.mem_cons_of_mem _ h).push (.int _)⟩⟩
end
end PW
namespace PW
open PySem L2
/-! ### zip of two tuples -/
def wZpT (wa wb : EW) : IW := fun kx s k => wa kx s fun v s1 => wb kx s1 fun u s2 => ∃ xs ys, v = .d (.tuple xs) ∧ u = .d (.tuple ys) ∧ k (zipD xs ys) none s2
theorem it_zipT {K : PySem.W.Frag} {a b : Addr} {xs ys : List PyData} : ItOk K (RZ.ItzT K a b) [(.d (.tuple xs), .ref a), (.d (.tuple ys), .ref b)] none (zipD xs ys) := by
  intro H0 F0 A0 s σ T H F A w ht _ i
  have p : PVOk K F A (.d (.tuple xs)) (.ref a) := w.tm _ (ht _ List.mem_cons_self)
  have p' : PVOk K F A (.d (.tuple ys)) (.ref b) := w.tm _ (ht _ (List.mem_cons_of_mem _ List.mem_cons_self))
  obtain ⟨a', vs, e, h1, h2⟩ := itemsT_ok w p rfl
  obtain ⟨b', ws, e', h1', h2'⟩ := itemsT_ok w p' rfl
  cases e
  cases e'
  have hl := h2.len
  have hl' := h2'.len
  rw [zipD_len]
  refine ⟨fun hi => ⟨vs, ws, vs[i]'(by omega), ws[i]'(by omega), h1, h1', List.getElem?_eq_getElem (by omega), List.getElem?_eq_getElem (by omega)⟩, fun hi => ⟨vs, ws, h1, h1', by omega⟩, fun _ x H' hy => ?_⟩
  obtain ⟨t, y, z, rfl, ht, rfl, hx, hz⟩ := hy
  obtain ⟨d, hd, dq⟩ := h2.get i y (hx vs h1)
  obtain ⟨d', hd', dq'⟩ := h2'.get i z (hz ws h1')
  have sn := same_new (o := .tup [y, z]) (w.fz.g.free ht)
  exact ⟨.tuple [d, d'], zipD_get _ _ _ _ _ hd hd', _, (w.newD (o := .tup [y, z]) ht).push (.tup (SqT.of upd_same) (.cons (dq_same sn dq) (.cons (dq_same sn dq') .nil)))⟩
section
variable {X : Cx} {W : WX} {a b : Expr} {wa wb : EW} {pos p : Pos}
theorem i_zipT {elts : List Expr} {kk : Nat} {tpos : Pos} (hm : X.mg "zip" = none) (ha : PE X a (tE X.K W wa)) (hb : PE X b (tE X.K W wb)) (hg : Gl X "zip" := by rfl) (hs : starEach [a, b] X.env = (false, eval a X.env) :: starEach [b] X.env := by rfl) (hs2 : starEach [b] X.env = (false, eval b X.env) :: starEach [] X.env := by rfl) (hpl : (backTo pos (starEach [b] X.env)).any (·.1) = false := by rfl) :
    PI X (.Tuple elts kk tpos) (.Call (.Name "zip" p) [a, b] [] pos) (tI X.K W (wZpT wa wb)) := by
  refine PI.imp (RZ.pi_zipA hg hm (pa_cons ha (pa_cons hb pa_nil hs2) hs) hs hpl) fun σ H R ⟨H0, F0, A0, s, T, kx, k, w, xl, h, q⟩ => un_of w xl h fun v s1 u H1 h1 w1 => ?_
  refine ⟨H0, F0, A0, s1, _, kx, _, w1, xl.push, h1, fun v2 s2 h2 u2 H2 w2 => ?_⟩
  obtain ⟨xs, ys, rfl, rfl, h2⟩ := h2
  obtain ⟨F, A, w5⟩ := id w2
  have p1 : PVOk X.K F A (.d (.tuple xs)) u := w5.tm _ (List.mem_cons_of_mem _ List.mem_cons_self)
  have p2 : PVOk X.K F A (.d (.tuple ys)) u2 := w5.tm _ List.mem_cons_self
  obtain ⟨a, vs, rfl, i3, i4⟩ := itemsT_ok w5 p1 rfl
  obtain ⟨b, ws, rfl, j3, j4⟩ := itemsT_ok w5 p2 rfl
  refine ⟨a, b, vs, ws, rfl, .inr ⟨i3, j3, q _ _ _ h2 _ [(.d (.tuple xs), .ref a), (.d (.tuple ys), .ref b)] H2 (w2.sub fun t ht => ?_) it_zipT⟩⟩
  rcases List.mem_cons.mp ht with e | ht
  · rw [e]; exact List.mem_cons_of_mem _ List.mem_cons_self
  · rcases List.mem_cons.mp ht with e | ht
    · rw [e]; exact List.mem_cons_self
    · exact List.mem_cons_of_mem _ (List.mem_cons_of_mem _ ht)
end
end PW

namespace PW
open PySem L2 PySem.Spec PyProof.Rows
/-! ### l.count(x), the items data of any depth -/
section
variable {X : Cx} {W : WX} {a wo_e : Expr} {wa wo : EW} {pos : Pos}
def rCntD (K : PySem.W.Frag) : V → List V → Hp → VK → Prop := fun x xs H Q => ∃ (a : Addr) (y : V) (d : PyData) (ds : List PyData), x = V.ref a ∧ xs = [y] ∧ Dp K H (V.ref a) (.list ds) ∧ Dp K H y d ∧
  SeqAt.shaped (.list ds) = true ∧ SeqAt.shaped d = true ∧ Q (.int ((ds.countP fun z => PyData.eqv z d : Nat))) H
theorem mt_lcountD (hu : X.A.units + 65 < cLine) : MtR X "list.count" (rCntD X.K) := by
  intro pins s σ H x xs v us Q I rx rxs h
  obtain ⟨a, y, d, ds, rfl, rfl, hl, hy, sl, sd, q⟩ := h
  cases rx
  cases rxs with
  | cons ry rt =>
    rename_i uy ut
    cases rt
    obtain ⟨bs, r1⟩ := Dp.reads I d y uy hy ry
    have hxs : PyData.canLayAll0 ds = true := SeqAt.canLay_of_shaped sl
    have hroom : X.A.units + 1 + min (PyData.depthAll ds) d.depth < cLine := room_in_shaped sd hu
    cases hl with
    | lst hs ha =>
      obtain ⟨its, rv, ⟨⟨cls, dd, data, sls⟩, n, ho, hc, hdn, hdt⟩, hlen⟩ := I.list hs
      simp only at hc hdt
      subst hc hdt
      obtain ⟨as, h4⟩ := Dp.readsAll I ds _ its ha rv
      have hmap : its.map (SeqAt.readOf s.heap) = ds := SeqAt.readsAll_map ds its as hxs h4
      refine call_meets PySem.F.slot_list_count ⟨_, ho, rfl⟩ PySem.F.entry_list_count (PySem.F.args_list_count_2 _ _)
        (SeqAt.list_countAt a its.toArray n dd sls uy (fun u => PyData.eqv (SeqAt.readOf s.heap u) d)) ⟨ho, SeqAt.items_eqAt (vs := its.toArray) (show ReadsAll s.heap its.toArray.toList ds as from h4) r1 hxs (SeqAt.canLay_of_shaped sd) hroom, ?_⟩
      have ec : its.toArray.toList.countP (fun u => PyData.eqv (SeqAt.readOf s.heap u) d) = ds.countP fun z => PyData.eqv z d := by
        rw [← hmap, List.countP_map]
        rfl
      refine ⟨.int ((ds.countP fun z => PyData.eqv z d : Nat)), H, I.tok _, ⟨s.toks, ?_⟩, q⟩
      show Value.int ((its.toArray.toList.countP (fun u => PyData.eqv (SeqAt.readOf s.heap u) d) : Nat) : Int) s.toks = _
      rw [ec]
def wCount (wo we : EW) : EW := fun kx s k => wo kx s fun x s1 => (∃ xs, dat s1 x = some (.list xs)) ∧ we kx s1 fun y s2 => ∃ xs b, dat s2 x = some (.list xs) ∧ dat s2 y = some b ∧ SeqAt.shaped (.list xs) = true ∧ SeqAt.shaped b = true ∧ k (.d (.int ((xs.countP fun z => PyData.eqv z b : Nat)))) s2
theorem e_count {apos : Pos} (hu : X.A.units + 65 < cLine) (ho : PE X wo_e (tE X.K W wo)) (ha : PE X a (tE X.K W wa))
    (hbase : attributeBase wo_e "count" X.env (eval wo_e X.env) = eval wo_e X.env := by rfl)
    (hfew : ((backTo pos (starEach [a] X.env)).all (fun x => !x.1) && (backToKw pos (keywordEach [] X.env)).all (fun x => x.1.isSome)
      && decide ([a].length + ([] : List Keyword).length + (if ([] : List Keyword).isEmpty then 0 else 1) < 30)) = true := by rfl)
    (hline : (apos.endLine == pos.line) = true := by rfl) (hs : starEach [a] X.env = (false, eval a X.env) :: starEach [] X.env := by rfl) (hplain : (backTo pos (starEach [] X.env)).any (·.1) = false := by rfl) :
    PE X (.Call (.Attribute wo_e "count" apos) [a] [] pos) (tE X.K W (wCount wo wa)) := by
  refine PE.imp (pe_bm PySem.F.plainAttrs_list PySem.F.slot_list_count PySem.F.type_list_count (mt_lcountD hu) ho (pa_cons ha pa_nil hs) hbase hfew hline hs hplain) fun σ H Q ⟨H0, F0, A0, s, T, kx, k, w, xl, h, q⟩ => ?_
  refine ⟨H0, F0, A0, s, T, kx, _, w, xl, h, fun x s1 h1 u H1 w1 => ?_⟩
  obtain ⟨⟨ws, ow⟩, h1⟩ := h1
  have ty : tyV X.K "list" u H1 := by
    obtain ⟨F, A, w1⟩ := w1
    obtain ⟨p, vs, rfl, hv, _⟩ := items_ok w1 (w1.tm _ List.mem_cons_self) ow
    exact .inl ⟨rfl, vs, hv⟩
  refine ⟨ty, H0, F0, A0, s1, _, kx, _, w1, xl.push, h1, fun y s2 h2 v H2 w2 => ?_⟩
  obtain ⟨xs, b, ox, oy, sh1, sh2, hk⟩ := h2
  obtain ⟨F, A, w3⟩ := w2
  obtain ⟨p, vs, rfl, hv, hd⟩ := items_ok w3 (w3.tm _ (List.mem_cons_of_mem _ List.mem_cons_self)) ox
  have e1 := dat_ok w3 (w3.tm _ (List.mem_cons_of_mem _ List.mem_cons_self)) ox
  have e2 := dat_ok w3 (w3.tm _ List.mem_cons_self) oy
  exact ⟨p, v, b, xs, rfl, rfl, e1, e2, sh1, sh2, q _ _ hk _ _ ⟨F, A, (w3.sub (T' := T) fun t h => List.mem_cons_of_mem _ (List.mem_cons_of_mem _ h)).push (.int _)⟩⟩
end
end PW
namespace PW
open PySem L2
/-! ### list(range(..)) -/
def wLRg1 (wa : EW) : EW := fun kx s k => wa kx s fun x s1 => ∃ n : Int, x = .d (.int n) ∧ RgOk 0 n ∧ k (.own s1.o.length) ⟨s1.r, s1.o ++ [.dl (intsD 0 n.toNat)]⟩
def wLRg2 (wa wb : EW) : EW := fun kx s k => wa kx s fun x s1 => wb kx s1 fun y s2 => ∃ i j : Int, x = .d (.int i) ∧ y = .d (.int j) ∧ RgOk i j ∧ k (.own s2.o.length) ⟨s2.r, s2.o ++ [.dl (intsD i (j - i).toNat)]⟩
theorem rgV_dq {K : PySem.W.Frag} {H : Hp} (a b : Int) : DqAll K H (rgV a b) (intsD a (b - a).toNat) := by
  have key : ∀ l : List Nat, DqAll K H (l.map fun i => V.int (a + (i : Nat))) (l.map fun i => PyData.int (a + (i : Nat))) := by
    intro l
    induction l with
    | nil => exact .nil
    | cons i l ih => exact .cons (.int _) ih
  exact key _
section
variable {X : Cx} {W : WX} {a b : Expr} {wa wb : EW} {p pos p2 pos2 : Pos}
theorem e_lrg1 (hc : X.calm = true) (hm : X.mg "list" = none) (hm2 : X.mg "range" = none) (ha : PE X a (tE X.K W wa)) (hg : Gl X "list" := by rfl) (hg2 : Gl X "range" := by rfl)
    (na : starEach [a] X.env = (false, eval a X.env) :: starEach [] X.env := by rfl) (nb : starEach [Expr.Call (.Name "range" p2) [a] [] pos2] X.env = (false, eval (.Call (.Name "range" p2) [a] [] pos2) X.env) :: starEach [] X.env := by rfl) :
    PE X (.Call (.Name "list" p) [.Call (.Name "range" p2) [a] [] pos2] [] pos) (tE X.K W (wLRg1 wa)) := by
  refine PE.imp (pe_listRg hc hg hm (prg_1 hg2 hm2 ha na) nb) fun σ H Q ⟨H0, F0, A0, s, T, kx, k, w, xl, h, q⟩ => un_of w xl h fun x s1 u H1 h1 w1 => ?_
  obtain ⟨n, rfl, hok, hk⟩ := h1
  obtain ⟨F, A, w1⟩ := w1
  have pu : Dq X.K F u (.int n) := w1.tm _ List.mem_cons_self
  cases pu
  refine ⟨n, rfl, hok, fun q1 hq => ?_⟩
  have w2 := w1.sub (T' := T) fun t h => List.mem_cons_of_mem _ h
  have dq := rgV_dq (K := X.K) (H := F) 0 n
  rw [show n - 0 = n from by omega] at dq
  exact q _ _ hk _ _ ⟨F, _, (w2.newL hq dq).push (top_at w2 q1 F)⟩
theorem e_lrg2 (hc : X.calm = true) (hm : X.mg "list" = none) (hm2 : X.mg "range" = none) (ha : PE X a (tE X.K W wa)) (hb : PE X b (tE X.K W wb)) (hg : Gl X "list" := by rfl) (hg2 : Gl X "range" := by rfl)
    (na : starEach [a, b] X.env = (false, eval a X.env) :: starEach [b] X.env := by rfl) (nb : starEach [b] X.env = (false, eval b X.env) :: starEach [] X.env := by rfl) (hp : (backTo pos2 (starEach [b] X.env)).any (·.1) = false := by rfl)
    (nc : starEach [Expr.Call (.Name "range" p2) [a, b] [] pos2] X.env = (false, eval (.Call (.Name "range" p2) [a, b] [] pos2) X.env) :: starEach [] X.env := by rfl) :
    PE X (.Call (.Name "list" p) [.Call (.Name "range" p2) [a, b] [] pos2] [] pos) (tE X.K W (wLRg2 wa wb)) := by
  refine PE.imp (pe_listRg hc hg hm (prg_2 hg2 hm2 ha hb na nb hp) nc) fun σ H Q ⟨H0, F0, A0, s, T, kx, k, w, xl, h, q⟩ => un_of w xl h fun x s1 u H1 h1 w1 => ?_
  refine ⟨H0, F0, A0, s1, _, kx, _, w1, xl.push, h1, fun y s2 h2 v H2 w2 => ?_⟩
  obtain ⟨i, j, rfl, rfl, hok, hk⟩ := h2
  obtain ⟨F, A, w2⟩ := w2
  have pu : Dq X.K F u (.int i) := w2.tm _ (List.mem_cons_of_mem _ List.mem_cons_self)
  have pv : Dq X.K F v (.int j) := w2.tm _ List.mem_cons_self
  cases pu
  cases pv
  refine ⟨i, j, rfl, rfl, hok, fun q1 hq => ?_⟩
  have w3 := w2.sub (T' := T) fun t h => List.mem_cons_of_mem _ (List.mem_cons_of_mem _ h)
  exact q _ _ hk _ _ ⟨F, _, (w3.newL hq (rgV_dq i j)).push (top_at w3 q1 F)⟩
end
end PW
namespace PW
open PySem L2
/-! ### isinstance(x, (A, B)) -/
section
variable {X : Cx} {W : WX} {a : Expr} {wa : EW} {pos p : Pos}
theorem kit_two {K : PySem.W.Frag} {d t u : String} {r r' : Bool} (h1 : kitB d t = some r) (h2 : kitB d u = some r') : PySem.W.kitAny K (.type d) [.type t, .type u] = some (r || r') := by
  have e1 := kit_ty (K := K) h1
  have e2 := kit_ty (K := K) h2
  unfold PySem.W.kitAny
  rw [e1]
  cases r with
  | true => rfl
  | false =>
    show PySem.W.kitAny K (.type d) [.type u] = _
    unfold PySem.W.kitAny
    rw [e2]
    cases r' <;> rfl
theorem e_isi2 {x y : Str} {T U : String} {q1 q2 q3 : Pos} {kk : Nat} (hm : X.mg "isinstance" = none) (hT : X.mg x = none) (hU : X.mg y = none) (hb : bootBuiltins x = some (.type T)) (hb2 : bootBuiltins y = some (.type U)) (ha : PE X a (tE X.K W wa)) (hgT : Gl X x := by rfl) (hgU : Gl X y := by rfl) (hg : Gl X "isinstance" := by rfl)
    (hn : x ≠ "__name__" := by decide) (hd : (x == ("__debug__" : Str)) = false := by decide) (hn2 : y ≠ "__name__" := by decide) (hd2 : (y == ("__debug__" : Str)) = false := by decide)
    (he : starEach [a, .Tuple [.Name x q1, .Name y q2] kk q3] X.env = (false, eval a X.env) :: starEach [.Tuple [.Name x q1, .Name y q2] kk q3] X.env := by rfl) (he2 : starEach [.Tuple [.Name x q1, .Name y q2] kk q3] X.env = (false, eval (.Tuple [.Name x q1, .Name y q2] kk q3) X.env) :: starEach [] X.env := by rfl)
    (hs : starEach [.Name x q1, .Name y q2] X.env = (false, eval (.Name x q1) X.env) :: starEach [.Name y q2] X.env := by rfl) (hs2 : starEach [.Name y q2] X.env = (false, eval (.Name y q2) X.env) :: starEach [] X.env := by rfl)
    (hpl : (backTo pos (starEach [.Tuple [.Name x q1, .Name y q2] kk q3] X.env)).any (·.1) = false := by rfl) :
    PE X (.Call (.Name "isinstance" p) [a, .Tuple [.Name x q1, .Name y q2] kk q3] [] pos) (tE X.K W (wIsi2 T U wa)) := by
  have pt : PE X (.Name x q1) (tC (.ty T)) := pe_bltn hgT hT hb rfl hn hd
  have pu : PE X (.Name y q2) (tC (.ty U)) := pe_bltn hgU hU hb2 rfl hn2 hd2
  refine PE.imp (pe_callB call_isiT hg hm (by decide +kernel) (pa_cons ha (pa_cons (pe_tup (pa_cons pt (pa_cons pu pa_nil hs2) hs)) pa_nil he2) he) (he := he) (hpl := hpl)) fun σ H Q ⟨H0, F0, A0, s, T', kx, k, w, xl, h, q⟩ => ?_
  refine un_of w xl h fun x s1 u H1 h1 w1 => ?_
  obtain ⟨d, r, r', hd, hk, hk2, hq⟩ := h1
  obtain ⟨F, A, w1⟩ := w1
  refine ⟨by show 2 ≤ sizeLine; decide, fun q0 hq0 => ?_⟩
  have w2 := w1.newD (o := .tup [.ty T, .ty U]) hq0
  exact ⟨u, q0, [.ty T, .ty U], _, [.type T, .type U], _, rfl, upd_same, .cons (.ty T) (.cons (.ty U) .nil), tyx_pv w2 (w2.tm _ List.mem_cons_self) hd, kit_two hk hk2, q _ _ hq _ _ ⟨_, A, (w2.sub fun t h => List.mem_cons_of_mem _ h).push (.bl _)⟩⟩
end
end PW

namespace PW
open PySem L2 PySem.Spec PyProof.Rows
/-! ### max(l, default=n) -/
section
variable {pg : Program} {wo : World} {Ar : Around} {Rr : Result → Shared → Prop} {It : Addr} {fa wa : List Addr} {mm : Nat} {Pv : Nat → Value → Prop} {Sg : Nat → Heap → Prop}
theorem mxd_loop (Wk : Walks pg wo Ar.in1 It fa wa mm Pv Sg) (g : Nat → Nat → Bool) (cmp : CmpOf pg wo Ar.in1 .Gt Pv g) (B : Addr) (nB : B ∉ fa) (kw : List (Str × Value)) :
    ∀ (k j : Nat) (t : Shared) (u : Value) (e : Nat), mm - (j + 1) = k → j + 1 ≤ mm → Sg (j + 1) t.heap → Pv (argBest g j) u →
    t.heap.get? B = some { cls := .type "list", dict := none, data := .seq #[u, u] e, slots := #[] } →
    (∀ z h' tk, Pv (argBest g (mm - 1)) z → (∀ b o, b ∉ wa → b ≠ B → t.heap.get? b = some o → h'.get? b = some o) → Rr (.ok (.ret z)) { t with heap := h', toks := tk }) →
    codeAny (model pg wo) Ar (.builtin "max.loop" ⟨[.ref It, .none, .ref B], kw⟩) Rr t := by
  have nW : B ∉ wa := fun z => nB (Wk.sub _ z)
  have nm : (toString "max" ++ toString ".loop" : String) = "max.loop" := by decide
  intro k
  induction k with
  | zero =>
    intro j t u e hk hj sg pu eB fin
    have hm : j + 1 = mm := by omega
    refine codeAny_builtin PySem.F.entry_max_loop ?_
    rw [Around.under_plainId PySem.F.plain_max_loop _]
    show wpAny _ Ar.in1 (seqItems? (.ref B) >>= _) _ _ t
    refine wpAny_bind (wpAny_seqItems eB rfl ?_)
    show wpAny _ Ar.in1 (tryCatch (pyNext (.ref It)) _ >>= _) _ _ t
    refine wpAny_bind (wpAny_tryCatch (Wk.done t _ _ (hm ▸ sg) fun h' tk kp => ?_))
    have eB' := kp B _ nW eB
    show wpAny _ Ar.in1 (updateSeq B (fun _ => #[]) >>= _) _ _ _
    refine wpAny_bind ?_
    refine wpAny_updateSeq eB' rfl (wpAny_bind (wpAny_letGo (wpAny_pure ?_)))
    exact fin u _ tk (by rw [← hm]; exact pu) fun b o h1 h2 h3 => (Heap.get?_update_other _ _ (Ne.symm h2)).trans (kp b o h1 h3)
  | succ k ih =>
    intro j t u e hk hj sg pu eB fin
    have lt : j + 1 < mm := by omega
    refine codeAny_builtin PySem.F.entry_max_loop ?_
    rw [Around.under_plainId PySem.F.plain_max_loop _]
    show wpAny _ Ar.in1 (seqItems? (.ref B) >>= _) _ _ t
    refine wpAny_bind (wpAny_seqItems eB rfl ?_)
    show wpAny _ Ar.in1 (tryCatch (pyNext (.ref It)) _ >>= _) _ _ t
    refine wpAny_bind (wpAny_tryCatch (Wk.item (j + 1) t _ _ lt sg fun v h' tk pv sg' kp => ?_))
    have eB' := kp B _ nW eB
    show wpAny _ Ar.in1 (tryCatch (holding [v, v] (richCompare .Gt v u >>= _)) _ >>= _) _ _ _
    refine wpAny_bind (wpAny_tryCatch (wpAny_holding (wpAny_bind (cmp (j + 1) (argBest g j) v u _ _ _ pv pu ?_))))
    refine wpAny_bind (wpAny_holding (wpAny_truthy_bool ?_))
    refine wpAny_bind (wpAny_letGo (wpAny_pure ?_))
    cases hg : g (j + 1) (argBest g j) with
    | true =>
      simp only [if_true]
      refine wpAny_bind ?_
      refine wpAny_updateSeq eB' rfl (wpAny_bind (wpAny_letGo ?_))
      rw [nm]
      refine wpAny_pure ⟨plainId_quiet PySem.F.plain_max_loop _, ih (j + 1) _ v _ (by omega) lt (Wk.frame _ _ _ sg' fun b hb o e => ?_) (by simp only [argBest, hg, if_true]; exact pv) (Heap.get?_update_self _ eB' rfl) fun z h2 tk2 hz kp2 => ?_⟩
      · exact (Heap.get?_update_other _ _ (fun h : B = b => nB (by rw [h]; exact hb))).trans e
      · exact fin z h2 tk2 hz fun b o h1 h2 h3 => kp2 b o h1 h2 ((Heap.get?_update_other _ _ (Ne.symm h2)).trans (kp b o h1 h3))
    | false =>
      simp only [Bool.false_eq_true, if_false]
      refine wpAny_bind (wpAny_letGo ?_)
      rw [nm]
      refine wpAny_pure ⟨plainId_quiet PySem.F.plain_max_loop _, ih (j + 1) _ u e (by omega) lt sg' (by simp only [argBest, hg, Bool.false_eq_true, if_false]; exact pu) eB' fun z h2 tk2 hz kp2 => ?_⟩
      exact fin z h2 tk2 hz fun b o h1 h2 h3 => kp2 b o h1 h2 (kp b o h1 h3)
theorem mxd_first (Wk : Walks pg wo Ar.in1 It fa wa mm Pv Sg) (g : Nat → Nat → Bool) (cmp : CmpOf pg wo Ar.in1 .Gt Pv g) (B : Addr) (nB : B ∉ fa) (nm0 : Str) (dv : Value) {t : Shared} {e : Nat} (sg : Sg 0 t.heap)
    (eB : t.heap.get? B = some { cls := .type "list", dict := none, data := .seq #[] e, slots := #[] })
    (f0 : mm = 0 → ∀ h' tk, (∀ b o, b ∉ wa → b ≠ B → t.heap.get? b = some o → h'.get? b = some o) → Rr (.ok (.ret dv)) { t with heap := h', toks := tk })
    (fin : 0 < mm → ∀ z h' tk, Pv (argBest g (mm - 1)) z → (∀ b o, b ∉ wa → b ≠ B → t.heap.get? b = some o → h'.get? b = some o) → Rr (.ok (.ret z)) { t with heap := h', toks := tk }) :
    codeAny (model pg wo) Ar (.builtin "max.loop" ⟨[.ref It, .none, .ref B], [(nm0, dv)]⟩) Rr t := by
  have nW : B ∉ wa := fun z => nB (Wk.sub _ z)
  have nm : (toString "max" ++ toString ".loop" : String) = "max.loop" := by decide
  refine codeAny_builtin PySem.F.entry_max_loop ?_
  rw [Around.under_plainId PySem.F.plain_max_loop _]
  show wpAny _ Ar.in1 (seqItems? (.ref B) >>= _) _ _ t
  refine wpAny_bind (wpAny_seqItems eB rfl ?_)
  show wpAny _ Ar.in1 (tryCatch (pyNext (.ref It)) _ >>= _) _ _ t
  rcases Nat.eq_zero_or_pos mm with h0 | h0
  · refine wpAny_bind (wpAny_tryCatch (Wk.done t _ _ (h0 ▸ sg) fun h' tk kp => ?_))
    show wpAny _ Ar.in1 (rule _ >>= _) _ _ _
    refine wpAny_bind (wpAny_rule (wpAny_pure ?_))
    exact f0 h0 h' tk fun b o h1 _ h3 => kp b o h1 h3
  · refine wpAny_bind (wpAny_tryCatch (Wk.item 0 t _ _ h0 sg fun v h' tk pv sg' kp => ?_))
    have eB' := kp B _ nW eB
    show wpAny _ Ar.in1 (updateSeq B (fun _ => #[v, v]) >>= _) _ _ _
    refine wpAny_bind ?_
    refine wpAny_updateSeq eB' rfl ?_
    rw [nm]
    refine wpAny_pure ⟨plainId_quiet PySem.F.plain_max_loop _, mxd_loop Wk g cmp B nB _ _ 0 _ v _ rfl h0 (Wk.frame _ _ _ sg' fun b hb o e => ?_) pv (Heap.get?_update_self _ eB' rfl) fun z h2 tk2 hz kp2 => ?_⟩
    · exact (Heap.get?_update_other _ _ (fun h : B = b => nB (by rw [h]; exact hb))).trans e
    · exact fin h0 z h2 tk2 hz fun b o h1 h2 h3 => kp2 b o h1 h2 ((Heap.get?_update_other _ _ (Ne.symm h2)).trans (kp b o h1 h3))
end
section
variable {pg : Program} {wo : World} {Ar : Around} {Ex : Value → Shared → Prop} {t : Shared} {l : Addr}
theorem call_tree_kw {id : String} {b : Builtin} {xs : List Value} {kw : List (Str × Value)} {Q : Value → Shared → Prop} (hk : builtinKind id = none) (hp : plainId id = true) (hb : entryFor table id = some b) (ha : argsOk id ⟨xs, kw⟩)
    (hc : wpAny (model pg wo) Ar.in1 (b ⟨xs, kw⟩) (fun z q => match z with
      | .done y => (match (Except.ok y : Result) with | .ok (.ret v) => Q v q | .ok _ => False | .error x => Ex x q)
      | .again c => c.quiet = true ∧ codeAny (model pg wo) Ar c (fun r q => match r with | .ok (.ret v) => Q v q | .ok _ => False | .error x => Ex x q) q) Ex t) :
    wpAny (model pg wo) Ar (call (.builtin id) xs kw) Q Ex t := by
  refine wpAny_call (codeAny_call_builtin hp hb ?_)
  simp only [checkBuiltinCall, hk]
  cases hsg : Manifest.signature? id with
  | none => exact wpAny_pure hc
  | some sg =>
    simp only [argsOk, hsg] at ha
    have h2 : Bind.checkArgs id sg ⟨xs, kw⟩ = pure () := ha
    show wpAny _ _ (Bind.checkArgs id sg ⟨xs, kw⟩) _ _ t
    rw [h2]
    exact wpAny_pure hc
theorem args_maxd (a b : Value) : argsOk "max" ⟨[a], [(Str.ofString "default", b)]⟩ := by unfold argsOk; kernel_rfl
theorem mxd_ints {xs : Array (Int × Tok)} {dv : Value} {Q : Value → Shared → Prop} (hh : Ar.handled = none) (hl : t.heap.IsList l (intItems xs))
    (h0 : xs.size = 0 → ∀ h' tk, (∀ b o, t.heap.get? b = some o → h'.get? b = some o) → Q dv { t with heap := h', toks := tk })
    (h : 0 < xs.size → ∀ v h' tk, (intItems xs)[argBest (fun i j => decide (numAt xs i > numAt xs j)) (xs.size - 1)]? = some v → (∀ b o, t.heap.get? b = some o → h'.get? b = some o) → Q v { t with heap := h', toks := tk }) :
    wpAny (model pg wo) Ar (call (.builtin "max") [.ref l] [(Str.ofString "default", dv)]) Q Ex t := by
  have nm : (toString "max" ++ toString ".loop" : String) = "max.loop" := by decide
  refine call_tree_kw PySem.F.kind_max PySem.F.plain_max PySem.F.entry_max (args_maxd _ _) ?_
  show wpAny _ Ar.in1 (Builtin.Builtins.bindParams "max" ["key", "default"] 0 ⟨[], [(Str.ofString "default", dv)]⟩ >>= _) _ _ t
  refine wpAny_bind (wpAny_of_eq (show Builtin.Builtins.bindParams "max" ["key", "default"] 0 ⟨[], [(Str.ofString "default", dv)]⟩ = pure [none, some dv] from rfl) ?_)
  refine wpAny_bind (wpAny_pure ?_)
  refine wpAny_bind (iter_intList hl fun s₂ e st hfp hlI => ?_)
  subst e
  refine wpAny_bind (wpAny_newObj_type ?_)
  have Wk := Walks.list (prog := pg) (w := wo) (A := Ar.in1) hh _ l hlI (intItems xs)
  rw [nm]
  refine wpAny_pure ⟨plainId_quiet PySem.F.plain_max_loop _, mxd_first Wk _ (CmpOf.ints_gt (numAt xs) (fun _ _ => intItems_at)) _ (fun hm => Nat.lt_irrefl _ (hfp _ hm)) _ dv (Wk.frame _ _ _ st fun b _ o e => Heap.get?_push_of_some _ e) (Heap.get?_push_size _ rfl) (fun z h' tk hk => ?_) fun z v h' tk hP hk => ?_⟩
  · exact h0 (by simpa [intItems] using z) h' tk (old_kept fun b o hb e => hk b o hb (Nat.ne_of_lt (Heap.lt_size e)) (Heap.get?_push_of_some _ e))
  · exact h (by simpa [intItems] using z) v h' tk (by simpa [intItems] using hP) (old_kept fun b o hb e => hk b o hb (Nat.ne_of_lt (Heap.lt_size e)) (Heap.get?_push_of_some _ e))
end
/-- the greatest of them, or else d -/
def rMaxDf (K : PySem.W.Frag) : List V → List V → Hp → VK → Prop := fun vs zs H Q => ∃ (a : Addr) (ns : List Int) (d : Int), vs = [V.ref a] ∧ zs = [V.int d] ∧ SqL K H a (ns.map V.int) ∧ (ns = [] → Q (.int d) H) ∧ ∀ m, m ∈ ns → (∀ y, y ∈ ns → y ≤ m) → Q (.int m) H
theorem cr_maxDf {X : Cx} (hc : X.calm = true) : CallRK X (.builtin "max") [Str.ofString "default"] (rMaxDf X.K) := by
  intro pins s σ H vs zs us ws Q I r rz h
  obtain ⟨a, ns, d, rfl, rfl, hs, q0, q⟩ := h
  obtain ⟨its, rv, hl, _⟩ := I.list hs
  obtain rfl := Vals.ref1 r
  obtain ⟨w1, rfl, e1⟩ := vals1 rz
  obtain ⟨t1, rfl⟩ : ∃ t, w1 = Value.int d t := e1
  have hi := rv.ints
  obtain ⟨xs, e⟩ := hi.allInts.items
  have hn : numsOf (intItems xs).toList = ns := by rw [← e]; exact hi.numsOf
  rw [nums_intItems] at hn
  subst hn
  have hl := hl.isList
  rw [e] at hl
  refine mxd_ints (I.ok.hd hc) hl (fun z h' tk hk => ?_) fun z v h' tk hv hk => ?_
  · exact ⟨.int _, H, I.kept hk, ⟨_, rfl⟩, q0 (by rw [List.map_eq_nil_iff]; exact List.eq_nil_of_length_eq_zero (by simpa using z))⟩
  · obtain ⟨t, rfl⟩ := intItems_at hv
    obtain ⟨h1, h2⟩ := argBest_gt (numAt xs) (xs.size - 1)
    refine ⟨.int _, H, I.kept hk, ⟨_, rfl⟩, q _ ?_ fun a ha => ?_⟩
    · rw [numAt_eq]; exact PySem.getD_mem (by rw [List.length_map, Array.length_toList]; omega)
    · obtain ⟨j, hj, rfl⟩ := mem_getD ha
      rw [List.length_map, Array.length_toList] at hj
      rw [← numAt_eq]; exact h2 j (by omega)
/-- max(l, default=d) -/
def wMaxDf (wa : EW) (d : Int) : EW := fun kx s k => wa kx s fun x s1 => ∃ ns : List Int, dat s1 x = some (.list (ns.map PyData.int)) ∧ (ns = [] → k (.d (.int d)) s1) ∧ ∀ m, m ∈ ns → (∀ y, y ∈ ns → y ≤ m) → k (.d (.int m)) s1
end PW

namespace PW
open PySem L2
/-! ### branches by plain propositions -/
theorem br_p {P A B : Prop} [Decidable P] (a : P → A) (b : ¬ P → B) : (decide P = true → A) ∧ (decide P = false → B) := ⟨fun z => a (of_decide_eq_true z), fun z => b (of_decide_eq_false z)⟩
theorem br_eqI {i j : Int} {A B : Prop} (a : i = j → A) (b : i ≠ j → B) : (PyData.eqv (.int i) (.int j) = true → A) ∧ (PyData.eqv (.int i) (.int j) = false → B) := by
  have e : PyData.eqv (.int i) (.int j) = decide (i = j) := rfl
  rw [e]
  exact br_p a b
theorem br_neI {i j : Int} {A B : Prop} (a : i ≠ j → A) (b : i = j → B) : ((!PyData.eqv (.int i) (.int j)) = true → A) ∧ ((!PyData.eqv (.int i) (.int j)) = false → B) := by
  have e : PyData.eqv (.int i) (.int j) = decide (i = j) := rfl
  rw [e]
  by_cases h : i = j
  · rw [decide_eq_true h]; exact ⟨(fun z => nomatch z), fun _ => b h⟩
  · rw [decide_eq_false h]; exact ⟨fun _ => a h, (fun z => nomatch z)⟩
theorem br_b {c : Bool} {A B : Prop} (a : c = true → A) (b : c = false → B) : (c = true → A) ∧ (c = false → B) := ⟨a, b⟩
section
variable {X : Cx} {W : WX} {a : Expr} {wa : EW} {pos : Pos}
/-- x is True, of a bool -/
theorem e_isT {j : Nat} {pos' : Pos} (ha : PE X a (tE X.K W wa)) : PE X (.Compare a [.Is] [.Constant (.bool true) j pos'] pos) (tE X.K W (wIsT wa)) := by
  refine PE.imp (pe_cmpR op_isBl ha pe_bl rfl) fun σ H Q ⟨H0, F0, A0, s, T, kx, k, w, xl, h, q⟩ => un_of w xl h fun x s1 u H1 h1 w1 => ?_
  obtain ⟨b, rfl, hk⟩ := h1
  obtain ⟨F, A, w1⟩ := w1
  cases dp_bl (dq_dp (w1.tm _ List.mem_cons_self))
  refine ⟨b, true, rfl, rfl, ?_⟩
  rw [show decide (b = true) = b by cases b <;> rfl]
  exact q _ _ hk _ H1 ⟨F, A, (w1.sub fun t h => List.mem_cons_of_mem _ h).push (.bl _)⟩
theorem t_isT {j : Nat} {pos' : Pos} (ha : PE X a (tE X.K W wa)) : PT X (.Compare a [.Is] [.Constant (.bool true) j pos'] pos) (tT X.K W (wB (wIsT wa))) := by
  refine PT.imp (pt_cmpR op_isBl ha pe_bl rfl) fun σ H Q ⟨H0, F0, A0, s, T, kx, k, w, xl, h, q⟩ => un_of w xl h fun x s1 u H1 h1 w1 => ?_
  obtain ⟨b, rfl, c, e, hk⟩ := h1
  obtain ⟨F, A, w1⟩ := w1
  cases dp_bl (dq_dp (w1.tm _ List.mem_cons_self))
  injection e with e
  injection e with e
  subst e
  refine ⟨b, true, rfl, rfl, b, by rw [show decide (b = true) = b by cases b <;> rfl], q _ _ hk H1 ⟨F, A, w1.sub fun t h => List.mem_cons_of_mem _ h⟩⟩
end
/-- int(x) of a text of figures -/
def wIntS (wa : EW) : EW := fun kx s k => wa kx s fun x s1 => ∃ z n, x = .d (.str z) ∧ PySem.intText? z = some n ∧ z.length ≤ 640 ∧ k (.d (.int n)) s1
section
variable {X : Cx} {W : WX} {a : Expr} {wa : EW} {pos p : Pos}
theorem e_intS (hm : X.mg "int" = none) (ha : PE X a (tE X.K W wa)) (hg : Gl X "int" := by rfl) (he : starEach [a] X.env = (false, eval a X.env) :: starEach [] X.env := by rfl) (hpl : (backTo pos (starEach [] X.env)).any (·.1) = false := by rfl) :
    PE X (.Call (.Name "int" p) [a] [] pos) (tE X.K W (wIntS wa)) := by
  refine PE.imp (pe_callTy call_int_str hg hm (by decide +kernel) (pa_cons ha pa_nil he) (he := he) (hpl := hpl)) fun σ H Q ⟨H0, F0, A0, s, T, kx, k, w, xl, h, q⟩ => cb1_of w xl h fun x s1 u H1 h1 w1 => ?_
  obtain ⟨F, A, w1⟩ := w1
  have w2 := w1.sub (T' := T) fun t h => List.mem_cons_of_mem _ h
  obtain ⟨z, n, rfl, e, hl, hk⟩ := h1
  cases dp_str (dq_dp (w1.tm _ List.mem_cons_self))
  exact ⟨z, n, rfl, e, hl, q _ _ hk _ H1 ⟨F, A, w2.push (.int _)⟩⟩
theorem e_maxDf {d : Int} {j : Nat} {p1 p2 : Pos} (hc : X.calm = true) (hm : X.mg "max" = none) (ha : PE X a (tE X.K W wa)) (hg : Gl X "max" := by rfl)
    (he2 : starEach [a] X.env = (false, eval a X.env) :: starEach [] X.env := by rfl) (he : backTo pos (starEach [a] X.env) = (false, eval a X.env) :: backTo pos (starEach [] X.env) := by rfl) (hpl : (backTo pos (starEach [a] X.env)).any (·.1) = false := by rfl)
    (hall : (backToKw pos (keywordEach [⟨some "default", .Constant (.int d) j p1, p2⟩] X.env)).all (·.1.isSome) = true := by rfl) (hnone : (backToKw pos (keywordEach [⟨some "default", .Constant (.int d) j p1, p2⟩] X.env)).any (·.1.isNone) = false := by rfl)
    (hks : (backToKw pos (keywordEach [⟨some "default", .Constant (.int d) j p1, p2⟩] X.env)).filterMap (·.1) = [Str.ofString "default"] := by rfl) :
    PE X (.Call (.Name "max" p) [a] [⟨some "default", .Constant (.int d) j p1, p2⟩] pos) (tE X.K W (wMaxDf wa d)) := by
  refine PE.imp (pe_callBK (cr_maxDf hc) hg hm (by decide +kernel) (pa_cons ha pa_nil he2) (pk_cons pe_int pk_nil) (he := he) (hpl := hpl) (hall := hall) (hnone := hnone) (hks := hks)) fun σ H Q ⟨H0, F0, A0, s, T, kx, k, w, xl, h, q⟩ => un_of w xl h fun x s1 u H1 h1 w1 => ?_
  obtain ⟨ns, hd, h0, hk⟩ := h1
  obtain ⟨F, A, w1⟩ := w1
  obtain ⟨pp, vs, rfl, i1, i2⟩ := items_ok w1 (w1.tm _ List.mem_cons_self) hd
  cases dqAll_ints i2
  exact ⟨pp, ns, d, rfl, rfl, i1, fun z => q _ _ (h0 z) _ _ ⟨F, A, (w1.sub (T' := T) fun t h => List.mem_cons_of_mem _ h).push (.int _)⟩, fun m e1 e2 => q _ _ (hk m e1 e2) _ _ ⟨F, A, (w1.sub (T' := T) fun t h => List.mem_cons_of_mem _ h).push (.int _)⟩⟩
end
/-- a, b = l of a list -/
def gL (n : Nat) (gs : GWs) : GW := fun x s k => ∃ xs, x = .list xs ∧ xs.length = n ∧ gs xs s k
section
variable {X : Cx} {W : WX} {pos p : Pos}
theorem zip_okD {K : PySem.W.Frag} {F : Hp} {A : List Addr} : ∀ {vs : List V} {xs : List PyData}, DqAll K F vs xs → ∀ t ∈ (xs.map PV.d).zip vs, PVOk K F A t.1 t.2
  | _, _, .nil, t, m => nomatch m
  | _, _, .cons h r, t, m => by
    rcases List.mem_cons.mp m with e | m
    · rw [e]; exact h
    · exact zip_okD r t m
theorem g_lst {es : List Expr} {kk n : Nat} {gs : GWs} {L : List Nat} (hc : X.calm = true) (h : PGs X es (tGs X.K L gs)) (hn : (assignEach es X.env).length = n := by rfl) (hst : (assignEach es X.env).findIdx? (·.1) = none := by rfl) : PG X (.Tuple es kk pos) (tG X.K L (gL n gs)) := by
  refine PG.imp (pg_lst hc h hn hst) fun v σ H Q ⟨H0, F0, A0, s, T, x, k, w, m, ⟨xs, hx, hl, h⟩, q⟩ => ?_
  subst hx
  obtain ⟨F, A, w⟩ := w
  have pv : PVOk X.K F A (.d (.list xs)) v := w.tm _ m
  obtain ⟨p, vs, e1, h1, h2⟩ := items_ok w pv rfl
  refine ⟨p, vs, e1, h1, h2.len.trans hl, H0, F0, A0, s, (xs.map PV.d).zip vs ++ T, xs, k, ⟨F, A, w.tms fun t ht => ?_⟩, h2.len, fun t ht => List.mem_append_left _ ht, h, fun s' h' σ' H' l' w' => q s' h' σ' H' l' (w'.sub fun t ht => List.mem_append_right _ ht)⟩
  rcases List.mem_append.mp ht with z | z
  · exact zip_okD h2 t z
  · exact w.tm t z
end
end PW
namespace PW
open PySem L2 PySem.Spec PyProof.Rows
/-! ### defs with a default -/
structure DfdD (K : PySem.W.Frag) (mg : Str → Option Value) (x : Str) (ps : List Str) (st : Stmt) (dvs : List V) : Prop where
  ex : ∃ f fd ds, FunD K x x (defArgs st) (defBody st) (defScope st) dvs [] f fd ∧ mg x = some (.ref f) ∧ Binds K fd ps [] ∧ Binds K fd ps ds ∧ Vals dvs ds
/-- a def that may be called with its defaults left out -/
structure CalD (P : Program) (w : World) (K : PySem.W.Frag) (mg : Str → Option Value) (base : Heap) (k : Nat) (x : Str) (ps : List Str) (S : FS) (dvs : List V) : Prop where
  ex : ∃ f fd ds, FnOk P w K mg base (L2.CX P w) k f fd ps (spOf K S) ∧ mg x = some (.ref f) ∧ PySem.W.keepIn K (.ref f) = true ∧ Binds K fd ps [] ∧ Binds K fd ps ds ∧ Vals dvs ds
section
variable {P : Program} {w : World} {K : PySem.W.Frag} {mg : Str → Option Value} {base : Heap}
theorem CalD.cal {k : Nat} {x : Str} {ps : List Str} {S : FS} {dvs : List V} (C : CalD P w K mg base k x ps S dvs) : Cal P w K mg base k x ps S := by
  obtain ⟨f, fd, ds, F, m, kp, b, _⟩ := C.ex
  exact ⟨f, fd, F, m, kp, b⟩
theorem DfdD.calD {x : Str} {ps N : List Str} {st : Stmt} {k : Nat} {S : FS} {wb : SW} {dvs : List V} (D : DfdD K mg x ps st dvs) (Sc : FnScope N ps (defScope st)) (len : ∀ args o r e, S args o r e → args.length = ps.length)
    (body : ∀ (f : Addr) (cdv : Value) (A : Around) (outer : List Env) (s : Shared) (H : Hp) (E : XK), Room k (A.deeper (envOfC x (defScope st) s.heap.objs.size f cdv)) →
      PSs (cxOf (L2.CX P w) P w K mg base N x (defScope st) f cdv A outer s H E) (defBody st) (tS K (fun cls d _ H => E cls d H) wb))
    (pure : ∀ args o ret exc, S args o ret exc → wb (fun x s => exc x (cutL o.length s.o)) (pst0 args o N.length) (bodyE o.length ret)) : CalD P w K mg base (k + 1) x ps S dvs := by
  obtain ⟨f, fd, ds, F, m, b, b2, hv⟩ := D.ex
  exact ⟨f, fd, ds, F.ok Sc (fn_len len) fun cdv A outer s H vs Q E hr h => ⟨_, body f cdv A outer s H E hr, fn_core pure vs H Q E h⟩, m, F.kp, b, b2, hv⟩
theorem dfdD_mk {x : Str} {ps : List Str} {st : Stmt} {f T : Addr} {h : Heap} {oc cT : Value} {od an dT : Option Addr} {osl slT : Array (Option Value)} {kV doc pm cdv ct : Value} {its : List Value} {n : Nat} {dvs : List V} (X : K.In h) (G : h.Ns mainGlobals mg)
    (a : PySem.W.nsIn K mainGlobals x = some (some (.ref f))) (l : K.lookup f = some ⟨oc, od, .func (PySem.W.fnOf x x (defArgs st) (defBody st) (defScope st) (.ref T) kV doc pm an cdv ct), osl⟩) (c : PySem.W.codeIn K cdv x = true) (k : PySem.W.keepIn K (.ref f) = true)
    (lT : K.lookup T = some ⟨cT, dT, .seq its.toArray n, slT⟩) (hv : Vals dvs its) (hne : dvs ≠ [])
    (hb : ∀ (T : Addr) (kV doc pm : Value) (an : Option Addr) (cdv ct : Value) (us is : List Value), us.length = ps.length → is.length = dvs.length → ∃ kk, bindArgs (PySem.W.fnOf x x (defArgs st) (defBody st) (defScope st) (.ref T) kV doc pm an cdv ct) ⟨us, []⟩ = seqItems? (.ref T) >>= kk ∧ kk (some is.toArray) = pure (ps.zip us))
    (hb2 : ∀ (T : Addr) (kV doc pm : Value) (an : Option Addr) (cdv ct : Value) (us is : List Value), (us ++ is).length = ps.length → is.length = dvs.length → ∃ kk, bindArgs (PySem.W.fnOf x x (defArgs st) (defBody st) (defScope st) (.ref T) kV doc pm an cdv ct) ⟨us, []⟩ = seqItems? (.ref T) >>= kk ∧ kk (some is.toArray) = pure (ps.zip (us ++ is))) : DfdD K mg x ps st dvs := by
  refine ⟨f, _, its, ⟨⟨oc, od, .ref T, kV, doc, pm, an, cdv, ct, osl, rfl, l, c, .inr ⟨hne, T, _, its, n, rfl, lT, rfl, hv⟩, .inl rfl⟩, k⟩, PySem.W.mg_of X G a, fun s us Xs hl => ?_, fun s us Xs hl => ?_, hv⟩
  · rw [List.append_nil] at hl ⊢
    obtain ⟨kk, e1, e2⟩ := hb T kV doc pm an cdv ct us its hl hv.length.symm
    refine BindsTo.of_looks fun M => ?_
    rw [e1]
    exact looks_items Xs lT rfl (.of_pure e2)
  · obtain ⟨kk, e1, e2⟩ := hb2 T kV doc pm an cdv ct us its hl hv.length.symm
    refine BindsTo.of_looks fun M => ?_
    rw [e1]
    exact looks_items Xs lT rfl (.of_pure e2)
end
end PW

namespace PW
open PySem L2 PySem.Spec PyProof.Rows
/-! ### a def called with its defaults left out -/
def wCallD (S : FS) (ws : AW) (ds : List PyData) : EW := fun kx s k => ws kx s fun vs s1 => prep vs s1 fun xs s2 => S (xs ++ ds.map PV.d) [] (fun r _ => match r with | .d z => k (.d z) s2 | .new zs => k (.own s2.o.length) ⟨s2.r, s2.o ++ [.dl zs]⟩) (fun x _ => kx x s2)
section
variable {X : Cx} {W : WX} {k j : Nat} {ps : List Str} {S : FS} {x : Str} {p pos : Pos} {e : Expr} {es : List Expr} {ws : AW} {f : Addr} {fd : FuncData} {dvs : List V} {dss : List Value} {ds : List PyData}
theorem e_callD (F : FnOk X.prog X.w X.K X.mg X.base (L2.CX X.prog X.w) k f fd ps (spOf X.K S)) (tk : Takes X W) (hr : Room k X.A) (hg : Gl X x) (hm : X.mg x = some (.ref f)) (hk : PySem.W.keepIn X.K (.ref f) = true) (hb : Binds X.K fd ps dss) (hv : Vals dvs dss) (hq : ∀ F, DqAll X.K F dvs ds)
    (ha : PA X (e :: es) (tA X.K W ws)) (hdb : (x == ("__debug__" : Str)) = false := by decide) (he : starEach (e :: es) X.env = (false, eval e X.env) :: starEach es X.env := by rfl) (hpl : (backTo pos (starEach es X.env)).any (·.1) = false := by rfl) :
    PE X (.Call (.Name x p) (e :: es) [] pos) (tE X.K W (wCallD S ws ds)) := by
  refine PE.imp (pe_callSD F hr hg hm hk hb hv (fun σ => passAt tk σ) ha hdb he hpl) fun σ H Q ⟨H0, F0, A0, s, T, kx, kk, w, xl, h, q⟩ => ar_of w xl h fun vs s1 us H1 h1 e1 w1 => ?_
  obtain ⟨xs, s2, hS, e2, pl, w2⟩ := prep_ok vs us s1 T _ e1 w1 h1
  obtain ⟨F1, A, w2⟩ := w2
  have w3 := w2.sub (T' := T) fun t h => List.mem_append_right _ h
  have w2' : WdF _ _ _ _ _ _ (((xs ++ ds.map PV.d).zip (us ++ dvs)) ++ T) H1 F1 A := w2.tms fun t ht => by
    rw [List.zip_append e2] at ht
    rcases List.mem_append.mp ht with z | z
    · rcases List.mem_append.mp z with z | z
      · exact w2.tm t (List.mem_append_left _ z)
      · exact zip_okD (hq F1) t z
    · exact w2.tm t (List.mem_append_right _ z)
  have ll : (xs ++ ds.map PV.d).length = (us ++ dvs).length := by rw [List.length_append, List.length_append, List.length_map, e2, (hq F1).len]
  have pl' : ∀ x ∈ xs ++ ds.map PV.d, Plain x := fun x hx => by
    rcases List.mem_append.mp hx with z | z
    · exact pl x z
    · obtain ⟨y, _, rfl⟩ := List.mem_map.mp z
      exact True.intro
  refine ⟨H1, F1, [], xs ++ ds.map PV.d, [], _, _, ⟨F1, [], ?_⟩, rfl, hS, fun r o hr ho v H' ret => ?_, fun y o hx ho d H' w' => ?_⟩
  · refine ⟨⟨Same.refl _, w2.fz.g, Same.refl _, fun p _ h => h⟩, List.prefix_refl _, rfl, List.nodup_nil, (fun _ z => nomatch z), (fun n p c z => by simp at z), (by rw [List.length_map, List.length_map, ll]), (fun i v hv => ?_), (fun _ z => nomatch z)⟩
    obtain ⟨u, a, b⟩ := args_wd w2' (xs ++ ds.map PV.d) (us ++ dvs) ll pl' (fun t h => List.mem_append_left _ h) i v hv
    exact ⟨u, a, b _⟩
  · cases List.eq_nil_of_length_eq_zero ho
    cases r with
    | d z =>
      obtain ⟨F', A', w'⟩ := ret
      have dz : Dq X.K F' v z := w'.tm (.d z, v) List.mem_cons_self
      exact q _ _ hr v H' ⟨F', A, (w3.after w'.fz).push dz⟩
    | new zs =>
      obtain ⟨F', A', w'⟩ := ret
      obtain ⟨qq, hq, rfl⟩ := w'.tm (.own 0, v) List.mem_cons_self
      have ad := w'.ad qq (List.mem_of_getElem? hq)
      have oc := w'.oc 0 qq (.dl zs) hq rfl
      have w4 := w3.after w'.fz
      have nin : qq ∉ A := fun hA => (w2.ad qq hA).2 ad.1
      refine q _ _ hr _ H' ⟨F', A ++ [qq], (w4.addL (c := .dl zs) nin (w3.fz.h.free ad.1) ad.2 oc).push ⟨qq, ?_, rfl⟩⟩
      rw [← w4.len, List.getElem?_append_right (Nat.le_refl _), Nat.sub_self]
      rfl
  · obtain ⟨F', A', w'⟩ := w'
    have px : PVOk X.K F' A (.xd y.fs) (dV d) := w'.tm (.xd y.fs, dV d) List.mem_cons_self
    exact xl y s2 hx σ H' d ⟨F', A, (w3.after w'.fz).push px⟩
theorem c_callD (C : CalD X.prog X.w X.K X.mg X.base k x ps S dvs) (tk : Takes X W) (hr : Room j X.A) (ha : PA X (e :: es) (tA X.K W ws)) (hk : k ≤ j := by decide) (hg : Gl X x := by rfl)
    (hq : ∀ F, DqAll X.K F dvs ds := by intro F; exact .cons (.int _) .nil)
    (hdb : (x == ("__debug__" : Str)) = false := by decide) (he : starEach (e :: es) X.env = (false, eval e X.env) :: starEach es X.env := by rfl) (hpl : (backTo pos (starEach es X.env)).any (·.1) = false := by rfl) :
    PE X (.Call (.Name x p) (e :: es) [] pos) (tE X.K W (wCallD S ws ds)) := by
  obtain ⟨f, fd, dss, F, m, kp, b, b2, hv⟩ := C.ex
  exact e_callD F tk (hr.mono hk) hg m kp b2 hv hq ha hdb he hpl
end
end PW
namespace PW
open PySem L2
/-- str(x) of an int -/
def wStrI (wa : EW) : EW := fun kx s k => wa kx s fun x s1 => ∃ i : Int, x = .d (.int i) ∧ i.natAbs.log2 < 1920 ∧ k (.d (.str (toString i))) s1
section
variable {X : Cx} {W : WX} {a : Expr} {wa : EW} {pos p : Pos}
theorem e_strI (hm : X.mg "str" = none) (ha : PE X a (tE X.K W wa)) (hg : Gl X "str" := by rfl) (he : starEach [a] X.env = (false, eval a X.env) :: starEach [] X.env := by rfl) (hpl : (backTo pos (starEach [] X.env)).any (·.1) = false := by rfl) :
    PE X (.Call (.Name "str" p) [a] [] pos) (tE X.K W (wStrI wa)) := by
  refine PE.imp (pe_callTy call_str_int hg hm (by decide +kernel) (pa_cons ha pa_nil he) (he := he) (hpl := hpl)) fun σ H Q ⟨H0, F0, A0, s, T, kx, k, w, xl, h, q⟩ => cb1_of w xl h fun x s1 u H1 h1 w1 => ?_
  obtain ⟨F, A, w1⟩ := w1
  have w2 := w1.sub (T' := T) fun t h => List.mem_cons_of_mem _ h
  obtain ⟨i, rfl, hl, hk⟩ := h1
  cases dp_int (dq_dp (w1.tm _ List.mem_cons_self))
  exact ⟨i, rfl, hl, q _ _ hk _ H1 ⟨F, A, w2.push (.str _)⟩⟩
end
theorem str_int (n : Nat) : (.str (toString (n : Int)) : PyData) = dT ((Nat.toDigits 10 n).map Char.toNat) := by
  have h := PySem.W.KIN.signs_num n
  show PyData.str (Str.ofString (toString (n : Int))) = PyData.str (tx _)
  congr 1
  show _ = (⟨((Nat.toDigits 10 n).map Char.toNat).toArray⟩ : Str)
  rw [← h] <;> rfl
end PW

namespace PW
open PySem L2 PySem.Spec PyProof.Rows
/-! ### l.reverse(), sorted(l) of texts, a dict written out, d.get(k, x) -/
theorem DqAll.rev {K : PySem.W.Frag} {F : Hp} : ∀ {vs : List V} {xs : List PyData}, DqAll K F vs xs → DqAll K F vs.reverse xs.reverse
  | _, _, .nil => .nil
  | _, _, .cons h t => by
    rw [List.reverse_cons, List.reverse_cons]
    exact (DqAll.rev t).app (.cons h .nil)
theorem dqAll_strs {K : PySem.W.Frag} {H : Hp} : ∀ {bs : List Str} {vs : List V}, DqAll K H vs (bs.map PyData.str) → vs = bs.map V.str
  | [], _, .nil => rfl
  | b :: bs, _, .cons h t => by
    cases h
    rw [dqAll_strs t]
    rfl
theorem dqAll_ofStrs {K : PySem.W.Frag} {H : Hp} : ∀ (bs : List Str), DqAll K H (bs.map V.str) (bs.map PyData.str)
  | [] => .nil
  | b :: bs => .cons (.str b) (dqAll_ofStrs bs)
def wRev (wo : EW) : EW := fun kx s k => wo kx s fun x s1 => ∃ n xs, x = .own n ∧ s1.o[n]? = some (.dl xs) ∧ k (.d .none) ⟨s1.r, s1.o.set n (.dl xs.reverse)⟩
def wSortS (wa : EW) : EW := fun kx s k => wa kx s fun x s1 => ∃ xs : List Str, dat s1 x = some (.list (xs.map PyData.str)) ∧ xs.length < 64 ∧ ∀ ys : List Str, ys.Perm xs → sortedS ys = true → k (.own s1.o.length) ⟨s1.r, s1.o ++ [.dl (ys.map PyData.str)]⟩
section
variable {X : Cx} {W : WX} {a b e f wo_e : Expr} {wa wb we wf wo : EW} {pos p : Pos}
theorem e_rev {apos : Pos} (ho : PE X wo_e (tE X.K W wo)) (hbase : attributeBase wo_e "reverse" X.env (eval wo_e X.env) = eval wo_e X.env := by rfl) (hline : (apos.endLine == pos.line) = true := by rfl) :
    PE X (.Call (.Attribute wo_e "reverse" apos) [] [] pos) (tE X.K W (wRev wo)) := by
  refine PE.imp (pe_bm0 PySem.F.plainAttrs_list PySem.F.slot_list_reverse PySem.F.type_list_reverse mt_reverse ho hbase hline) fun σ H Q ⟨H0, F0, A0, s, T, kx, k, w, xl, h, q⟩ => ?_
  refine ⟨H0, F0, A0, s, T, kx, _, w, xl, h, fun x s1 h1 u H1 w1 => ?_⟩
  obtain ⟨n, xs, rfl, ox, hk⟩ := h1
  obtain ⟨F, A, w1⟩ := w1
  obtain ⟨p, vs, hp, rfl, hv, hd⟩ := own_at w1 List.mem_cons_self ox
  refine ⟨.inl ⟨rfl, vs, SqL.of hv⟩, p, vs, rfl, rfl, hv, q _ _ hk _ _ ⟨F, A, ((w1.sub (T' := T) fun t h => List.mem_cons_of_mem _ h).wr hp ox hd.rev).push .non⟩⟩
theorem e_sortS (hm : X.mg "sorted" = none) (ha : PE X a (tE X.K W wa)) (hg : Gl X "sorted" := by rfl) (he : starEach [a] X.env = (false, eval a X.env) :: starEach [] X.env := by rfl) (hpl : (backTo pos (starEach [] X.env)).any (·.1) = false := by rfl) :
    PE X (.Call (.Name "sorted" p) [a] [] pos) (tE X.K W (wSortS wa)) := by
  refine PE.imp (pe_callB cr_sortedS hg hm boot_sorted (pa_cons ha pa_nil he) (he := he) (hpl := hpl)) fun σ H Q ⟨H0, F0, A0, s, T, kx, k, w, xl, h, q⟩ => cb1_of w xl h fun x s1 u H1 h1 w1 => ?_
  obtain ⟨xs, hd, hl, hk⟩ := h1
  obtain ⟨F, A, w1⟩ := w1
  obtain ⟨a, vs, rfl, h1, h2⟩ := items_ok w1 (w1.tm _ List.mem_cons_self) hd
  cases dqAll_strs h2
  refine ⟨a, xs, rfl, h1, hl, fun ys p hp hs hn => q _ _ (hk ys hp hs) _ _ ⟨F, A ++ [p], ?_⟩⟩
  refine ((w1.sub (T' := T) fun t h => List.mem_cons_of_mem _ h).newL hn (dqAll_ofStrs ys)).push ⟨p, ?_, rfl⟩
  rw [← w1.len, List.getElem?_append_right (Nat.le_refl _), Nat.sub_self]
  rfl
end
abbrev DW := KX → PSt → (List (Key × PyData) → PSt → Prop) → Prop
def wdNil : DW := fun _ s k => k [] s
def wdCons (wk wv : EW) (r : DW) : DW := fun kx s k => wk kx s fun x s1 => wv kx s1 fun y s2 => frz y s2 fun d s3 => ∃ a kk, x = .d a ∧ kD a = some kk ∧ r kx s3 fun kvs s4 => k ((kk, d) :: kvs) s4
def AllIn (T : List (PV × V)) : List (Key × PyData) → List (Key × V) → Prop
  | [], [] => True
  | kv :: r, v :: q => kv.1 = v.1 ∧ (PV.d kv.2, v.2) ∈ T ∧ AllIn T r q
  | [], _ :: _ => False
  | _ :: _, [] => False
theorem AllIn.mono {T T' : List (PV × V)} (h : ∀ t ∈ T, t ∈ T') : ∀ {a : List (Key × PyData)} {b : List (Key × V)}, AllIn T a b → AllIn T' a b
  | [], [], _ => trivial
  | _ :: _, _ :: _, ⟨e, m, r⟩ => ⟨e, h _ m, AllIn.mono h r⟩
  | [], _ :: _, h => h.elim
  | _ :: _, [], h => h.elim
def PairsOk (X : Cx) (W : WX) (trs : List (TE × TE)) (w : DW) : Prop := ∀ σ H Q H0 F0 A0 s T kx k, Wd X.K H0 F0 A0 s σ T H → XL X.K H0 F0 A0 T W kx → w kx s k →
  (∀ kvs s', k kvs s' → ∀ (vs : List (Key × V)) T' H', AllIn T' kvs vs → (∀ t ∈ T, t ∈ T') → Wd X.K H0 F0 A0 s' σ T' H' → Q (vs.map fun kv => (kV kv.1, kv.2)) H') → tPairs trs σ H Q
structure PPd (X : Cx) (W : WX) (pos : Pos) (keys : List (Option Expr)) (values : List Expr) (w : DW) : Prop where
  ex : ∃ trs, PPs X pos keys values trs ∧ PairsOk X W trs w
section
variable {X : Cx} {W : WX} {a b e f wo_e : Expr} {wa wb we wf wo : EW} {pos p : Pos} {keys : List (Option Expr)} {values : List Expr} {wd : DW}
theorem d_nil : PPd X W pos [] [] wdNil := ⟨[], pps_nil, fun σ H Q H0 F0 A0 s T kx k w xl h q => q [] s h [] T H trivial (fun _ m => m) w⟩
theorem d_cons (hk : PE X a (tE X.K W wa)) (hv : PE X b (tE X.K W wb)) (hr : PPd X W pos keys values wd) : PPd X W pos (some a :: keys) (b :: values) (wdCons wa wb wd) := by
  obtain ⟨trs, h1, h2⟩ := hr
  refine ⟨_, pps_cons hk hv h1, fun σ H Q H0 F0 A0 s T kx k w xl h q => ?_⟩
  refine ⟨H0, F0, A0, s, T, kx, _, w, xl, h, fun x s1 h1 u H1 w1 => ?_⟩
  refine ⟨H0, F0, A0, s1, _, kx, _, w1, xl.push, h1, fun y s2 h3 u2 H2 w2 => ?_⟩
  obtain ⟨d, s3, h3, w3⟩ := frz_ok w2 h3
  obtain ⟨y0, kk, rfl, hkk, h3⟩ := h3
  have eu : u = kV kk := by
    obtain ⟨F3, A3, w4⟩ := id w3
    have du : Dq X.K F3 u y0 := w4.tm (.d y0, u) (List.mem_cons_of_mem _ List.mem_cons_self)
    exact kD_dp (dq_dp du) hkk
  subst eu
  refine h2 σ H2 _ H0 F0 A0 s3 _ kx _ w3 xl.push.push h3 fun kvs s' hkv vs T' H' hall hT w5 => ?_
  exact q _ _ hkv ((kk, u2) :: vs) T' H' ⟨rfl, hT _ List.mem_cons_self, hall⟩ (fun t m => hT t (List.mem_cons_of_mem _ (List.mem_cons_of_mem _ m))) w5
def mergeD (kvs : List (Key × PyData)) : List (Key × PyData) := kvs.foldl (fun acc kv => putD acc kv.1 kv.2) []
theorem merge_ok {K : PySem.W.Frag} {H0 F0 : Hp} {A0 : List Addr} {s : PSt} {σ : L2.St} {T : List (PV × V)} {H F : Hp} {A : List Addr} (w : WdF K H0 F0 A0 s σ T H F A) : ∀ {kvs : List (Key × PyData)} {vs : List (Key × V)} {ac : List (Key × PyData)} {bc : List (Key × V)}, AllIn T kvs vs →
    bc.map (·.1) = ac.map (·.1) → DqAll K F (bc.map (·.2)) (ac.map (·.2)) → (mergeK bc vs).map (·.1) = (kvs.foldl (fun acc kv => putD acc kv.1 kv.2) ac).map (·.1) ∧ DqAll K F ((mergeK bc vs).map (·.2)) ((kvs.foldl (fun acc kv => putD acc kv.1 kv.2) ac).map (·.2))
  | [], [], _, _, _, h1, h2 => ⟨h1, h2⟩
  | (k, x) :: kvs, (k', v) :: vs, ac, bc, ⟨e, m, r⟩, h1, h2 => by
    cases (show k = k' from e)
    obtain ⟨e1, e2⟩ := put_ok (k := k) (show Dq K F v x from w.tm _ m) h1 h2
    have ih := merge_ok w (kvs := kvs) (vs := vs) r e1 e2
    exact ih
  | [], _ :: _, _, _, h, _, _ => h.elim
  | _ :: _, [], _, _, h, _, _ => h.elim
theorem allIn_len {T : List (PV × V)} : ∀ {a : List (Key × PyData)} {b : List (Key × V)}, AllIn T a b → b.length = a.length
  | [], [], _ => rfl
  | _ :: _, _ :: _, ⟨_, _, r⟩ => congrArg Nat.succ (allIn_len r)
  | [], _ :: _, h => h.elim
  | _ :: _, [], h => h.elim
def wDict (d : DW) : EW := fun kx s k => d kx ⟨s.r, s.o ++ [.di []]⟩ fun kvs s1 => s1.o[s.o.length]? = some (.di []) ∧ kvs.length ≤ 15 ∧ k (.own s.o.length) ⟨s1.r, s1.o.set s.o.length (.di (mergeD kvs))⟩
theorem e_dict (h : PPd X W pos keys values wd) (hall : keys.all (·.isSome) = true) (hl : keys.length = values.length) (h0 : keys ≠ []) (h15 : keys.length ≤ 15) : PE X (.Dict keys values pos) (tE X.K W (wDict wd)) := by
  obtain ⟨trs, h1, h2⟩ := h
  refine PE.imp (pe_disp h1 hall hl h0 h15) fun σ H Q ⟨H0, F0, A0, s, T, kx, k, w, xl, h, q⟩ => fun p hp => ?_
  obtain ⟨F, A, w⟩ := w
  have w2 := w.newO (c := .di []) hp fun fp => ⟨fp, [], upd_same, rfl, .nil⟩
  have w3 : WdF X.K H0 F0 A0 ⟨s.r, s.o ++ [.di []]⟩ σ ((.own s.o.length, .ref p) :: T) (upd H p (.dK [])) F (A ++ [p]) := w2.push ⟨p, by
    rw [← w.len, List.getElem?_append_right (Nat.le_refl _), Nat.sub_self]
    rfl, rfl⟩
  refine h2 _ _ _ H0 F0 A0 _ _ kx _ ⟨F, _, w3⟩ xl.push h fun kvs s1 h1 vs T' H' hall hT w6 => ?_
  obtain ⟨ho, h15, hq⟩ := h1
  obtain ⟨F6, A6, w6⟩ := w6
  obtain ⟨p', vs', hp', e', f', hH, hks, hds⟩ := own_atD w6 (hT _ List.mem_cons_self) ho
  cases e'
  cases vs' with
  | cons z r => simp at hks
  | nil =>
  obtain ⟨m1, m2⟩ := merge_ok w6 (ac := []) (bc := []) hall rfl .nil
  refine ⟨hH, vs, rfl, by rw [allIn_len hall]; exact h15, ?_⟩
  have w7 := (w6.sub (T' := (.own s.o.length, .ref p) :: T) hT).wrO (o := .dK (mergeK [] vs)) (c := .di (mergeD kvs)) hp' f' (List.getElem?_eq_some_iff.mp ho).1 ⟨f', _, upd_same, m1, m2⟩
  exact q _ _ hq _ _ ⟨F6, _, w7⟩
def valD (kvs : List (Key × PyData)) (k : Key) : Option PyData := (kvs.find? fun kv => decide (kv.1 = k)).map (·.2)
theorem val_ok {K : PySem.W.Frag} {F : Hp} {k : Key} {v : V} {d : PyData} (hd : Dq K F v d) : ∀ {vs : List (Key × V)} {kvs : List (Key × PyData)}, vs.map (·.1) = kvs.map (·.1) → DqAll K F (vs.map (·.2)) (kvs.map (·.2)) → Dq K F ((valV vs k).getD v) ((valD kvs k).getD d)
  | [], [], _, _ => hd
  | [], _ :: _, e, _ => by simp at e
  | _ :: _, [], e, _ => by simp at e
  | p :: vs, q :: kvs, e, h => by
    simp only [List.map_cons, List.cons.injEq] at e
    rw [List.map_cons, List.map_cons] at h
    cases h with
    | cons h t =>
      have ih := val_ok (k := k) hd e.2 t
      unfold valV valD at ih ⊢
      rw [List.find?_cons, List.find?_cons, e.1]
      by_cases c : q.1 = k
      · simp only [c, decide_true]
        exact h
      · simp only [c, decide_false]
        exact ih
def wDGet2 (wo we wf : EW) : EW := fun kx s k => wo kx s fun x s1 => ∃ n, x = .own n ∧ (∃ kvs, s1.o[n]? = some (.di kvs)) ∧ we kx s1 fun y s2 => wf kx s2 fun z s3 => ∃ kvs a kk dz, y = .d a ∧ z = .d dz ∧ kD a = some kk ∧ s3.o[n]? = some (.di kvs) ∧ k (.d ((valD kvs kk).getD dz)) s3
theorem e_dget2 {apos : Pos} (hu : X.A.units + 64 < cLine) (ho : PE X wo_e (tE X.K W wo)) (he : PE X e (tE X.K W we)) (hf : PE X f (tE X.K W wf))
    (hbase : attributeBase wo_e "get" X.env (eval wo_e X.env) = eval wo_e X.env := by rfl)
    (hfew : ((backTo pos (starEach [e, f] X.env)).all (fun x => !x.1) && (backToKw pos (keywordEach [] X.env)).all (fun x => x.1.isSome)
      && decide (([e, f] : List Expr).length + ([] : List Keyword).length + (if ([] : List Keyword).isEmpty then 0 else 1) < 30)) = true := by rfl)
    (hline : (apos.endLine == pos.line) = true := by rfl) (ht : backTo pos (starEach [e, f] X.env) = [(false, eval e X.env), (false, eval f X.env)] := by rfl) :
    PE X (.Call (.Attribute wo_e "get" apos) [e, f] [] pos) (tE X.K W (wDGet2 wo we wf)) := by
  refine PE.imp (pe_dget2 (by omega) ho he hf ⟨hbase, hfew, hline, ht⟩) fun σ H Q ⟨H0, F0, A0, s, T, kx, k, w, xl, h, q⟩ => ?_
  refine ⟨H0, F0, A0, s, T, kx, _, w, xl, h, fun x s1 h1 u H1 w1 => ?_⟩
  obtain ⟨n, rfl, ⟨kvs0, o0⟩, h1⟩ := h1
  have w1' := w1
  obtain ⟨F, A, w1'⟩ := w1'
  obtain ⟨p, vs, hp, rfl, fp, hv, hks, hds⟩ := own_atD w1' List.mem_cons_self o0
  refine ⟨p, rfl, .inl ⟨vs, .inl hv⟩, H0, F0, A0, s1, _, kx, _, w1, xl.push, h1, fun y s2 h2 uy H2 w2 => ?_⟩
  refine ⟨H0, F0, A0, s2, _, kx, _, w2, xl.push.push, h2, fun z s3 h3 uz H3 w3 => ?_⟩
  obtain ⟨kvs, y0, kk, dz, rfl, rfl, hkk, o3, hk⟩ := h3
  obtain ⟨F3, A3, w3⟩ := w3
  obtain ⟨p', vs', hp', e', fp', hv', hks', hds'⟩ := own_atD w3 (List.mem_cons_of_mem _ (List.mem_cons_of_mem _ List.mem_cons_self)) o3
  cases e'
  have dy : Dq X.K F3 uy y0 := w3.tm (.d y0, uy) (List.mem_cons_of_mem _ List.mem_cons_self)
  have dz' : Dq X.K F3 uz dz := w3.tm (.d dz, uz) List.mem_cons_self
  cases kD_dp (dq_dp dy) hkk
  refine ⟨_, DGet.k hv', q _ _ hk _ _ ⟨F3, A3, (w3.sub (T' := T) fun t h => List.mem_cons_of_mem _ (List.mem_cons_of_mem _ (List.mem_cons_of_mem _ h))).push ?_⟩⟩
  exact val_ok dz' hks' hds'
end
end PW

namespace PW
open PySem L2 PySem.Spec PyProof.Rows
/-! ### calls that are lent the whole heap, and hand back anything -/
abbrev FSO := List PV → List OC → (PV → List OC → Prop) → (XV → List OC → Prop) → Prop
def spO (K : PySem.W.Frag) (S : FSO) : Sp := fun vs H Q E => ∃ H0 F0 A0 args o ret exc, Wd K H0 F0 A0 ⟨args.map some, o⟩ (vs.map some) [] H ∧ A0.length = o.length ∧ S args o ret exc ∧
  (∀ r o', ret r o' → ∀ v H', Wd K H0 F0 A0 ⟨[], o'⟩ [] [(r, v)] H' → Q v H') ∧ ∀ x o', exc x o' → ∀ d H', Wd K H0 F0 A0 ⟨[], o'⟩ [] [(.xd x.fs, dV d)] H' → E (.ref x.C) d H'
def bodyO (ret : PV → List OC → Prop) : PEnds := { nx := fun s => ret (.d .none) s.o, rt := fun v s => ret v s.o }
theorem Wd.one {K : PySem.W.Frag} {H0 F0 : Hp} {A0 : List Addr} {s : PSt} {σ : L2.St} {T : List (PV × V)} {H : Hp} {v : PV} {u : V} (w : Wd K H0 F0 A0 s σ ((v, u) :: T) H) : Wd K H0 F0 A0 ⟨[], s.o⟩ [] [(v, u)] H := by
  obtain ⟨F, A, w⟩ := w.sub (T' := [(v, u)]) fun t ht => by
    rw [List.mem_singleton.mp ht]; exact List.mem_cons_self
  exact ⟨F, A, w.rel rfl rfl fun i v e => by simp at e⟩
section
variable {P : Program} {w : World} {K : PySem.W.Frag} {mg : Str → Option Value} {base : Heap}
theorem fn_lenO {ps : List Str} {S : FSO} (len : ∀ args o r e, S args o r e → args.length = ps.length) (vs : List V) (H : Hp) (Q : VK) (E : XK) (h : spO K S vs H Q E) : vs.length = ps.length := by
  obtain ⟨H0, F0, A0, args, o, ret, exc, ⟨F, A, w⟩, _, h, _⟩ := h
  have := w.sl
  rw [List.length_map, List.length_map] at this
  rw [← this]
  exact len _ _ _ _ h
theorem fn_coreO {N : List Str} {S : FSO} {wb : SW} (pure : ∀ args o ret exc, S args o ret exc → wb (fun x s => exc x s.o) (pst0 args o N.length) (bodyO ret)) (vs : List V) (H : Hp) (Q : VK) (E : XK) (h : spO K S vs H Q E) :
    tS K (fun cls d _ H => E cls d H) wb { nx := fun _ H' => Q .non H', rt := Q } (L2.start N vs) H := by
  obtain ⟨H0, F0, A0, args, o, ret, exc, wd, ho, h, q1, q2⟩ := h
  refine ⟨H0, F0, A0, pst0 args o N.length, [], _, _, ?_, fun y s' hy σ' H' d w' => q2 y _ hy d H' w'.one, pure args o ret exc h, fun s' hs σ' H' w' => ?_, fun v s' hv u σ' H' w' => q1 _ _ hv u H' w'.one, fun _ z => z.elim, fun _ z => z.elim⟩
  · obtain ⟨F, A, wd⟩ := wd
    have e := wd.sl
    rw [List.length_map, List.length_map] at e
    refine ⟨F, A, wd.rel rfl ?_ fun i v hv => ?_⟩
    · show (args.map some ++ List.replicate (N.length - args.length) none).length = (vs.map some ++ List.replicate (N.length - vs.length) none).length
      rw [e]
      simp [e]
    · have hv : (args.map some ++ List.replicate (N.length - args.length) none)[i]? = some (some v) := hv
      show (args.map some)[i]? = some (some v) ∧ ∀ u, (vs.map some)[i]? = some (some u) → (vs.map some ++ List.replicate (N.length - vs.length) none)[i]? = some (some u)
      by_cases hi : i < args.length
      · rw [List.getElem?_append_left (by rw [List.length_map]; exact hi)] at hv
        refine ⟨hv, fun u hu => ?_⟩
        rw [List.getElem?_append_left (by rw [List.length_map, ← e]; exact hi)]
        exact hu
      · rw [List.getElem?_append_right (by rw [List.length_map]; omega)] at hv
        have := List.mem_of_getElem? hv
        have := List.eq_of_mem_replicate this
        cases this
  · obtain ⟨F, A, w'⟩ := w'
    exact q1 _ _ hs .non H' (Wd.one (v := .d .none) (u := .non) ⟨F, A, w'.push (v := .d .none) (u := .non) .non⟩)
structure CalO (P : Program) (w : World) (K : PySem.W.Frag) (mg : Str → Option Value) (base : Heap) (k : Nat) (x : Str) (ps : List Str) (S : FSO) : Prop where
  ex : ∃ f fd, FnOk P w K mg base (L2.CX P w) k f fd ps (spO K S) ∧ mg x = some (.ref f) ∧ PySem.W.keepIn K (.ref f) = true ∧ Binds K fd ps []
theorem Dfd.calO {x : Str} {ps N : List Str} {st : Stmt} {k : Nat} {S : FSO} {wb : SW} (D : Dfd K mg x ps st) (Sc : FnScope N ps (defScope st)) (len : ∀ args o r e, S args o r e → args.length = ps.length)
    (body : ∀ (f : Addr) (cdv : Value) (A : Around) (outer : List Env) (s : Shared) (H : Hp) (E : XK), Room k (A.deeper (envOfC x (defScope st) s.heap.objs.size f cdv)) →
      PSs (cxOf (L2.CX P w) P w K mg base N x (defScope st) f cdv A outer s H E) (defBody st) (tS K (fun cls d _ H => E cls d H) wb))
    (pure : ∀ args o ret exc, S args o ret exc → wb (fun x s => exc x s.o) (pst0 args o N.length) (bodyO ret)) : CalO P w K mg base (k + 1) x ps S := by
  obtain ⟨f, fd, F, m, b⟩ := D.ex
  exact ⟨f, fd, F.okX Sc (fn_lenO len) fun cdv A outer s H vs Q E hr h => ⟨_, body f cdv A outer s H E hr, fn_coreO pure vs H Q E h⟩, m, F.kp, b⟩
end
def wCallO (S : FSO) (ws : AW) : EW := fun kx s k => ws kx s fun vs s1 => S vs s1.o (fun r o => k r ⟨s1.r, o⟩) (fun x o => kx x ⟨s1.r, o⟩)
section
variable {X : Cx} {W : WX} {k j : Nat} {ps : List Str} {S : FSO} {x : Str} {p pos : Pos} {e : Expr} {es : List Expr} {ws : AW}
theorem c_callO (C : CalO X.prog X.w X.K X.mg X.base k x ps S) (tk : Takes X W) (hr : Room j X.A) (ha : PA X (e :: es) (tA X.K W ws)) (hk : k ≤ j := by decide) (hg : Gl X x := by rfl)
    (hdb : (x == ("__debug__" : Str)) = false := by decide) (he : starEach (e :: es) X.env = (false, eval e X.env) :: starEach es X.env := by rfl) (hpl : (backTo pos (starEach es X.env)).any (·.1) = false := by rfl) :
    PE X (.Call (.Name x p) (e :: es) [] pos) (tE X.K W (wCallO S ws)) := by
  obtain ⟨f, fd, F, hm, kp, hb⟩ := C.ex
  refine PE.imp (pe_callS F (hr.mono hk) hg hm kp hb (fun σ => passAt tk σ) ha hdb he hpl) fun σ H Q ⟨H0, F0, A0, s, T, kx, kk, w, xl, h, q⟩ => ar_of w xl h fun vs s1 us H1 hS e1 w1 => ?_
  obtain ⟨F1, A, w1⟩ := w1
  have w3 := w1.sub (T' := T) fun t h => List.mem_append_right _ h
  refine ⟨lendA H1 A, F1, A, vs, s1.o, _, _, ⟨F1, A, w1.forH vs us e1 fun t h => List.mem_append_left _ h⟩, w1.len, hS, fun r o hr v H' ret => ?_, fun y o hx d H' w' => ?_⟩
  · obtain ⟨F', A', w'⟩ := ret
    exact q _ _ hr v H' ⟨F', A', (w3.afterH w').push (w'.tm (r, v) List.mem_cons_self)⟩
  · obtain ⟨F', A', w'⟩ := w'
    exact xl y _ hx σ H' d ⟨F', A', (w3.afterH w').push (show PVOk X.K F' A' (.xd y.fs) (dV d) from w'.tm (.xd y.fs, dV d) List.mem_cons_self)⟩
end
/-! ### dicts that hold owned things, their keys plain -/
def putM (kvs : List (Key × PV)) (k : Key) (v : PV) : List (Key × PV) :=
  if (kvs.any fun kv => decide (kv.1 = k)) = true then kvs.map (fun kv => if kv.1 = k then (kv.1, v) else kv) else kvs ++ [(k, v)]
def valM (kvs : List (Key × PV)) (k : Key) : Option PV := (kvs.find? fun kv => decide (kv.1 = k)).map (·.2)
section
variable {K : PySem.W.Frag} {F : Hp} {A : List Addr}
theorem PVAll.kmap {k : Key} {v : V} {d : PV} (hv : PVOk K F A d v) : ∀ {vs : List (Key × V)} {kvs : List (Key × PV)}, vs.map (·.1) = kvs.map (·.1) → PVAll K F A (kvs.map (·.2)) (vs.map (·.2)) →
    PVAll K F A ((kvs.map (fun kv => if kv.1 = k then (kv.1, d) else kv)).map (·.2)) ((vs.map (fun kv => if kv.1 = k then (kv.1, v) else kv)).map (·.2))
  | [], [], _, _ => trivial
  | [], _ :: _, e, _ => by simp at e
  | _ :: _, [], e, _ => by simp at e
  | p :: vs, q :: kvs, e, h => by
    simp only [List.map_cons, List.cons.injEq] at e
    obtain ⟨h, t⟩ := h
    have ih := PVAll.kmap (k := k) hv e.2 t
    simp only [List.map_cons]
    refine ⟨?_, ih⟩
    rw [← e.1]
    split
    · exact hv
    · exact h
theorem put_okM {k : Key} {v : V} {d : PV} (hv : PVOk K F A d v) {vs : List (Key × V)} {kvs : List (Key × PV)} (e : vs.map (·.1) = kvs.map (·.1)) (h : PVAll K F A (kvs.map (·.2)) (vs.map (·.2))) :
    (putK vs k v).map (·.1) = (putM kvs k d).map (·.1) ∧ PVAll K F A ((putM kvs k d).map (·.2)) ((putK vs k v).map (·.2)) := by
  have ea : (vs.any fun kv => decide (kv.1 = k)) = (kvs.any fun kv => decide (kv.1 = k)) := by rw [any_keys, any_keys, e]
  unfold putK putM
  rw [ea]
  split
  · exact ⟨by rw [keys_kmap, keys_kmap, e], h.kmap hv e⟩
  · rw [List.map_append, List.map_append, List.map_append, List.map_append, e]
    exact ⟨rfl, h.app ⟨hv, trivial⟩⟩
theorem val_okM {k : Key} {d : PV} : ∀ {vs : List (Key × V)} {kvs : List (Key × PV)}, vs.map (·.1) = kvs.map (·.1) → PVAll K F A (kvs.map (·.2)) (vs.map (·.2)) → valM kvs k = some d → ∃ v, valV vs k = some v ∧ PVOk K F A d v
  | [], [], _, _, h => by cases h
  | [], _ :: _, e, _, _ => by simp at e
  | _ :: _, [], e, _, _ => by simp at e
  | p :: vs, q :: kvs, e, h, hd => by
    simp only [List.map_cons, List.cons.injEq] at e
    obtain ⟨h, t⟩ := h
    unfold valM at hd
    unfold valV
    rw [List.find?_cons] at hd ⊢
    rw [e.1]
    by_cases c : q.1 = k
    · simp only [c, decide_true, Option.map_some, Option.some.injEq] at hd ⊢
      subst hd
      exact ⟨_, rfl, h⟩
    · simp only [c, decide_false] at hd ⊢
      exact val_okM (k := k) e.2 t hd
end
theorem own_atM {K : PySem.W.Frag} {H0 F0 : Hp} {A0 : List Addr} {s : PSt} {σ : L2.St} {T : List (PV × V)} {H F : Hp} {A : List Addr} {u : V} {n : Nat} {kvs : List (Key × PV)} (w : WdF K H0 F0 A0 s σ T H F A) (h : (PV.own n, u) ∈ T) (ho : s.o[n]? = some (.dm kvs)) :
    ∃ p vs, A[n]? = some p ∧ u = .ref p ∧ F p = none ∧ H p = some (.dK vs) ∧ vs.map (·.1) = kvs.map (·.1) ∧ PVAll K F A (kvs.map (·.2)) (vs.map (·.2)) := by
  obtain ⟨p, hp, e⟩ := w.tm _ h
  obtain ⟨f, vs, h1, h2, h3⟩ := w.oc n p _ hp ho
  exact ⟨p, vs, hp, e, f, h1, h2, h3⟩
/-- d[k] -/
def wDG (wo : EW) (wi : EW) : EW := fun kx s k => wo kx s fun x s1 => wi kx s1 fun y s2 => ∃ n kvs a kk v, x = .own n ∧ y = .d a ∧ s2.o[n]? = some (.dm kvs) ∧ kD a = some kk ∧ valM kvs kk = some v ∧ k v s2
/-- d[k] = v -/
def wSetM (wv wo wi : EW) : SW := fun kx s k => wv kx s fun v s1 => wo kx s1 fun x s2 => wi kx s2 fun y s3 => ∃ n kvs a kk, x = .own n ∧ y = .d a ∧ s3.o[n]? = some (.dm kvs) ∧ kD a = some kk ∧ kvs.length < sizeLine ∧ k.nx ⟨s3.r, s3.o.set n (.dm (putM kvs kk v))⟩
/-- d[k] as a target, data put there -/
def gDM (n : Nat) (k : Key) : GW := fun x s q => ∃ kvs, s.o[n]? = some (.dm kvs) ∧ kvs.length < sizeLine ∧ q ⟨s.r, s.o.set n (.dm (putM kvs k (.d x)))⟩
section
variable {X : Cx} {W : WX} {a b e o i : Expr} {wa wb we wo wi wv : EW} {pos p p2 : Pos}
theorem e_dg (hu : X.A.units + 64 < cLine) (ho : PE X o (tE X.K W wo)) (hi : PE X i (tE X.K W wi)) (hs : NoSl i := by exact fun _ _ => rfl) : PE X (.Subscript o i pos) (tE X.K W (wDG wo wi)) := by
  refine PE.imp (pe_dget (by omega) ho hi hs) fun σ H Q ⟨H0, F0, A0, s, T, kx, k, w, xl, h, q⟩ => ?_
  refine ⟨H0, F0, A0, s, T, kx, _, w, xl, h, fun x s1 h1 u H1 w1 => ?_⟩
  refine ⟨H0, F0, A0, s1, _, kx, _, w1, xl.push, h1, fun y s2 h2 uy H2 w2 => ?_⟩
  obtain ⟨n, kvs, y0, kk, v, rfl, rfl, ox, hkk, hv, hk⟩ := h2
  obtain ⟨F, A, w2⟩ := w2
  obtain ⟨p, vs, hp, rfl, fp, hH, hks, hal⟩ := own_atM w2 (List.mem_cons_of_mem _ List.mem_cons_self) ox
  have dy : Dq X.K F uy y0 := w2.tm (.d y0, uy) List.mem_cons_self
  cases kD_dp (dq_dp dy) hkk
  obtain ⟨v1, e1, e2⟩ := val_okM hks hal hv
  refine ⟨p, v1, rfl, by rw [← e1]; exact DGet.k hH, q _ _ hk v1 _ ⟨F, A, (w2.sub (T' := T) fun t h => List.mem_cons_of_mem _ (List.mem_cons_of_mem _ h)).push e2⟩⟩
theorem s_setM (hu : X.A.units + 64 < cLine) (he : PE X e (tE X.K W wv)) (ho : PE X o (tE X.K W wo)) (hi : PE X i (tE X.K W wi)) (hs : swapsWith e (some (.Subscript o i p2)) pos.line X.env = pure false := by rfl) :
    PS X (.Assign [.Subscript o i p2] e pos) (tS X.K W (wSetM wv wo wi)) := by
  refine PS.imp (ps_dput (by omega) ho hi he hs) fun D σ H ⟨H0, F0, A0, s, T, kx, k, w, xl, h, q1, q2, q3, q4⟩ => ?_
  refine ⟨H0, F0, A0, s, T, kx, _, w, xl, h, fun v s1 h1 u H1 w1 => ?_⟩
  refine ⟨H0, F0, A0, s1, _, kx, _, w1, xl.push, h1, fun x s2 h2 ux H2 w2 => ?_⟩
  refine ⟨H0, F0, A0, s2, _, kx, _, w2, xl.push.push, h2, fun y s3 h3 uy H3 w3 => ?_⟩
  obtain ⟨n, kvs, y0, kk, rfl, rfl, ox, hkk, hz, hk⟩ := h3
  obtain ⟨F, A, w3⟩ := w3
  obtain ⟨p, vs, hp, rfl, fp, hv, hks, hal⟩ := own_atM w3 (List.mem_cons_of_mem _ List.mem_cons_self) ox
  have dv : PVOk X.K F A v u := w3.tm (v, u) (List.mem_cons_of_mem _ (List.mem_cons_of_mem _ List.mem_cons_self))
  have dy : Dq X.K F uy y0 := w3.tm (.d y0, uy) List.mem_cons_self
  cases kD_dp (dq_dp dy) hkk
  have hl : vs.length = kvs.length := by
    have := congrArg List.length hks
    rw [List.length_map, List.length_map] at this
    exact this
  obtain ⟨e1, e2⟩ := put_okM (k := kk) dv hks hal
  exact ⟨p, _, rfl, DPut.k hv (by rw [hl]; exact hz), q1 _ hk σ _ ⟨F, A, (w3.sub (T' := T) fun t h => List.mem_cons_of_mem _ (List.mem_cons_of_mem _ (List.mem_cons_of_mem _ h))).wrO (c := .dm (putM kvs kk v)) hp fp (List.getElem?_eq_some_iff.mp ox).1 ⟨fp, _, upd_same, e1, e2⟩⟩⟩
end
/-! ### targets d[k]; a dict written out; divmod, **, l.pop(0) -/
def gDMr (i : Nat) (k : Key) : GW := fun x s q => ∃ n kvs, s.r[i]? = some (some (.own n)) ∧ s.o[n]? = some (.dm kvs) ∧ kvs.length < sizeLine ∧ q ⟨s.r, s.o.set n (.dm (putM kvs k (.d x)))⟩
def rPowD : PyData → PyData → (PyData → Prop) → Prop := fun a b q => match a, b with
  | .int i, .int j => CPow i j ∧ q (.int (i ^ j.toNat))
  | _, _ => False
theorem ok_powD {K : PySem.W.Frag} : ROk K (rI CPow fun i j => .int (i ^ j.toNat)) rPowD := by
  intro u v x y H Q P hx hy h q
  cases x <;> cases y <;> try exact h.elim
  cases dp_int hx; cases dp_int hy
  exact ⟨_, _, rfl, rfl, h.1, q _ _ h.2 rfl⟩
abbrev wPow := wOp rPowD
def wDvm (wa wb : EW) : EW := fun kx s k => wa kx s fun x s1 => wb kx s1 fun y s2 => ∃ i j : Int, x = .d (.int i) ∧ y = .d (.int j) ∧ CDiv i j ∧ k (.d (.tuple [.int (i / j), .int (i % j)])) s2
def wPop0 (wo : EW) : EW := fun kx s k => wo kx s fun x s1 => ∃ n y ys, x = .own n ∧ s1.o[n]? = some (.dl (y :: ys)) ∧ k (.d y) ⟨s1.r, s1.o.set n (.dl ys)⟩
abbrev DWM := KX → PSt → (List (Key × PV) → PSt → Prop) → Prop
def wmNil : DWM := fun _ s k => k [] s
def wmCons (wk wv : EW) (r : DWM) : DWM := fun kx s k => wk kx s fun x s1 => wv kx s1 fun y s2 => ∃ a kk, x = .d a ∧ kD a = some kk ∧ r kx s2 fun kvs s4 => k ((kk, y) :: kvs) s4
def AllInM (T : List (PV × V)) : List (Key × PV) → List (Key × V) → Prop
  | [], [] => True
  | kv :: r, v :: q => kv.1 = v.1 ∧ (kv.2, v.2) ∈ T ∧ AllInM T r q
  | [], _ :: _ => False
  | _ :: _, [] => False
def PairsOkM (X : Cx) (W : WX) (trs : List (TE × TE)) (w : DWM) : Prop := ∀ σ H Q H0 F0 A0 s T kx k, Wd X.K H0 F0 A0 s σ T H → XL X.K H0 F0 A0 T W kx → w kx s k →
  (∀ kvs s', k kvs s' → ∀ (vs : List (Key × V)) T' H', AllInM T' kvs vs → (∀ t ∈ T, t ∈ T') → Wd X.K H0 F0 A0 s' σ T' H' → Q (vs.map fun kv => (kV kv.1, kv.2)) H') → tPairs trs σ H Q
structure PPm (X : Cx) (W : WX) (pos : Pos) (keys : List (Option Expr)) (values : List Expr) (w : DWM) : Prop where
  ex : ∃ trs, PPs X pos keys values trs ∧ PairsOkM X W trs w
def mergeM (kvs : List (Key × PV)) : List (Key × PV) := kvs.foldl (fun acc kv => putM acc kv.1 kv.2) []
def wDictM (d : DWM) : EW := fun kx s k => d kx ⟨s.r, s.o ++ [.dm []]⟩ fun kvs s1 => s1.o[s.o.length]? = some (.dm []) ∧ kvs.length ≤ 15 ∧ k (.own s.o.length) ⟨s1.r, s1.o.set s.o.length (.dm (mergeM kvs))⟩
theorem merge_okM {K : PySem.W.Frag} {H0 F0 : Hp} {A0 : List Addr} {s : PSt} {σ : L2.St} {T : List (PV × V)} {H F : Hp} {A : List Addr} (w : WdF K H0 F0 A0 s σ T H F A) : ∀ {kvs : List (Key × PV)} {vs : List (Key × V)} {ac : List (Key × PV)} {bc : List (Key × V)}, AllInM T kvs vs →
    bc.map (·.1) = ac.map (·.1) → PVAll K F A (ac.map (·.2)) (bc.map (·.2)) → (mergeK bc vs).map (·.1) = (kvs.foldl (fun acc kv => putM acc kv.1 kv.2) ac).map (·.1) ∧ PVAll K F A ((kvs.foldl (fun acc kv => putM acc kv.1 kv.2) ac).map (·.2)) ((mergeK bc vs).map (·.2))
  | [], [], _, _, _, h1, h2 => ⟨h1, h2⟩
  | (k, x) :: kvs, (k', v) :: vs, ac, bc, ⟨e, m, r⟩, h1, h2 => by
    cases (show k = k' from e)
    obtain ⟨e1, e2⟩ := put_okM (k := k) (show PVOk K F A x v from w.tm _ m) h1 h2
    exact merge_okM w (kvs := kvs) (vs := vs) r e1 e2
  | [], _ :: _, _, _, h, _, _ => h.elim
  | _ :: _, [], _, _, h, _, _ => h.elim
theorem allInM_len {T : List (PV × V)} : ∀ {a : List (Key × PV)} {b : List (Key × V)}, AllInM T a b → b.length = a.length
  | [], [], _ => rfl
  | _ :: _, _ :: _, ⟨_, _, r⟩ => congrArg Nat.succ (allInM_len r)
  | [], _ :: _, h => h.elim
  | _ :: _, [], h => h.elim
section
variable {X : Cx} {W : WX} {a b e o ix : Expr} {wa wb we wo : EW} {pos p p2 : Pos} {keys : List (Option Expr)} {values : List Expr} {wd : DWM}
theorem e_pow (ha : PE X a (tE X.K W wa)) (hb : PE X b (tE X.K W wb)) : PE X (.BinOp a .Pow b pos) (tE X.K W (wPow wa wb)) := e_op op_pow ok_powD ha hb
theorem e_dvm (hm : X.mg "divmod" = none) (ha : PE X a (tE X.K W wa)) (hb : PE X b (tE X.K W wb)) (hg : Gl X "divmod" := by rfl) (he : starEach [a, b] X.env = (false, eval a X.env) :: starEach [b] X.env := by rfl) (he2 : starEach [b] X.env = (false, eval b X.env) :: starEach [] X.env := by rfl) (hpl : (backTo pos (starEach [b] X.env)).any (·.1) = false := by rfl) :
    PE X (.Call (.Name "divmod" p) [a, b] [] pos) (tE X.K W (wDvm wa wb)) := by
  refine PE.imp (pe_callB call_divmod hg hm (by decide +kernel) (pa_cons ha (pa_cons hb pa_nil he2) he) (he := he) (hpl := hpl)) fun σ H Q ⟨H0, F0, A0, s, T, kx, k, w, xl, h, q⟩ => cb2_of w xl h fun x y s2 u v H2 h2 w2 => ?_
  obtain ⟨F, A, w2⟩ := w2
  obtain ⟨i, j, rfl, rfl, hc, hk⟩ := h2
  cases dp_int (dq_dp (w2.tm _ List.mem_cons_self))
  cases dp_int (dq_dp (w2.tm (.d (.int i), u) (List.mem_cons_of_mem _ List.mem_cons_self)))
  refine ⟨i, j, rfl, hc, fun q0 hn => q _ _ hk _ _ ⟨_, A, ((w2.sub (T' := T) fun t h => List.mem_cons_of_mem _ (List.mem_cons_of_mem _ h)).newD (o := .tup [.int (i / j), .int (i % j)]) hn).push ?_⟩⟩
  exact .tup (SqT.of upd_same) (.cons (.int _) (.cons (.int _) .nil))
theorem e_pop0 {apos cpos : Pos} {j : Nat} (ho : PE X o (tE X.K W wo)) (hbase : attributeBase o "pop" X.env (eval o X.env) = eval o X.env := by rfl)
    (hfew : ((backTo pos (starEach [Expr.Constant (.int 0) j cpos] X.env)).all (fun x => !x.1) && (backToKw pos (keywordEach [] X.env)).all (fun x => x.1.isSome)
      && decide (([Expr.Constant (.int 0) j cpos] : List Expr).length + ([] : List Keyword).length + (if ([] : List Keyword).isEmpty then 0 else 1) < 30)) = true := by rfl)
    (hline : (apos.endLine == pos.line) = true := by rfl) (he : starEach [Expr.Constant (.int 0) j cpos] X.env = (false, eval (Expr.Constant (.int 0) j cpos) X.env) :: starEach [] X.env := by rfl)
    (hpl : (backTo pos (starEach [] X.env)).any (·.1) = false := by rfl) :
    PE X (.Call (.Attribute o "pop" apos) [.Constant (.int 0) j cpos] [] pos) (tE X.K W (wPop0 wo)) := by
  refine PE.imp (pe_bm PySem.F.plainAttrs_list PySem.F.slot_list_pop PySem.F.type_list_pop mt_popAt ho (pa_cons pe_int pa_nil he) hbase hfew hline he hpl) fun σ H Q ⟨H0, F0, A0, s, T, kx, k, w, xl, h, q⟩ => ?_
  refine ⟨H0, F0, A0, s, T, kx, _, w, xl, h, fun x s1 h1 u H1 w1 => ?_⟩
  obtain ⟨n, y, ys, rfl, ox, hk⟩ := h1
  obtain ⟨F, A, w1⟩ := w1
  obtain ⟨p, vs, hp, rfl, hv, hd⟩ := own_at w1 List.mem_cons_self ox
  cases hd with
  | @cons v vs' _ _ hd1 hd2 =>
    exact ⟨.inl ⟨rfl, _, SqL.of hv⟩, p, v :: vs', 0, 0, v, rfl, rfl, hv, by decide, by decide, by simp [seqIndex?], rfl, q _ _ hk _ _ ⟨F, A, ((w1.sub (T' := T) fun t h => List.mem_cons_of_mem _ h).wr hp ox hd2).push hd1⟩⟩
theorem m_nil : PPm X W pos [] [] wmNil := ⟨[], pps_nil, fun σ H Q H0 F0 A0 s T kx k w xl h q => q [] s h [] T H trivial (fun _ m => m) w⟩
theorem m_cons (hk : PE X a (tE X.K W wa)) (hv : PE X b (tE X.K W wb)) (hr : PPm X W pos keys values wd) : PPm X W pos (some a :: keys) (b :: values) (wmCons wa wb wd) := by
  obtain ⟨trs, h1, h2⟩ := hr
  refine ⟨_, pps_cons hk hv h1, fun σ H Q H0 F0 A0 s T kx k w xl h q => ?_⟩
  refine ⟨H0, F0, A0, s, T, kx, _, w, xl, h, fun x s1 h1 u H1 w1 => ?_⟩
  refine ⟨H0, F0, A0, s1, _, kx, _, w1, xl.push, h1, fun y s2 h3 u2 H2 w2 => ?_⟩
  obtain ⟨y0, kk, rfl, hkk, h3⟩ := h3
  have eu : u = kV kk := by
    obtain ⟨F3, A3, w4⟩ := id w2
    have du : Dq X.K F3 u y0 := w4.tm (.d y0, u) (List.mem_cons_of_mem _ List.mem_cons_self)
    exact kD_dp (dq_dp du) hkk
  subst eu
  refine h2 σ H2 _ H0 F0 A0 s2 _ kx _ w2 xl.push.push h3 fun kvs s' hkv vs T' H' hall hT w5 => ?_
  exact q _ _ hkv ((kk, u2) :: vs) T' H' ⟨rfl, hT _ List.mem_cons_self, hall⟩ (fun t m => hT t (List.mem_cons_of_mem _ (List.mem_cons_of_mem _ m))) w5
theorem e_dictM (h : PPm X W pos keys values wd) (hall : keys.all (·.isSome) = true) (hl : keys.length = values.length) (h0 : keys ≠ []) (h15 : keys.length ≤ 15) : PE X (.Dict keys values pos) (tE X.K W (wDictM wd)) := by
  obtain ⟨trs, h1, h2⟩ := h
  refine PE.imp (pe_disp h1 hall hl h0 h15) fun σ H Q ⟨H0, F0, A0, s, T, kx, k, w, xl, h, q⟩ => fun p hp => ?_
  obtain ⟨F, A, w⟩ := w
  have w2 := w.newO (o := .dK []) (c := .dm []) hp fun fp => ⟨fp, [], upd_same, rfl, trivial⟩
  have w3 : WdF X.K H0 F0 A0 ⟨s.r, s.o ++ [.dm []]⟩ σ ((.own s.o.length, .ref p) :: T) (upd H p (.dK [])) F (A ++ [p]) := w2.push ⟨p, by
    rw [← w.len, List.getElem?_append_right (Nat.le_refl _), Nat.sub_self]
    rfl, rfl⟩
  refine h2 _ _ _ H0 F0 A0 _ _ kx _ ⟨F, _, w3⟩ xl.push h fun kvs s1 h1 vs T' H' hall hT w6 => ?_
  obtain ⟨ho, h15, hq⟩ := h1
  obtain ⟨F6, A6, w6⟩ := w6
  obtain ⟨p', vs', hp', e', f', hH, hks, hds⟩ := own_atM w6 (hT _ List.mem_cons_self) ho
  cases e'
  cases vs' with
  | cons z r => simp at hks
  | nil =>
  obtain ⟨m1, m2⟩ := merge_okM w6 (ac := []) (bc := []) hall rfl trivial
  refine ⟨hH, vs, rfl, by rw [allInM_len hall]; exact h15, ?_⟩
  have w7 := (w6.sub (T' := (.own s.o.length, .ref p) :: T) hT).wrO (o := .dK (mergeK [] vs)) (c := .dm (mergeM kvs)) hp' f' (List.getElem?_eq_some_iff.mp ho).1 ⟨f', _, upd_same, m1, m2⟩
  exact q _ _ hq _ _ ⟨F6, _, w7⟩
theorem g_dm {i : Nat} {ks : Str} (hu : X.A.units + 64 < cLine) (ho : PE X o (tVar i)) (hi : PE X ix (tC (.str ks)))
    (ha : ∀ v, assign (.Subscript o ix pos) X.env v = (do
      let ov ← holding [v] (eval o X.env)
      let iv ← holding [v, ov] (eval ix X.env)
      standAt pos
      holding [v, ov, iv] (setItem ov iv v)
      release [v, ov, iv] []) := by intro _; rfl) : PG X (.Subscript o ix pos) (tG X.K [] (gDMr i (.inr ks))) := by
  refine PG.imp (pg_sub ho hi (set_dict (by omega)) ha) fun v σ H Q ⟨H0, F0, A0, s, T, x, k, w, m, ⟨n, kvs, hr, ox, hz, h⟩, q⟩ => ?_
  obtain ⟨F, A, w⟩ := w
  obtain ⟨u, eu, p, hp, rfl⟩ := w.pv i _ hr
  obtain ⟨fp, vs, hH, hks, hal⟩ := w.oc n p _ hp ox
  have hl : vs.length = kvs.length := by
    have := congrArg List.length hks
    rw [List.length_map, List.length_map] at this
    exact this
  obtain ⟨e1, e2⟩ := put_okM (k := .inr ks) (show PVOk X.K F A (.d x) v from w.tm _ m) hks hal
  exact ⟨_, eu, p, _, rfl, DPut.k (k := .inr ks) hH (by rw [hl]; exact hz), q _ h σ _ ⟨rfl, fun _ _ => rfl⟩ ⟨F, A, w.wrO (c := .dm (putM kvs (.inr ks) (.d x))) hp fp (List.getElem?_eq_some_iff.mp ox).1 ⟨fp, _, upd_same, e1, e2⟩⟩⟩
end
end PW

namespace PW
open PySem L2
/-! a, b = x, y with plain local names (stored from the right) -/
theorem s_unp2 {X : Cx} {W : WX} {i j : Nat} {x y : Str} {a b : Expr} {ws : AW} {px py pt pos : Pos} {kt k2 : Nat} {pt2 : Pos} (hc : X.calm = true) (hN : X.N.Nodup) (hi : X.N[i]? = some x) (hj : X.N[j]? = some y) (hij : i ≠ j)
    (hx : X.env.scope.names.lookup x = some .local) (hy : X.env.scope.names.lookup y = some .local) (ha : PA X [a, b] (tA X.K W ws))
    (hw : swappedStores [.Tuple [.Name x px, .Name y py] kt pt] (.Tuple [a, b] k2 pt2) X.env = pure (some [x, y]) := by rfl)
    (hs : swapsWithSole [.Tuple [.Name x px, .Name y py] kt pt] (.Tuple [a, b] k2 pt2) pos.line X.env = pure false := by rfl) :
    PS X (.Assign [.Tuple [.Name x px, .Name y py] kt pt] (.Tuple [a, b] k2 pt2) pos) (tS X.K W (wUnp (wTup ws) (gT 2 (gsCons (gN i) (gsCons (gN j) gsNil))))) := by
  refine PS.imp (ps_par hc hN hi hj hij hx hy ha hw hs) fun D σ H ⟨H0, F0, A0, s, T, kx, k, w, xl, h, q1, q2, q3, q4⟩ => ar_of w xl h fun vs s1 us H1 h1 e w1 => ?_
  obtain ⟨xs, s2, ⟨hz, hk⟩, e2, w2⟩ := frzs_ok vs us s1 T _ e w1 h1
  obtain ⟨xs', hx1, hl, x0, r0, hx2, x1, r1, hx3, hx4, hk⟩ := hk
  cases hx1
  subst hx2 hx3 hx4
  match us, e2 with
  | [u0, u1], _ =>
    refine ⟨u0, u1, rfl, ?_⟩
    obtain ⟨F, A, w2⟩ := w2
    have w3 := w2.st (i := i) (w2.tm (.d x0, u0) (by simp))
    have w4 := w3.st (i := j) (w3.tm (.d x1, u1) (by simp))
    exact q1 _ hk _ _ ⟨F, A, w4.sub fun t h => List.mem_append_right _ h⟩
end PW

namespace PW
open PySem L2
/-! ### calls that are lent the first owned things; a, b = x, y with nothing frozen -/
section
variable {K : PySem.W.Frag} {H0 F0 : Hp} {A0 : List Addr} {s : PSt} {σ : L2.St} {T : List (PV × V)} {H F : Hp} {A : List Addr}
theorem WdF.afterM {m : Nat} {s' : PSt} {σ' : L2.St} {T' : List (PV × V)} {H' F' : Hp} (w : WdF K H0 F0 A0 s σ T H F A) (z : WdF K (lendA H (A.take m)) F (A.take m) s' σ' T' H' F' (A.take m)) : WdF K H0 F0 A0 ⟨s.r, s'.o ++ s.o.drop m⟩ σ T H' F' A where
  fz := ⟨w.fz.f.trans z.fz.f, z.fz.g, fun a u e => z.fz.h a u (by
      rw [lendA_out fun ha => by rw [(w.ad a (List.mem_of_mem_take ha)).1] at e; cases e]
      exact w.fz.h a u e), fun p h1 h2 => z.fz.n p (by
      rw [lendA_out fun ha => h1 (w.ad p (List.mem_of_mem_take ha)).1]
      exact fun e => h1 (w.fz.h.free e)) (w.fz.n p h1 h2)⟩
  pre := w.pre
  len := by
    have h1 := z.len
    have h2 := w.len
    rw [List.length_take] at h1
    show A.length = (s'.o ++ s.o.drop m).length
    rw [List.length_append, List.length_drop]
    omega
  nd := w.nd
  ad := fun q hq => ⟨(w.ad q hq).1, by
    by_cases h : q ∈ A.take m
    · exact (z.ad q h).2
    · intro e
      have := z.fz.h.free e
      rw [lendA_out h] at this
      exact (w.ad q hq).2 this⟩
  oc := fun n p c h1 h2 => by
    have h2 : (s'.o ++ s.o.drop m)[n]? = some c := h2
    have hl := z.len
    have hwl := w.len
    rw [List.length_take] at hl
    by_cases hn : n < s'.o.length
    · rw [List.getElem?_append_left hn] at h2
      have h3 : (A.take m)[n]? = some p := by rw [List.getElem?_take, if_pos (by omega)]; exact h1
      exact (z.oc n p c h3 h2).mono (Same.refl _) (List.take_prefix _ _) id fun o h => h
    · have hn2 : m ≤ n := by
        have := (List.getElem?_eq_some_iff.mp h1).1
        omega
      rw [List.getElem?_append_right (by omega), List.getElem?_drop] at h2
      have e : m + (n - s'.o.length) = n := by
        have := (List.getElem?_eq_some_iff.mp h1).1
        omega
      rw [e] at h2
      have np : p ∉ A.take m := fun hm => by
        obtain ⟨i, hi⟩ := List.getElem?_of_mem hm
        rw [List.getElem?_take] at hi
        split at hi
        · exact nodup_ne w.nd hi h1 (by omega) rfl
        · cases hi
      have hp := w.ad p (List.mem_of_getElem? h1)
      exact (w.oc n p c h1 h2).mono z.fz.f (List.prefix_refl _) (fun a => z.fz.n p (by rw [lendA_out np]; exact hp.2) a) fun o a => z.fz.h _ _ (by rw [lendA_out np]; exact a)
  sl := w.sl
  pv := fun i v h => by
    obtain ⟨u, a, b⟩ := w.pv i v h
    exact ⟨u, a, b.mono z.fz.f (List.prefix_refl _)⟩
  tm := fun t ht => (w.tm t ht).mono z.fz.f (List.prefix_refl _)
end
theorem plain_lt {m : Nat} : ∀ {x : PV}, Plain x → x.lt m = true
  | .own _, h => h.elim
  | .tp _, h => h.elim
  | .d _, _ => rfl
  | .scr _, _ => rfl
  | .gl _, _ => rfl
  | .exc _, _ => rfl
  | .xd _, _ => rfl
  | .dk _, _ => rfl
/-- f(a, ..): the first m owned things are lent -/
def wCallM (m : Nat) (S : FS) (ws : AW) : EW := fun kx s k => ws kx s fun vs s0 => match vs with | [] => False | v0 :: rest => v0.lt m = true ∧ prep rest s0 fun xs s1 => cutL m s1.o = s1.o.take m ∧ m ≤ s1.o.length ∧ S (v0 :: xs) (s1.o.take m) (fun r o => match r with | .d z => k (.d z) ⟨s1.r, cutL m o ++ s1.o.drop m⟩ | .new zs => k (.own s1.o.length) ⟨s1.r, cutL m o ++ s1.o.drop m ++ [.dl zs]⟩) (fun x o => kx x ⟨s1.r, cutL m o ++ s1.o.drop m⟩)
/-- a, b = x, y -/
def wPar (i j : Nat) (ws : AW) : SW := fun kx s k => ws kx s fun vs s1 => ∃ v w, vs = [v, w] ∧ k.nx ((s1.st i v).st j w)
section
variable {X : Cx} {W : WX} {k j m : Nat} {ps : List Str} {S : FS} {x : Str} {p pos : Pos} {e : Expr} {es : List Expr} {ws : AW}
theorem c_callM (C : Cal X.prog X.w X.K X.mg X.base k x ps S) (tk : Takes X W) (hr : Room j X.A) (ha : PA X (e :: es) (tA X.K W ws)) (hk : k ≤ j := by decide) (hg : Gl X x := by rfl)
    (hdb : (x == ("__debug__" : Str)) = false := by decide) (he : starEach (e :: es) X.env = (false, eval e X.env) :: starEach es X.env := by rfl) (hpl : (backTo pos (starEach es X.env)).any (·.1) = false := by rfl) :
    PE X (.Call (.Name x p) (e :: es) [] pos) (tE X.K W (wCallM m S ws)) := by
  obtain ⟨f, fd, F, hm, kp, hb⟩ := C.ex
  refine PE.imp (pe_callS F (hr.mono hk) hg hm kp hb (fun σ => passAt tk σ) ha hdb he hpl) fun σ H Q ⟨H0, F0, A0, s, T, kx, kk, w, xl, h, q⟩ => ar_of w xl h fun vs0 s0 us0 H1 hS e0 w00 => ?_
  match vs0, us0, e0, hS, w00 with
  | v0 :: rest, u0 :: us1, e0, ⟨hlt0, hprep⟩, w00 =>
  obtain ⟨xs, s1, hS, e2, pl, w2⟩ := prep_ok rest us1 s0 ((v0, u0) :: T) _ (Nat.succ.inj e0) (w00.sub fun t ht => by
    rcases List.mem_append.mp ht with z | z
    · exact List.mem_cons_of_mem _ (List.mem_append_left _ z)
    · rcases List.mem_cons.mp z with z | z
      · rw [z]; exact List.mem_cons_self
      · exact List.mem_cons_of_mem _ (List.mem_append_right _ z)) hprep
  obtain ⟨hcut, hml, hS⟩ := hS
  generalize hvs : v0 :: xs = vs at hS
  generalize hus : u0 :: us1 = us
  have e1 : us.length = vs.length := by rw [← hvs, ← hus, List.length_cons, List.length_cons, e2]
  have hlt : ∀ v ∈ vs, v.lt m = true := fun v hv => by
    rw [← hvs] at hv
    rcases List.mem_cons.mp hv with z | z
    · rw [z]; exact hlt0
    · exact plain_lt (pl v z)
  have w1 : Wd X.K H0 F0 A0 s1 σ (vs.zip us ++ T) H1 := w2.sub fun t ht => by
    rw [← hvs, ← hus] at ht
    rcases List.mem_append.mp ht with z | z
    · rcases List.mem_cons.mp z with z | z
      · rw [z]; exact List.mem_append_right _ List.mem_cons_self
      · exact List.mem_append_left _ z
    · exact List.mem_append_right _ (List.mem_cons_of_mem _ z)
  obtain ⟨F1, A, w1⟩ := w1
  have w3 := w1.sub (T' := T) fun t h => List.mem_append_right _ h
  have w0 : WdF X.K H0 F0 [] s1 σ (vs.zip us) H1 F1 A := { w1.sub (T' := vs.zip us) fun t h => List.mem_append_left _ h with pre := List.nil_prefix }
  have wt := w0.trim (m := m) (Nat.zero_le _) fun t ht => hlt _ (List.of_mem_zip ht).1
  have hAl : (A.take m).length = m := by rw [List.length_take, w1.len]; omega
  have hol : (s1.o.take m).length = m := by rw [List.length_take]; omega
  have back : ∀ {s' : PSt} {σ' : L2.St} {T' : List (PV × V)} {H' F' : Hp} {A' : List Addr}, WdF X.K (lendA H1 (A.take m)) F1 (A.take m) s' σ' T' H' F' A' → (∀ t ∈ T', t.1.lt m = true) → WdF X.K H0 F0 A0 ⟨s1.r, cutL m s'.o ++ s1.o.drop m⟩ σ T H' F' A := fun {s' σ' T' H' F' A'} z hT => by
    have z2 := z.trim (m := m) (by omega) hT
    have eA : A'.take m = A.take m := by
      obtain ⟨t, et⟩ := z.pre
      rw [← et, List.take_append_of_le_length (by omega), List.take_of_length_le (by omega)]
    rw [eA] at z2
    exact w3.afterM z2
  refine ⟨lendA H1 (A.take m), F1, A.take m, vs, s1.o.take m, _, _, ⟨F1, A.take m, by rw [← hcut]; exact wt.forH vs us e1 fun t h => h⟩, by omega, hS, fun r o hr ho v H' ret => ?_, fun y o hx ho d H' w' => ?_⟩
  · cases r with
    | d z =>
      obtain ⟨F', A', w'⟩ := ret
      have b := back w' fun t ht => by rw [List.mem_singleton.mp ht]; rfl
      obtain ⟨F2, A2, w2⟩ : Wd X.K H0 F0 A0 ⟨s1.r, cutL m o ++ s1.o.drop m⟩ σ T H' := ⟨F', A, b⟩
      exact q _ _ hr v H' ⟨F', A, b.push (show PVOk X.K F' A (.d z) v from w'.tm (.d z, v) List.mem_cons_self)⟩
    | new zs =>
      obtain ⟨F', A', w'⟩ := ret
      have t0 := w'.tm (.own o.length, v) List.mem_cons_self
      obtain ⟨qq, hq, rfl⟩ := t0
      have ho : o.length = m := by rw [ho, hol]
      have b := back (w'.sub (T' := []) fun t ht => nomatch ht) fun t ht => nomatch ht
      have ec : cutL m (o ++ [OC.dl zs]) = cutL m o := by
        unfold cutL
        rw [List.take_append_of_le_length (by omega)]
      have ad := w'.ad qq (List.mem_of_getElem? hq)
      have oc := w'.oc o.length qq (.dl zs) hq (by show (o ++ [OC.dl zs])[o.length]? = _; rw [List.getElem?_append_right (Nat.le_refl _), Nat.sub_self]; rfl)
      have ni : qq ∉ A.take m := fun hm => by
        obtain ⟨i, hi⟩ := List.getElem?_of_mem hm
        obtain ⟨t, et⟩ := w'.pre
        have li := (List.getElem?_eq_some_iff.mp hi).1
        have : A'[i]? = some qq := by rw [← et, List.getElem?_append_left li]; exact hi
        exact nodup_ne w'.nd this hq (by omega) rfl
      have h1q : H1 qq = none := by have := ad.1; rwa [lendA_out ni] at this
      have nin : qq ∉ A := fun hA => (w1.ad qq hA).2 h1q
      have b2 : WdF X.K H0 F0 A0 ⟨s1.r, cutL m o ++ s1.o.drop m⟩ σ T H' F' A := by rw [← ec]; exact b
      refine q _ _ hr _ H' ⟨F', A ++ [qq], (b2.addL (c := .dl zs) nin (w1.fz.h.free h1q) ad.2 oc).push ⟨qq, ?_, rfl⟩⟩
      rw [← w1.len, List.getElem?_append_right (Nat.le_refl _), Nat.sub_self]
      rfl
  · obtain ⟨F', A', w'⟩ := w'
    have b := back w' fun t ht => by rw [List.mem_singleton.mp ht]; rfl
    exact xl y _ hx σ H' d ⟨F', A, b.push (show PVOk X.K F' A (.xd y.fs) (dV d) from w'.tm (.xd y.fs, dV d) List.mem_cons_self)⟩
theorem s_par {i j : Nat} {x y : Str} {a b : Expr} {px py pt : Pos} {kt k2 : Nat} {pt2 : Pos} (hc : X.calm = true) (hN : X.N.Nodup) (hi : X.N[i]? = some x) (hj : X.N[j]? = some y) (hij : i ≠ j)
    (hx : X.env.scope.names.lookup x = some .local) (hy : X.env.scope.names.lookup y = some .local) (ha : PA X [a, b] (tA X.K W ws))
    (hw : swappedStores [.Tuple [.Name x px, .Name y py] kt pt] (.Tuple [a, b] k2 pt2) X.env = pure (some [x, y]) := by rfl)
    (hs : swapsWithSole [.Tuple [.Name x px, .Name y py] kt pt] (.Tuple [a, b] k2 pt2) pos.line X.env = pure false := by rfl) :
    PS X (.Assign [.Tuple [.Name x px, .Name y py] kt pt] (.Tuple [a, b] k2 pt2) pos) (tS X.K W (wPar i j ws)) := by
  refine PS.imp (ps_par hc hN hi hj hij hx hy ha hw hs) fun D σ H ⟨H0, F0, A0, s, T, kx, k, w, xl, h, q1, q2, q3, q4⟩ => ar_of w xl h fun vs s1 us H1 h1 e w1 => ?_
  obtain ⟨v, w2, rfl, hk⟩ := h1
  match us, e with
  | [u0, u1], _ =>
    refine ⟨u0, u1, rfl, ?_⟩
    obtain ⟨F, A, w1⟩ := w1
    have w3 := w1.st (i := i) (w1.tm (v, u0) (by simp))
    have w4 := w3.st (i := j) (w3.tm (w2, u1) (by simp))
    exact q1 _ hk _ _ ⟨F, A, w4.sub fun t h => List.mem_append_right _ h⟩
end
/-! ### a loop that binds a list anew: behind each turn the new one stands first behind what was there ahead of the loop -/
def pullT (i m : Nat) (P : PSt → Prop) (s : PSt) : Prop := ∃ n xs, s.r[i]? = some (some (.own n)) ∧ m ≤ n ∧ s.o[n]? = some (.dl xs) ∧ P ⟨(s.trim m).r.set i (some (.own m)), (s.trim m).o ++ [.dl xs]⟩
def wFor2 (r : Nat) (wi : IW) (g : GW) (b : SW) : SW := fun kx s k => wi kx s fun xs c s0 => ∃ I : Nat → PSt → Prop, I 0 s0 ∧ (∀ j s1, j ≤ xs.length → I j s1 → Src c s1) ∧ (∀ j x s1, xs[j]? = some x → I j s1 → g x s1 fun s2 =>
  b kx s2 { k with nx := fun s3 => I (j + 1) s3 ∨ I (j + 1) (s3.trim s0.o.length) ∨ pullT r s0.o.length (I (j + 1)) s3, ct := fun s3 => I (j + 1) s3 ∨ I (j + 1) (s3.trim s0.o.length) ∨ pullT r s0.o.length (I (j + 1)) s3, bk := k.nx }) ∧ ∀ s1, I xs.length s1 → k.nx s1
theorem set_same {α : Type} : ∀ {l : List α} {i : Nat} {x : α}, l[i]? = some x → l.set i x = l
  | [], i, x, h => by simp at h
  | y :: l, 0, x, h => by cases h; rfl
  | y :: l, i + 1, x, h => by
    rw [List.set_cons_succ, set_same (by simpa using h)]
theorem Wd.pull {K : PySem.W.Frag} {H0 F0 : Hp} {A0 : List Addr} {s : PSt} {σ : L2.St} {T : List (PV × V)} {H : Hp} {i m : Nat} {P : PSt → Prop} (w : Wd K H0 F0 A0 s σ T H) (hm : A0.length ≤ m) (hT : ∀ t ∈ T, t.1.lt m = true) (h : pullT i m P s) : ∃ s', P s' ∧ Wd K H0 F0 A0 s' σ T H := by
  obtain ⟨n, xs, hr, hmn, ho, hP⟩ := h
  refine ⟨_, hP, ?_⟩
  obtain ⟨F, A, w⟩ := w
  obtain ⟨u, hu, q, hq, rfl⟩ := w.pv i _ hr
  have oc := w.oc n q _ hq ho
  have w2 := w.trim hm hT
  have nin : q ∉ A.take m := fun hmem => by
    obtain ⟨j, hj⟩ := List.getElem?_of_mem hmem
    rw [List.getElem?_take] at hj
    split at hj
    · exact nodup_ne w.nd hj hq (by omega) rfl
    · cases hj
  have ad := w.ad q (List.mem_of_getElem? hq)
  have hn := (List.getElem?_eq_some_iff.mp hq).1
  have w3 := w2.addL (c := .dl xs) nin ad.1 ad.2 oc
  have w4 := w3.st (i := i) (v := .own m) (u := .ref q) ⟨q, by
    have : (A.take m).length = m := by rw [List.length_take]; omega
    rw [List.getElem?_append_right (by omega), this, Nat.sub_self]; rfl, rfl⟩
  rw [set_same hu] at w4
  exact ⟨F, _, w4⟩
section
variable {X : Cx} {W : WX} {tg iter : Expr} {iw : IW} {L : List Nat} {g : GW} {wb : SW} {body : List Stmt} {pos : Pos} {r : Nat}
theorem s_for2 (hp : PassesOwn (model X.prog X.w) X.A X.env X.xe) (hc : X.calm = true) (hi : PI X tg iter (tI X.K W iw)) (hg : PG X tg (tG X.K L g)) (hb : PSs X body (tS X.K W wb))
    (hs : ∀ v, foldedSetIterable iter X.env v = pure v := by intro _; rfl) : PS X (.For tg iter body [] pos) (tS X.K W (wFor2 r iw g wb)) := by
  refine PS.imp (ps_for hp hc hi hg hb hs) fun D σ H ⟨H0, F0, A0, s, T, kx, k, w, xl, h, q1, q2, q3, q4⟩ => ?_
  refine ⟨H0, F0, A0, s, T, kx, _, w, xl, h, fun xs c s0 h0 J T1 H1 w1 hJ => ?_⟩
  obtain ⟨I, i0, hC, turn, fin⟩ := h0
  have lt := w1.own_lt
  refine ⟨fun i m σ' H' => m = xs.length - i ∧ i ≤ xs.length ∧ ∃ s', Wd X.K H0 F0 A0 s' σ' (T1 ++ T) H' ∧ I i s', ⟨_, rfl, Nat.zero_le _, s0, w1, i0⟩, ?_⟩
  rintro i m σ2 H2 ⟨rfl, hi, s2, ⟨F, A, w2⟩, i2⟩
  obtain ⟨j1, j2, j3⟩ := hJ H0 F0 A0 s2 σ2 (T1 ++ T) H2 F A w2 (fun t ht => List.mem_append_left _ ht) (hC i s2 hi i2) i
  by_cases hlt : i < xs.length
  · refine .inr ⟨j1 hlt, fun σ' H' => ∃ s', Wd X.K H0 F0 A0 s' σ' (T1 ++ T) H' ∧ I (i + 1) s', fun σ' H' ⟨s', w', i'⟩ => ⟨xs.length - (i + 1), by omega, rfl, hlt, s', w', i'⟩, fun x H' hy => ?_⟩
    obtain ⟨d, hd, F', w3⟩ := j3 hlt x H' hy
    refine ⟨H0, F0, A0, s2, _, d, _, ⟨F', A, w3⟩, List.mem_cons_self, turn i d s2 hd i2, fun s4 h4 σ4 H4 _ w4 => ?_⟩
    have nx : ∀ s3, (I (i + 1) s3 ∨ I (i + 1) (s3.trim s0.o.length) ∨ pullT r s0.o.length (I (i + 1)) s3) → ∀ σ' H', Wd X.K H0 F0 A0 s3 σ' ((.d d, x) :: (T1 ++ T)) H' → ∃ s', Wd X.K H0 F0 A0 s' σ' (T1 ++ T) H' ∧ I (i + 1) s' := fun s3 h3 σ' H' w3 => by
      rcases h3 with h3 | h3 | h3
      · exact ⟨s3, w3.pop, h3⟩
      · exact ⟨_, w3.pop.trim lt.1 lt.2, h3⟩
      · obtain ⟨s', a, b⟩ := w3.pop.pull lt.1 lt.2 h3
        exact ⟨s', b, a⟩
    refine ⟨H0, F0, A0, s4, _, kx, _, w4, xl.more fun t ht => List.mem_cons_of_mem _ (List.mem_append_right _ ht), h4, nx, fun v s' h' u σ' H' w' => q2 v s' h' u σ' H' (w'.sub fun t ht => ?_), fun s' h' σ' H' w' => q1 s' h' σ' H' (w'.sub fun t ht => List.mem_cons_of_mem _ (List.mem_append_right _ ht)), nx⟩
    rcases List.mem_cons.mp ht with e | ht
    · rw [e]; exact List.mem_cons_self
    · exact List.mem_cons_of_mem _ (List.mem_cons_of_mem _ (List.mem_append_right _ ht))
  · have e : i = xs.length := by omega
    subst e
    exact .inl ⟨j2 (Nat.le_refl _), q1 s2 (fin s2 i2) σ2 H2 ⟨F, A, w2.sub fun t ht => List.mem_append_right _ ht⟩⟩
end
end PW

namespace KN
open PySem L2 PW
/-! ### nests, as plain things -/
mutual
inductive Nd where
  | row (u : Int)
  | fence (u : Int)
  | nest (ps : List Pt) (last : Option Int)
inductive Pt where
  | mk (u : Int) (ns : List Nd)
end
def optD : Option Int → PyData
  | none => .none
  | some i => .int i
mutual
def ndD : Nd → PyData
  | .row u => .tuple [.str "row", .int u]
  | .fence u => .tuple [.str "fence", .int u]
  | .nest ps l => .tuple [.str "nest", .tuple (ptsD ps), optD l]
def ndsD : List Nd → List PyData
  | [] => []
  | n :: r => ndD n :: ndsD r
def ptsD : List Pt → List PyData
  | [] => []
  | p :: r => ptD p :: ptsD r
def ptD : Pt → PyData
  | .mk u ns => .tuple [.int u, .tuple (ndsD ns)]
end
theorem ndsD_map : ∀ l, ndsD l = l.map ndD
  | [] => rfl
  | n :: r => by rw [ndsD, ndsD_map r]; rfl
theorem ptsD_map : ∀ l, ptsD l = l.map ptD
  | [] => rfl
  | n :: r => by rw [ptsD, ptsD_map r]; rfl
/-- the words of rows -/
inductive Wk where
  | none | let_ | set | say | bare | read | fault | do_ | if_ | while_ | block | with_ | helper | try_ | else_ | catch_ | finally_ | end_
  deriving DecidableEq
def Wk.s : Wk → Str
  | .none => "" | .let_ => "let" | .set => "set" | .say => "say" | .bare => "bare" | .read => "read" | .fault => "fault" | .do_ => "do" | .if_ => "if" | .while_ => "while" | .block => "block"
  | .with_ => "with" | .helper => "helper" | .try_ => "try" | .else_ => "else" | .catch_ => "catch" | .finally_ => "finally" | .end_ => "end"
/-- the words of what stands open -/
inductive Ws where
  | bot | if_ | while_ | block | with_ | helper | try_ | ifElse | tryCatch | tryFin | tryCatchFin
  deriving DecidableEq
def Ws.l : Ws → List Wk
  | .bot => [] | .if_ => [.if_] | .while_ => [.while_] | .block => [.block] | .with_ => [.with_] | .helper => [.helper] | .try_ => [.try_] | .ifElse => [.if_, .else_] | .tryCatch => [.try_, .catch_]
  | .tryFin => [.try_, .finally_] | .tryCatchFin => [.try_, .catch_, .finally_]
def Ws.d (t : Ws) : List PyData := t.l.map fun k => .str k.s
def opWs : Wk → Option Ws
  | .if_ => some .if_ | .while_ => some .while_ | .block => some .block | .with_ => some .with_ | .helper => some .helper | .try_ => some .try_
  | _ => none
def goesWs : Ws → Wk → Option Ws
  | .if_, .else_ => some .ifElse
  | .try_, .catch_ => some .tryCatch
  | .try_, .finally_ => some .tryFin
  | .tryCatch, .finally_ => some .tryCatchFin
  | _, _ => none
inductive Role where
  | row | fence | opens (t : Ws) | goes (t : Ws) | ends
def otherRole : Wk → Role
  | .none => .fence | .if_ => .fence | .while_ => .fence | .block => .fence | .with_ => .fence | .helper => .fence | .try_ => .fence | .else_ => .fence | .catch_ => .fence | .finally_ => .fence | .end_ => .fence
  | _ => .row
def roleOf (t : Ws) (deep : Nat) (k : Wk) : Role :=
  match opWs k with
  | some t' => if deep ≤ 8 then .opens t' else .fence
  | none => match goesWs t k with
    | some t' => .goes t'
    | none => if k = .end_ ∧ 1 < deep then .ends else otherRole k
/-- a thing that stands open: its words, the parts ahead, the unit of the last part, its nodes -/
structure Fm where
  ws : Ws
  dn : List Pt
  u : Int
  cur : List Nd
def Fm.pts (f : Fm) : List Pt := f.dn ++ [.mk f.u f.cur]
def Fm.add (f : Fm) (x : Nd) : Fm := ⟨f.ws, f.dn, f.u, f.cur ++ [x]⟩
def addT (x : Nd) : List Fm → List Fm
  | [] => []
  | f :: r => f.add x :: r
def stepN (at_ : Int) : Role → List Fm → List Fm
  | .row, st => addT (.row at_) st
  | .fence, st => addT (.fence at_) st
  | .opens t, st => ⟨t, [], at_, []⟩ :: st
  | .goes t, f :: r => ⟨t, f.pts, at_, []⟩ :: r
  | .ends, f :: r => addT (.nest f.pts (some at_)) r
  | .goes _, [] => []
  | .ends, [] => []
def topW : List Fm → Ws
  | [] => .bot
  | f :: _ => f.ws
def runN : List Wk → Int → List Fm → List Fm
  | [], _, st => st
  | k :: r, at_, st => runN r (at_ + 1) (stepN at_ (roleOf (topW st) st.length k) st)
def finN : Fm → List Fm → List Nd
  | f, [] => f.cur
  | f, g :: r => finN (g.add (.nest f.pts none)) r
def bot : Fm := ⟨.bot, [], -1, []⟩
def finL : List Fm → List Nd
  | [] => []
  | f :: r => finN f r
def nodesM (ks : List Wk) : List Nd := finL (runN ks 0 [bot])
/-- a row by its word -/
def IsRow (d : PyData) : Wk → Prop
  | .none => d = .none
  | k => ∃ r, d = .tuple (.str k.s :: r)
def Rows (ds : List PyData) (ks : List Wk) : Prop := ds.length = ks.length ∧ ∀ (i : Nat) d k, ds[i]? = some d → ks[i]? = some k → IsRow d k
/-! ### how they stand in the heap -/
structure Ad where
  w : Nat
  p : Nat
  n : Nat
  ds : List Nat
def Ad.all (a : Ad) : List Nat := a.w :: a.p :: a.n :: a.ds
def Ad.pv (a : Ad) : PV := .tp [.own a.w, .own a.p]
def dnPV : List Pt → List Nat → List PV
  | .mk u _ :: ps, d :: ds => .tp [.d (.int u), .own d] :: dnPV ps ds
  | _, _ => []
def DnOk (o : List OC) : List Pt → List Nat → Prop
  | [], [] => True
  | .mk _ ns :: ps, d :: ds => o[d]? = some (.dl (ndsD ns)) ∧ DnOk o ps ds
  | _, _ => False
structure FrOk (o : List OC) (a : Ad) (f : Fm) : Prop where
  w : o[a.w]? = some (.dl f.ws.d)
  p : o[a.p]? = some (.ml (dnPV f.dn a.ds ++ [.tp [.d (.int f.u), .own a.n]]))
  n : o[a.n]? = some (.dl (ndsD f.cur))
  d : DnOk o f.dn a.ds
def StOk (o : List OC) : List Fm → List Ad → Prop
  | [], [] => True
  | f :: st, a :: as => FrOk o a f ∧ StOk o st as
  | _, _ => False
structure Rep (o : List OC) (n0 : Nat) (st : List Fm) (as : List Ad) : Prop where
  s : o[n0]? = some (.ml (as.reverse.map Ad.pv))
  f : StOk o st as
  nd : (n0 :: as.flatMap Ad.all).Nodup
theorem lt_of_at {α : Type} {o : List α} {i : Nat} {c : α} (h : o[i]? = some c) : i < o.length := (List.getElem?_eq_some_iff.mp h).1
theorem DnOk.frame {o o' : List OC} : ∀ {dn : List Pt} {ds : List Nat}, DnOk o dn ds → (∀ i ∈ ds, o'[i]? = o[i]?) → DnOk o' dn ds
  | [], [], _, _ => trivial
  | .mk _ _ :: _, d :: ds, ⟨h, r⟩, e => ⟨(e d List.mem_cons_self).trans h, DnOk.frame r fun i m => e i (List.mem_cons_of_mem _ m)⟩
  | [], _ :: _, h, _ => (show False from h).elim
  | .mk _ _ :: _, [], h, _ => (show False from h).elim
theorem DnOk.lt {o : List OC} : ∀ {dn : List Pt} {ds : List Nat}, DnOk o dn ds → ∀ i ∈ ds, i < o.length
  | [], [], _, _, m => nomatch m
  | .mk _ _ :: _, d :: ds, ⟨h, r⟩, i, m => by
    rcases List.mem_cons.mp m with e | m
    · subst e; exact lt_of_at h
    · exact DnOk.lt r i m
  | [], _ :: _, h, _, _ => (show False from h).elim
  | .mk _ _ :: _, [], h, _, _ => (show False from h).elim
theorem DnOk.snoc {o : List OC} {u : Int} {ns : List Nd} {d : Nat} (hd : o[d]? = some (.dl (ndsD ns))) : ∀ {dn : List Pt} {ds : List Nat}, DnOk o dn ds → DnOk o (dn ++ [.mk u ns]) (ds ++ [d])
  | [], [], _ => ⟨hd, trivial⟩
  | .mk _ _ :: _, _ :: _, ⟨h, r⟩ => ⟨h, DnOk.snoc hd r⟩
  | [], _ :: _, h => (show False from h).elim
  | .mk _ _ :: _, [], h => (show False from h).elim
theorem dnPV_snoc {o : List OC} {u : Int} {ns : List Nd} {d : Nat} : ∀ {dn : List Pt} {ds : List Nat}, DnOk o dn ds → dnPV (dn ++ [.mk u ns]) (ds ++ [d]) = dnPV dn ds ++ [.tp [.d (.int u), .own d]]
  | [], [], _ => rfl
  | .mk _ _ :: dn, _ :: ds, ⟨_, r⟩ => by
    show _ :: dnPV (dn ++ _) (ds ++ _) = _ :: _
    rw [dnPV_snoc r]
    rfl
  | [], _ :: _, h => (show False from h).elim
  | .mk _ _ :: _, [], h => (show False from h).elim
theorem dn_lt {o : List OC} {m : Nat} (hm : o.length ≤ m) : ∀ {dn : List Pt} {ds : List Nat}, DnOk o dn ds → PV.ltAll m (dnPV dn ds) = true
  | [], [], _ => rfl
  | .mk _ _ :: dn, d :: ds, ⟨h, r⟩ => by
    have : d < m := Nat.lt_of_lt_of_le (lt_of_at h) hm
    have ih := dn_lt hm r
    simp [dnPV, PV.ltAll, PV.lt, this, ih]
  | [], _ :: _, h => (show False from h).elim
  | .mk _ _ :: _, [], h => (show False from h).elim
theorem FrOk.frame {o o' : List OC} {a : Ad} {f : Fm} (h : FrOk o a f) (e : ∀ i ∈ a.all, o'[i]? = o[i]?) : FrOk o' a f where
  w := (e _ (by simp [Ad.all])).trans h.w
  p := (e _ (by simp [Ad.all])).trans h.p
  n := (e _ (by simp [Ad.all])).trans h.n
  d := h.d.frame fun i m => e i (by simp [Ad.all, m])
theorem FrOk.lt {o : List OC} {a : Ad} {f : Fm} (h : FrOk o a f) : ∀ i ∈ a.all, i < o.length := fun i m => by
  rcases List.mem_cons.mp m with e | m
  · subst e; exact lt_of_at h.w
  rcases List.mem_cons.mp m with e | m
  · subst e; exact lt_of_at h.p
  rcases List.mem_cons.mp m with e | m
  · subst e; exact lt_of_at h.n
  exact h.d.lt i m
theorem StOk.frame {o o' : List OC} : ∀ {st : List Fm} {as : List Ad}, StOk o st as → (∀ i ∈ as.flatMap Ad.all, o'[i]? = o[i]?) → StOk o' st as
  | [], [], _, _ => trivial
  | _ :: _, a :: as, ⟨h, r⟩, e => ⟨h.frame fun i m => e i (by rw [List.flatMap_cons]; exact List.mem_append_left _ m), StOk.frame r fun i m => e i (by rw [List.flatMap_cons]; exact List.mem_append_right _ m)⟩
  | [], _ :: _, h, _ => (show False from h).elim
  | _ :: _, [], h, _ => (show False from h).elim
theorem StOk.lt {o : List OC} : ∀ {st : List Fm} {as : List Ad}, StOk o st as → ∀ i ∈ as.flatMap Ad.all, i < o.length
  | [], [], _, _, m => nomatch m
  | _ :: _, a :: as, ⟨h, r⟩, i, m => by
    rw [List.flatMap_cons] at m
    rcases List.mem_append.mp m with m | m
    · exact h.lt i m
    · exact StOk.lt r i m
  | [], _ :: _, h, _, _ => (show False from h).elim
  | _ :: _, [], h, _, _ => (show False from h).elim
theorem StOk.len {o : List OC} : ∀ {st : List Fm} {as : List Ad}, StOk o st as → as.length = st.length
  | [], [], _ => rfl
  | _ :: _, a :: as, ⟨h, r⟩ => congrArg Nat.succ (StOk.len r)
  | [], _ :: _, h => (show False from h).elim
  | _ :: _, [], h => (show False from h).elim
/-! cut to its own length -/
/-- o' is as long, and holds what in o speaks of itself alone -/
def Kept (o o' : List OC) : Prop := o'.length = o.length ∧ ∀ (i : Nat) (c : OC), o[i]? = some c → PV.ltAll o.length c.pvs = true → o'[i]? = some c
theorem Kept.refl (o : List OC) : Kept o o := ⟨rfl, fun _ _ h _ => h⟩
theorem Kept.cut {o o' : List OC} (k : Kept o o') (x : List OC) : Kept o (cutL o.length (o' ++ x)) := by
  refine ⟨by rw [cutL_len, List.length_append, k.1]; omega, fun i c h hc => ?_⟩
  have hi := lt_of_at h
  unfold cutL
  rw [List.getElem?_map, List.getElem?_take, if_pos hi, List.getElem?_append_left (by rw [k.1]; exact hi), k.2 i c h hc]
  show some (OC.cut o.length c) = some c
  rw [ocut_if, if_pos hc]
theorem cut_dl {o o' : List OC} (k : Kept o o') {i : Nat} {xs : List PyData} (h : o[i]? = some (.dl xs)) : o'[i]? = some (.dl xs) := k.2 _ _ h rfl
theorem ltAll_app {m : Nat} : ∀ {a b : List PV}, PV.ltAll m a = true → PV.ltAll m b = true → PV.ltAll m (a ++ b) = true
  | [], _, _, h => h
  | x :: a, b, h, g => by
    rw [List.cons_append, PV.ltAll] at *
    rw [Bool.and_eq_true] at h ⊢
    exact ⟨h.1, ltAll_app h.2 g⟩
theorem DnOk.cut {o o' : List OC} (k : Kept o o') : ∀ {dn : List Pt} {ds : List Nat}, DnOk o dn ds → DnOk o' dn ds
  | [], [], _ => trivial
  | .mk _ _ :: _, d :: ds, ⟨h, r⟩ => ⟨cut_dl k h, DnOk.cut k r⟩
  | [], _ :: _, h => (show False from h).elim
  | .mk _ _ :: _, [], h => (show False from h).elim
theorem FrOk.cut {o o' : List OC} (k : Kept o o') {a : Ad} {f : Fm} (h : FrOk o a f) : FrOk o' a f where
  w := cut_dl k h.w
  p := k.2 _ _ h.p (ltAll_app (dn_lt (Nat.le_refl _) h.d) (by
    have := lt_of_at h.n
    simp [PV.ltAll, PV.lt, this]))
  n := cut_dl k h.n
  d := h.d.cut k
theorem StOk.cut {o o' : List OC} (k : Kept o o') : ∀ {st : List Fm} {as : List Ad}, StOk o st as → StOk o' st as
  | [], [], _ => trivial
  | _ :: _, a :: as, ⟨h, r⟩ => ⟨h.cut k, StOk.cut k r⟩
  | [], _ :: _, h => (show False from h).elim
  | _ :: _, [], h => (show False from h).elim
theorem ltAll_pv {o : List OC} : ∀ (as : List Ad), (∀ a ∈ as, a.w < o.length ∧ a.p < o.length) → PV.ltAll o.length (as.map Ad.pv) = true
  | [], _ => rfl
  | a :: as, h => by
    have h1 := h a List.mem_cons_self
    have ih := ltAll_pv as fun b m => h b (List.mem_cons_of_mem _ m)
    simp [PV.ltAll, PV.lt, Ad.pv, h1.1, h1.2]
    exact ih
theorem Rep.cut {o o' : List OC} (k : Kept o o') {n0 : Nat} {st : List Fm} {as : List Ad} (h : Rep o n0 st as) : Rep o' n0 st as where
  s := k.2 _ _ h.s (ltAll_pv _ fun a m => by
    have m : a ∈ as := List.mem_reverse.mp m
    exact ⟨h.f.lt _ (List.mem_flatMap.mpr ⟨a, m, by simp [Ad.all]⟩), h.f.lt _ (List.mem_flatMap.mpr ⟨a, m, by simp [Ad.all]⟩)⟩)
  f := h.f.cut k
  nd := h.nd
/-! what the text does -/
theorem at_new {o x : List OC} {i : Nat} (h : i < o.length) : (o ++ x)[i]? = o[i]? := List.getElem?_append_left h
theorem Rep.add {o : List OC} {n0 : Nat} {f : Fm} {st : List Fm} {a : Ad} {as : List Ad} (h : Rep o n0 (f :: st) (a :: as)) (x : Nd) : Rep (o.set a.n (.dl (ndsD f.cur ++ [ndD x]))) n0 (f.add x :: st) (a :: as) := by
  obtain ⟨hs, ⟨hf, hr⟩, nd⟩ := h
  have hl := lt_of_at hf.n
  have nd1 := List.nodup_cons.mp nd
  rw [List.flatMap_cons] at nd1
  have nd2 := List.nodup_append.mp nd1.2
  have nd3 := nd2.1
  unfold Ad.all at nd3
  rw [List.nodup_cons, List.nodup_cons, List.nodup_cons] at nd3
  obtain ⟨n1, n2, n3, n4⟩ := nd3
  have ne : ∀ i, i ≠ a.n → (o.set a.n (OC.dl (ndsD f.cur ++ [ndD x])))[i]? = o[i]? := fun i hi => List.getElem?_set_ne (Ne.symm hi)
  refine ⟨?_, ⟨⟨?_, ?_, ?_, ?_⟩, ?_⟩, nd⟩
  · rw [ne _ fun e => nd1.1 (by rw [e]; exact List.mem_append_left _ (by simp [Ad.all]))]; exact hs
  · rw [ne _ fun e => n1 (by rw [e]; simp)]; exact hf.w
  · rw [ne _ fun e => n2 (by rw [e]; simp)]; exact hf.p
  · rw [List.getElem?_set_self hl]
    show _ = some (OC.dl (ndsD (f.cur ++ [x])))
    rw [ndsD_map, ndsD_map, List.map_append]
    rfl
  · exact hf.d.frame fun i m => ne i fun e => n3 (e ▸ m)
  · exact hr.frame fun i m => ne i fun e => nd2.2.2 a.n (by simp [Ad.all]) i m e.symm
theorem Rep.push {o : List OC} {n0 : Nat} {st : List Fm} {as : List Ad} (h : Rep o n0 st as) (t : Ws) (u : Int) :
    Rep ((((o ++ [OC.dl t.d]) ++ [OC.dl []]) ++ [OC.ml [.tp [.d (.int u), .own (o.length + 1)]]]).set n0 (.ml (as.reverse.map Ad.pv ++ [.tp [.own o.length, .own (o.length + 2)]]))) n0 (⟨t, [], u, []⟩ :: st) (⟨o.length, o.length + 2, o.length + 1, []⟩ :: as) := by
  obtain ⟨hs, hf, nd⟩ := h
  have hl := lt_of_at hs
  have nd1 := List.nodup_cons.mp nd
  have e3 : ∀ (x y z : OC), ((o ++ [x]) ++ [y]) ++ [z] = o ++ [x, y, z] := fun x y z => by simp
  rw [e3]
  refine ⟨?_, ⟨⟨?_, ?_, ?_, trivial⟩, ?_⟩, ?_⟩
  · rw [List.getElem?_set_self (by simp; omega)]
    simp [Ad.pv]
  · rw [List.getElem?_set_ne (by show n0 ≠ o.length; omega)]
    simp
  · rw [List.getElem?_set_ne (by show n0 ≠ o.length + 2; omega)]
    simp [dnPV]
  · rw [List.getElem?_set_ne (by show n0 ≠ o.length + 1; omega)]
    simp [ndsD]
  · refine hf.frame fun i m => ?_
    rw [List.getElem?_set_ne (fun e : n0 = i => nd1.1 (by rw [e]; exact m))]
    exact at_new (hf.lt i m)
  · rw [List.flatMap_cons]
    have hlt := hf.lt
    refine List.nodup_cons.mpr ⟨fun m => ?_, List.nodup_append.mpr ⟨?_, nd1.2, fun i m j m' e => ?_⟩⟩
    · rcases List.mem_append.mp m with m | m
      · simp [Ad.all] at m; omega
      · exact nd1.1 m
    · simp [Ad.all]
    · have := hlt j m'
      simp [Ad.all] at m
      omega
theorem Rep.goes {o : List OC} {n0 : Nat} {f : Fm} {st : List Fm} {a : Ad} {as : List Ad} (h : Rep o n0 (f :: st) (a :: as)) (t : Ws) (u : Int) :
    Rep (((o.set a.w (.dl t.d)) ++ [OC.dl []]).set a.p (.ml (dnPV f.dn a.ds ++ [.tp [.d (.int f.u), .own a.n]] ++ [.tp [.d (.int u), .own o.length]]))) n0 (⟨t, f.pts, u, []⟩ :: st) (⟨a.w, a.p, o.length, a.ds ++ [a.n]⟩ :: as) := by
  obtain ⟨hs, ⟨hf, hr⟩, nd⟩ := h
  have hsl := lt_of_at hs
  have hw := lt_of_at hf.w
  have hp := lt_of_at hf.p
  have hn := lt_of_at hf.n
  have nd1 := List.nodup_cons.mp nd
  rw [List.flatMap_cons] at nd1
  have nd2 := List.nodup_append.mp nd1.2
  have nd3 := nd2.1
  unfold Ad.all at nd3
  rw [List.nodup_cons, List.nodup_cons, List.nodup_cons] at nd3
  obtain ⟨n1, n2, n3, n4⟩ := nd3
  have ne : ∀ i, i < o.length → i ≠ a.w → i ≠ a.p → (((o.set a.w (OC.dl t.d)) ++ [OC.dl []]).set a.p (.ml (dnPV f.dn a.ds ++ [.tp [.d (.int f.u), .own a.n]] ++ [.tp [.d (.int u), .own o.length]])))[i]? = o[i]? := fun i hi h1 h2 => by
    rw [List.getElem?_set_ne (Ne.symm h2), at_new (by rw [List.length_set]; exact hi), List.getElem?_set_ne (Ne.symm h1)]
  have hnw : a.n ≠ a.w := fun e => n1 (by rw [← e]; simp)
  have hnp : a.n ≠ a.p := fun e => n2 (by rw [← e]; simp)
  have hd : DnOk (((o.set a.w (OC.dl t.d)) ++ [OC.dl []]).set a.p (.ml (dnPV f.dn a.ds ++ [.tp [.d (.int f.u), .own a.n]] ++ [.tp [.d (.int u), .own o.length]]))) f.dn a.ds := hf.d.frame fun i m => ne i (hf.d.lt i m) (fun e => n1 (by rw [← e]; simp [m])) fun e => n2 (by rw [← e]; simp [m])
  refine ⟨?_, ⟨⟨?_, ?_, ?_, ?_⟩, ?_⟩, ?_⟩
  · rw [ne _ hsl (fun e => nd1.1 (by rw [e]; exact List.mem_append_left _ (by simp [Ad.all]))) fun e => nd1.1 (by rw [e]; exact List.mem_append_left _ (by simp [Ad.all]))]
    rw [hs]
    simp [Ad.pv]
  · show _ = some (OC.dl t.d)
    rw [List.getElem?_set_ne (fun e => n1 (by rw [e]; simp)), at_new (by rw [List.length_set]; exact hw), List.getElem?_set_self hw]
  · rw [List.getElem?_set_self (by simp; omega)]
    show _ = some (OC.ml (dnPV (f.dn ++ [_]) (a.ds ++ [a.n]) ++ _))
    rw [dnPV_snoc hf.d]
  · show (((o.set a.w (OC.dl t.d)) ++ [OC.dl []]).set a.p _)[o.length]? = _
    rw [List.getElem?_set_ne (by omega), List.getElem?_append_right (by simp)]
    simp [ndsD]
  · exact DnOk.snoc (by rw [ne _ hn hnw hnp]; exact hf.n) hd
  · exact hr.frame fun i m => ne i (hr.lt i m) (fun e => nd2.2.2 a.w (by simp [Ad.all]) i m e.symm) fun e => nd2.2.2 a.p (by simp [Ad.all]) i m e.symm
  · rw [List.flatMap_cons]
    refine List.nodup_cons.mpr ⟨fun m => ?_, List.nodup_append.mpr ⟨?_, nd2.2.1, fun i m j m' e => ?_⟩⟩
    · rcases List.mem_append.mp m with m | m
      · simp [Ad.all] at m
        rcases m with m | m | m | m | m
        · exact nd1.1 (by rw [m]; exact List.mem_append_left _ (by simp [Ad.all]))
        · exact nd1.1 (by rw [m]; exact List.mem_append_left _ (by simp [Ad.all]))
        · omega
        · exact nd1.1 (List.mem_append_left _ (by simp [Ad.all, m]))
        · exact nd1.1 (by rw [m]; exact List.mem_append_left _ (by simp [Ad.all]))
      · exact nd1.1 (List.mem_append_right _ m)
    · have hds := hf.d.lt
      unfold Ad.all
      simp only [List.nodup_cons, List.mem_cons, List.mem_append, List.nodup_append, not_or] at n1 n2 n3 n4 ⊢
      refine ⟨⟨n1.1, by omega, n1.2.2, n1.2.1, by simp⟩, ⟨by omega, n2.2, n2.1, by simp⟩, ⟨fun m => absurd (hds _ m) (Nat.lt_irrefl _), by omega, by simp⟩, n4, by simp, fun i m j m' e => ?_⟩
      simp at m'
      subst m' e
      exact n3 m
    · have hi := hr.lt j m'
      subst e
      simp [Ad.all] at m
      rcases m with m | m | m | m | m
      · exact nd2.2.2 i (by rw [m]; simp [Ad.all]) i m' rfl
      · exact nd2.2.2 i (by rw [m]; simp [Ad.all]) i m' rfl
      · omega
      · exact nd2.2.2 i (by simp [Ad.all, m]) i m' rfl
      · exact nd2.2.2 i (by rw [m]; simp [Ad.all]) i m' rfl
theorem Rep.pop {o : List OC} {n0 : Nat} {f : Fm} {st : List Fm} {a : Ad} {as : List Ad} (h : Rep o n0 (f :: st) (a :: as)) : Rep (o.set n0 (.ml (as.reverse.map Ad.pv))) n0 st as ∧ FrOk (o.set n0 (.ml (as.reverse.map Ad.pv))) a f := by
  obtain ⟨hs, ⟨hf, hr⟩, nd⟩ := h
  have nd1 := List.nodup_cons.mp nd
  rw [List.flatMap_cons] at nd1
  refine ⟨⟨?_, ?_, ?_⟩, ?_⟩
  · rw [List.getElem?_set_self (lt_of_at hs)]
  · exact hr.frame fun i m => List.getElem?_set_ne fun e => nd1.1 (by rw [e]; exact List.mem_append_right _ m)
  · exact List.nodup_cons.mpr ⟨fun m => nd1.1 (List.mem_append_right _ m), (List.nodup_append.mp nd1.2).2.1⟩
  · exact hf.frame fun i m => List.getElem?_set_ne fun e => nd1.1 (by rw [e]; exact List.mem_append_left _ m)
end KN

set_option maxRecDepth 80000
namespace KN
open PySem L2 PW
local macro_rules
  | `(tactic| walk_at "sz") => `(tactic| first | omega | (simp only [tx_len, List.length_append, List.length_map, List.length_cons, List.length_nil, List.length_take, List.length_drop] <;> omega))
  | `(tactic| walk_at "go") => `(tactic| repeat (first | refine ⟨rfl, ?_⟩ | refine ⟨trivial, ?_⟩ | refine ⟨_, rfl, ?_⟩ | refine ⟨_, rfl, rfl, ?_⟩ | refine ⟨_, _, rfl, rfl, ?_⟩ | refine ⟨_, ix_hd, ?_⟩ | refine br_t rfl ?_ | refine br_f rfl ?_ | (refine ⟨le_sz ?_, ?_⟩; focus walk_at "sz") | (refine ⟨lt_sz ?_, ?_⟩; focus walk_at "sz") | (refine ⟨strLe_tx ?_, ?_⟩; focus walk_at "sz") | refine ⟨cmul_r rfl, ?_⟩ | refine ⟨cmul_l rfl, ?_⟩ | refine ⟨pos_ok rfl, ?_⟩ | refine ⟨cdiv_ok rfl, ?_⟩ | refine ⟨_, _, _, _, rfl, rfl, rfl, rfl, ?_⟩ | refine ⟨_, _, rfl, ?_⟩ | refine ⟨_, _, _, rfl, rfl, rfl, ?_⟩ | refine ⟨_, _, _, rfl, rfl, ?_⟩))
def S_goes_on : FS := fun args o ret exc => ∃ (t : Ws) (k : Wk), args = [.own 0, .d (.str k.s)] ∧ o = [.dl t.d] ∧ ret (.d (.bool (goesWs t k).isSome)) [.dl t.d]
def S_closed : FS := fun args o ret exc => ∃ (a : Ad) (f : Fm) (last : Option Int), args = [.tp [.own a.w, .own a.p], .d (optD last)] ∧ FrOk o a f ∧ f.dn.length ≤ 100000 ∧ ∀ o', Kept o o' → ret (.d (ndD (.nest f.pts last))) o'
def S_nodes_of : FS := fun args o ret exc => ∃ (rows : List PyData) (ks : List Wk), args = [.d (.list rows)] ∧ o = [] ∧ Rows rows ks ∧ ks.length ≤ 20000 ∧ ret (.d (.tuple (ndsD (nodesM ks)))) []

def w_goes_on : SW :=
 (wSeq (wIfS (wB (wEq (wVar 1) (wC (.str "else"))))
  (wRet (wEq (wVar 0) (wLst (wCons (wC (.str "if")) wNil))))
  wNext)
 (wSeq (wIfS (wB (wEq (wVar 1) (wC (.str "catch"))))
  (wRet (wEq (wVar 0) (wLst (wCons (wC (.str "try")) wNil))))
  wNext)
 (wRet (wAndV (wEq (wVar 1) (wC (.str "finally"))) (wInT (wVar 0) (wTup (wCons (wLst (wCons (wC (.str "try")) wNil)) (wCons (wLst (wCons (wC (.str "try")) (wCons (wC (.str "catch")) wNil))) wNil))))))))
def w_closed : SW :=
 (wRet (wTup (wCons (wC (.str "nest")) (wCons (wTupOf (wLcM (wIxM (wVar 0) (wC (.int 1))) (gTM 2 (gsConsM (gNM 2) (gsConsM (gNM 3) gsNilM))) wYes (wTup (wCons (wVar 2) (wCons (wTupOf (wVar 3)) wNil))) [2, 3])) (wCons (wVar 1) wNil)))))
def w_nodes_of : SW :=
 (wSeq (wAsg (wLstM (wCons (wTupM (wCons (wLst wNil) (wCons (wLstM (wCons (wTupM (wCons (wNeg (wC (.int 1))) (wCons (wLst wNil) wNil))) wNil)) wNil))) wNil)) 1)
 (wSeq (wFor (wEn (wVar 0)) (gT 2 (gsCons (gN 2) (gsCons (gN 3) gsNil)))
  (wSeq (wAsg (wIf (wB (wIsN (wVar 3))) (wC (.str "")) (wIx (wVar 3) (wC (.int 0)))) 4)
 (wSeq (wUnpM (wIxM (wVar 1) (wNeg (wC (.int 1)))) (gTM 2 (gsConsM (gNM 5) (gsConsM (gNM 6) gsNilM))))
 (wIfS (wAnd (wB (wIn (wVar 4) (wC (PyData.tuple [(PyData.str "if"), (PyData.str "while"), (PyData.str "block"), (PyData.str "with"), (PyData.str "helper"), (PyData.str "try")])))) (wB (wLe (wLenM (wVar 1)) (wC (.int 8)))))
  (wDrop (wAppM (wVar 1) (wTupM (wCons (wLst (wCons (wVar 4) wNil)) (wCons (wLstM (wCons (wTupM (wCons (wVar 2) (wCons (wLst wNil) wNil))) wNil)) wNil)))))
  (wIfS (wB (wCallL S_goes_on (wCons (wVar 5) (wCons (wVar 4) wNil))))
  (wSeq (wDrop (wApp (wVar 5) (wVar 4)))
 (wDrop (wAppM (wVar 6) (wTupM (wCons (wVar 2) (wCons (wLst wNil) wNil))))))
  (wIfS (wAnd (wB (wEq (wVar 4) (wC (.str "end")))) (wB (wGt (wLenM (wVar 1)) (wC (.int 1)))))
  (wSeq (wDrop (wPopM (wVar 1)))
 (wDrop (wApp (wIxM (wIxM (wIxM (wIxM (wVar 1) (wNeg (wC (.int 1)))) (wC (.int 1))) (wNeg (wC (.int 1)))) (wC (.int 1))) (wCallH S_closed (wCons (wTupM (wCons (wVar 5) (wCons (wVar 6) wNil))) (wCons (wVar 2) wNil))))))
  (wIfS (wOr (wB (wIsN (wVar 3))) (wOr (wB (wIn (wVar 4) (wC (PyData.tuple [(PyData.str "if"), (PyData.str "while"), (PyData.str "block"), (PyData.str "with"), (PyData.str "helper"), (PyData.str "try")])))) (wB (wIn (wVar 4) (wTup (wCons (wC (.str "else")) (wCons (wC (.str "catch")) (wCons (wC (.str "finally")) (wCons (wC (.str "end")) wNil)))))))))
  (wDrop (wApp (wIxM (wIxM (wVar 6) (wNeg (wC (.int 1)))) (wC (.int 1))) (wTup (wCons (wC (.str "fence")) (wCons (wVar 2) wNil)))))
  (wDrop (wApp (wIxM (wIxM (wVar 6) (wNeg (wC (.int 1)))) (wC (.int 1))) (wTup (wCons (wC (.str "row")) (wCons (wVar 2) wNil))))))))))))
 (wSeq (wWh (wB (wGt (wLenM (wVar 1)) (wC (.int 1))))
  (wSeq (wAsg (wPopM (wVar 1)) 7)
 (wDrop (wApp (wIxM (wIxM (wIxM (wIxM (wVar 1) (wNeg (wC (.int 1)))) (wC (.int 1))) (wNeg (wC (.int 1)))) (wC (.int 1))) (wCallH S_closed (wCons (wVar 7) (wCons (wC .none) wNil)))))))
 (wRet (wTupOf (wIxM (wIxM (wIxM (wIxM (wVar 1) (wC (.int 0))) (wC (.int 1))) (wC (.int 0))) (wC (.int 1))))))))

theorem ws_shaped (t : Ws) : SeqAt.shaped (.list t.d) = true := by
  cases t <;> simp [SeqAt.shaped, Ws.d, Ws.l, PyData.canLay0, PyData.canLayAll0, PyData.depth, PyData.depthAll] <;> decide +kernel
theorem ws_if (t : Ws) : PyData.eqv (.list t.d) (.list [.str "if"]) = (goesWs t .else_).isSome := by
  cases t <;> simp [Ws.d, Ws.l, PyData.eqv, PyData.eqvAll, goesWs] <;> decide
theorem ws_try (t : Ws) : PyData.eqv (.list t.d) (.list [.str "try"]) = (goesWs t .catch_).isSome := by
  cases t <;> simp [Ws.d, Ws.l, PyData.eqv, PyData.eqvAll, goesWs] <;> decide
theorem ws_fin (t : Ws) : inD (.list t.d) [.list [.str "try"], .list [.str "try", .str "catch"]] = (goesWs t .finally_).isSome := by
  cases t <;> simp [inD, Ws.d, Ws.l, PyData.eqv, PyData.eqvAll, goesWs] <;> decide
theorem pure_goes_on : ∀ args o ret exc, S_goes_on args o ret exc → w_goes_on (fun x s => exc x (cutL o.length s.o)) (pst0 args o 2) (bodyE o.length ret) := by
  rintro _ _ ret exc ⟨t, k, rfl, rfl, h⟩
  cases k
  case else_ =>
    walk_at "go"
    refine ⟨eqOk_of (ws_shaped t) (ws_shaped .if_), ?_⟩
    walk_at "go"
    rw [← ws_if] at h
    exact h
  case catch_ =>
    walk_at "go"
    refine ⟨eqOk_of (ws_shaped t) (ws_shaped .try_), ?_⟩
    walk_at "go"
    rw [← ws_try] at h
    exact h
  case finally_ =>
    walk_at "go"
    rw [← ws_fin] at h
    refine ⟨ws_shaped t, by simp [SeqAt.shaped, PyData.canLay0, PyData.canLayAll0, PyData.depth, PyData.depthAll]; decide +kernel, ?_⟩
    exact h
  all_goals
    have h : ret (.d (.bool false)) [.dl t.d] := by cases t <;> exact h
    walk_at "go"
    exact h
theorem take_map_succ {α β : Type} {f : α → β} {L : List α} {j : Nat} (h : j < L.length) : (L.take (j + 1)).map f = (L.take j).map f ++ [f L[j]] := by
  rw [List.take_add_one, List.getElem?_eq_getElem h, List.map_append]; rfl
theorem dnPV_get {o : List OC} : ∀ {dn : List Pt} {ds : List Nat}, DnOk o dn ds → ∀ (j : Nat) (x : PV), (dnPV dn ds)[j]? = some x → ∃ u ns d, dn[j]? = some (.mk u ns) ∧ x = .tp [.d (.int u), .own d] ∧ o[d]? = some (.dl (ndsD ns))
  | [], [], _, j, x, e => by simp [dnPV] at e
  | .mk u ns :: dn, d :: ds, ⟨h, r⟩, 0, x, e => by
    have e : PV.tp [.d (.int u), .own d] = x := Option.some.inj e
    exact ⟨u, ns, d, rfl, e.symm, h⟩
  | .mk u ns :: dn, d :: ds, ⟨h, r⟩, j + 1, x, e => dnPV_get r j x e
  | [], _ :: _, h, _, _, _ => (show False from h).elim
  | .mk _ _ :: _, [], h, _, _, _ => (show False from h).elim
theorem dnPV_len {o : List OC} : ∀ {dn : List Pt} {ds : List Nat}, DnOk o dn ds → (dnPV dn ds).length = dn.length
  | [], [], _ => rfl
  | .mk u ns :: dn, d :: ds, ⟨h, r⟩ => congrArg Nat.succ (dnPV_len r)
  | [], _ :: _, h => (show False from h).elim
  | .mk _ _ :: _, [], h => (show False from h).elim
theorem FrOk.pt {o : List OC} {a : Ad} {f : Fm} (h : FrOk o a f) {j : Nat} {x : PV} (e : (dnPV f.dn a.ds ++ [.tp [.d (.int f.u), .own a.n]])[j]? = some x) : ∃ u ns d, f.pts[j]? = some (.mk u ns) ∧ x = .tp [.d (.int u), .own d] ∧ o[d]? = some (.dl (ndsD ns)) := by
  have hl := dnPV_len h.d
  unfold Fm.pts
  rcases Nat.lt_or_ge j (dnPV f.dn a.ds).length with hj | hj
  · rw [List.getElem?_append_left hj] at e
    obtain ⟨u, ns, d, h1, h2, h3⟩ := dnPV_get h.d j x e
    refine ⟨u, ns, d, ?_, h2, h3⟩
    rw [List.getElem?_append_left (by omega)]
    exact h1
  · rw [List.getElem?_append_right hj] at e
    rw [List.getElem?_append_right (by omega)]
    have hj' : j - (dnPV f.dn a.ds).length = 0 := by
      have := lt_of_at e
      simp at this
      omega
    rw [hj'] at e
    have e : PV.tp [.d (.int f.u), .own a.n] = x := Option.some.inj e
    refine ⟨f.u, f.cur, a.n, ?_, e.symm, h.n⟩
    rw [← hl, hj']
    rfl
theorem dat_ownN {s : PSt} {n : Nat} {xs : List PyData} (h : s.o[n]? = some (.dl xs)) : dat s (.own n) = some (.list xs) := by
  show ocD s.o[n]? = _
  rw [h]; rfl
theorem cutP_tp {n w p : Nat} (hw : w < n) (hp : p < n) : cutP n (some (.tp [.own w, .own p])) = some (.tp [.own w, .own p]) := by
  refine if_pos ?_
  simp [PV.ltAll, PV.lt, hw, hp]
theorem pure_closed : ∀ args o ret exc, S_closed args o ret exc → w_closed (fun x s => exc x (cutL o.length s.o)) (pst0 args o 4) (bodyE o.length ret) := by
  rintro _ o ret exc ⟨a, f, last, rfl, hf, hn, h⟩
  have hw := lt_of_at hf.w
  have hp := lt_of_at hf.p
  have hpl : (dnPV f.dn a.ds ++ [PV.tp [.d (.int f.u), .own a.n]]).length = f.pts.length := by
    unfold Fm.pts
    rw [List.length_append, List.length_append, dnPV_len hf.d]
    rfl
  have hlen : f.pts.length = f.dn.length + 1 := by unfold Fm.pts; simp
  walk_at "go"
  refine ⟨_, _, rfl, hf.p, ?_⟩
  refine ⟨fun j acc s => ∃ o', s = ⟨[some (.tp [.own a.w, .own a.p]), some (.d (optD last)), none, none], o'⟩ ∧ Kept o o' ∧ acc = (f.pts.take j).map ptD, ⟨o, rfl, Kept.refl o, rfl⟩, ?_, ?_, ?_⟩
  · rintro j acc s2 hj ⟨o', rfl, k, rfl⟩
    exact (hf.cut k).p
  · rintro j x acc s2 hx ho ⟨o', rfl, k, rfl⟩
    obtain ⟨u, ns, d, h1, rfl, h3⟩ := hf.pt hx
    have hj : j < f.pts.length := lt_of_at h1
    have e1 : f.pts[j] = .mk u ns := by
      rw [List.getElem?_eq_getElem hj] at h1
      exact Option.some.inj h1
    have k1 : o'.length = o.length := k.1
    have hd := lt_of_at h3
    have h4 : o'[d]? = some (.dl (ndsD ns)) := cut_dl k h3
    have h5 : (o' ++ [OC.dl (List.map ptD (List.take j f.pts))])[d]? = some (.dl (ndsD ns)) := by rw [List.getElem?_append_left (by omega)]; exact h4
    have hcp := cutP_tp hw hp
    have hsz : (List.take j f.pts).length ≤ 100001 := by rw [List.length_take]; omega
    clear hx ho
    walk_at "go"
    refine ⟨_, .inl (dat_ownN h5), ?_⟩
    walk_at "go"
    have h6 : (o' ++ [OC.dl (List.map ptD (List.take j f.pts))])[o.length]? = some (.dl (List.map ptD (List.take j f.pts))) := by rw [List.getElem?_append_right (by omega), k1, Nat.sub_self]; rfl
    refine ⟨h6, lt_sz (by rw [List.length_map]; omega), cutL o.length (o' ++ [OC.dl (List.map ptD (List.take j f.pts))]), ?_, k.cut _, ?_⟩
    · show (⟨[cutP o.length (some (.tp [.own a.w, .own a.p])), some (.d (optD last)), none, none], cutL o.length (o' ++ [OC.dl (List.map ptD (List.take j f.pts))])⟩ : PSt) = _
      rw [hcp]
    · rw [take_map_succ hj, e1]
      rfl
  · rintro acc s2 ho ⟨o', rfl, k, rfl⟩
    rw [hpl, List.take_of_length_le (Nat.le_refl _)]
    have k1 : o'.length = o.length := k.1
    have h5 : (o' ++ [OC.dl (List.map ptD f.pts)])[o.length]? = some (.dl (List.map ptD f.pts)) := by rw [List.getElem?_append_right (by omega), k1, Nat.sub_self]; rfl
    refine ⟨_, .inl (dat_ownN h5), ?_⟩
    walk_at "go"
    have h6 := h _ (k.cut [OC.dl (List.map ptD f.pts)])
    rw [ndD, ptsD_map] at h6
    exact h6

def tot : List Fm → Nat
  | [] => 0
  | f :: r => f.dn.length + f.cur.length + 2 + tot r
theorem tot_add (x : Nd) : ∀ st : List Fm, tot (addT x st) ≤ tot st + 1
  | [] => Nat.zero_le _
  | f :: r => by simp [addT, Fm.add, tot]; omega
theorem tot_step (u : Int) (r : Role) : ∀ st : List Fm, tot (stepN u r st) ≤ tot st + 3 := fun st => by
  cases r with
  | row => have := tot_add (.row u) st; show tot (addT _ st) ≤ _; omega
  | fence => have := tot_add (.fence u) st; show tot (addT _ st) ≤ _; omega
  | opens t => show 0 + 0 + 2 + tot st ≤ _; omega
  | goes t =>
    cases st with
    | nil => exact Nat.zero_le _
    | cons f q => simp [stepN, tot, Fm.pts]; omega
  | ends =>
    cases st with
    | nil => exact Nat.zero_le _
    | cons f q => have := tot_add (.nest f.pts (some u)) q; simp [stepN, tot]; omega
theorem op_d : ∀ {k : Wk} {t : Ws}, opWs k = some t → t.d = [.str k.s] := by
  intro k t h
  cases k <;> cases h <;> rfl
theorem goes_d : ∀ {t : Ws} {k : Wk} {t' : Ws}, goesWs t k = some t' → t'.d = t.d ++ [.str k.s] := by
  intro t k t' h
  cases t <;> cases k <;> cases h <;> rfl
def w_t4 : SW := (wIfS (wOr (wB (wIsN (wVar 3))) (wOr (wB (wIn (wVar 4) (wC (PyData.tuple [(PyData.str "if"), (PyData.str "while"), (PyData.str "block"), (PyData.str "with"), (PyData.str "helper"), (PyData.str "try")])))) (wB (wIn (wVar 4) (wTup (wCons (wC (.str "else")) (wCons (wC (.str "catch")) (wCons (wC (.str "finally")) (wCons (wC (.str "end")) wNil)))))))))
  (wDrop (wApp (wIxM (wIxM (wVar 6) (wNeg (wC (.int 1)))) (wC (.int 1))) (wTup (wCons (wC (.str "fence")) (wCons (wVar 2) wNil)))))
  (wDrop (wApp (wIxM (wIxM (wVar 6) (wNeg (wC (.int 1)))) (wC (.int 1))) (wTup (wCons (wC (.str "row")) (wCons (wVar 2) wNil))))))
def w_t3 : SW := (wIfS (wAnd (wB (wEq (wVar 4) (wC (.str "end")))) (wB (wGt (wLenM (wVar 1)) (wC (.int 1)))))
  (wSeq (wDrop (wPopM (wVar 1)))
 (wDrop (wApp (wIxM (wIxM (wIxM (wIxM (wVar 1) (wNeg (wC (.int 1)))) (wC (.int 1))) (wNeg (wC (.int 1)))) (wC (.int 1))) (wCallH S_closed (wCons (wTupM (wCons (wVar 5) (wCons (wVar 6) wNil))) (wCons (wVar 2) wNil))))))
  w_t4)
def w_t2 : SW := (wIfS (wB (wCallL S_goes_on (wCons (wVar 5) (wCons (wVar 4) wNil))))
  (wSeq (wDrop (wApp (wVar 5) (wVar 4)))
 (wDrop (wAppM (wVar 6) (wTupM (wCons (wVar 2) (wCons (wLst wNil) wNil))))))
  w_t3)
def w_t1 : SW := (wSeq (wUnpM (wIxM (wVar 1) (wNeg (wC (.int 1)))) (gTM 2 (gsConsM (gNM 5) (gsConsM (gNM 6) gsNilM))))
 (wIfS (wAnd (wB (wIn (wVar 4) (wC (PyData.tuple [(PyData.str "if"), (PyData.str "while"), (PyData.str "block"), (PyData.str "with"), (PyData.str "helper"), (PyData.str "try")])))) (wB (wLe (wLenM (wVar 1)) (wC (.int 8)))))
  (wDrop (wAppM (wVar 1) (wTupM (wCons (wLst (wCons (wVar 4) wNil)) (wCons (wLstM (wCons (wTupM (wCons (wVar 2) (wCons (wLst wNil) wNil))) wNil)) wNil)))))
  w_t2))
def w_wh : SW := (wWh (wB (wGt (wLenM (wVar 1)) (wC (.int 1))))
  (wSeq (wAsg (wPopM (wVar 1)) 7)
 (wDrop (wApp (wIxM (wIxM (wIxM (wIxM (wVar 1) (wNeg (wC (.int 1)))) (wC (.int 1))) (wNeg (wC (.int 1)))) (wC (.int 1))) (wCallH S_closed (wCons (wVar 7) (wCons (wC .none) wNil)))))))

theorem atI_snoc {α : Type} (l : List α) (x : α) : atI (l ++ [x]) (-1) = some x := by
  unfold atI ixN
  have h1 : (l ++ [x]).length = l.length + 1 := by simp
  rw [h1]
  have h2 : (-1 + ((l.length : Int) + 1)).toNat = l.length := by omega
  have h3 : (1 : Int) ≤ (l.length : Int) + 1 := by omega
  simp [h2, h3]
theorem mit {s : PSt} {n : Nat} {ps : List PV} (h : s.o[n]? = some (.ml ps)) : mitems s (.own n) = some ps := by
  show (match s.o[n]? with | some (.ml ps) => some ps | _ => none) = _
  rw [h]
abbrev opL : List PyData := [PyData.str "if", .str "while", .str "block", .str "with", .str "helper", .str "try"]
abbrev goL : List PyData := [PyData.str "else", .str "catch", .str "finally", .str "end"]
theorem inOp (k : Wk) : inD (.str k.s) [PyData.str "if", .str "while", .str "block", .str "with", .str "helper", .str "try"] = (opWs k).isSome := by
  cases k <;> decide +kernel
theorem inGo (k : Wk) : (decide (k = .none) || (inD (.str k.s) [PyData.str "if", .str "while", .str "block", .str "with", .str "helper", .str "try"] || inD (.str k.s) [PyData.str "else", .str "catch", .str "finally", .str "end"])) = (match otherRole k with | .fence => true | _ => false) := by
  cases k <;> decide +kernel
def rowSt (R : PV) (j : Int) (d : PyData) (k : Wk) (a b : Option PV) (o : List OC) : PSt := ⟨[some R, some (.own 3), some (.d (.int j)), some (.d d), some (.d (.str k.s)), a, b, none], o⟩
theorem stk {o : List OC} {f : Fm} {st : List Fm} {a : Ad} {as : List Ad} (h : Rep o 3 (f :: st) (a :: as)) : o[3]? = some (.ml (as.reverse.map Ad.pv ++ [a.pv])) := by
  rw [h.s]
  simp
theorem ndsD_len (l : List Nd) : (ndsD l).length = l.length := by rw [ndsD_map, List.length_map]
/-- a row or a fence -/
theorem t4_ok {R : PV} {j : Int} {d : PyData} {k : Wk} {o : List OC} {f : Fm} {st : List Fm} {a : Ad} {as : List Ad} {kx : KX} {K : PEnds} (hd : isNoneD d = decide (k = .none)) (rep : Rep o 3 (f :: st) (a :: as)) (ht : tot (f :: st) ≤ 80000)
    (hP : ∀ o', Rep o' 3 (stepN j (otherRole k) (f :: st)) (a :: as) → K.nx (rowSt R j d k (some (.own a.w)) (some (.own a.p)) o')) : w_t4 kx (rowSt R j d k (some (.own a.w)) (some (.own a.p)) o) K := by
  have hp := rep.f.1.p
  have hn := rep.f.1.n
  have hl : f.cur.length ≤ 80000 := by simp [tot] at ht; omega
  have hor : otherRole k = .fence ∨ otherRole k = .row := by cases k <;> first | exact .inl rfl | exact .inr rfl
  have hF : otherRole k = .fence → wDrop (wApp (wIxM (wIxM (wVar 6) (wNeg (wC (PyData.int 1)))) (wC (PyData.int 1))) (wTup (wCons (wC (PyData.str "fence")) (wCons (wVar 2) wNil)))) kx (rowSt R j d k (some (PV.own a.w)) (some (PV.own a.p)) o) K := fun e => by
    walk_at "go"
    refine ⟨_, _, _, mit hp, rfl, atI_snoc _ _, ?_⟩
    walk_at "go"
    refine ⟨_, _, rfl, hn, ?_⟩
    walk_at "go"
    refine ⟨_, hn, lt_sz (by rw [ndsD_len]; omega), ?_⟩
    exact hP _ (by rw [e]; exact rep.add (.fence j))
  have hW : otherRole k = .row → wDrop (wApp (wIxM (wIxM (wVar 6) (wNeg (wC (PyData.int 1)))) (wC (PyData.int 1))) (wTup (wCons (wC (PyData.str "row")) (wCons (wVar 2) wNil)))) kx (rowSt R j d k (some (PV.own a.w)) (some (PV.own a.p)) o) K := fun e => by
    walk_at "go"
    refine ⟨_, _, _, mit hp, rfl, atI_snoc _ _, ?_⟩
    walk_at "go"
    refine ⟨_, _, rfl, hn, ?_⟩
    walk_at "go"
    refine ⟨_, hn, lt_sz (by rw [ndsD_len]; omega), ?_⟩
    exact hP _ (by rw [e]; exact rep.add (.row j))
  have hg := inGo k
  rw [← hd] at hg
  unfold w_t4
  walk_at "go"
  refine ⟨fun z => br_t rfl (hF ?_), fun z => ?_⟩
  · rcases hor with e | e
    · exact e
    · rw [e, z] at hg; simp at hg
  rw [z, Bool.false_or] at hg
  walk_at "go"
  refine br_s (inD (.str k.s) opL) rfl (fun z1 => br_t rfl (hF ?_)) (fun z1 => ?_)
  · rcases hor with e | e
    · exact e
    · rw [e, z1] at hg; simp at hg
  rw [z1, Bool.false_or] at hg
  walk_at "go"
  refine br_s (inD (.str k.s) goL) rfl (fun z2 => hF ?_) (fun z2 => hW ?_)
  · rcases hor with e | e
    · exact e
    · rw [e] at hg; rw [hg] at z2; cases z2
  · rcases hor with e | e
    · rw [e] at hg; rw [hg] at z2; cases z2
    · exact e
/-- an end, or a row or a fence -/
theorem t3_ok {R : PV} {j : Int} {d : PyData} {k : Wk} {o : List OC} {f : Fm} {st : List Fm} {a : Ad} {as : List Ad} {kx : KX} {K : PEnds} (hd : isNoneD d = decide (k = .none)) (rep : Rep o 3 (f :: st) (a :: as)) (ht : tot (f :: st) ≤ 80000)
    (hP : ∀ o' as', Rep o' 3 (stepN j (if k = .end_ ∧ 1 < (f :: st).length then .ends else otherRole k) (f :: st)) as' → K.nx (rowSt R j d k (some (.own a.w)) (some (.own a.p)) o')) : w_t3 kx (rowSt R j d k (some (.own a.w)) (some (.own a.p)) o) K := by
  have hlen := rep.f.len
  have hs := stk rep
  have t4 : ¬ (k = .end_ ∧ 1 < (f :: st).length) → w_t4 kx (rowSt R j d k (some (.own a.w)) (some (.own a.p)) o) K := fun z => t4_ok hd rep ht fun o' h' => hP o' _ (by rw [if_neg z]; exact h')
  have hend : PyData.eqv (.str k.s) (.str "end") = decide (k = .end_) := by cases k <;> decide +kernel
  unfold w_t3
  walk_at "go"
  refine br_d (k = .end_) (by show PyData.eqv _ _ = true ↔ _; rw [hend, decide_eq_true_eq]) (fun e1 => ?_) (fun e1 => br_f rfl (t4 fun z => e1 z.1))
  walk_at "go"
  refine ⟨_, mit hs, ?_⟩
  walk_at "go"
  refine br_d (1 < (f :: st).length) (by rw [decide_eq_true_eq, List.length_append, List.length_map, List.length_reverse]; simp at hlen ⊢; omega) (fun e2 => ?_) (fun e2 => t4 fun z => e2 z.2)
  rw [if_pos ⟨e1, e2⟩] at hP
  walk_at "go"
  refine ⟨_, _, a.pv, rfl, hs, by simp, ?_⟩
  rw [List.dropLast_concat]
  cases st with
  | nil => simp at e2
  | cons g st =>
    cases as with
    | nil => simp at hlen
    | cons b as =>
      obtain ⟨rep2, fr2⟩ := rep.pop
      have hs2 := stk rep2
      have hp2 := rep2.f.1.p
      have hn2 := rep2.f.1.n
      have hl : f.dn.length ≤ 80000 := by simp [tot] at ht; omega
      have hl2 : g.cur.length ≤ 80000 := by simp [tot] at ht; omega
      walk_at "go"
      refine ⟨_, _, _, mit hs2, rfl, atI_snoc _ _, ?_⟩
      walk_at "go"
      refine ⟨_, _, _, mit hp2, rfl, atI_snoc _ _, ?_⟩
      walk_at "go"
      refine ⟨_, _, rfl, hn2, ?_⟩
      walk_at "go"
      refine ⟨a, f, some j, rfl, fr2, by omega, fun o' kp => ?_⟩
      have rep3 := rep2.cut kp
      walk_at "go"
      refine ⟨_, rep3.f.1.n, lt_sz (by rw [ndsD_len]; omega), ?_⟩
      exact hP _ _ (rep3.add (.nest f.pts (some j)))
/-- what goes on, or the others -/
def rest (t : Ws) (deep : Nat) (k : Wk) : Role := match goesWs t k with
  | some t' => .goes t'
  | none => if k = .end_ ∧ 1 < deep then .ends else otherRole k
theorem t2_ok {R : PV} {j : Int} {d : PyData} {k : Wk} {o : List OC} {f : Fm} {st : List Fm} {a : Ad} {as : List Ad} {kx : KX} {K : PEnds} (hd : isNoneD d = decide (k = .none)) (rep : Rep o 3 (f :: st) (a :: as)) (ht : tot (f :: st) ≤ 80000)
    (hP : ∀ o' as', Rep o' 3 (stepN j (rest f.ws (f :: st).length k) (f :: st)) as' → K.nx (rowSt R j d k (some (.own a.w)) (some (.own a.p)) o')) : w_t2 kx (rowSt R j d k (some (.own a.w)) (some (.own a.p)) o) K := by
  have hw := rep.f.1.w
  have hp := rep.f.1.p
  have hl : f.dn.length ≤ 80000 := by simp [tot] at ht; omega
  have hsame : o.set a.w (.dl f.ws.d) = o := by
    refine List.ext_getElem? fun i => ?_
    by_cases e : a.w = i
    · subst e; rw [List.getElem?_set_self (lt_of_at hw), hw]
    · rw [List.getElem?_set_ne e]
  unfold w_t2
  walk_at "go"
  refine ⟨_, hw, f.ws, k, rfl, rfl, _, rfl, ?_⟩
  have e : ({ r := (rowSt R j d k (some (PV.own a.w)) (some (PV.own a.p)) o).r, o := (rowSt R j d k (some (PV.own a.w)) (some (PV.own a.p)) o).o.set a.w (OC.dl f.ws.d) } : PSt) = rowSt R j d k (some (PV.own a.w)) (some (PV.own a.p)) o := by
    show PSt.mk _ (o.set _ _) = _
    rw [hsame]
    rfl
  rw [e]
  clear e hsame
  refine ⟨_, rfl, ?_⟩
  cases hg : goesWs f.ws k with
  | none =>
    have hr : rest f.ws (f :: st).length k = if k = .end_ ∧ 1 < (f :: st).length then .ends else otherRole k := by unfold rest; rw [hg]
    rw [hr] at hP
    exact br_f rfl (t3_ok hd rep ht hP)
  | some t' =>
    have hr : rest f.ws (f :: st).length k = .goes t' := by unfold rest; rw [hg]
    rw [hr] at hP
    refine br_t rfl ?_
    have htd := goes_d hg
    have hwl : f.ws.d.length ≤ 3 := by cases f.ws <;> decide
    walk_at "go"
    refine ⟨_, _, rfl, hw, ?_⟩
    walk_at "go"
    refine ⟨_, hw, lt_sz (by omega), ?_⟩
    have hpw : a.p ≠ a.w := by
      have := rep.nd
      simp [Ad.all] at this
      intro e
      simp [e] at this
    have hp' : (o.set a.w (OC.dl (f.ws.d ++ [.str k.s])))[a.p]? = some (OC.ml (dnPV f.dn a.ds ++ [PV.tp [PV.d (PyData.int f.u), PV.own a.n]])) := by
      rw [List.getElem?_set_ne (Ne.symm hpw)]; exact hp
    walk_at "go"
    refine ⟨_, _, rfl, hp', ?_⟩
    walk_at "go"
    have hp3 : (o.set a.w (OC.dl (f.ws.d ++ [.str k.s])) ++ [OC.dl []])[a.p]? = some (OC.ml (dnPV f.dn a.ds ++ [PV.tp [PV.d (PyData.int f.u), PV.own a.n]])) := by
      rw [at_new (lt_of_at hp')]; exact hp'
    have hdl := dnPV_len rep.f.1.d
    refine ⟨_, hp3, lt_sz (by rw [List.length_append, hdl]; simp; omega), ?_⟩
    have rep2 := rep.goes t' j
    rw [htd] at rep2
    have el : (o.set a.w (OC.dl (f.ws.d ++ [.str k.s]))).length = o.length := List.length_set ..
    rw [← el] at rep2
    exact hP _ _ rep2
/-- one turn -/
theorem t1_ok {R : PV} {j : Int} {d : PyData} {k : Wk} {o : List OC} {f : Fm} {st : List Fm} {a : Ad} {as : List Ad} {kx : KX} {K : PEnds} {a0 b0 : Option PV} (hd : isNoneD d = decide (k = .none)) (rep : Rep o 3 (f :: st) (a :: as)) (ht : tot (f :: st) ≤ 80000)
    (hP : ∀ o' as' a' b', Rep o' 3 (stepN j (roleOf f.ws (f :: st).length k) (f :: st)) as' → K.nx (rowSt R j d k a' b' o')) : w_t1 kx (rowSt R j d k a0 b0 o) K := by
  have hs := stk rep
  have hlen := rep.f.len
  unfold w_t1
  walk_at "go"
  refine ⟨_, _, _, mit hs, rfl, atI_snoc _ _, ?_⟩
  walk_at "go"
  have hop := inOp k
  have hno : ∀ t, roleOf f.ws (f :: st).length k = t → rest f.ws (f :: st).length k = t → w_t2 kx (rowSt R j d k (some (.own a.w)) (some (.own a.p)) o) K := fun t h1 h2 => t2_ok hd rep ht fun o' as' h' => hP o' as' _ _ (by rw [h1, ← h2]; exact h')
  cases hk : opWs k with
  | none =>
    rw [hk] at hop
    refine br_f hop ?_
    exact br_f rfl (hno _ (by unfold roleOf rest; rw [hk] <;> rfl) rfl)
  | some t' =>
    rw [hk] at hop
    refine br_t hop ?_
    walk_at "go"
    refine ⟨_, mit hs, ?_⟩
    walk_at "go"
    refine br_d ((f :: st).length ≤ 8) (by rw [decide_eq_true_eq, List.length_append, List.length_map, List.length_reverse]; simp at hlen ⊢; omega) (fun e2 => ?_) (fun e2 => hno .fence ?_ ?_)
    · have hr : roleOf f.ws (f :: st).length k = .opens t' := by unfold roleOf; rw [hk]; exact if_pos e2
      rw [hr] at hP
      walk_at "go"
      refine ⟨_, _, rfl, hs, ?_⟩
      walk_at "go"
      have hd2 := op_d hk
      have rep2 := rep.push t' j
      have e0 : (a :: as).reverse.map Ad.pv = as.reverse.map Ad.pv ++ [a.pv] := by simp
      have e1 : (o ++ [OC.dl [PyData.str k.s]]).length = o.length + 1 := by simp
      have e3 : ((o ++ [OC.dl [PyData.str k.s]]) ++ [OC.dl []]).length = o.length + 2 := by simp
      rw [hd2, ← e1, ← e3, e0] at rep2
      have l3 := lt_of_at hs
      have h3 : (((o ++ [OC.dl [PyData.str k.s]]) ++ [OC.dl []]) ++ [OC.ml [.tp [.d (.int j), .own (o ++ [OC.dl [PyData.str k.s]]).length]]])[3]? = some (OC.ml (List.map Ad.pv as.reverse ++ [a.pv])) := by
        rw [at_new (by rw [e3]; omega), at_new (by rw [e1]; omega), at_new l3]
        exact hs
      have hsz : (List.map Ad.pv as.reverse ++ [a.pv]).length ≤ 100 := by
        rw [List.length_append, List.length_map, List.length_reverse]; simp at hlen e2 ⊢; omega
      refine ⟨_, h3, lt_sz (by omega), ?_⟩
      exact hP _ _ _ _ rep2
    · unfold roleOf; rw [hk]; exact if_neg e2
    · cases k <;> cases hk <;> (cases f.ws <;> rfl)
theorem enum_get {rows : List PyData} {j : Nat} {x : PyData} (h : (enumD 0 rows)[j]? = some x) : ∃ d, rows[j]? = some d ∧ x = .tuple [.int (j : Nat), d] := by
  rw [enumD_get] at h
  cases e : rows[j]? with
  | none => rw [e] at h; cases h
  | some d =>
    rw [e] at h
    rw [Nat.zero_add] at h
    exact ⟨d, rfl, (Option.some.inj h).symm⟩
theorem enum_len : ∀ (rows : List PyData) (n : Nat), (enumD n rows).length = rows.length
  | [], _ => rfl
  | _ :: r, n => congrArg Nat.succ (enum_len r (n + 1))
/-- the last one is the whole text -/
def BotOk : List Fm → Prop
  | [] => False
  | [f] => f.ws = .bot ∧ f.dn = []
  | _ :: r => BotOk r
theorem bot_add (x : Nd) : ∀ {st : List Fm}, BotOk st → BotOk (addT x st)
  | [], h => h
  | [f], h => h
  | f :: g :: r, h => h
theorem role_ends {t : Ws} {n : Nat} {k : Wk} (h : roleOf t n k = .ends) : 1 < n := by
  unfold roleOf at h
  split at h
  · split at h <;> cases h
  · split at h
    · cases h
    · split at h
      · rename_i z; exact z.2
      · cases k <;> cases h
theorem goes_bot (k : Wk) : goesWs .bot k = none := by cases k <;> rfl
theorem bot_step {u : Int} {k : Wk} : ∀ {st : List Fm}, BotOk st → BotOk (stepN u (roleOf (topW st) st.length k) st)
  | [], h => h.elim
  | [f], h => by
    have hb : topW [f] = .bot := h.1
    rw [hb]
    cases e : roleOf .bot [f].length k with
    | row => exact bot_add _ h
    | fence => exact bot_add _ h
    | opens t => exact h
    | goes t =>
      exfalso
      unfold roleOf at e
      split at e
      · split at e <;> cases e
      · rw [goes_bot] at e
        simp at e
        cases k <;> cases e
    | ends => exact absurd (role_ends e) (by simp)
  | f :: g :: r, h => by
    cases roleOf (topW (f :: g :: r)) (f :: g :: r).length k with
    | row => exact bot_add _ (st := f :: g :: r) h
    | fence => exact bot_add _ (st := f :: g :: r) h
    | opens t => exact h
    | goes t => exact h
    | ends => exact bot_add _ (st := g :: r) h
theorem ix_hdt {c : PyData} {r : List PyData} : ixD (.tuple (c :: r)) 0 = some c := (atI_nat (xs := c :: r) (i := 0) (by simp))
theorem run_drop {ks : List Wk} {j : Nat} (h : j < ks.length) (st : List Fm) : runN (ks.drop j) j st = runN (ks.drop (j + 1)) (j + 1 : Nat) (stepN j (roleOf (topW st) st.length ks[j]) st) := by
  rw [List.drop_eq_getElem_cons h]
  rfl
/-- the state between the turns -/
def NI (rows : List PyData) (ks : List Wk) (j : Nat) (s : PSt) : Prop := ∃ a b c d e o st as, s = ⟨[some (.d (.list rows)), some (.own 3), a, b, c, d, e, none], o⟩ ∧ Rep o 3 st as ∧ tot st ≤ 2 + 3 * j ∧ BotOk st ∧ runN (ks.drop j) j st = runN ks 0 [bot]
theorem pure_nodes_of : ∀ args o ret exc, S_nodes_of args o ret exc → w_nodes_of (fun x s => exc x (cutL o.length s.o)) (pst0 args o 8) (bodyE o.length ret) := by
  rintro _ _ ret exc ⟨rows, ks, rfl, rfl, hR, hk, h⟩
  walk_at "go"
  refine ⟨NI rows ks, ⟨_, _, _, _, _, _, [bot], [⟨0, 2, 1, []⟩], rfl, ⟨rfl, ⟨⟨rfl, rfl, rfl, trivial⟩, trivial⟩, by decide⟩, by decide, ⟨rfl, rfl⟩, rfl⟩, fun _ _ _ _ => trivial, ?_, ?_⟩
  · rintro j x s1 hx ⟨a, b, c, d, e, o, st, as, rfl, rep, ht, hne, hrun⟩
    obtain ⟨dd, hdd, rfl⟩ := enum_get hx
    have hj : j < ks.length := by rw [← hR.1]; exact lt_of_at hdd
    have hrow := hR.2 j dd ks[j] hdd (List.getElem?_eq_getElem hj)
    rw [run_drop hj] at hrun
    generalize ks[j] = k at hrow hrun
    have rest : ∀ (hd : isNoneD dd = decide (k = .none)) (K : PEnds) (kx : KX), (∀ s, NI rows ks (j + 1) s → K.nx s) → w_t1 kx (rowSt (.d (.list rows)) j dd k d e o) K := fun hd K kx hK => by
      cases st with
      | nil => exact hne.elim
      | cons f st =>
        cases as with
        | nil => exact (show False from rep.f).elim
        | cons a as =>
          refine t1_ok hd rep (by omega) fun o' as' a' b' rep' => hK _ ⟨_, _, _, _, _, _, _, _, rfl, rep', ?_, bot_step (st := f :: st) hne, hrun⟩
          have := tot_step j (roleOf f.ws (f :: st).length k) (f :: st)
          omega
    cases k
    case none =>
      have hrow : dd = .none := hrow
      subst hrow
      refine ⟨_, rfl, rfl, _, _, rfl, _, _, rfl, rfl, ?_⟩
      refine ⟨_, rfl, _, rfl, _, rfl, br_t rfl ?_⟩
      refine rest rfl _ _ ?_
      exact fun s hs => Or.inl hs
    all_goals
      obtain ⟨r, rfl⟩ := hrow
      walk_at "go"
      refine ⟨_, ix_hdt, ?_⟩
      refine rest rfl _ _ ?_
      exact fun s hs => Or.inl hs
  · rintro s1 ⟨a, b, c, d, e, o, st, as, rfl, rep, ht, hne, hrun⟩
    rw [enum_len, hR.1, List.drop_length] at hrun
    have hrun : st = runN ks 0 [bot] := hrun
    rw [enum_len, hR.1] at ht
    have start : ∃ f st0 as0, Rep o 3 (f :: st0) as0 ∧ tot (f :: st0) ≤ 80000 ∧ BotOk (f :: st0) ∧ finN f st0 = nodesM ks := by
      cases st with
      | nil => exact hne.elim
      | cons f st => exact ⟨f, st, as, rep, by omega, hne, by unfold nodesM; rw [← hrun]; rfl⟩
    clear rep ht hne hrun
    obtain ⟨f, st0, as0, rep, ht, hb, hfin⟩ := start
    refine ⟨fun m s => ∃ g o f st as, s = ⟨[some (.d (.list rows)), some (.own 3), a, b, c, d, e, g], o⟩ ∧ Rep o 3 (f :: st) as ∧ st.length = m ∧ tot (f :: st) ≤ 80000 ∧ BotOk (f :: st) ∧ finN f st = nodesM ks, ⟨_, _, _, f, st0, as0, rfl, rep, rfl, ht, hb, hfin⟩, ?_⟩
    clear rep ht hb hfin
    rintro m s1 ⟨g, o, f, st, as, rfl, rep, rfl, ht, hb, hfin⟩
    cases as with
    | nil => exact (show False from rep.f).elim
    | cons a1 as =>
      have hs := stk rep
      have hlen := rep.f.len
      walk_at "go"
      refine ⟨_, mit hs, ?_⟩
      walk_at "go"
      refine br_d (1 < (f :: st).length) (by rw [decide_eq_true_eq, List.length_append, List.length_map, List.length_reverse]; simp at hlen ⊢; omega) (fun e2 => ?_) (fun e2 => ?_)
      · walk_at "go"
        refine ⟨_, _, a1.pv, rfl, hs, by simp, ?_⟩
        rw [List.dropLast_concat]
        cases st with
        | nil => simp at e2
        | cons f2 st =>
          cases as with
          | nil => simp at hlen
          | cons b1 as =>
            obtain ⟨rep2, fr2⟩ := rep.pop
            have hs2 := stk rep2
            have hp2 := rep2.f.1.p
            have hn2 := rep2.f.1.n
            have hl : f.dn.length ≤ 80000 := by simp [tot] at ht; omega
            have hl2 : f2.cur.length ≤ 80000 := by simp [tot] at ht; omega
            walk_at "go"
            refine ⟨_, _, _, mit hs2, rfl, atI_snoc _ _, ?_⟩
            walk_at "go"
            refine ⟨_, _, _, mit hp2, rfl, atI_snoc _ _, ?_⟩
            walk_at "go"
            refine ⟨_, _, rfl, hn2, ?_⟩
            walk_at "go"
            refine ⟨a1, f, none, rfl, fr2, by omega, fun o' kp => ?_⟩
            have rep3 := rep2.cut kp
            walk_at "go"
            refine ⟨_, rep3.f.1.n, lt_sz (by rw [ndsD_len]; omega), ?_⟩
            refine ⟨st.length, by simp, .inl ⟨_, _, _, st, _, rfl, rep3.add (.nest f.pts none), rfl, ?_, ?_, hfin⟩⟩
            · simp [tot, Fm.add] at ht ⊢; omega
            · exact bot_add (.nest f.pts none) (st := f2 :: st) hb
      · cases st with
        | cons f2 st => simp at e2
        | nil =>
          cases as with
          | cons b1 as => simp at hlen
          | nil =>
            have hdn : f.dn = [] := hb.2
            have hp := rep.f.1.p
            have hds : a1.ds = [] := by
              have := rep.f.1.d
              rw [hdn] at this
              cases hq : a1.ds with
              | nil => rfl
              | cons q qs => rw [hq] at this; exact this.elim
            rw [hdn, hds] at hp
            walk_at "go"
            refine ⟨_, _, _, mit hs, rfl, rfl, ?_⟩
            walk_at "go"
            refine ⟨_, _, _, mit hp, rfl, rfl, ?_⟩
            walk_at "go"
            refine ⟨_, .inl (dat_ownN rep.f.1.n), ?_⟩
            have hfin : f.cur = nodesM ks := hfin
            rw [hfin]
            exact h
end KN

namespace KN
open PySem L2 PW
local macro_rules
  | `(tactic| walk_at "sz") => `(tactic| first | omega | (simp only [tx_len, List.length_append, List.length_map, List.length_cons, List.length_nil, List.length_take, List.length_drop] <;> omega))
  | `(tactic| walk_at "go") => `(tactic| repeat (first | refine ⟨rfl, ?_⟩ | refine ⟨trivial, ?_⟩ | refine ⟨_, rfl, ?_⟩ | refine ⟨_, rfl, rfl, ?_⟩ | refine ⟨_, _, rfl, rfl, ?_⟩ | refine ⟨_, ix_hd, ?_⟩ | refine br_t rfl ?_ | refine br_f rfl ?_ | (refine ⟨le_sz ?_, ?_⟩; focus walk_at "sz") | (refine ⟨lt_sz ?_, ?_⟩; focus walk_at "sz") | (refine ⟨strLe_tx ?_, ?_⟩; focus walk_at "sz") | refine ⟨cmul_r rfl, ?_⟩ | refine ⟨cmul_l rfl, ?_⟩ | refine ⟨pos_ok rfl, ?_⟩ | refine ⟨cdiv_ok rfl, ?_⟩ | refine ⟨_, _, _, _, rfl, rfl, rfl, rfl, ?_⟩ | refine ⟨_, _, rfl, ?_⟩ | refine ⟨_, _, _, rfl, rfl, rfl, ?_⟩ | refine ⟨_, _, _, rfl, rfl, ?_⟩))
theorem take_intD {n : Nat} {m : Int} : (intsD m n).length = n := by unfold intsD; rw [List.length_map, List.length_range]
/-- rows that are data of no great depth -/
def RowsOk (ds : List PyData) (ks : List Wk) : Prop := Rows ds ks ∧ ∀ d ∈ ds, d.canLay0 = true ∧ d.depth ≤ 8
def RowOk (d : PyData) (k : Wk) : Prop := IsRow d k ∧ d.canLay0 = true ∧ d.depth ≤ 8
def S_law_cell_at : FS := fun args o ret exc => ∃ (ns : List Int) (k : Nat), args = [.scr ns, .d (.int k)] ∧ o = [] ∧ ns.length ≤ 63 ∧ ∀ v : Int, ret (.d (.int v)) []
def S_law_row : FS := fun args o ret exc => ∃ c : Int, args = [.d (.int c)] ∧ o = [] ∧ ∀ d k, RowOk d k → ret (.d d) []
def S_law_rows : FS := fun args o ret exc => ∃ ns : List Int, args = [.scr ns] ∧ o = [] ∧ ns.length ≤ 63 ∧ ∀ ds ks, RowsOk ds ks → ds.length ≤ 60 → ret (.new ds) []

def w_law_cell_at : SW :=
 (wSeq (wAsg (wC (.int 0)) 2)
 (wSeq (wIfS (wB (wLt (wVar 1) (wLen (wVar 0))))
  (wAsg (wIx (wVar 0) (wVar 1)) 2)
  (wIfS (wB (wNe (wVar 0) (wLst wNil)))
  (wAsg (wIx (wVar 0) (wMod (wVar 1) (wLen (wVar 0)))) 2)
  wNext))
 (wSeq (wAsg (wMod (wAdd (wAdd (wMul (wVar 2) (wC (.int 48271))) (wMul (wVar 1) (wC (.int 104729)))) (wC (.int 7919))) (wC (.int 2147483647))) 3)
 (wSeq (wAsg (wMod (wMul (wMod (wMul (wVar 3) (wVar 3)) (wC (.int 2147483629))) (wC (.int 69621))) (wC (.int 2147483647))) 3)
 (wRet (wAdd (wMul (wMod (wMul (wVar 3) (wVar 3)) (wC (.int 2147483629))) (wC (.int 2147483647))) (wVar 3)))))))
def w_law_row : SW :=
 (wSeq (wAsg (wLst (wCons (wTup (wCons (wC (.str "let")) (wCons (wC (.str "a")) (wCons (wC (.int 1)) (wCons (wTup (wCons (wC (.str "number")) (wCons (wC (.int 1)) wNil))) wNil))))) (wCons (wTup (wCons (wC (.str "set")) (wCons (wC (.str "a")) (wCons (wC (.int 1)) (wCons (wTup (wCons (wC (.str "name")) (wCons (wC (.str "b")) (wCons (wC (.int 3)) wNil)))) wNil))))) (wCons (wTup (wCons (wC (.str "say")) (wCons (wTup (wCons (wC (.str "number")) (wCons (wC (.int 2)) wNil))) wNil))) (wCons (wTup (wCons (wC (.str "bare")) wNil)) wNil))))) 1)
 (wSeq (wAsg (wCat (wVar 1) (wLst (wCons (wTup (wCons (wC (.str "read")) (wCons (wC (.str "a")) (wCons (wC (.int 1)) wNil)))) (wCons (wTup (wCons (wC (.str "fault")) (wCons (wTup (wCons (wC (.str "number")) (wCons (wC (.int 3)) wNil))) wNil))) (wCons (wTup (wCons (wC (.str "do")) (wCons (wC (.str "h")) (wCons (wC (.int 1)) (wCons (wTup wNil) wNil))))) (wCons (wC .none) wNil)))))) 1)
 (wSeq (wAsg (wLst (wCons (wTup (wCons (wC (.str "if")) (wCons (wTup (wCons (wC (.str "name")) (wCons (wC (.str "a")) (wCons (wC (.int 1)) wNil)))) wNil))) (wCons (wTup (wCons (wC (.str "while")) (wCons (wTup (wCons (wC (.str "number")) (wCons (wC (.int 0)) wNil))) wNil))) (wCons (wTup (wCons (wC (.str "block")) wNil)) (wCons (wTup (wCons (wC (.str "try")) wNil)) (wCons (wTup (wCons (wC (.str "try")) wNil)) wNil)))))) 2)
 (wSeq (wAsg (wCat (wVar 2) (wLst (wCons (wTup (wCons (wC (.str "with")) (wCons (wTup (wCons (wTup (wCons (wC (.str "a")) (wCons (wC (.int 1)) (wCons (wTup (wCons (wC (.str "number")) (wCons (wC (.int 1)) wNil))) wNil)))) wNil)) wNil))) (wCons (wTup (wCons (wC (.str "helper")) (wCons (wC (.str "h")) (wCons (wC (.int 1)) (wCons (wTup (wCons (wTup (wCons (wC (.str "x")) (wCons (wC (.int 3)) wNil))) wNil)) wNil))))) wNil)))) 2)
 (wSeq (wAsg (wLst (wCons (wTup (wCons (wC (.str "else")) wNil)) (wCons (wTup (wCons (wC (.str "catch")) (wCons (wC (.str "e")) (wCons (wC (.int 1)) wNil)))) (wCons (wTup (wCons (wC (.str "finally")) wNil)) (wCons (wTup (wCons (wC (.str "else")) wNil)) (wCons (wTup (wCons (wC (.str "finally")) wNil)) wNil)))))) 3)
 (wSeq (wAsg (wMod (wVar 0) (wC (.int 16))) 4)
 (wSeq (wIfS (wB (wLt (wVar 4) (wC (.int 3))))
  (wRet (wIx (wVar 1) (wMod (wDiv (wVar 0) (wC (.int 16))) (wC (.int 8)))))
  wNext)
 (wSeq (wIfS (wB (wLt (wVar 4) (wC (.int 8))))
  (wRet (wIx (wVar 2) (wMod (wDiv (wVar 0) (wC (.int 16))) (wC (.int 7)))))
  wNext)
 (wSeq (wIfS (wB (wLt (wVar 4) (wC (.int 12))))
  (wRet (wIx (wVar 3) (wMod (wDiv (wVar 0) (wC (.int 16))) (wC (.int 5)))))
  wNext)
 (wRet (wTup (wCons (wC (.str "end")) wNil))))))))))))
theorem pure_law_cell_at : ∀ args o ret exc, S_law_cell_at args o ret exc → w_law_cell_at (fun x s => exc x (cutL o.length s.o)) (pst0 args o 4) (bodyE o.length ret) := by
  rintro _ _ ret exc ⟨ns, k, rfl, rfl, hn, h⟩
  walk_at "go"
  rw [List.length_map]
  refine br_d (k < ns.length) (by rw [decide_eq_true_eq]; omega) (fun h1 => ?_) (fun h1 => ?_)
  · walk_at "go"
    refine ⟨_, ix_list (by rw [List.length_map]; exact h1), ?_⟩
    rw [List.getElem_map]
    walk_at "go"
    refine ⟨cmul_o (.inl ⟨by omega, by omega⟩), ?_⟩
    walk_at "go"
    refine ⟨cmul_o (.inl ⟨by omega, by omega⟩), ?_⟩
    walk_at "go"
    exact h _
  · walk_at "go"
    have hsh : SeqAt.shaped (.list (ns.map PyData.int)) = true := shaped_list fun x m => by
      obtain ⟨w, hw, rfl⟩ := List.mem_map.mp m
      exact ⟨rfl, Nat.zero_le _⟩
    refine ⟨eqOk_of hsh rfl, ?_⟩
    refine ⟨_, rfl, ?_⟩
    refine br_d (ns ≠ []) (by cases ns <;> simp [PyData.eqv, PyData.eqvAll]) (fun h2 => ?_) (fun h2 => ?_)
    · have h3 : 0 < ns.length := List.length_pos_iff.mpr h2
      walk_at "go"
      rw [List.length_map]
      refine ⟨by omega, ?_⟩
      walk_at "go"
      refine ⟨_, ix_list (l := ns.map PyData.int) (i := k % ns.length) (by rw [List.length_map]; exact Nat.mod_lt _ h3), ?_⟩
      rw [List.getElem_map]
      walk_at "go"
      refine ⟨cmul_o (.inl ⟨by omega, by omega⟩), ?_⟩
      walk_at "go"
      refine ⟨cmul_o (.inl ⟨by omega, by omega⟩), ?_⟩
      walk_at "go"
      exact h _
    · walk_at "go"
      refine ⟨cmul_o (.inl ⟨by omega, by omega⟩), ?_⟩
      walk_at "go"
      refine ⟨cmul_o (.inl ⟨by omega, by omega⟩), ?_⟩
      walk_at "go"
      exact h _
theorem ix_in {L : List PyData} {v : Int} {P : PyData → Prop} (hP : ∀ x ∈ L, P x) (h0 : 0 ≤ v) (h1 : v < L.length) : ∃ z, P z ∧ ixD (.list L) v = some z := by
  obtain ⟨n, rfl⟩ : ∃ n : Nat, v = n := ⟨v.toNat, by omega⟩
  have hn : n < L.length := by omega
  exact ⟨L[n], hP _ (List.getElem_mem hn), ix_list hn⟩
def someR : List PyData := [.tuple [.str "let", .str "a", .int 1, .tuple [.str "number", .int 1]], .tuple [.str "set", .str "a", .int 1, .tuple [.str "name", .str "b", .int 3]], .tuple [.str "say", .tuple [.str "number", .int 2]], .tuple [.str "bare"],
  .tuple [.str "read", .str "a", .int 1], .tuple [.str "fault", .tuple [.str "number", .int 3]], .tuple [.str "do", .str "h", .int 1, .tuple []], .none]
def openR : List PyData := [.tuple [.str "if", .tuple [.str "name", .str "a", .int 1]], .tuple [.str "while", .tuple [.str "number", .int 0]], .tuple [.str "block"], .tuple [.str "try"], .tuple [.str "try"],
  .tuple [.str "with", .tuple [.tuple [.str "a", .int 1, .tuple [.str "number", .int 1]]]], .tuple [.str "helper", .str "h", .int 1, .tuple [.tuple [.str "x", .int 3]]]]
def goR : List PyData := [.tuple [.str "else"], .tuple [.str "catch", .str "e", .int 1], .tuple [.str "finally"], .tuple [.str "else"], .tuple [.str "finally"]]
theorem someR_ok : ∀ x ∈ someR, ∃ k, RowOk x k := by
  intro x hx
  simp only [someR, List.mem_cons, List.not_mem_nil, or_false] at hx
  rcases hx with rfl | rfl | rfl | rfl | rfl | rfl | rfl | rfl
  · exact ⟨.let_, ⟨_, rfl⟩, by decide +kernel, by decide +kernel⟩
  · exact ⟨.set, ⟨_, rfl⟩, by decide +kernel, by decide +kernel⟩
  · exact ⟨.say, ⟨_, rfl⟩, by decide +kernel, by decide +kernel⟩
  · exact ⟨.bare, ⟨_, rfl⟩, by decide +kernel, by decide +kernel⟩
  · exact ⟨.read, ⟨_, rfl⟩, by decide +kernel, by decide +kernel⟩
  · exact ⟨.fault, ⟨_, rfl⟩, by decide +kernel, by decide +kernel⟩
  · exact ⟨.do_, ⟨_, rfl⟩, by decide +kernel, by decide +kernel⟩
  · exact ⟨.none, rfl, by decide +kernel, by decide +kernel⟩
theorem openR_ok : ∀ x ∈ openR, ∃ k, RowOk x k := by
  intro x hx
  simp only [openR, List.mem_cons, List.not_mem_nil, or_false] at hx
  rcases hx with rfl | rfl | rfl | rfl | rfl | rfl | rfl
  · exact ⟨.if_, ⟨_, rfl⟩, by decide +kernel, by decide +kernel⟩
  · exact ⟨.while_, ⟨_, rfl⟩, by decide +kernel, by decide +kernel⟩
  · exact ⟨.block, ⟨_, rfl⟩, by decide +kernel, by decide +kernel⟩
  · exact ⟨.try_, ⟨_, rfl⟩, by decide +kernel, by decide +kernel⟩
  · exact ⟨.try_, ⟨_, rfl⟩, by decide +kernel, by decide +kernel⟩
  · exact ⟨.with_, ⟨_, rfl⟩, by decide +kernel, by decide +kernel⟩
  · exact ⟨.helper, ⟨_, rfl⟩, by decide +kernel, by decide +kernel⟩
theorem goR_ok : ∀ x ∈ goR, ∃ k, RowOk x k := by
  intro x hx
  simp only [goR, List.mem_cons, List.not_mem_nil, or_false] at hx
  rcases hx with rfl | rfl | rfl | rfl | rfl
  · exact ⟨.else_, ⟨_, rfl⟩, by decide +kernel, by decide +kernel⟩
  · exact ⟨.catch_, ⟨_, rfl⟩, by decide +kernel, by decide +kernel⟩
  · exact ⟨.finally_, ⟨_, rfl⟩, by decide +kernel, by decide +kernel⟩
  · exact ⟨.else_, ⟨_, rfl⟩, by decide +kernel, by decide +kernel⟩
  · exact ⟨.finally_, ⟨_, rfl⟩, by decide +kernel, by decide +kernel⟩
theorem pure_law_row : ∀ args o ret exc, S_law_row args o ret exc → w_law_row (fun x s => exc x (cutL o.length s.o)) (pst0 args o 5) (bodyE o.length ret) := by
  rintro _ _ ret exc ⟨c, rfl, rfl, h⟩
  walk_at "go"
  refine br_s _ rfl (fun _ => ?_) (fun _ => ?_)
  · walk_at "go"
    obtain ⟨z, ⟨k, hk⟩, hz⟩ := ix_in (v := c / 16 % 8) someR_ok (by omega) (show c / 16 % 8 < (8 : Int) by omega)
    exact ⟨z, hz, h _ _ hk⟩
  walk_at "go"
  refine br_s _ rfl (fun _ => ?_) (fun _ => ?_)
  · walk_at "go"
    obtain ⟨z, ⟨k, hk⟩, hz⟩ := ix_in (v := c / 16 % 7) openR_ok (by omega) (show c / 16 % 7 < (7 : Int) by omega)
    exact ⟨z, hz, h _ _ hk⟩
  walk_at "go"
  refine br_s _ rfl (fun _ => ?_) (fun _ => ?_)
  · walk_at "go"
    obtain ⟨z, ⟨k, hk⟩, hz⟩ := ix_in (v := c / 16 % 5) goR_ok (by omega) (show c / 16 % 5 < (5 : Int) by omega)
    exact ⟨z, hz, h _ _ hk⟩
  walk_at "go"
  exact h _ .end_ ⟨⟨_, rfl⟩, by decide +kernel, by decide +kernel⟩
theorem RowsOk.nil : RowsOk [] [] := ⟨⟨rfl, fun i d k h => by simp at h⟩, fun d m => nomatch m⟩
theorem RowsOk.app {ds es : List PyData} {ks js : List Wk} (h : RowsOk ds ks) (g : RowsOk es js) : RowsOk (ds ++ es) (ks ++ js) := by
  refine ⟨⟨by rw [List.length_append, List.length_append, h.1.1, g.1.1], fun i d k h1 h2 => ?_⟩, fun d m => (List.mem_append.mp m).elim (h.2 d) (g.2 d)⟩
  rcases Nat.lt_or_ge i ds.length with hi | hi
  · rw [List.getElem?_append_left hi] at h1
    rw [List.getElem?_append_left (by rw [← h.1.1]; exact hi)] at h2
    exact h.1.2 i d k h1 h2
  · rw [List.getElem?_append_right hi] at h1
    rw [List.getElem?_append_right (by rw [← h.1.1]; exact hi), ← h.1.1] at h2
    exact g.1.2 _ d k h1 h2
theorem RowsOk.one {d : PyData} {k : Wk} (h : RowOk d k) : RowsOk [d] [k] := by
  refine ⟨⟨rfl, fun i a b h1 h2 => ?_⟩, fun a m => ?_⟩
  · cases i with
    | zero => cases h1; cases h2; exact h.1
    | succ i => simp at h1
  · rw [List.mem_singleton] at m
    subst m
    exact h.2
theorem RowsOk.shaped {ds : List PyData} {ks : List Wk} (h : RowsOk ds ks) : SeqAt.shaped (.list ds) = true := shaped_list fun x m => ⟨(h.2 x m).1, by have := (h.2 x m).2; omega⟩
theorem ints_get {lo : Int} {n j : Nat} {x : PyData} (h : (intsD lo n)[j]? = some x) : j < n ∧ x = .int (lo + (j : Nat)) := by
  have hj := lt_of_at h
  rw [take_intD] at hj
  unfold intsD at h
  rw [List.getElem?_map, List.getElem?_range hj] at h
  exact ⟨hj, (Option.some.inj h).symm⟩
end KN

namespace KN
open PySem L2 PW
local macro_rules
  | `(tactic| walk_at "sz") => `(tactic| first | omega | (simp only [tx_len, List.length_append, List.length_map, List.length_cons, List.length_nil, List.length_take, List.length_drop] <;> omega))
  | `(tactic| walk_at "go") => `(tactic| repeat (first | refine ⟨rfl, ?_⟩ | refine ⟨trivial, ?_⟩ | refine ⟨_, rfl, ?_⟩ | refine ⟨_, rfl, rfl, ?_⟩ | refine ⟨_, _, rfl, rfl, ?_⟩ | refine ⟨_, ix_hd, ?_⟩ | refine br_t rfl ?_ | refine br_f rfl ?_ | (refine ⟨le_sz ?_, ?_⟩; focus walk_at "sz") | (refine ⟨lt_sz ?_, ?_⟩; focus walk_at "sz") | (refine ⟨strLe_tx ?_, ?_⟩; focus walk_at "sz") | refine ⟨cmul_r rfl, ?_⟩ | refine ⟨cmul_l rfl, ?_⟩ | refine ⟨pos_ok rfl, ?_⟩ | refine ⟨cdiv_ok rfl, ?_⟩ | refine ⟨_, _, _, _, rfl, rfl, rfl, rfl, ?_⟩ | refine ⟨_, _, rfl, ?_⟩ | refine ⟨_, _, _, rfl, rfl, rfl, ?_⟩ | refine ⟨_, _, _, rfl, rfl, ?_⟩))
def w_law_rows : SW :=
 (wSeq (wAsg (wCall S_law_cell_at (wCons (wVar 0) (wCons (wC (.int 0)) wNil))) 1)
 (wSeq (wAsg (wMod (wVar 1) (wC (.int 40))) 2)
 (wSeq (wAsg (wLc (wRg1 (wVar 2)) (gN 5) wYes (wCall S_law_row (wCons (wCall S_law_cell_at (wCons (wVar 0) (wCons (wAdd (wC (.int 1)) (wVar 5)) wNil))) wNil)) [5]) 3)
 (wSeq (wIfS (wB (wEq (wMod (wDiv (wVar 1) (wC (.int 40))) (wC (.int 4))) (wC (.int 1))))
  (wSeq (wAsg (wAdd (wC (.int 5)) (wMod (wDiv (wVar 1) (wC (.int 160))) (wC (.int 6)))) 4)
 (wAsg (wCat (wLc (wRg1 (wVar 4)) (gN 5) wYes (wCall S_law_row (wCons (wAdd (wC (.int 3)) (wMul (wC (.int 16)) (wMod (wCall S_law_cell_at (wCons (wVar 0) (wCons (wAdd (wC (.int 50)) (wVar 5)) wNil))) (wC (.int 7))))) wNil)) [5]) (wVar 3)) 3))
  wNext)
 (wRet (wVar 3))))))

theorem pure_law_rows : ∀ args o ret exc, S_law_rows args o ret exc → w_law_rows (fun x s => exc x (cutL o.length s.o)) (pst0 args o 6) (bodyE o.length ret) := by
  rintro _ _ ret exc ⟨ns, rfl, rfl, hn, h⟩
  walk_at "go"
  refine ⟨hn, fun v => ?_⟩
  walk_at "go"
  refine ⟨by omega, by omega, ?_⟩
  refine ⟨fun j acc s => s = (⟨[some (.scr ns), some (.d (.int v)), some (.d (.int (v % 40))), none, none, none], []⟩ : PSt) ∧ ∃ ks, RowsOk acc ks ∧ acc.length = j, ⟨rfl, [], RowsOk.nil, rfl⟩, fun _ _ _ _ _ => trivial, ?_, ?_⟩
  · rintro j x acc s2 hx ho ⟨rfl, ks, hok, hlen⟩
    obtain ⟨hj, rfl⟩ := ints_get hx
    clear hx ho
    have hj2 : j < 40 := by omega
    have e1 : (1 + (0 + (j : Int))) = ((1 + j : Nat) : Int) := by omega
    walk_at "go"
    refine ⟨hn, fun v2 => ?_⟩
    walk_at "go"
    intro d k hk
    walk_at "go"
    exact ⟨_, hok.app (RowsOk.one hk), by rw [List.length_append, hlen]; rfl⟩
  rintro acc s2 ho ⟨rfl, ks, hok, hlen⟩
  rw [take_intD] at hlen
  clear ho
  have hl1 : acc.length < 40 := by omega
  walk_at "go"
  refine br_s _ rfl (fun _ => ?_) (fun _ => ?_)
  · walk_at "go"
    refine ⟨by omega, by omega, ?_⟩
    refine ⟨fun j acc2 s => s = (⟨[some (.scr ns), some (.d (.int v)), some (.d (.int (v % 40))), some (.own 0), some (.d (.int (5 + v / 160 % 6))), none], [.dl acc]⟩ : PSt) ∧ ∃ ks, RowsOk acc2 ks ∧ acc2.length = j, ⟨rfl, [], RowsOk.nil, rfl⟩, fun _ _ _ _ _ => trivial, ?_, ?_⟩
    · rintro j x acc2 s2 hx ho ⟨rfl, ks2, hok2, hlen2⟩
      obtain ⟨hj, rfl⟩ := ints_get hx
      clear hx ho
      have hj2 : j < 40 := by omega
      walk_at "go"
      refine ⟨hn, fun v2 => ?_⟩
      walk_at "go"
      intro d k hk
      walk_at "go"
      exact ⟨_, hok2.app (RowsOk.one hk), by rw [List.length_append, hlen2]; rfl⟩
    · rintro acc2 s2 ho ⟨rfl, ks2, hok2, hlen2⟩
      rw [take_intD] at hlen2
      clear ho
      have hl2 : acc2.length < 20 := by omega
      walk_at "go"
      exact ⟨Nat.zero_le _, _, rfl, h _ _ (hok2.app hok) (by rw [List.length_append]; omega)⟩
  · walk_at "go"
    exact ⟨Nat.zero_le _, _, rfl, h _ _ hok (by omega)⟩
end KN

namespace KN
open PySem L2 PW
/-! ### the nodes by going down -/
def Role.s : Role → Str
  | .row => "row" | .fence => "fence" | .opens _ => "opens" | .goes _ => "goes" | .ends => "ends"
def Role.d (r : Role) : PyData := .str r.s
def stepW : Role → List Ws → List Ws
  | .opens t, st => t :: st
  | .goes t, _ :: st => t :: st
  | .ends, _ :: st => st
  | _, st => st
def rolesW : List Wk → List Ws → List Role
  | [], _ => []
  | k :: r, st => roleOf (st.headD .bot) st.length k :: rolesW r (stepW (roleOf (st.headD .bot) st.length k) st)
def runR : List Role → Nat → List Fm → List Fm
  | [], _, st => st
  | ro :: r, p, st => runR r (p + 1) (stepN (p : Nat) ro st)
theorem add_ws (x : Nd) : ∀ st : List Fm, (addT x st).map Fm.ws = st.map Fm.ws
  | [] => rfl
  | _ :: _ => rfl
theorem step_ws (u : Int) (r : Role) : ∀ st : List Fm, (stepN u r st).map Fm.ws = stepW r (st.map Fm.ws) := fun st => by
  cases r with
  | row => exact add_ws _ _
  | fence => exact add_ws _ _
  | opens t => rfl
  | goes t => cases st <;> rfl
  | ends => cases st with
    | nil => rfl
    | cons f q => exact add_ws _ _
theorem top_ws : ∀ st : List Fm, topW st = (st.map Fm.ws).headD .bot
  | [] => rfl
  | _ :: _ => rfl
theorem run_roles : ∀ (ks : List Wk) (p : Nat) (st : List Fm), runN ks (p : Nat) st = runR (rolesW ks (st.map Fm.ws)) p st
  | [], _, _ => rfl
  | k :: r, p, st => by
    show runN r ((p : Int) + 1) (stepN p (roleOf (topW st) st.length k) st) = _
    have e : ((p : Int) + 1) = ((p + 1 : Nat) : Int) := by omega
    rw [e, run_roles r (p + 1), step_ws, top_ws]
    show _ = runR (roleOf ((st.map Fm.ws).headD .bot) (st.map Fm.ws).length k :: rolesW r (stepW (roleOf ((st.map Fm.ws).headD .bot) (st.map Fm.ws).length k) (st.map Fm.ws))) p st
    rw [List.length_map]
    rfl
def Val : List Role → Nat → Prop
  | [], _ => True
  | .opens _ :: r, d => d ≤ 8 ∧ Val r (d + 1)
  | .goes _ :: r, d => 1 < d ∧ Val r d
  | .ends :: r, d => 1 < d ∧ Val r (d - 1)
  | .row :: r, d => Val r d
  | .fence :: r, d => Val r d
def BotW : List Ws → Prop
  | [] => False
  | [t] => t = .bot
  | _ :: r => BotW r
theorem botW_up (t : Ws) : ∀ {st : List Ws}, BotW st → BotW (t :: st)
  | [], h => h.elim
  | _ :: _, h => h
theorem role_opens {t : Ws} {n : Nat} {k : Wk} {t' : Ws} (h : roleOf t n k = .opens t') : n ≤ 8 := by
  unfold roleOf at h
  split at h
  · split at h
    · assumption
    · cases h
  · split at h
    · cases h
    · split at h
      · cases h
      · cases k <;> cases h
theorem role_goes {n : Nat} {k : Wk} {t' : Ws} : roleOf .bot n k ≠ .goes t' := fun h => by
  unfold roleOf at h
  split at h
  · split at h <;> cases h
  · rw [goes_bot] at h
    simp only at h
    split at h
    · cases h
    · cases k <;> cases h
theorem val_roles : ∀ (ks : List Wk) (st : List Ws), BotW st → Val (rolesW ks st) st.length
  | [], _, _ => trivial
  | k :: r, [], h => h.elim
  | k :: r, [t], h => by
    have h : t = .bot := h
    subst h
    show Val (roleOf .bot 1 k :: rolesW r (stepW (roleOf .bot 1 k) [.bot])) 1
    generalize e : roleOf .bot 1 k = ro
    cases ro with
    | row => exact val_roles r [.bot] rfl
    | fence => exact val_roles r [.bot] rfl
    | opens t' => exact ⟨by decide, val_roles r [t', .bot] rfl⟩
    | goes t' => exact (role_goes e).elim
    | ends => exact absurd (role_ends e) (by decide)
  | k :: r, t :: t2 :: st, h => by
    show Val (roleOf t (st.length + 2) k :: rolesW r (stepW (roleOf t (st.length + 2) k) (t :: t2 :: st))) (st.length + 2)
    generalize e : roleOf t (st.length + 2) k = ro
    cases ro with
    | row => exact val_roles r (t :: t2 :: st) h
    | fence => exact val_roles r (t :: t2 :: st) h
    | opens t' => exact ⟨role_opens e, val_roles r (t' :: t :: t2 :: st) h⟩
    | goes t' => exact ⟨by omega, val_roles r (t' :: t2 :: st) h⟩
    | ends => exact ⟨by omega, val_roles r (t2 :: st) h⟩
inductive B : Bool → List Role → Nat → List Nd → List Pt → Option Int → List Role → Nat → Prop
  | nil (p : Nat) : B false [] p [] [] none [] p
  | ends (R : List Role) (p : Nat) : B false (.ends :: R) p [] [] none (.ends :: R) p
  | goes (t : Ws) (R : List Role) (p : Nat) : B false (.goes t :: R) p [] [] none (.goes t :: R) p
  | row {R : List Role} {p : Nat} {ns : List Nd} {R' : List Role} {p' : Nat} : B false R (p + 1) ns [] none R' p' → B false (.row :: R) p (.row (p : Nat) :: ns) [] none R' p'
  | fence {R : List Role} {p : Nat} {ns : List Nd} {R' : List Role} {p' : Nat} : B false R (p + 1) ns [] none R' p' → B false (.fence :: R) p (.fence (p : Nat) :: ns) [] none R' p'
  | nest {t : Ws} {R : List Role} {p : Nat} {ps : List Pt} {last : Option Int} {R1 : List Role} {p1 : Nat} {ns : List Nd} {R' : List Role} {p' : Nat} : B true (.opens t :: R) p [] ps last R1 p1 → B false R1 p1 ns [] none R' p' → B false (.opens t :: R) p (.nest ps last :: ns) [] none R' p'
  | more {ro : Role} {R : List Role} {p : Nat} {inner : List Nd} {t : Ws} {R1 : List Role} {p1 : Nat} {ps : List Pt} {last : Option Int} {R2 : List Role} {p2 : Nat} : B false R (p + 1) inner [] none (.goes t :: R1) p1 → B true (.goes t :: R1) p1 [] ps last R2 p2 → B true (ro :: R) p [] (.mk (p : Nat) inner :: ps) last R2 p2
  | last {ro : Role} {R : List Role} {p : Nat} {inner : List Nd} {R1 : List Role} {p1 : Nat} : B false R (p + 1) inner [] none (.ends :: R1) p1 → B true (ro :: R) p [] [.mk (p : Nat) inner] (some (p1 : Nat)) R1 (p1 + 1)
  | open_ {ro : Role} {R : List Role} {p : Nat} {inner : List Nd} {p1 : Nat} : B false R (p + 1) inner [] none [] p1 → B true (ro :: R) p [] [.mk (p : Nat) inner] none [] (p1 + 1)
def Fm.addL (f : Fm) (ns : List Nd) : Fm := ⟨f.ws, f.dn, f.u, f.cur ++ ns⟩
theorem addL_nil (f : Fm) : f.addL [] = f := by unfold Fm.addL; rw [List.append_nil]
theorem addL_cons (f : Fm) (x : Nd) (ns : List Nd) : f.addL (x :: ns) = (f.add x).addL ns := by unfold Fm.addL Fm.add; simp
theorem link {m : Bool} {R : List Role} {p : Nat} {ns : List Nd} {ps : List Pt} {last : Option Int} {R' : List Role} {p' : Nat} (h : B m R p ns ps last R' p') :
    (m = false → ∀ f st, finL (runR R p (f :: st)) = finL (runR R' p' (f.addL ns :: st))) ∧
    (m = true → ∀ t dn f st, finL (runR R.tail (p + 1) (⟨t, dn, (p : Nat), []⟩ :: f :: st)) = finL (runR R' p' (f.add (.nest (dn ++ ps) last) :: st))) := by
  induction h with
  | nil p => exact ⟨fun _ f st => by rw [addL_nil], fun z => nomatch z⟩
  | ends R p => exact ⟨fun _ f st => by rw [addL_nil], fun z => nomatch z⟩
  | goes t R p => exact ⟨fun _ f st => by rw [addL_nil], fun z => nomatch z⟩
  | @row R p ns R' p' _ ih => exact ⟨fun _ f st => by rw [addL_cons]; exact ih.1 rfl _ st, fun z => nomatch z⟩
  | @fence R p ns R' p' _ ih => exact ⟨fun _ f st => by rw [addL_cons]; exact ih.1 rfl _ st, fun z => nomatch z⟩
  | @nest t R p ps last R1 p1 ns R' p' _ _ i1 i2 =>
    exact ⟨fun _ f st => by rw [addL_cons, ← i2.1 rfl (f.add (.nest ps last)) st]; exact i1.2 rfl t [] f st, fun z => nomatch z⟩
  | @more ro R p inner t R1 p1 ps last R2 p2 _ _ i1 i2 =>
    refine ⟨(fun z => nomatch z), fun _ t0 dn f st => ?_⟩
    show finL (runR R (p + 1) _) = _
    rw [i1.1 rfl]
    have := i2.2 rfl t (dn ++ [.mk (p : Nat) inner]) f st
    rw [List.append_assoc] at this
    exact this
  | @last ro R p inner R1 p1 _ i1 =>
    refine ⟨(fun z => nomatch z), fun _ t0 dn f st => ?_⟩
    show finL (runR R (p + 1) _) = _
    rw [i1.1 rfl]
    rfl
  | @open_ ro R p inner p1 _ i1 =>
    refine ⟨(fun z => nomatch z), fun _ t0 dn f st => ?_⟩
    show finL (runR R (p + 1) _) = _
    rw [i1.1 rfl]
    rfl
theorem B.val {m : Bool} {R : List Role} {p : Nat} {ns : List Nd} {ps : List Pt} {last : Option Int} {R' : List Role} {p' : Nat} (h : B m R p ns ps last R' p') :
    (m = false → ∀ d, Val R d → Val R' d) ∧ (m = true → ∀ d, Val R.tail (d + 1) → Val R' d) := by
  induction h with
  | nil p => exact ⟨fun _ d v => v, fun z => nomatch z⟩
  | ends R p => exact ⟨fun _ d v => v, fun z => nomatch z⟩
  | goes t R p => exact ⟨fun _ d v => v, fun z => nomatch z⟩
  | row _ ih => exact ⟨fun _ d v => ih.1 rfl d v, fun z => nomatch z⟩
  | fence _ ih => exact ⟨fun _ d v => ih.1 rfl d v, fun z => nomatch z⟩
  | nest _ _ i1 i2 => exact ⟨fun _ d v => i2.1 rfl d (i1.2 rfl d v.2), fun z => nomatch z⟩
  | more _ _ i1 i2 => exact ⟨(fun z => nomatch z), fun _ d v => i2.2 rfl d (i1.1 rfl (d + 1) v).2⟩
  | last _ i1 => exact ⟨(fun z => nomatch z), fun _ d v => (i1.1 rfl (d + 1) v).2⟩
  | open_ _ i1 => exact ⟨(fun z => nomatch z), fun _ d v => trivial⟩
theorem B.le {m : Bool} {R : List Role} {p : Nat} {ns : List Nd} {ps : List Pt} {last : Option Int} {R' : List Role} {p' : Nat} (h : B m R p ns ps last R' p') : p ≤ p' := by
  induction h <;> omega
theorem B.len {m : Bool} {R : List Role} {p : Nat} {ns : List Nd} {ps : List Pt} {last : Option Int} {R' : List Role} {p' : Nat} (h : B m R p ns ps last R' p') : ns.length + ps.length + p + m.toNat ≤ p' := by
  induction h <;> simp only [List.length_cons, List.length_nil, Bool.toNat_true, Bool.toNat_false] at * <;> omega
theorem nodes_built {ks : List Wk} {ns : List Nd} {R' : List Role} {p' : Nat} (h : B false (rolesW ks [.bot]) 0 ns [] none R' p') : nodesM ks = ns := by
  have v := (h.val.1 rfl 1 (val_roles ks [.bot] rfl))
  have hs : R' = [] := by
    have key : ∀ {m : Bool} {R : List Role} {p : Nat} {ns : List Nd} {ps : List Pt} {last : Option Int} {R' : List Role} {p' : Nat}, B m R p ns ps last R' p' → m = false → (R' = [] ∨ (∃ q, R' = .ends :: q) ∨ ∃ t q, R' = .goes t :: q) := fun h => by
      induction h with
      | nil p => exact fun _ => .inl rfl
      | ends R p => exact fun _ => .inr (.inl ⟨_, rfl⟩)
      | goes t R p => exact fun _ => .inr (.inr ⟨_, _, rfl⟩)
      | row _ ih => exact ih
      | fence _ ih => exact ih
      | nest _ _ _ i2 => exact i2
      | more _ _ _ _ => exact fun z => nomatch z
      | last _ _ => exact fun z => nomatch z
      | open_ _ _ => exact fun z => nomatch z
    rcases key h rfl with e | ⟨q, e⟩ | ⟨t, q, e⟩
    · exact e
    · rw [e] at v; exact absurd v.1 (by decide)
    · rw [e] at v; exact absurd v.1 (by decide)
  subst hs
  have e := h
  have l := (link h).1 rfl bot []
  unfold nodesM
  have e2 : runN ks 0 [bot] = runR (rolesW ks [.bot]) 0 [bot] := run_roles ks 0 [bot]
  rw [e2, l]
  rfl
/-- data of nodes -/
def Pln : Nat → PyData → Prop
  | _, .int _ => True
  | _, .str s => PyData.strOk s = true
  | _, .none => True
  | n + 1, .tuple xs => xs.length ≤ 100000 ∧ ∀ x ∈ xs, Pln n x
  | _, _ => False
theorem Pln.up : ∀ {n : Nat} {x : PyData}, Pln n x → Pln (n + 1) x
  | 0, .int _, _ => trivial
  | 0, .str _, h => h
  | 0, .none, _ => trivial
  | 0, .tuple _, h => (show False from h).elim
  | 0, .list _, h => (show False from h).elim
  | 0, .bool _, h => (show False from h).elim
  | n + 1, .int _, _ => trivial
  | n + 1, .str _, h => h
  | n + 1, .none, _ => trivial
  | n + 1, .tuple xs, h => ⟨h.1, fun x m => Pln.up (h.2 x m)⟩
  | n + 1, .list _, h => (show False from h).elim
  | n + 1, .bool _, h => (show False from h).elim
theorem Pln.ge {n : Nat} {x : PyData} (h : Pln n x) : ∀ k, Pln (n + k) x
  | 0 => h
  | k + 1 => Pln.up (Pln.ge h k)
theorem Pln.mono {n m : Nat} {x : PyData} (h : Pln n x) (e : n ≤ m) : Pln m x := by
  obtain ⟨k, rfl⟩ := Nat.exists_eq_add_of_le e
  exact h.ge k
theorem depthAll_le {n : Nat} : ∀ {xs : List PyData}, (∀ x ∈ xs, x.depth ≤ n) → PyData.depthAll xs ≤ n
  | [], _ => Nat.zero_le _
  | x :: r, h => by
    have h1 := h x List.mem_cons_self
    have h2 := depthAll_le fun y m => h y (List.mem_cons_of_mem _ m)
    rw [PyData.depthAll]
    omega
theorem layAll_of : ∀ {xs : List PyData}, (∀ x ∈ xs, x.canLay0 = true) → PyData.canLayAll0 xs = true
  | [], _ => rfl
  | x :: r, h => by
    rw [PyData.canLayAll0, h x List.mem_cons_self, layAll_of fun y m => h y (List.mem_cons_of_mem _ m)]
    rfl
theorem Pln.lay : ∀ {n : Nat} {x : PyData}, Pln n x → x.canLay0 = true ∧ x.depth ≤ n + 1
  | _, .int _, _ => ⟨rfl, by simp [PyData.depth]⟩
  | _, .str s, h => ⟨by cases ‹Nat› <;> exact h, by simp [PyData.depth]⟩
  | _, .none, _ => ⟨rfl, by simp [PyData.depth]⟩
  | 0, .tuple _, h => (show False from h).elim
  | 0, .list _, h => (show False from h).elim
  | 0, .bool _, h => (show False from h).elim
  | 0, .dict _, h => (show False from h).elim
  | n + 1, .dict _, h => (show False from h).elim
  | n + 1, .tuple xs, h => by
    have ih : ∀ x ∈ xs, x.canLay0 = true ∧ x.depth ≤ n + 1 := fun x m => Pln.lay (h.2 x m)
    refine ⟨?_, ?_⟩
    · rw [PyData.canLay0]; exact layAll_of fun x m => (ih x m).1
    · rw [PyData.depth]
      have := depthAll_le fun x m => (ih x m).2
      omega
  | n + 1, .list _, h => (show False from h).elim
  | n + 1, .bool _, h => (show False from h).elim
theorem B.cnt {m : Bool} {R : List Role} {p : Nat} {ns : List Nd} {ps : List Pt} {last : Option Int} {R' : List Role} {p' : Nat} (h : B m R p ns ps last R' p') : ns.length + ps.length + R'.length ≤ R.length ∧ (m = true → 1 ≤ ps.length) := by
  induction h with
  | nil p => exact ⟨by simp, fun z => nomatch z⟩
  | ends R p => exact ⟨by simp, fun z => nomatch z⟩
  | goes t R p => exact ⟨by simp, fun z => nomatch z⟩
  | row _ ih => exact ⟨by have := ih.1; simp only [List.length_cons, List.length_nil] at *; omega, fun z => nomatch z⟩
  | fence _ ih => exact ⟨by have := ih.1; simp only [List.length_cons, List.length_nil] at *; omega, fun z => nomatch z⟩
  | nest _ _ i1 i2 => exact ⟨by have := i1.1; have := i2.1; have := i1.2 rfl; simp only [List.length_cons, List.length_nil] at *; omega, fun z => nomatch z⟩
  | more _ _ i1 i2 => exact ⟨by have := i1.1; have := i2.1; simp only [List.length_cons, List.length_nil] at *; omega, fun _ => by simp⟩
  | last _ i1 => exact ⟨by have := i1.1; simp only [List.length_cons, List.length_nil] at *; omega, fun _ => by simp⟩
  | open_ _ i1 => exact ⟨by have := i1.1; simp only [List.length_cons, List.length_nil] at *; omega, fun _ => by simp⟩
theorem ndsD_ln (l : List Nd) : (ndsD l).length = l.length := by rw [ndsD_map, List.length_map]
theorem ptsD_ln (l : List Pt) : (ptsD l).length = l.length := by rw [ptsD_map, List.length_map]
theorem pln_nodes {m : Bool} {R : List Role} {p : Nat} {ns : List Nd} {ps : List Pt} {last : Option Int} {R' : List Role} {p' : Nat} (h : B m R p ns ps last R' p') :
    (m = false → ∀ d, Val R d → d ≤ 9 → R.length ≤ 50000 → ∀ x ∈ ndsD ns, Pln (4 * (9 - d) + 1) x) ∧ (m = true → ∀ d, Val R.tail (d + 1) → d ≤ 8 → R.length ≤ 50000 → ∀ x ∈ ptsD ps, Pln (4 * (9 - (d + 1)) + 3) x) := by
  induction h with
  | nil p => exact ⟨(fun _ d v _ _ x m => nomatch m), fun z => nomatch z⟩
  | ends R p => exact ⟨(fun _ d v _ _ x m => nomatch m), fun z => nomatch z⟩
  | goes t R p => exact ⟨(fun _ d v _ _ x m => nomatch m), fun z => nomatch z⟩
  | row _ ih =>
    refine ⟨fun _ d v hd hR x m => ?_, fun z => nomatch z⟩
    rcases List.mem_cons.mp m with e | m
    · subst e
      refine ⟨by simp, fun y hy => ?_⟩
      simp only [List.mem_cons, List.not_mem_nil, or_false] at hy
      rcases hy with rfl | rfl
      · exact Pln.mono (n := 0) (show PyData.strOk "row" = true by decide +kernel) (Nat.zero_le _)
      · exact Pln.mono (n := 0) trivial (Nat.zero_le _)
    · exact ih.1 rfl d v hd (by simp at hR; omega) x m
  | fence _ ih =>
    refine ⟨fun _ d v hd hR x m => ?_, fun z => nomatch z⟩
    rcases List.mem_cons.mp m with e | m
    · subst e
      refine ⟨by simp, fun y hy => ?_⟩
      simp only [List.mem_cons, List.not_mem_nil, or_false] at hy
      rcases hy with rfl | rfl
      · exact Pln.mono (n := 0) (show PyData.strOk "fence" = true by decide +kernel) (Nat.zero_le _)
      · exact Pln.mono (n := 0) trivial (Nat.zero_le _)
    · exact ih.1 rfl d v hd (by simp at hR; omega) x m
  | @nest t R p ps last R1 p1 ns R' p' h1 h2 i1 i2 =>
    refine ⟨fun _ d v hd hR x m => ?_, fun z => nomatch z⟩
    rcases List.mem_cons.mp m with e | m
    · subst e
      have hd8 : d ≤ 8 := v.1
      have hps := i1.2 rfl d v.2 hd8 hR
      have c1 := h1.cnt.1
      rw [ndD]
      obtain ⟨n, hn⟩ : ∃ n, 4 * (9 - d) + 1 = n + 2 := ⟨4 * (9 - d) - 1, by omega⟩
      rw [hn]
      refine ⟨by simp, fun y hy => ?_⟩
      simp only [List.mem_cons, List.not_mem_nil, or_false] at hy
      rcases hy with rfl | rfl | rfl
      · exact Pln.mono (n := 0) (show PyData.strOk "nest" = true by decide +kernel) (Nat.zero_le _)
      · exact ⟨by rw [ptsD_ln]; simp at c1 hR; omega, fun z hz => (hps z hz).mono (by omega)⟩
      · cases last with
        | none => exact trivial
        | some i => exact trivial
    · have c1 := h1.cnt.1
      exact i2.1 rfl d (h1.val.2 rfl d v.2) hd (by simp at c1 hR; omega) x m
  | @more ro R p inner t R1 p1 ps last R2 p2 h1 h2 i1 i2 =>
    refine ⟨(fun z => nomatch z), fun _ d v hd hR x m => ?_⟩
    have hin := i1.1 rfl (d + 1) v (by omega) (by simp at hR ⊢; omega)
    have c1 := h1.cnt.1
    rcases List.mem_cons.mp m with e | m
    · subst e
      refine ⟨by simp, fun y hy => ?_⟩
      simp only [List.mem_cons, List.not_mem_nil, or_false] at hy
      rcases hy with rfl | rfl
      · exact trivial
      · exact ⟨by rw [ndsD_ln]; simp at c1 hR; omega, fun z hz => (hin z hz).mono (by omega)⟩
    · exact i2.2 rfl d (h1.val.1 rfl (d + 1) v).2 hd (by simp at c1 hR ⊢; omega) x m
  | @last ro R p inner R1 p1 h1 i1 =>
    refine ⟨(fun z => nomatch z), fun _ d v hd hR x m => ?_⟩
    have hin := i1.1 rfl (d + 1) v (by omega) (by simp at hR ⊢; omega)
    have c1 := h1.cnt.1
    rcases List.mem_cons.mp m with e | m
    · subst e
      refine ⟨by simp, fun y hy => ?_⟩
      simp only [List.mem_cons, List.not_mem_nil, or_false] at hy
      rcases hy with rfl | rfl
      · exact trivial
      · exact ⟨by rw [ndsD_ln]; simp at c1 hR; omega, fun z hz => (hin z hz).mono (by omega)⟩
    · cases m
  | @open_ ro R p inner p1 h1 i1 =>
    refine ⟨(fun z => nomatch z), fun _ d v hd hR x m => ?_⟩
    have hin := i1.1 rfl (d + 1) v (by omega) (by simp at hR ⊢; omega)
    have c1 := h1.cnt.1
    rcases List.mem_cons.mp m with e | m
    · subst e
      refine ⟨by simp, fun y hy => ?_⟩
      simp only [List.mem_cons, List.not_mem_nil, or_false] at hy
      rcases hy with rfl | rfl
      · exact trivial
      · exact ⟨by rw [ndsD_ln]; simp at c1 hR; omega, fun z hz => (hin z hz).mono (by omega)⟩
    · cases m
end KN

namespace KN
open PySem L2 PW
/-! ### whole programs: by nodes and by roles -/
def tryHd (tr : Int → Bool) : List Pt → Bool
  | .mk u _ :: _ => tr u
  | [] => false
mutual
def whN (tr : Int → Bool) : Nd → Bool
  | .row _ => true
  | .fence _ => false
  | .nest ps last => (last.isSome && !(tryHd tr ps && ps.length == 1)) && whP tr ps
def whL (tr : Int → Bool) : List Nd → Bool
  | [] => true
  | n :: r => whN tr n && whL tr r
def whP (tr : Int → Bool) : List Pt → Bool
  | [] => true
  | p :: r => whT tr p && whP tr r
def whT (tr : Int → Bool) : Pt → Bool
  | .mk _ ns => whL tr ns
end

mutual
def uoN : Nd → Nat
  | .row _ => 0
  | .fence _ => 0
  | .nest ps last => (if last.isSome then 0 else 1) + uoP ps
def uoL : List Nd → Nat
  | [] => 0
  | n :: r => uoN n + uoL r
def uoP : List Pt → Nat
  | [] => 0
  | p :: r => uoT p + uoP r
def uoT : Pt → Nat
  | .mk _ ns => uoL ns
end
def isOp : Role → Bool
  | .opens _ => true
  | _ => false
def isEn : Role → Bool
  | .ends => true
  | _ => false
def isFe : Role → Bool
  | .fence => true
  | _ => false
def nO (R : List Role) : Nat := R.countP isOp
def nE (R : List Role) : Nat := R.countP isEn
theorem nO_op {t : Ws} {R : List Role} : nO (.opens t :: R) = nO R + 1 := List.countP_cons_of_pos rfl
theorem nE_op {t : Ws} {R : List Role} : nE (.opens t :: R) = nE R := by simp [nE, isEn]
theorem nO_go {t : Ws} {R : List Role} : nO (.goes t :: R) = nO R := by simp [nO, isOp]
theorem nE_go {t : Ws} {R : List Role} : nE (.goes t :: R) = nE R := by simp [nE, isEn]
theorem nO_en {R : List Role} : nO (.ends :: R) = nO R := by simp [nO, isOp]
theorem nE_en {R : List Role} : nE (.ends :: R) = nE R + 1 := List.countP_cons_of_pos rfl
theorem B.ct {m : Bool} {R : List Role} {p : Nat} {ns : List Nd} {ps : List Pt} {last : Option Int} {R' : List Role} {p' : Nat} (h : B m R p ns ps last R' p') :
    (m = false → nO R + nE R' = nE R + uoL ns + nO R') ∧ (m = true → nO R.tail + 1 + nE R' = nE R.tail + (uoP ps + if last.isSome then 0 else 1) + nO R') := by
  induction h with
  | nil p => exact ⟨fun _ => by simp [uoL, nO, nE], fun z => nomatch z⟩
  | ends R p => exact ⟨fun _ => by simp [uoL]; omega, fun z => nomatch z⟩
  | goes t R p => exact ⟨fun _ => by simp [uoL]; omega, fun z => nomatch z⟩
  | row _ ih =>
    refine ⟨fun _ => ?_, fun z => nomatch z⟩
    have := ih.1 rfl
    simp [nO, nE, isOp, isEn, uoL, uoN] at this ⊢
    omega
  | fence _ ih =>
    refine ⟨fun _ => ?_, fun z => nomatch z⟩
    have := ih.1 rfl
    simp [nO, nE, isOp, isEn, uoL, uoN] at this ⊢
    omega
  | @nest t R p ps last R1 p1 ns R' p' _ _ i1 i2 =>
    refine ⟨fun _ => ?_, fun z => nomatch z⟩
    have a : nO R + 1 + nE R1 = nE R + (uoP ps + if last.isSome then 0 else 1) + nO R1 := i1.2 rfl
    have b := i2.1 rfl
    rw [nO_op, nE_op]
    show _ = nE R + (((if last.isSome then 0 else 1) + uoP ps) + uoL ns) + _
    omega
  | @more ro R p inner t R1 p1 ps last R2 p2 _ _ i1 i2 =>
    refine ⟨(fun z => nomatch z), fun _ => ?_⟩
    have a := i1.1 rfl
    have b : nO R1 + 1 + nE R2 = nE R1 + (uoP ps + if last.isSome then 0 else 1) + nO R2 := i2.2 rfl
    rw [nO_go, nE_go] at a
    show nO R + 1 + _ = nE R + ((uoL inner + uoP ps) + if last.isSome then 0 else 1) + _
    omega
  | @last ro R p inner R1 p1 _ i1 =>
    refine ⟨(fun z => nomatch z), fun _ => ?_⟩
    have a := i1.1 rfl
    rw [nO_en, nE_en] at a
    show nO R + 1 + _ = nE R + ((uoL inner + 0) + 0) + _
    omega
  | @open_ ro R p inner p1 _ i1 =>
    refine ⟨(fun z => nomatch z), fun _ => ?_⟩
    have a := i1.1 rfl
    show nO R + 1 + _ = nE R + ((uoL inner + 0) + 1) + _
    omega
/-- the law's going on from a row -/
def goesF : List Role → Nat → Bool
  | [], _ => false
  | .goes _ :: R, lv => if lv = 1 then true else goesF R lv
  | .opens _ :: R, lv => goesF R (lv + 1)
  | .ends :: R, lv => if lv = 1 then false else goesF R (lv - 1)
  | .row :: R, lv => goesF R lv
  | .fence :: R, lv => goesF R lv
theorem B.gf {m : Bool} {R : List Role} {p : Nat} {ns : List Nd} {ps : List Pt} {last : Option Int} {R' : List Role} {p' : Nat} (h : B m R p ns ps last R' p') :
    (m = false → uoL ns = 0 → ∀ lv, 1 ≤ lv → goesF R lv = goesF R' lv) ∧ (m = true → uoP ps = 0 → last.isSome = true → ∀ lv, 1 ≤ lv → goesF R.tail (lv + 1) = goesF R' lv) := by
  induction h with
  | nil p => exact ⟨fun _ _ _ _ => rfl, fun z => nomatch z⟩
  | ends R p => exact ⟨fun _ _ _ _ => rfl, fun z => nomatch z⟩
  | goes t R p => exact ⟨fun _ _ _ _ => rfl, fun z => nomatch z⟩
  | row _ ih => exact ⟨fun _ e lv hl => ih.1 rfl (by simpa [uoL, uoN] using e) lv hl, fun z => nomatch z⟩
  | fence _ ih => exact ⟨fun _ e lv hl => ih.1 rfl (by simpa [uoL, uoN] using e) lv hl, fun z => nomatch z⟩
  | @nest t R p ps last R1 p1 ns R' p' _ _ i1 i2 =>
    refine ⟨fun _ e lv hl => ?_, fun z => nomatch z⟩
    have e : ((if last.isSome then 0 else 1) + uoP ps) + uoL ns = 0 := e
    have e1 : last.isSome = true := by
      cases last with
      | none => simp at e
      | some i => rfl
    rw [e1] at e
    simp at e
    exact (i1.2 rfl e.1 e1 lv hl).trans (i2.1 rfl e.2 lv hl)
  | @more ro R p inner t R1 p1 ps last R2 p2 _ _ i1 i2 =>
    refine ⟨(fun z => nomatch z), fun _ e l lv hl => ?_⟩
    have e : uoL inner + uoP ps = 0 := e
    have a := i1.1 rfl (by omega) (lv + 1) (by omega)
    have b := i2.2 rfl (by omega) l lv hl
    show goesF R (lv + 1) = _
    rw [a]
    show (if lv + 1 = 1 then true else goesF R1 (lv + 1)) = _
    rw [if_neg (by omega)]
    exact b
  | @last ro R p inner R1 p1 _ i1 =>
    refine ⟨(fun z => nomatch z), fun _ e l lv hl => ?_⟩
    have e : uoL inner + 0 = 0 := e
    have a := i1.1 rfl (by omega) (lv + 1) (by omega)
    show goesF R (lv + 1) = _
    rw [a]
    show (if lv + 1 = 1 then false else goesF R1 (lv + 1 - 1)) = _
    rw [if_neg (by omega)]
    rfl
  | open_ _ _ => exact ⟨(fun z => nomatch z), fun _ _ l => nomatch l⟩
/-- whether a nest has two parts or more -/
theorem B.two {R : List Role} {p : Nat} {ps : List Pt} {last : Option Int} {R' : List Role} {p' : Nat} {m : Bool} {ns : List Nd} (h : B m R p ns ps last R' p') : m = true → uoP ps = 0 → last.isSome = true → goesF R.tail 1 = !(ps.length == 1) := by
  cases h with
  | nil p => exact fun z => nomatch z
  | ends R p => exact fun z => nomatch z
  | goes t R p => exact fun z => nomatch z
  | row _ => exact fun z => nomatch z
  | fence _ => exact fun z => nomatch z
  | nest _ _ => exact fun z => nomatch z
  | @more ro R p inner t R1 p1 ps last R2 p2 h1 h2 =>
    intro _ e l
    have e : uoL inner + uoP ps = 0 := e
    have a := h1.gf.1 rfl (by omega) 1 (by omega)
    show goesF R 1 = _
    rw [a]
    have c := h2.cnt.2 rfl
    cases ps with
    | nil => simp at c
    | cons x r => rfl
  | @last ro R p inner R1 p1 h1 =>
    intro _ e l
    have e : uoL inner + 0 = 0 := e
    have a := h1.gf.1 rfl (by omega) 1 (by omega)
    show goesF R 1 = _
    rw [a]
    rfl
  | open_ _ => exact fun _ _ l => nomatch l

/-- the law's look at the roles -/
def chk (tr : Int → Bool) : List Role → Nat → Bool
  | [], _ => true
  | .opens _ :: R, p => (!tr p || goesF R 1) && chk tr R (p + 1)
  | .fence :: _, _ => false
  | .row :: R, p => chk tr R (p + 1)
  | .goes _ :: R, p => chk tr R (p + 1)
  | .ends :: R, p => chk tr R (p + 1)
theorem B.hd {m : Bool} {R : List Role} {p : Nat} {ns : List Nd} {ps : List Pt} {last : Option Int} {R' : List Role} {p' : Nat} (h : B m R p ns ps last R' p') (tr : Int → Bool) : m = true → tryHd tr ps = tr p := by
  cases h with
  | more _ _ => exact fun _ => rfl
  | last _ => exact fun _ => rfl
  | open_ _ => exact fun _ => rfl
  | _ => exact fun z => nomatch z
theorem B.ck {m : Bool} {R : List Role} {p : Nat} {ns : List Nd} {ps : List Pt} {last : Option Int} {R' : List Role} {p' : Nat} (h : B m R p ns ps last R' p') (tr : Int → Bool) :
    (m = false → uoL ns = 0 → chk tr R p = (whL tr ns && chk tr R' p')) ∧ (m = true → uoP ps = 0 → last.isSome = true → chk tr R.tail (p + 1) = (whP tr ps && chk tr R' p')) := by
  induction h with
  | nil p => exact ⟨fun _ _ => rfl, fun z => nomatch z⟩
  | ends R p => exact ⟨fun _ _ => rfl, fun z => nomatch z⟩
  | goes t R p => exact ⟨fun _ _ => rfl, fun z => nomatch z⟩
  | @row R p ns R' p' _ ih =>
    refine ⟨fun _ e => ?_, fun z => nomatch z⟩
    have e : 0 + uoL ns = 0 := e
    have := ih.1 rfl (by omega)
    show chk tr R (p + 1) = ((true && whL tr ns) && _)
    rw [this, Bool.true_and]
  | @fence R p ns R' p' _ ih => exact ⟨fun _ e => rfl, fun z => nomatch z⟩
  | @nest t R p ps last R1 p1 ns R' p' h1 h2 i1 i2 =>
    refine ⟨fun _ e => ?_, fun z => nomatch z⟩
    have e : ((if last.isSome then 0 else 1) + uoP ps) + uoL ns = 0 := e
    have e1 : last.isSome = true := by
      cases last with
      | none => simp at e
      | some i => rfl
    rw [e1] at e
    simp at e
    have a : chk tr R (p + 1) = (whP tr ps && chk tr R1 p1) := i1.2 rfl e.1 e1
    have b := i2.1 rfl e.2
    have c : goesF R 1 = !(ps.length == 1) := h1.two rfl e.1 e1
    have d := h1.hd tr rfl
    show ((!tr p || goesF R 1) && chk tr R (p + 1)) = ((((last.isSome && !(tryHd tr ps && ps.length == 1)) && whP tr ps) && whL tr ns) && chk tr R' p')
    rw [a, b, c, d, e1]
    cases tr p <;> cases (ps.length == 1) <;> cases whP tr ps <;> cases whL tr ns <;> rfl
  | @more ro R p inner t R1 p1 ps last R2 p2 _ _ i1 i2 =>
    refine ⟨(fun z => nomatch z), fun _ e l => ?_⟩
    have e : uoL inner + uoP ps = 0 := e
    have a := i1.1 rfl (by omega)
    have b : chk tr R1 (p1 + 1) = (whP tr ps && chk tr R2 p2) := i2.2 rfl (by omega) l
    show chk tr R (p + 1) = ((whL tr inner && whP tr ps) && chk tr R2 p2)
    rw [a]
    show (whL tr inner && chk tr R1 (p1 + 1)) = _
    rw [b, Bool.and_assoc]
  | @last ro R p inner R1 p1 _ i1 =>
    refine ⟨(fun z => nomatch z), fun _ e l => ?_⟩
    have e : uoL inner + 0 = 0 := e
    have a := i1.1 rfl (by omega)
    show chk tr R (p + 1) = ((whL tr inner && true) && chk tr R1 (p1 + 1))
    rw [a, Bool.and_true]
    rfl
  | open_ _ _ => exact ⟨(fun z => nomatch z), fun _ _ l => nomatch l⟩
mutual
theorem uo_wh (tr : Int → Bool) : ∀ n : Nd, whN tr n = true → uoN n = 0
  | .row _, _ => rfl
  | .fence _, h => nomatch h
  | .nest ps last, h => by
    rw [whN, Bool.and_eq_true, Bool.and_eq_true] at h
    have := uo_whP tr ps h.2
    rw [uoN, if_pos h.1.1, this]
theorem uo_whL (tr : Int → Bool) : ∀ l : List Nd, whL tr l = true → uoL l = 0
  | [], _ => rfl
  | n :: r, h => by
    rw [whL, Bool.and_eq_true] at h
    rw [uoL, uo_wh tr n h.1, uo_whL tr r h.2]
theorem uo_whP (tr : Int → Bool) : ∀ l : List Pt, whP tr l = true → uoP l = 0
  | [], _ => rfl
  | p :: r, h => by
    rw [whP, Bool.and_eq_true] at h
    rw [uoP, uo_whT tr p h.1, uo_whP tr r h.2]
theorem uo_whT (tr : Int → Bool) : ∀ p : Pt, whT tr p = true → uoT p = 0
  | .mk _ ns, h => by
    rw [whT] at h
    rw [uoT, uo_whL tr ns h]
end
/-- whole by nodes as by roles -/
theorem whole_roles {ks : List Wk} {ns : List Nd} {p' : Nat} (tr : Int → Bool) (h : B false (rolesW ks [.bot]) 0 ns [] none [] p') : whL tr ns = (decide (nO (rolesW ks [.bot]) = nE (rolesW ks [.bot])) && chk tr (rolesW ks [.bot]) 0) := by
  have c := h.ct.1 rfl
  have c : nO (rolesW ks [.bot]) + 0 = nE (rolesW ks [.bot]) + uoL ns + 0 := c
  by_cases e : uoL ns = 0
  · have k := h.ck tr |>.1 rfl e
    have k : chk tr (rolesW ks [.bot]) 0 = (whL tr ns && true) := k
    rw [k, Bool.and_true, decide_eq_true (by omega), Bool.true_and]
  · rw [decide_eq_false (by omega), Bool.false_and]
    cases hw : whL tr ns with
    | false => rfl
    | true => exact absurd (uo_whL tr ns hw) e
end KN

set_option maxRecDepth 80000
namespace KN
open PySem L2 PW
local macro_rules
  | `(tactic| walk_at "sz") => `(tactic| first | omega | (simp only [tx_len, List.length_append, List.length_map, List.length_cons, List.length_nil, List.length_take, List.length_drop] <;> omega))
  | `(tactic| walk_at "go") => `(tactic| repeat (first | refine ⟨rfl, ?_⟩ | refine ⟨trivial, ?_⟩ | refine ⟨_, rfl, ?_⟩ | refine ⟨_, rfl, rfl, ?_⟩ | refine ⟨_, _, rfl, rfl, ?_⟩ | refine ⟨_, ix_hd, ?_⟩ | refine br_t rfl ?_ | refine br_f rfl ?_ | (refine ⟨le_sz ?_, ?_⟩; focus walk_at "sz") | (refine ⟨lt_sz ?_, ?_⟩; focus walk_at "sz") | (refine ⟨strLe_tx ?_, ?_⟩; focus walk_at "sz") | refine ⟨cmul_r rfl, ?_⟩ | refine ⟨cmul_l rfl, ?_⟩ | refine ⟨pos_ok rfl, ?_⟩ | refine ⟨cdiv_ok rfl, ?_⟩ | refine ⟨_, _, _, _, rfl, rfl, rfl, rfl, ?_⟩ | refine ⟨_, _, rfl, ?_⟩ | refine ⟨_, _, _, rfl, rfl, rfl, ?_⟩ | refine ⟨_, _, _, rfl, rfl, ?_⟩))
/-- the head units of nests stand for rows with a word; no deeper than n -/
def HdT (ks : List Wk) : List Pt → Prop
  | .mk u _ :: r => r.length ≤ 60000 ∧ ∃ (p : Nat) (k : Wk), u = (p : Int) ∧ ks[p]? = some k ∧ k ≠ .none
  | [] => False
mutual
def HdN (ks : List Wk) : Nat → Nd → Prop
  | _, .row _ => True
  | _, .fence _ => True
  | 0, .nest _ _ => False
  | n + 1, .nest ps _ => HdT ks ps ∧ HdP ks n ps
def HdL (ks : List Wk) : Nat → List Nd → Prop
  | _, [] => True
  | n, x :: r => HdN ks n x ∧ HdL ks n r
def HdP (ks : List Wk) : Nat → List Pt → Prop
  | _, [] => True
  | n, .mk _ ns :: r => HdL ks n ns ∧ HdP ks n r
end
def trK (ks : List Wk) (u : Int) : Bool := decide (ks[u.toNat]? = some .try_)
def S_are_whole (n : Nat) : FS := fun args o ret exc => ∃ (ns : List Nd) (rows : List PyData) (ks : List Wk) (m : Nat), args = [.d (.tuple (ndsD ns)), .d (.list rows)] ∧ o = [] ∧ Rows rows ks ∧ HdL ks m ns ∧ m < n ∧ ret (.d (.bool (whL (trK ks) ns))) []
def S_is_whole : FS := fun args o ret exc => ∃ (rows : List PyData) (ks : List Wk), args = [.d (.list rows)] ∧ o = [] ∧ Rows rows ks ∧ ks.length ≤ 20000 ∧ HdL ks 9 (nodesM ks) ∧ ret (.d (.bool (whL (trK ks) (nodesM ks)))) []
theorem zero_are_whole : ∀ args o r e, ¬ S_are_whole 0 args o r e := by
  rintro args o r e ⟨ns, rows, ks, m, _, _, _, _, h, _⟩
  omega

def w_are_whole (R_are_whole : FS) : SW :=
 (wSeq (wFor (wTp (wVar 0)) (gN 2)
  (wSeq (wIfS (wB (wEq (wIx (wVar 2) (wC (.int 0))) (wC (.str "fence"))))
  (wRet (wC (.bool false)))
  wNext)
 (wIfS (wB (wEq (wIx (wVar 2) (wC (.int 0))) (wC (.str "nest"))))
  (wSeq (wIfS (wOr (wB (wIsN (wIx (wVar 2) (wC (.int 2))))) (wAnd (wB (wEq (wIx (wIx (wVar 1) (wIx (wIx (wIx (wVar 2) (wC (.int 1))) (wC (.int 0))) (wC (.int 0)))) (wC (.int 0))) (wC (.str "try")))) (wB (wEq (wLen (wIx (wVar 2) (wC (.int 1)))) (wC (.int 1))))))
  (wRet (wC (.bool false)))
  wNext)
 (wIfS (wNot (wB (wAll (wLc (wTp (wIx (wVar 2) (wC (.int 1)))) (gT 2 (gsCons (gN 3) (gsCons (gN 4) gsNil))) wYes (wCall R_are_whole (wCons (wVar 4) (wCons (wVar 1) wNil))) [3, 4]))))
  (wRet (wC (.bool false)))
  wNext))
  wNext)))
 (wRet (wC (.bool true))))
def w_is_whole : SW :=
 (wRet (wCall (S_are_whole 12) (wCons (wCall S_nodes_of (wCons (wVar 0) wNil)) (wCons (wVar 0) wNil))))

theorem pure_is_whole : ∀ args o ret exc, S_is_whole args o ret exc → w_is_whole (fun x s => exc x (cutL o.length s.o)) (pst0 args o 1) (bodyE o.length ret) := by
  rintro _ _ ret exc ⟨rows, ks, rfl, rfl, hR, hl, hh, h⟩
  walk_at "go"
  refine ⟨rows, ks, rfl, rfl, hR, hl, ?_⟩
  walk_at "go"
  refine ⟨nodesM ks, rows, ks, 9, rfl, rfl, hR, hh, by decide, ?_⟩
  exact h
end KN

set_option maxRecDepth 80000
namespace KN
open PySem L2 PW
local macro_rules
  | `(tactic| walk_at "sz") => `(tactic| first | omega | (simp only [tx_len, List.length_append, List.length_map, List.length_cons, List.length_nil, List.length_take, List.length_drop] <;> omega))
  | `(tactic| walk_at "go") => `(tactic| repeat (first | refine ⟨rfl, ?_⟩ | refine ⟨trivial, ?_⟩ | refine ⟨_, rfl, ?_⟩ | refine ⟨_, rfl, rfl, ?_⟩ | refine ⟨_, _, rfl, rfl, ?_⟩ | refine ⟨_, ix_hd, ?_⟩ | refine br_t rfl ?_ | refine br_f rfl ?_ | (refine ⟨le_sz ?_, ?_⟩; focus walk_at "sz") | (refine ⟨lt_sz ?_, ?_⟩; focus walk_at "sz") | (refine ⟨strLe_tx ?_, ?_⟩; focus walk_at "sz") | refine ⟨cmul_r rfl, ?_⟩ | refine ⟨cmul_l rfl, ?_⟩ | refine ⟨pos_ok rfl, ?_⟩ | refine ⟨cdiv_ok rfl, ?_⟩ | refine ⟨_, _, _, _, rfl, rfl, rfl, rfl, ?_⟩ | refine ⟨_, _, rfl, ?_⟩ | refine ⟨_, _, _, rfl, rfl, rfl, ?_⟩ | refine ⟨_, _, _, rfl, rfl, ?_⟩))
/-! ### what is built there always is -/
theorem B.stop {m : Bool} {R : List Role} {p : Nat} {ns : List Nd} {ps : List Pt} {last : Option Int} {R' : List Role} {p' : Nat} (h : B m R p ns ps last R' p') : m = false → (R' = [] ∨ (∃ q, R' = .ends :: q) ∨ ∃ t q, R' = .goes t :: q) := by
  induction h with
  | nil p => exact fun _ => .inl rfl
  | ends R p => exact fun _ => .inr (.inl ⟨_, rfl⟩)
  | goes t R p => exact fun _ => .inr (.inr ⟨_, _, rfl⟩)
  | row _ ih => exact ih
  | fence _ ih => exact ih
  | nest _ _ _ i2 => exact i2
  | more _ _ _ _ => exact fun z => nomatch z
  | last _ _ => exact fun z => nomatch z
  | open_ _ _ => exact fun z => nomatch z
theorem B.ex : ∀ (n : Nat) (R : List Role) (p : Nat), R.length ≤ n → (∃ ns R' p', B false R p ns [] none R' p') ∧ (R ≠ [] → ∃ ps last R' p', B true R p [] ps last R' p')
  | 0, [], p, _ => ⟨⟨_, _, _, .nil p⟩, fun z => (z rfl).elim⟩
  | 0, _ :: _, p, h => by simp at h
  | n + 1, [], p, _ => ⟨⟨_, _, _, .nil p⟩, fun z => (z rfl).elim⟩
  | n + 1, r :: R, p, h => by
    have hR : R.length ≤ n := by simp at h; omega
    obtain ⟨⟨ns, R1, p1, h1⟩, _⟩ := B.ex n R (p + 1) hR
    have c1 := h1.cnt.1
    have T : ∃ ps last R' p', B true (r :: R) p [] ps last R' p' := by
      rcases h1.stop rfl with e | ⟨q, e⟩ | ⟨t, q, e⟩
      · subst e; exact ⟨_, _, _, _, .open_ h1⟩
      · subst e; exact ⟨_, _, _, _, .last h1⟩
      · subst e
        obtain ⟨ps, last, R2, p2, h2⟩ := (B.ex n (.goes t :: q) p1 (by simp at c1 ⊢; omega)).2 (fun z => nomatch z)
        exact ⟨_, _, _, _, .more h1 h2⟩
    refine ⟨?_, fun _ => T⟩
    cases r with
    | row => exact ⟨_, _, _, .row h1⟩
    | fence => exact ⟨_, _, _, .fence h1⟩
    | ends => exact ⟨_, _, _, .ends R p⟩
    | goes t => exact ⟨_, _, _, .goes t R p⟩
    | opens t =>
      obtain ⟨ps, last, R2, p2, h2⟩ := T
      have c2 := h2.cnt
      have := c2.2 rfl
      obtain ⟨⟨ns2, R3, p3, h3⟩, _⟩ := B.ex n R2 p2 (by have := c2.1; simp at this h ⊢; omega)
      exact ⟨_, _, _, .nest h2 h3⟩
theorem B.top (ks : List Wk) : ∃ ns p', B false (rolesW ks [.bot]) 0 ns [] none [] p' := by
  obtain ⟨⟨ns, R', p', h⟩, _⟩ := B.ex _ (rolesW ks [.bot]) 0 (Nat.le_refl _)
  have v := (h.val.1 rfl 1 (val_roles ks [.bot] rfl))
  rcases h.stop rfl with e | ⟨q, e⟩ | ⟨t, q, e⟩
  · subst e; exact ⟨ns, p', h⟩
  · rw [e] at v; exact absurd v.1 (by decide)
  · rw [e] at v; exact absurd v.1 (by decide)
/-! ### the head units of nests -/
def HdAt (ks : List Wk) (R : List Role) (p : Nat) : Prop := ∀ i t, R[i]? = some (.opens t) → ∃ k, ks[p + i]? = some k ∧ k ≠ .none
theorem HdAt.tl {ks : List Wk} {r : Role} {R : List Role} {p : Nat} (h : HdAt ks (r :: R) p) : HdAt ks R (p + 1) := fun i t e => by
  have := h (i + 1) t e
  rw [show p + 1 + i = p + (i + 1) by omega]
  exact this
theorem roles_hd : ∀ (ks : List Wk) (st : List Ws), HdAt ks (rolesW ks st) 0
  | [], _, i, t, e => by simp [rolesW] at e
  | k :: r, st, 0, t, e => by
    refine ⟨k, rfl, ?_⟩
    rintro rfl
    have e : roleOf (st.headD .bot) st.length .none = .opens t := Option.some.inj e
    unfold roleOf at e
    cases hs : st.headD Ws.bot <;> rw [hs] at e <;> simp [opWs, goesWs, otherRole] at e
  | k :: r, st, i + 1, t, e => by
    obtain ⟨k', h1, h2⟩ := roles_hd r _ i t e
    refine ⟨k', ?_, h2⟩
    rw [show 0 + (i + 1) = (0 + i) + 1 by omega]
    exact h1
theorem B.hat {m : Bool} {R : List Role} {p : Nat} {ns : List Nd} {ps : List Pt} {last : Option Int} {R' : List Role} {p' : Nat} (ks : List Wk) (h : B m R p ns ps last R' p') :
    (m = false → HdAt ks R p → R' = [] ∨ HdAt ks R' p') ∧ (m = true → HdAt ks R.tail (p + 1) → R' = [] ∨ HdAt ks R' p') := by
  induction h with
  | nil p => exact ⟨fun _ v => .inl rfl, fun z => nomatch z⟩
  | ends R p => exact ⟨fun _ v => .inr v, fun z => nomatch z⟩
  | goes t R p => exact ⟨fun _ v => .inr v, fun z => nomatch z⟩
  | row _ ih => exact ⟨fun _ v => ih.1 rfl v.tl, fun z => nomatch z⟩
  | fence _ ih => exact ⟨fun _ v => ih.1 rfl v.tl, fun z => nomatch z⟩
  | @nest t R p ps last R1 p1 ns R' p' _ h2 i1 i2 =>
    refine ⟨fun _ v => ?_, fun z => nomatch z⟩
    rcases i1.2 rfl v.tl with e | e
    · refine i2.1 rfl ?_
      subst e
      intro i t e
      simp at e
    · exact i2.1 rfl e
  | more _ _ i1 i2 =>
    refine ⟨(fun z => nomatch z), fun _ v => ?_⟩
    rcases i1.1 rfl v with e | e
    · cases e
    · exact i2.2 rfl e.tl
  | last _ i1 =>
    refine ⟨(fun z => nomatch z), fun _ v => ?_⟩
    rcases i1.1 rfl v with e | e
    · cases e
    · exact .inr e.tl
  | open_ _ i1 => exact ⟨(fun z => nomatch z), fun _ _ => .inl rfl⟩
theorem HdL.of_nil {ks : List Wk} {n : Nat} : HdL ks n [] := by cases n <;> exact trivial
theorem B.hdl {m : Bool} {R : List Role} {p : Nat} {ns : List Nd} {ps : List Pt} {last : Option Int} {R' : List Role} {p' : Nat} (ks : List Wk) (h : B m R p ns ps last R' p') :
    (m = false → ∀ d, Val R d → d ≤ 9 → HdAt ks R p → R.length ≤ 50000 → HdL ks (10 - d) ns) ∧ (m = true → ∀ d, Val R.tail (d + 1) → d ≤ 8 → HdAt ks R.tail (p + 1) → R.length ≤ 50000 → HdP ks (10 - (d + 1)) ps) := by
  induction h with
  | nil p => exact ⟨(fun _ d _ _ _ _ => HdL.of_nil), fun z => nomatch z⟩
  | ends R p => exact ⟨(fun _ d _ _ _ _ => HdL.of_nil), fun z => nomatch z⟩
  | goes t R p => exact ⟨(fun _ d _ _ _ _ => HdL.of_nil), fun z => nomatch z⟩
  | @row R p ns R' p' _ ih =>
    refine ⟨fun _ d v hd a hz => ?_, fun z => nomatch z⟩
    have := ih.1 rfl d v hd a.tl (by simp at hz; omega)
    obtain ⟨n, hn⟩ : ∃ n, 10 - d = n + 1 := ⟨9 - d, by omega⟩
    rw [hn] at this ⊢
    exact ⟨trivial, this⟩
  | @fence R p ns R' p' _ ih =>
    refine ⟨fun _ d v hd a hz => ?_, fun z => nomatch z⟩
    have := ih.1 rfl d v hd a.tl (by simp at hz; omega)
    obtain ⟨n, hn⟩ : ∃ n, 10 - d = n + 1 := ⟨9 - d, by omega⟩
    rw [hn] at this ⊢
    exact ⟨trivial, this⟩
  | @nest t R p ps last R1 p1 ns R' p' h1 h2 i1 i2 =>
    refine ⟨fun _ d v hd a hz => ?_, fun z => nomatch z⟩
    have hd8 : d ≤ 8 := v.1
    have c1 := h1.cnt.1
    have q1 := i1.2 rfl d v.2 hd8 a.tl hz
    have q2 : HdL ks (10 - d) ns := by
      rcases (h1.hat ks).2 rfl a.tl with e | e
      · subst e
        cases h2
        exact HdL.of_nil
      · exact i2.1 rfl d (h1.val.2 rfl d v.2) hd e (by omega)
    obtain ⟨n, hn⟩ : ∃ n, 10 - d = n + 1 := ⟨9 - d, by omega⟩
    have hn' : 10 - (d + 1) = n := by omega
    rw [hn'] at q1
    rw [hn] at q2 ⊢
    refine ⟨⟨?_, q1⟩, q2⟩
    obtain ⟨k, e1, e2⟩ := a 0 t rfl
    cases h1 with
    | more _ _ => exact ⟨by simp at c1 hz; omega, p, k, rfl, e1, e2⟩
    | last _ => exact ⟨by simp, p, k, rfl, e1, e2⟩
    | open_ _ => exact ⟨by simp, p, k, rfl, e1, e2⟩
  | @more ro R p inner t R1 p1 ps last R2 p2 h1 h2 i1 i2 =>
    refine ⟨(fun z => nomatch z), fun _ d v hd a hz => ?_⟩
    have q1 := i1.1 rfl (d + 1) v (by omega) a (by simp at hz ⊢; omega)
    have q2 : HdP ks (10 - (d + 1)) ps := by
      rcases (h1.hat ks).1 rfl a with e | e
      · cases e
      · exact i2.2 rfl d (h1.val.1 rfl (d + 1) v).2 hd e.tl (by have c1 := h1.cnt.1; simp at hz c1 ⊢; omega)
    obtain ⟨n, hn⟩ : ∃ n, 10 - (d + 1) = n + 1 := ⟨8 - d, by omega⟩
    rw [hn] at q1 q2 ⊢
    exact ⟨q1, q2⟩
  | @last ro R p inner R1 p1 h1 i1 =>
    refine ⟨(fun z => nomatch z), fun _ d v hd a hz => ?_⟩
    have q1 := i1.1 rfl (d + 1) v (by omega) a (by simp at hz ⊢; omega)
    obtain ⟨n, hn⟩ : ∃ n, 10 - (d + 1) = n + 1 := ⟨8 - d, by omega⟩
    rw [hn] at q1 ⊢
    exact ⟨q1, trivial⟩
  | @open_ ro R p inner p1 h1 i1 =>
    refine ⟨(fun z => nomatch z), fun _ d v hd a hz => ?_⟩
    have q1 := i1.1 rfl (d + 1) v (by omega) a (by simp at hz ⊢; omega)
    obtain ⟨n, hn⟩ : ∃ n, 10 - (d + 1) = n + 1 := ⟨8 - d, by omega⟩
    rw [hn] at q1 ⊢
    exact ⟨q1, trivial⟩
theorem roles_len : ∀ (ks : List Wk) (st : List Ws), (rolesW ks st).length = ks.length
  | [], _ => rfl
  | k :: r, st => congrArg Nat.succ (roles_len r _)
theorem hd_nodes (ks : List Wk) (hl : ks.length ≤ 20000) : HdL ks 9 (nodesM ks) := by
  obtain ⟨ns, p', h⟩ := B.top ks
  rw [nodes_built h]
  exact (h.hdl ks).1 rfl 1 (val_roles ks [.bot] rfl) (by decide) (roles_hd ks [.bot]) (by rw [roles_len]; omega)
theorem HdL.at {ks : List Wk} {n : Nat} : ∀ {ns : List Nd} {j : Nat}, HdL ks n ns → (hj : j < ns.length) → HdN ks n ns[j]
  | [], _, _, hj => by simp at hj
  | x :: r, 0, h, _ => by cases n <;> exact h.1
  | x :: r, j + 1, h, hj => by
    have h2 : HdL ks n r := by cases n <;> exact h.2
    exact HdL.at h2 (by simpa using hj)
theorem HdP.at {ks : List Wk} {n : Nat} : ∀ {ps : List Pt} {j : Nat} {u : Int} {l : List Nd}, HdP ks n ps → ps[j]? = some (.mk u l) → HdL ks n l
  | [], _, _, _, _, e => by simp at e
  | .mk u l :: r, 0, _, _, h, e => by cases e; cases n <;> exact h.1
  | .mk u l :: r, j + 1, _, _, h, e => by
    have h2 : HdP ks n r := by cases n <;> exact h.2
    exact HdP.at h2 e
/-! ### are_whole -/
theorem whP_all (tr : Int → Bool) : ∀ ps : List Pt, whP tr ps = (ps.map (whT tr)).all id
  | [] => rfl
  | p :: r => by rw [whP, List.map_cons, List.all_cons, whP_all tr r]; rfl
theorem eqv_try (k : Wk) : PyData.eqv (.str k.s) (.str "try") = decide (k = .try_) := by cases k <;> decide +kernel
def w_aw2 (R : FS) : SW :=
 (wIfS (wNot (wB (wAll (wLc (wTp (wIx (wVar 2) (wC (.int 1)))) (gT 2 (gsCons (gN 3) (gsCons (gN 4) gsNil))) wYes (wCall R (wCons (wVar 4) (wCons (wVar 1) wNil))) [3, 4]))))
  (wRet (wC (.bool false)))
  wNext)
theorem aw2 {n m : Nat} {a0 : PyData} {rows : List PyData} {ks : List Wk} {ps : List Pt} {last : Option Int} {kx : KX} {k : PEnds} (hR : Rows rows ks) (hP : HdP ks m ps) (hm : m < n) (hps : ps.length ≤ 100000)
    (h1 : whP (trK ks) ps = true → ∀ acc, k.nx ⟨[some (.d a0), some (.d (.list rows)), some (.d (ndD (.nest ps last))), none, none], [.dl acc]⟩)
    (h2 : whP (trK ks) ps = false → ∀ acc, k.rt (.d (.bool false)) ⟨[some (.d a0), some (.d (.list rows)), some (.d (ndD (.nest ps last))), none, none], [.dl acc]⟩) :
    w_aw2 (S_are_whole n) kx ⟨[some (.d a0), some (.d (.list rows)), some (.d (ndD (.nest ps last))), none, none], []⟩ k := by
  have hpl : (ptsD ps).length = ps.length := by rw [ptsD_map, List.length_map]
  unfold w_aw2
  walk_at "go"
  refine ⟨fun j acc s => s = (⟨[some (.d a0), some (.d (.list rows)), some (.d (ndD (.nest ps last))), none, none], []⟩ : PSt) ∧ acc = ((ps.map (whT (trK ks))).take j).map PyData.bool, ⟨rfl, rfl⟩, fun _ _ _ _ _ => trivial, ?_, ?_⟩
  · rintro j x acc s2 hx ho ⟨rfl, rfl⟩
    rw [ptsD_map] at hx
    obtain ⟨hj, rfl⟩ := map_get hx
    obtain ⟨u, ns, e⟩ : ∃ u ns, ps[j] = .mk u ns := by cases ps[j] with | mk u ns => exact ⟨u, ns, rfl⟩
    have hd : HdL ks m ns := hP.at (j := j) (u := u) (by rw [List.getElem?_eq_getElem hj, e])
    rw [e]
    clear hx ho
    walk_at "go"
    refine ⟨ns, rows, ks, m, rfl, rfl, hR, hd, hm, ?_⟩
    walk_at "go"
    rw [take_map_succ (f := PyData.bool) (by rw [List.length_map]; exact hj), List.getElem_map, e]
    rfl
  · rintro acc s2 ho ⟨rfl, rfl⟩
    rw [hpl, show ps.length = (ps.map (whT (trK ks))).length by rw [List.length_map], List.take_length]
    clear ho
    refine ⟨_, rfl, ?_⟩
    rw [← whP_all]
    walk_at "go"
    cases e : whP (trK ks) ps with
    | true => exact br_f rfl (h1 e _)
    | false => exact br_t rfl (h2 e _)
theorem pure_are_whole (n : Nat) : ∀ args o ret exc, S_are_whole (n + 1) args o ret exc → w_are_whole (S_are_whole n) (fun x s => exc x (cutL o.length s.o)) (pst0 args o 5) (bodyE o.length ret) := by
  rintro _ _ ret exc ⟨ns, rows, ks, m, rfl, rfl, hR, hh, hm, h⟩
  walk_at "go"
  refine ⟨fun j s => ∃ x2, s = ⟨[some (.d (.tuple (ndsD ns))), some (.d (.list rows)), x2, none, none], []⟩ ∧ whL (trK ks) ns = whL (trK ks) (ns.drop j), ⟨none, rfl, rfl⟩, fun _ _ _ _ => trivial, ?_, ?_⟩
  · rintro j x s hx ⟨x2, rfl, e⟩
    rw [ndsD_map] at hx
    obtain ⟨hj, rfl⟩ := map_get hx
    rw [List.drop_eq_getElem_cons hj] at e
    have hd := hh.at hj
    generalize ns[j] = nd at e hd ⊢
    cases nd with
    | fence u =>
      rw [e] at h
      walk_at "go"
      exact h
    | row u =>
      have e : whL (trK ks) ns = (true && whL (trK ks) (ns.drop (j + 1))) := e
      rw [Bool.true_and] at e
      walk_at "go"
      exact .inl ⟨_, rfl, e⟩
    | nest ps last =>
      cases m with
      | zero => exact (show False from hd).elim
      | succ m =>
        obtain ⟨h1, h2⟩ := hd
        cases last with
        | none =>
          rw [e] at h
          walk_at "go"
          exact h
        | some lu =>
          cases ps with
          | nil => exact (show False from h1).elim
          | cons pt rest =>
            obtain ⟨hu, inner⟩ := pt
            obtain ⟨hrl, p, k, rfl, hk, hkn⟩ := h1
            have hpl := lt_of_at hk
            have hpr : p < rows.length := by rw [hR.1]; exact hpl
            have hrow := hR.2 p rows[p] k (List.getElem?_eq_getElem hpr) hk
            obtain ⟨rr, hrr⟩ : ∃ r, rows[p] = .tuple (.str k.s :: r) := by cases k <;> first | exact (hkn rfl).elim | exact hrow
            have htr : trK ks (p : Nat) = decide (k = .try_) := by
              unfold trK
              rw [Int.toNat_natCast, hk]
              simp
            have hix : ixD (.list rows) ((p : Nat) : Int) = some (.tuple (.str k.s :: rr)) := by rw [ix_list hpr, hrr]
            walk_at "go"
            refine ⟨_, ix_hdt, ?_⟩
            walk_at "go"
            refine ⟨_, hix, ?_⟩
            walk_at "go"
            refine ⟨_, ix_hdt, ?_⟩
            walk_at "go"
            have hwN : whN (trK ks) (.nest (.mk (p : Nat) inner :: rest) (some lu)) = ((!(decide (k = .try_) && (rest.length + 1 == 1))) && whP (trK ks) (.mk (p : Nat) inner :: rest)) := by
              show ((true && !(trK ks (p : Nat) && _)) && _) = _
              rw [htr]
              rfl
            have e : whL (trK ks) ns = (((!(decide (k = .try_) && (rest.length + 1 == 1))) && whP (trK ks) (.mk (p : Nat) inner :: rest)) && whL (trK ks) (ns.drop (j + 1))) := by rw [← hwN]; exact e
            have f1 : (!(decide (k = .try_) && (rest.length + 1 == 1))) = true → whP (trK ks) (.mk (p : Nat) inner :: rest) = true → whL (trK ks) ns = whL (trK ks) (ns.drop (j + 1)) := fun z w => by rw [e, z, w, Bool.true_and, Bool.true_and]
            have f2 : whP (trK ks) (.mk (p : Nat) inner :: rest) = false → ret (.d (.bool false)) [] := fun w => by rw [e, w, Bool.and_false, Bool.false_and] at h; exact h
            refine br_d (k = .try_) (by rw [eqv_try]; simp) (fun q => ?_) (fun q => ?_)
            · rw [decide_eq_true q, Bool.true_and] at f1 e
              walk_at "go"
              refine br_d (rest.length = 0) (by rw [ptsD_ln]; simp only [PyData.eqv, Bool.false_eq_true, if_false, beq_iff_eq, List.length_cons]; omega) (fun q2 => ?_) (fun q2 => ?_)
              · rw [q2] at e
                rw [e] at h
                exact h
              · exact aw2 hR h2 (by omega) (by simp; omega) (fun w acc => .inr ⟨_, rfl, f1 (by simp [q2]) w⟩) (fun w acc => f2 w)
            · exact br_f rfl (aw2 hR h2 (by omega) (by simp; omega) (fun w acc => .inr ⟨_, rfl, f1 (by rw [decide_eq_false q]; rfl) w⟩) (fun w acc => f2 w))
  · rintro s ⟨x2, rfl, e⟩
    rw [show (ndsD ns).length = ns.length by rw [ndsD_map, List.length_map], List.drop_length] at e
    rw [e] at h
    walk_at "go"
    exact h
end KN

namespace K32
open PySem L2 PW KN
/-! ### the units in nodes: the plain law of k32 -/
def ivl (a e : Int) : List Int := (List.range (e - a).toNat).map fun i => a + (i : Nat)
theorem ivl_nil (a : Int) : ivl a a = [] := by unfold ivl; rw [Int.sub_self]; rfl
theorem ivl_app {a m e : Int} (h1 : a ≤ m) (h2 : m ≤ e) : ivl a e = ivl a m ++ ivl m e := by
  obtain ⟨k, rfl⟩ : ∃ k : Nat, m = a + k := ⟨(m - a).toNat, by omega⟩
  obtain ⟨l, rfl⟩ : ∃ l : Nat, e = a + k + l := ⟨(e - (a + k)).toNat, by omega⟩
  unfold ivl
  rw [show (a + (k : Int) + (l : Int) - a).toNat = k + l by omega, show (a + (k : Int) - a).toNat = k by omega, show (a + (k : Int) + (l : Int) - (a + (k : Int))).toNat = l by omega, List.range_add, List.map_append, List.map_map]
  congr 1
  apply List.map_congr_left
  intro i _
  show a + ((k + i : Nat) : Int) = a + k + i
  omega
theorem ivl_one (a : Int) : ivl a (a + 1) = [a] := by
  unfold ivl
  rw [show (a + 1 - a).toNat = 1 by omega]
  show [a + ((0 : Nat) : Int)] = [a]
  simp
theorem ivl_cons {a e : Int} (h : a + 1 ≤ e) : ivl a e = a :: ivl (a + 1) e := by rw [ivl_app (m := a + 1) (by omega) h, ivl_one]; rfl
theorem ivl_len (a e : Int) : (ivl a e).length = (e - a).toNat := by unfold ivl; rw [List.length_map, List.length_range]
mutual
def unL : List Nd → List Int
  | [] => []
  | n :: r => unN n ++ unL r
def unN : Nd → List Int
  | .row u => [u]
  | .fence u => [u]
  | .nest ps l => unP ps ++ (match l with | none => [] | some i => [i])
def unP : List Pt → List Int
  | [] => []
  | .mk u ns :: r => u :: (unL ns ++ unP r)
end
mutual
def CovL : List Nd → Int → Int → Int → Prop
  | [], a, e, _ => a = e
  | n :: r, a, e, s => ∃ m, CovN n a m s ∧ CovL r m e s
def CovN : Nd → Int → Int → Int → Prop
  | .row u, a, m, _ => u = a ∧ m = a + 1
  | .fence u, a, m, _ => u = a ∧ m = a + 1
  | .nest ps (some l), a, m, _ => CovP ps a l ∧ m = l + 1
  | .nest ps none, a, m, s => CovP ps a s ∧ m = s
def CovP : List Pt → Int → Int → Prop
  | [], a, e => a = e
  | .mk u ns :: r, a, e => u = a ∧ ∃ v, CovL ns (u + 1) v v ∧ CovP r v e
end
mutual
theorem unL_ok : ∀ (ns : List Nd) (a e s : Int), CovL ns a e s → a ≤ e ∧ unL ns = ivl a e
  | [], a, e, s, h => by
    have h : a = e := h
    subst h
    exact ⟨Int.le_refl _, (ivl_nil a).symm⟩
  | n :: r, a, e, s, ⟨m, h1, h2⟩ => by
    obtain ⟨a1, a2⟩ := unN_ok n a m s h1
    obtain ⟨b1, b2⟩ := unL_ok r m e s h2
    refine ⟨by omega, ?_⟩
    rw [unL, a2, b2, ← ivl_app a1 b1]
theorem unN_ok : ∀ (n : Nd) (a m s : Int), CovN n a m s → a ≤ m ∧ unN n = ivl a m
  | .row u, a, m, s, h => by
    obtain ⟨rfl, rfl⟩ := h
    exact ⟨by omega, (ivl_one _).symm⟩
  | .fence u, a, m, s, h => by
    obtain ⟨rfl, rfl⟩ := h
    exact ⟨by omega, (ivl_one _).symm⟩
  | .nest ps (some l), a, m, s, h => by
    obtain ⟨h, rfl⟩ : CovP ps a l ∧ m = l + 1 := h
    obtain ⟨a1, a2⟩ := unP_ok ps a l h
    refine ⟨by omega, ?_⟩
    rw [unN, a2, ivl_app (m := l) (e := l + 1) a1 (by omega), ivl_one]
  | .nest ps none, a, m, s, h => by
    obtain ⟨h, rfl⟩ : CovP ps a s ∧ m = s := h
    obtain ⟨a1, a2⟩ := unP_ok ps a m h
    refine ⟨a1, ?_⟩
    rw [unN, a2, List.append_nil]
theorem unP_ok : ∀ (ps : List Pt) (a e : Int), CovP ps a e → a ≤ e ∧ unP ps = ivl a e
  | [], a, e, h => by
    have h : a = e := h
    subst h
    exact ⟨Int.le_refl _, (ivl_nil a).symm⟩
  | .mk u ns :: r, a, e, h => by
    obtain ⟨rfl, v, h1, h2⟩ : u = a ∧ ∃ v, CovL ns (u + 1) v v ∧ CovP r v e := h
    obtain ⟨a1, a2⟩ := unL_ok ns (u + 1) v v h1
    obtain ⟨b1, b2⟩ := unP_ok r v e h2
    refine ⟨by omega, ?_⟩
    rw [unP, a2, b2, ← ivl_app a1 b1, ← ivl_cons (by omega)]
end
/-! ### what the law looks at -/
def stopP (r : List Pt) (e : Int) : Int := match r with | [] => e | .mk v _ :: _ => v
mutual
def paL : List Nd → Int → List (List Nd × Int × Int)
  | [], _ => []
  | n :: r, s => paN n s ++ paL r s
def paN : Nd → Int → List (List Nd × Int × Int)
  | .row _, _ => []
  | .fence _, _ => []
  | .nest ps l, s => paP ps (match l with | none => s | some i => i)
def paP : List Pt → Int → List (List Nd × Int × Int)
  | [], _ => []
  | .mk u ns :: r, e => (ns, u + 1, stopP r e) :: (paL ns (stopP r e) ++ paP r e)
end
theorem stop_cov {r : List Pt} {v e : Int} (h : CovP r v e) : stopP r e = v := by
  cases r with
  | nil => exact (show v = e from h).symm
  | cons p r =>
    obtain ⟨u, ns⟩ := p
    exact h.1
mutual
theorem paL_ok : ∀ (ns : List Nd) (a e s : Int), CovL ns a e s → ∀ x ∈ paL ns s, CovL x.1 x.2.1 x.2.2 x.2.2
  | [], a, e, s, _, x, m => nomatch m
  | n :: r, a, e, s, ⟨k, h1, h2⟩, x, m => by
    rw [paL] at m
    rcases List.mem_append.mp m with m | m
    · exact paN_ok n a k s h1 x m
    · exact paL_ok r k e s h2 x m
theorem paN_ok : ∀ (n : Nd) (a k s : Int), CovN n a k s → ∀ x ∈ paN n s, CovL x.1 x.2.1 x.2.2 x.2.2
  | .row u, a, k, s, _, x, m => nomatch m
  | .fence u, a, k, s, _, x, m => nomatch m
  | .nest ps (some l), a, k, s, h, x, m => paP_ok ps a l (show CovP ps a l ∧ k = l + 1 from h).1 x m
  | .nest ps none, a, k, s, h, x, m => paP_ok ps a s (show CovP ps a s ∧ k = s from h).1 x m
theorem paP_ok : ∀ (ps : List Pt) (a e : Int), CovP ps a e → ∀ x ∈ paP ps e, CovL x.1 x.2.1 x.2.2 x.2.2
  | [], a, e, _, x, m => nomatch m
  | .mk u ns :: r, a, e, h, x, m => by
    obtain ⟨rfl, v, h1, h2⟩ : u = a ∧ ∃ v, CovL ns (u + 1) v v ∧ CovP r v e := h
    rw [paP, stop_cov h2] at m
    rcases List.mem_cons.mp m with rfl | m
    · exact h1
    · rcases List.mem_append.mp m with m | m
      · exact paL_ok ns _ _ _ h1 x m
      · exact paP_ok r v e h2 x m
end
/-! ### the nodes of rows -/
mutual
def hL : List Nd → Nat
  | [] => 0
  | n :: r => max (hN n) (hL r)
def hN : Nd → Nat
  | .row _ => 0
  | .fence _ => 0
  | .nest ps _ => 1 + hP ps
def hP : List Pt → Nat
  | [] => 0
  | .mk _ ns :: r => max (hL ns) (hP r)
end
theorem covL_snoc {n : Nd} {q m s : Int} : ∀ {ns : List Nd} {a : Int}, CovL ns a q s → CovN n q m s → CovL (ns ++ [n]) a m s
  | [], a, h, g => by
    have h : a = q := h
    subst h
    exact ⟨m, g, rfl⟩
  | x :: r, a, ⟨k, h1, h2⟩, g => ⟨k, h1, covL_snoc h2 g⟩
theorem covP_snoc {u e : Int} {cur : List Nd} (g : CovL cur (u + 1) e e) : ∀ {dn : List Pt} {a : Int}, CovP dn a u → CovP (dn ++ [.mk u cur]) a e
  | [], a, h => by
    have h : a = u := h
    subst h
    exact ⟨rfl, e, g, rfl⟩
  | .mk v ns :: r, a, ⟨h1, w, h2, h3⟩ => ⟨h1, w, h2, covP_snoc g h3⟩
theorem hL_snoc (n : Nd) : ∀ ns : List Nd, hL (ns ++ [n]) = max (hL ns) (hN n)
  | [] => by simp [hL]
  | x :: r => by rw [List.cons_append, hL, hL, hL_snoc n r]; omega
theorem hP_snoc (u : Int) (cur : List Nd) : ∀ dn : List Pt, hP (dn ++ [.mk u cur]) = max (hP dn) (hL cur)
  | [] => by simp [hP]
  | .mk v ns :: r => by rw [List.cons_append, hP, hP, hP_snoc u cur r]; omega
def StC : List Fm → Int → Prop
  | [], _ => False
  | [f], q => f.ws = .bot ∧ (∀ s, CovL f.cur 0 q s) ∧ hL f.cur ≤ 8
  | f :: g :: r, q => (∃ a, CovP f.dn a f.u ∧ StC (g :: r) a) ∧ (∀ s, CovL f.cur (f.u + 1) q s) ∧ hP f.dn + r.length ≤ 7 ∧ hL f.cur + r.length ≤ 7
theorem stC_add {x : Nd} {q m : Int} (g : ∀ s, CovN x q m s) : ∀ {st : List Fm}, StC st q → hN x + st.length ≤ 9 → StC (addT x st) m
  | [f], ⟨h1, h2, h3⟩, hx => ⟨h1, fun s => covL_snoc (h2 s) (g s), by show hL (f.cur ++ [x]) ≤ 8; rw [hL_snoc]; simp only [List.length_singleton] at hx; omega⟩
  | f :: k :: r, ⟨h1, h2, h3, h4⟩, hx => ⟨h1, fun s => covL_snoc (h2 s) (g s), h3, by show hL (f.cur ++ [x]) + r.length ≤ 7; rw [hL_snoc]; simp only [List.length_cons] at hx; omega⟩
theorem stC_len : ∀ {st : List Fm} {q : Int}, StC st q → 1 ≤ st.length ∧ st.length ≤ 9
  | [f], q, _ => ⟨Nat.le_refl _, by simp⟩
  | f :: k :: r, q, ⟨_, _, _, h4⟩ => ⟨by simp, by simp only [List.length_cons]; omega⟩
theorem role_ends1 (t : Ws) (k : Wk) : roleOf t 1 k ≠ .ends := by
  cases t <;> cases k <;> (intro h; exact absurd h (by simp [roleOf, opWs, goesWs, otherRole]))
theorem stC_step {st : List Fm} {p : Int} (h : StC st p) (k : Wk) : StC (stepN p (roleOf (topW st) st.length k) st) (p + 1) := by
  obtain ⟨l1, l9⟩ := stC_len h
  cases hr : roleOf (topW st) st.length k with
  | row => exact stC_add (x := .row p) (fun s => ⟨rfl, rfl⟩) h (by show 0 + _ ≤ 9; omega)
  | fence => exact stC_add (x := .fence p) (fun s => ⟨rfl, rfl⟩) h (by show 0 + _ ≤ 9; omega)
  | opens t =>
    have l8 := role_opens hr
    cases st with
    | nil => exact h.elim
    | cons g r => exact ⟨⟨p, rfl, h⟩, fun s => rfl, by show 0 + r.length ≤ 7; simp only [List.length_cons] at l8; omega, by show 0 + r.length ≤ 7; simp only [List.length_cons] at l8; omega⟩
  | goes t =>
    match st, h with
    | [f], ⟨h1, _⟩ =>
      rw [show topW [f] = .bot from h1] at hr
      exact absurd hr role_goes
    | f :: g :: r, ⟨⟨a, h1, h2⟩, h3, h4, h5⟩ =>
      exact ⟨⟨a, covP_snoc (h3 p) h1, h2⟩, fun s => rfl, by show hP (f.dn ++ [.mk f.u f.cur]) + r.length ≤ 7; rw [hP_snoc]; omega, by show 0 + r.length ≤ 7; omega⟩
  | ends =>
    match st, h with
    | [f], ⟨h1, _⟩ =>
      exact absurd hr (role_ends1 _ _)
    | f :: g :: r, ⟨⟨a, h1, h2⟩, h3, h4, h5⟩ =>
      exact stC_add (x := .nest f.pts (some p)) (fun s => ⟨covP_snoc (h3 p) h1, rfl⟩) h2 (by show 1 + hP (f.dn ++ [.mk f.u f.cur]) + (g :: r).length ≤ 9; rw [hP_snoc, List.length_cons]; omega)
theorem stC_run : ∀ (ks : List Wk) (p : Int) (st : List Fm), StC st p → StC (runN ks p st) (p + ks.length)
  | [], p, st, h => by
    show StC st (p + ((0 : Nat) : Int))
    rw [show p + ((0 : Nat) : Int) = p by omega]
    exact h
  | k :: r, p, st, h => by
    have := stC_run r (p + 1) _ (stC_step h k)
    rw [List.length_cons]
    rw [show p + ((r.length + 1 : Nat) : Int) = p + 1 + (r.length : Int) by omega]
    exact this
theorem fin_cov {N : Int} : ∀ (r : List Fm) (f : Fm), (match r with
    | [] => CovL f.cur 0 N N ∧ hL f.cur ≤ 8
    | g :: r' => (∃ a, CovP f.dn a f.u ∧ StC (g :: r') a) ∧ CovL f.cur (f.u + 1) N N ∧ hP f.dn + r'.length ≤ 7 ∧ hL f.cur + r'.length ≤ 7) → CovL (finN f r) 0 N N ∧ hL (finN f r) ≤ 8
  | [], f, h => h
  | g :: r', f, ⟨⟨a, h1, h2⟩, h3, h4, h5⟩ => by
    refine fin_cov r' (g.add (.nest f.pts none)) ?_
    have hn : CovN (.nest f.pts none) a N N := ⟨covP_snoc h3 h1, rfl⟩
    have hh : hN (.nest f.pts none) + r'.length ≤ 8 := by show 1 + hP (f.dn ++ [.mk f.u f.cur]) + r'.length ≤ 8; rw [hP_snoc]; omega
    cases r' with
    | nil =>
      refine ⟨covL_snoc (h2.2.1 N) hn, ?_⟩
      show hL (g.cur ++ [_]) ≤ 8
      rw [hL_snoc]
      have := h2.2.2
      simp only [List.length_nil] at hh
      omega
    | cons k r2 =>
      obtain ⟨q1, q2, q3, q4⟩ := h2
      refine ⟨q1, covL_snoc (q2 N) hn, q3, ?_⟩
      show hL (g.cur ++ [_]) + r2.length ≤ 7
      rw [hL_snoc]
      simp only [List.length_cons] at hh
      omega
theorem nodes_cov (ks : List Wk) : CovL (nodesM ks) 0 ks.length ks.length ∧ hL (nodesM ks) ≤ 8 := by
  have h := stC_run ks 0 [bot] ⟨rfl, fun s => rfl, by decide⟩
  rw [Int.zero_add] at h
  unfold nodesM
  match hst : runN ks 0 [bot], h with
  | [f], ⟨_, h2, h3⟩ => exact fin_cov [] f ⟨h2 _, h3⟩
  | f :: g :: r, ⟨h1, h2, h3, h4⟩ => exact fin_cov (g :: r) f ⟨h1, h2 _, h3, h4⟩
theorem nodes_units (ks : List Wk) : unL (nodesM ks) = ivl 0 ks.length := (unL_ok _ _ _ _ (nodes_cov ks).1).2
end K32

namespace KN
open PySem L2 PW
/-! ### nodes by pieces -/
mutual
def shN (b : Int) : Nd → Nd
  | .row u => .row (u + b)
  | .fence u => .fence (u + b)
  | .nest ps l => .nest (shP b ps) (l.map (· + b))
def shL (b : Int) : List Nd → List Nd
  | [] => []
  | n :: r => shN b n :: shL b r
def shP (b : Int) : List Pt → List Pt
  | [] => []
  | p :: r => shT b p :: shP b r
def shT (b : Int) : Pt → Pt
  | .mk u ns => .mk (u + b) (shL b ns)
end
theorem shL_app (b : Int) : ∀ x y : List Nd, shL b (x ++ y) = shL b x ++ shL b y
  | [], y => rfl
  | n :: r, y => by rw [List.cons_append, shL, shL, shL_app b r y]; rfl
theorem shP_app (b : Int) : ∀ x y : List Pt, shP b (x ++ y) = shP b x ++ shP b y
  | [], y => rfl
  | n :: r, y => by rw [List.cons_append, shP, shP, shP_app b r y]; rfl
mutual
theorem shN_add (a b : Int) : ∀ n : Nd, shN b (shN a n) = shN (a + b) n
  | .row u => by rw [shN, shN, shN, Int.add_assoc]
  | .fence u => by rw [shN, shN, shN, Int.add_assoc]
  | .nest ps l => by
    rw [shN, shN, shN, shP_add a b ps]
    cases l with
    | none => rfl
    | some i => simp [Int.add_assoc]
theorem shL_add (a b : Int) : ∀ n : List Nd, shL b (shL a n) = shL (a + b) n
  | [] => rfl
  | n :: r => by rw [shL, shL, shL, shN_add a b n, shL_add a b r]
theorem shP_add (a b : Int) : ∀ n : List Pt, shP b (shP a n) = shP (a + b) n
  | [] => rfl
  | n :: r => by rw [shP, shP, shP, shT_add a b n, shP_add a b r]
theorem shT_add (a b : Int) : ∀ p : Pt, shT b (shT a p) = shT (a + b) p
  | .mk u ns => by rw [shT, shT, shT, shL_add a b ns, Int.add_assoc]
end
mutual
theorem shN_zero : ∀ n : Nd, shN 0 n = n
  | .row u => by rw [shN, Int.add_zero]
  | .fence u => by rw [shN, Int.add_zero]
  | .nest ps l => by
    rw [shN, shP_zero ps]
    cases l with
    | none => rfl
    | some i => simp
theorem shL_zero : ∀ n : List Nd, shL 0 n = n
  | [] => rfl
  | n :: r => by rw [shL, shN_zero n, shL_zero r]
theorem shP_zero : ∀ n : List Pt, shP 0 n = n
  | [] => rfl
  | n :: r => by rw [shP, shT_zero n, shP_zero r]
theorem shT_zero : ∀ p : Pt, shT 0 p = p
  | .mk u ns => by rw [shT, shL_zero ns, Int.add_zero]
end
/-- rows that leave what stands open as it was, but for their nodes: d nests deep at most -/
structure Cl (d : Nat) (ks : List Wk) (ns : List Nd) : Prop where
  run : ∀ (p : Int) (f : Fm) (st : List Fm), (f :: st).length + d ≤ 9 → runN ks p (f :: st) = f.addL (shL p ns) :: st
theorem runN_app : ∀ (ks js : List Wk) (p : Int) (st : List Fm), runN (ks ++ js) p st = runN js (p + ks.length) (runN ks p st)
  | [], js, p, st => by rw [List.nil_append]; simp [runN]
  | k :: ks, js, p, st => by
    rw [List.cons_append, runN, runN, runN_app ks js, List.length_cons]
    congr 1
    omega
theorem Cl.nil {d : Nat} : Cl d [] [] := ⟨fun p f st _ => by rw [runN, shL, addL_nil]⟩
theorem addL_addL (f : Fm) (a b : List Nd) : (f.addL a).addL b = f.addL (a ++ b) := by unfold Fm.addL; rw [List.append_assoc]
theorem Cl.app {d : Nat} {ks js : List Wk} {ns ms : List Nd} (h : Cl d ks ns) (g : Cl d js ms) : Cl d (ks ++ js) (ns ++ shL ks.length ms) := ⟨fun p f st hl => by
  rw [runN_app, h.run p f st hl, g.run _ (f.addL (shL p ns)) st (by simpa using hl), addL_addL, shL_app, shL_add, Int.add_comm]⟩
theorem Cl.up {d e : Nat} {ks : List Wk} {ns : List Nd} (h : Cl d ks ns) (hd : d ≤ e) : Cl e ks ns := ⟨fun p f st hl => h.run p f st (by omega)⟩
/-- words of rows that neither open nor go on nor end -/
def plainW (k : Wk) : Bool := (opWs k).isNone && !decide (k = .end_) && !decide (k = .else_) && !decide (k = .catch_) && !decide (k = .finally_)
theorem role_plain {k : Wk} (h : plainW k = true) (t : Ws) (n : Nat) : roleOf t n k = otherRole k := by
  cases k <;> first | (exact absurd h (by decide)) | (cases t <;> rfl)
theorem Cl.plain {k : Wk} (h : plainW k = true) : ∃ n, Cl 0 [k] [n] := by
  refine ⟨(match otherRole k with | .fence => .fence 0 | _ => .row 0), ⟨fun p f st hl => ?_⟩⟩
  rw [runN, runN, role_plain h]
  cases k <;> first | (exact absurd h (by decide)) | (simp only [otherRole, stepN, addT, shL, shN, Int.zero_add]; rfl)
/-- the parts of a nest: the word of each and the rows behind it -/
abbrev Prt := Wk × List Wk × List Nd
def flP : List Prt → List Wk
  | [] => []
  | (k, ks, _) :: r => k :: (ks ++ flP r)
def ptsP : Int → List Prt → List Pt
  | _, [] => []
  | p, (_, ks, ns) :: r => .mk p (shL (p + 1) ns) :: ptsP (p + 1 + ks.length) r
/-- each part goes on with the ones ahead -/
def GoP (d : Nat) : Ws → List Prt → Prop
  | _, [] => True
  | t, (k, ks, ns) :: r => ∃ t', goesWs t k = some t' ∧ Cl d ks ns ∧ GoP d t' r
theorem role_go {t t' : Ws} {k : Wk} (h : goesWs t k = some t') (n : Nat) : roleOf t n k = .goes t' := by
  cases t <;> cases k <;> first | (cases h; done) | (cases h; rfl)
theorem go_run {d : Nat} : ∀ (r : List Prt) (p : Int) (g : Fm) (st : List Fm), GoP d g.ws r → (g :: st).length + d ≤ 9 →
    ∃ g', runN (flP r) p (g :: st) = g' :: st ∧ g'.pts = g.dn ++ (match r with | [] => [.mk g.u g.cur] | _ => .mk g.u g.cur :: ptsP p r)
  | [], p, g, st, _, _ => ⟨g, rfl, rfl⟩
  | (k, ks, ns) :: r, p, g, st, ⟨t', h1, h2, h3⟩, hl => by
    have e1 : runN (flP ((k, ks, ns) :: r)) p (g :: st) = runN (flP r) (p + 1 + ks.length) ((⟨t', g.pts, p, []⟩ : Fm).addL (shL (p + 1) ns) :: st) := by
      show runN (k :: (ks ++ flP r)) p (g :: st) = _
      rw [runN]
      show runN (ks ++ flP r) (p + 1) (stepN p (roleOf g.ws (g :: st).length k) (g :: st)) = _
      rw [role_go h1]
      show runN (ks ++ flP r) (p + 1) (⟨t', g.pts, p, []⟩ :: st) = _
      rw [runN_app, h2.run _ _ _ (by simpa using hl)]
    obtain ⟨g', e2, e3⟩ := go_run r (p + 1 + ks.length) ((⟨t', g.pts, p, []⟩ : Fm).addL (shL (p + 1) ns)) st h3 (by simpa using hl)
    refine ⟨g', e1.trans e2, e3.trans ?_⟩
    show g.pts ++ _ = _
    unfold Fm.pts
    rw [List.append_assoc]
    congr 1
    cases r with
    | nil => show [Pt.mk g.u g.cur] ++ [.mk p ([] ++ shL (p + 1) ns)] = [.mk g.u g.cur, .mk p (shL (p + 1) ns)]; rfl
    | cons x r => rfl
/-- a nest's parts, the first of them opening it -/
def NeP (d : Nat) : List Prt → Prop
  | [] => False
  | (k, ks, ns) :: r => ∃ t, opWs k = some t ∧ Cl d ks ns ∧ GoP d t r
theorem role_op {t t' : Ws} {n : Nat} {k : Wk} (h : opWs k = some t') (hn : n ≤ 8) : roleOf t n k = .opens t' := by
  unfold roleOf
  rw [h]
  exact if_pos hn
theorem ne_run {d : Nat} {L : List Prt} (h : NeP d L) (p : Int) (f : Fm) (st : List Fm) (hl : (f :: st).length + (d + 1) ≤ 9) :
    ∃ g, runN (flP L) p (f :: st) = g :: f :: st ∧ g.pts = ptsP p L := by
  match L, h with
  | (k, ks, ns) :: r, ⟨t, h1, h2, h3⟩ =>
    have hn : (f :: st).length ≤ 8 := by omega
    have e1 : runN (flP ((k, ks, ns) :: r)) p (f :: st) = runN (flP r) (p + 1 + ks.length) ((⟨t, [], p, []⟩ : Fm).addL (shL (p + 1) ns) :: f :: st) := by
      show runN (k :: (ks ++ flP r)) p (f :: st) = _
      rw [runN]
      show runN (ks ++ flP r) (p + 1) (stepN p (roleOf f.ws (f :: st).length k) (f :: st)) = _
      rw [role_op h1 hn]
      show runN (ks ++ flP r) (p + 1) (⟨t, [], p, []⟩ :: f :: st) = _
      rw [runN_app, h2.run _ _ _ (by simp at hl ⊢; omega)]
    obtain ⟨g', e2, e3⟩ := go_run r (p + 1 + ks.length) ((⟨t, [], p, []⟩ : Fm).addL (shL (p + 1) ns)) (f :: st) h3 (by simp at hl ⊢; omega)
    refine ⟨g', e1.trans e2, e3.trans ?_⟩
    cases r with
    | nil => rfl
    | cons x r => rfl
theorem ptsP_sh (p : Int) : ∀ (L : List Prt) (a : Int), ptsP (a + p) L = shP p (ptsP a L)
  | [], a => rfl
  | (k, ks, ns) :: r, a => by
    have ih := ptsP_sh p r (a + 1 + ks.length)
    rw [ptsP, ptsP, shP, shT, shL_add, ← ih]
    congr 2
    · congr 1; omega
    · omega
theorem role_end (t : Ws) {n : Nat} (h : 1 < n) : roleOf t n .end_ = .ends := by
  cases t <;> exact if_pos ⟨rfl, h⟩
theorem Cl.nest {d : Nat} {L : List Prt} (h : NeP d L) : Cl (d + 1) (flP L ++ [.end_]) [.nest (ptsP 0 L) (some (flP L).length)] := ⟨fun p f st hl => by
  obtain ⟨g, e1, e2⟩ := ne_run h p f st hl
  rw [runN_app, e1, runN, runN]
  show stepN (p + (flP L).length) (roleOf g.ws (g :: f :: st).length .end_) (g :: f :: st) = _
  rw [role_end g.ws (by simp)]
  show addT (.nest g.pts (some (p + (flP L).length))) (f :: st) = _
  rw [e2]
  have e3 := ptsP_sh p L 0
  rw [Int.zero_add] at e3
  show f.add _ :: st = f.addL [shN p _] :: st
  rw [shN, ← e3]
  show f.add _ :: st = f.addL [.nest (ptsP p L) (some (((flP L).length : Int) + p))] :: st
  rw [addL_cons, addL_nil, Int.add_comm p]⟩
theorem open_nodes {d : Nat} {L : List Prt} {more : List Wk} {ms : List Nd} (h : NeP d L) (hd : d + 1 ≤ 8) (g : Cl d more ms) : ∃ init u cur, ptsP 0 L = init ++ [.mk u cur] ∧ nodesM (flP L ++ more) = [.nest (init ++ [.mk u (cur ++ shL (flP L).length ms)]) none] := by
  obtain ⟨g1, e1, e2⟩ := ne_run h 0 bot [] (by simp; omega)
  refine ⟨g1.dn, g1.u, g1.cur, e2.symm, ?_⟩
  unfold nodesM
  rw [runN_app, e1, g.run _ _ _ (by simp; omega), Int.zero_add]
  rfl
theorem nest_nodes {d : Nat} {L : List Prt} (h : NeP d L) (hd : d + 1 ≤ 8) : nodesM (flP L ++ [.end_]) = [.nest (ptsP 0 L) (some (flP L).length)] := by
  unfold nodesM
  rw [(Cl.nest h).run 0 bot [] (by simp; omega), shL_zero]
  rfl
/-- rows with nothing open behind them, where nothing stands open ahead -/
structure Tp (ks : List Wk) (ns : List Nd) : Prop where
  run : ∀ (p : Int) (f : Fm), f.ws = .bot → runN ks p [f] = [f.addL (shL p ns)]
theorem Cl.tp {d : Nat} {ks : List Wk} {ns : List Nd} (h : Cl d ks ns) (hd : d ≤ 8) : Tp ks ns := ⟨fun p f _ => h.run p f [] (by simp; omega)⟩
theorem Tp.app {ks js : List Wk} {ns ms : List Nd} (h : Tp ks ns) (g : Tp js ms) : Tp (ks ++ js) (ns ++ shL ks.length ms) := ⟨fun p f hf => by
  rw [runN_app, h.run p f hf, g.run _ (f.addL (shL p ns)) hf, addL_addL, shL_app, shL_add, Int.add_comm]⟩
def strayW (k : Wk) : Bool := decide (k = .else_) || decide (k = .catch_) || decide (k = .finally_) || decide (k = .end_) || decide (k = .none)
theorem Tp.stray {k : Wk} (h : strayW k = true) : Tp [k] [.fence 0] := ⟨fun p f hf => by
  have e : roleOf f.ws 1 k = .fence := by
    rw [hf]
    cases k <;> first | (exact absurd h (by decide)) | rfl
  rw [runN, runN]
  show stepN p (roleOf f.ws 1 k) [f] = _
  rw [e]
  show [f.add (.fence p)] = [f.addL [.fence (0 + p)]]
  rw [addL_cons, addL_nil, Int.zero_add]⟩
theorem Tp.nodes {ks : List Wk} {ns : List Nd} (h : Tp ks ns) : nodesM ks = ns := by
  unfold nodesM
  rw [h.run 0 bot rfl, shL_zero]
  rfl
theorem whL_app (tr : Int → Bool) : ∀ a b : List Nd, whL tr (a ++ b) = (whL tr a && whL tr b)
  | [], b => by rw [List.nil_append, whL]; simp
  | n :: a, b => by rw [List.cons_append, whL, whL, whL_app tr a b, Bool.and_assoc]
theorem shP_len (b : Int) : ∀ ps : List Pt, (shP b ps).length = ps.length
  | [] => rfl
  | p :: r => by rw [shP, List.length_cons, shP_len b r, List.length_cons]
mutual
theorem whN_sh (tr : Int → Bool) (b : Int) : ∀ n : Nd, whN tr (shN b n) = whN (fun u => tr (u + b)) n
  | .row u => rfl
  | .fence u => rfl
  | .nest ps l => by
    rw [shN, whN, whN, whP_sh tr b ps, shP_len]
    congr 2
    · cases l <;> rfl
    · cases ps with
      | nil => rfl
      | cons p r => cases p; rfl
theorem whL_sh (tr : Int → Bool) (b : Int) : ∀ n : List Nd, whL tr (shL b n) = whL (fun u => tr (u + b)) n
  | [] => rfl
  | n :: r => by rw [shL, whL, whL, whN_sh tr b n, whL_sh tr b r]
theorem whP_sh (tr : Int → Bool) (b : Int) : ∀ n : List Pt, whP tr (shP b n) = whP (fun u => tr (u + b)) n
  | [] => rfl
  | n :: r => by rw [shP, whP, whP, whT_sh tr b n, whP_sh tr b r]
theorem whT_sh (tr : Int → Bool) (b : Int) : ∀ p : Pt, whT tr (shT b p) = whT (fun u => tr (u + b)) p
  | .mk u ns => by rw [shT, whT, whT, whL_sh tr b ns]
end
open K32
mutual
theorem whN_cg {tr tr' : Int → Bool} : ∀ n : Nd, (∀ u ∈ unN n, tr u = tr' u) → whN tr n = whN tr' n
  | .row u, _ => rfl
  | .fence u, _ => rfl
  | .nest ps l, h => by
    have h2 : ∀ u ∈ unP ps, tr u = tr' u := fun u m => h u (by show u ∈ unP ps ++ _; exact List.mem_append_left _ m)
    rw [whN, whN, whP_cg ps h2]
    congr 3
    cases ps with
    | nil => rfl
    | cons p r =>
      cases p with
      | mk u ns =>
        rw [tryHd, tryHd, h2 u (by rw [unP]; exact List.mem_cons_self)]
theorem whL_cg {tr tr' : Int → Bool} : ∀ n : List Nd, (∀ u ∈ unL n, tr u = tr' u) → whL tr n = whL tr' n
  | [], _ => rfl
  | n :: r, h => by
    rw [whL, whL, whN_cg n fun u m => h u (by rw [unL]; exact List.mem_append_left _ m), whL_cg r fun u m => h u (by rw [unL]; exact List.mem_append_right _ m)]
theorem whP_cg {tr tr' : Int → Bool} : ∀ n : List Pt, (∀ u ∈ unP n, tr u = tr' u) → whP tr n = whP tr' n
  | [], _ => rfl
  | .mk u ns :: r, h => by
    rw [whP, whP, whT, whT, whL_cg ns fun v m => h v (by rw [unP]; exact List.mem_cons_of_mem _ (List.mem_append_left _ m)), whP_cg r fun v m => h v (by rw [unP]; exact List.mem_cons_of_mem _ (List.mem_append_right _ m))]
end
theorem ivl_mem {a e u : Int} (h : u ∈ ivl a e) : a ≤ u ∧ u < e := by
  unfold ivl at h
  obtain ⟨i, hi, rfl⟩ := List.mem_map.mp h
  have := List.mem_range.mp hi
  omega
theorem whole_app {ks js : List Wk} {ns ms : List Nd} (h : Tp ks ns) (g : Tp js ms) : whL (trK (ks ++ js)) (nodesM (ks ++ js)) = (whL (trK ks) (nodesM ks) && whL (trK js) (nodesM js)) := by
  rw [(h.app g).nodes, whL_app, whL_sh, h.nodes, g.nodes]
  congr 1
  · refine whL_cg _ fun u m => ?_
    rw [← h.nodes, nodes_units] at m
    have := ivl_mem m
    unfold trK
    rw [List.getElem?_append_left (by omega)]
  · refine whL_cg _ fun u m => ?_
    rw [← g.nodes, nodes_units] at m
    have := ivl_mem m
    unfold trK
    rw [List.getElem?_append_right (by omega)]
    congr 3
    omega
theorem nodes_app {ks js : List Wk} {ns ms : List Nd} (h : Tp ks ns) (g : Tp js ms) : nodesM (ks ++ js) = nodesM ks ++ shL ks.length (nodesM js) := by
  rw [(h.app g).nodes, h.nodes, g.nodes]
end KN

/-! zip of a tuple and a list: two walks by what they promise, not by their kind -/
namespace RZ
open PySem
open PySem.Sem (wp)
/-- what is said of an iterator lasts as long as it and its source do -/
def Lasts (it l : Addr) (P : Heap → Prop) : Prop := ∀ h h' : Heap, P h → (∀ c o, (c = it ∨ c = l) → h.get? c = some o → h'.get? c = some o) → P h'
structure Nx (prog : Program) (w : World) (A : Around) (it l : Addr) (P P' : Heap → Prop) (x : Option Value) : Prop where
  l0 : Lasts it l P
  l1 : Lasts it l P'
  item : ∀ v, x = some v → ∀ (s : Shared) (E : Value → Shared → Prop) (Q : Value → Shared → Prop), P s.heap → (∀ h', P' h' → Heap.SameBut it s.heap h' → Q v { s with heap := h' }) → wpAny (model prog w) A (Builtin.SmallTypes.nextOf (.ref it)) Q E s
  stop : x = none → A.handled = none → ∀ (s : Shared) (E : Value → Shared → Prop) (Q : Value → Shared → Prop), P s.heap → (∀ h' e, Heap.ExtBut it s.heap h' → (∃ o, h'.get? e = some o ∧ o.cls = .type "StopIteration") → E (.ref e) { s with heap := h' }) →
    wpAny (model prog w) A (Builtin.SmallTypes.nextOf (.ref it)) Q E s
def OnT (it l : Addr) (xs : Array Value) (k : Nat) (h : Heap) : Prop := h.IsTupleIter it l k ∧ h.IsTuple l xs
def OnL (it l : Addr) (xs : Array Value) (k : Nat) (h : Heap) : Prop := h.IsListIter it l k ∧ h.IsList l xs
theorem onT_lasts {it l : Addr} {xs : Array Value} {k : Nat} : Lasts it l (OnT it l xs k) := fun h h' p e => ⟨p.1.at fun o => e it o (.inl rfl), p.2.at fun o => e l o (.inr rfl)⟩
theorem onL_lasts {it l : Addr} {xs : Array Value} {k : Nat} : Lasts it l (OnL it l xs k) := fun h h' p e => ⟨p.1.at fun o => e it o (.inl rfl), p.2.at fun o => e l o (.inr rfl)⟩
theorem nx_T {prog : Program} {w : World} {A : Around} {it l : Addr} {xs : Array Value} {k : Nat} (ne : l ≠ it) : Nx prog w A it l (OnT it l xs k) (OnT it l xs (k + 1)) xs[k]? where
  l0 := onT_lasts
  l1 := onT_lasts
  item := fun v e s E Q p q => nextOf_tuple_item p.1 p.2 e fun h' a b => q h' ⟨a, p.2.extBut b.extBut ne⟩ b
  stop := fun e hh s E Q p q => nextOf_tuple_end hh p.1 p.2 e q
theorem nx_L {prog : Program} {w : World} {A : Around} {it l : Addr} {xs : Array Value} {k : Nat} (ne : l ≠ it) : Nx prog w A it l (OnL it l xs k) (OnL it l xs (k + 1)) xs[k]? where
  l0 := onL_lasts
  l1 := onL_lasts
  item := fun v e s E Q p q => wpAny_nextOf_list_item p.1 p.2 e fun h' a b => q h' ⟨a, p.2.extBut b.extBut ne⟩ b
  stop := fun e hh s E Q p q => wpAny_nextOf_list_end hh p.1 p.2 e q
section
variable {prog : Program} {w : World} {A : Around} {E : Value → Shared → Prop} {s : Shared}
theorem zipG_item {z TI TO i1 i2 l1 l2 : Addr} {P1 P1' P2 P2' : Heap → Prop} {x y a b : Value} {Q : Value → Shared → Prop} (D : ZipApart z TI TO i1 i2 l1 l2)
    (N1 : Nx prog w A i1 l1 P1 P1' (some x)) (N2 : Nx prog w A i2 l2 P2 P2' (some y))
    (hz : IsZip s.heap z TI TO .none) (hTI : IsPair s.heap TI (.ref i1) (.ref i2)) (hTO : IsPair s.heap TO a b) (p1 : P1 s.heap) (p2 : P2 s.heap)
    (hQ : ∀ h', IsZip h' z TI TO (rawInt s.heap.objs.size) → IsPair h' TO x y → P1' h' → P2' h' → IsPair h' s.heap.objs.size x y → h'.objs.size = s.heap.objs.size + 1 →
      (∀ c o, c ≠ z → c ≠ TO → c ≠ i1 → c ≠ i2 → s.heap.get? c = some o → h'.get? c = some o) → Q (.ref s.heap.objs.size) { s with heap := h' }) :
    wpAny (model prog w) A (Builtin.«zip.__next__» ⟨[.ref z], []⟩) (fun fin s' => ∃ v, fin = .done (.ret v) ∧ Q v s') E s := by
  have ap1 : ∀ c, c = i1 ∨ c = l1 → c ≠ z ∧ c ≠ TO ∧ c ≠ i2 := fun c e => by rcases e with rfl | rfl; exact ⟨D.i1z, D.TOi1.symm, D.i12⟩; exact ⟨D.l1z, D.l1TO, D.l1i2⟩
  have ap2 : ∀ c, c = i2 ∨ c = l2 → c ≠ z ∧ c ≠ TO ∧ c ≠ i1 := fun c e => by rcases e with rfl | rfl; exact ⟨D.i2z, D.TOi2.symm, D.i12.symm⟩; exact ⟨D.l2z, D.l2TO, D.l2i1⟩
  show wpAny _ _ (field (.ref z) 2 >>= _) _ _ _
  refine wpAny_bind (wpAny_field hz rfl (x := .bool false) rfl ?_)
  show wpAny _ _ (field (.ref z) 3 >>= _) _ _ _
  refine wpAny_bind (wpAny_field hz rfl (x := .ref TI) rfl ?_)
  refine wpAny_bind (wpAny_seqItems hTI rfl ?_)
  show wpAny _ _ (Builtin.SmallTypes.ownedTupleIsFree (.ref z) >>= _) _ _ _
  refine wpAny_bind ?_
  unfold Builtin.SmallTypes.ownedTupleIsFree
  refine wpAny_bind (wpAny_field hz rfl (x := .none) rfl (wpAny_pure ?_))
  simp only [if_true]
  refine wpAny_bind (wpAny_rule ?_)
  refine wpAny_bind (wpAny_field hz rfl (x := .ref TO) rfl ?_)
  refine wpAny_bind (wpAny_setField_rec hz (by simp) fun g1 hz1 s1 => ?_)
  replace hz1 : IsZip g1 z TI TO .ellipsis := hz1
  refine wpAny_bind ?_
  simp only [List.zipIdx_cons, List.zipIdx_nil, List.forIn_cons, List.forIn_nil]
  refine wpAny_bind (wpAny_bind (wpAny_onRaise ?_))
  show wpAny _ _ (Builtin.SmallTypes.nextOf (.ref i1) >>= _) _ _ _
  refine wpAny_bind (N1.item x rfl _ _ _ (N1.l0 _ _ p1 fun c o e g => s1.extBut _ _ (ap1 c e).1 g) fun g2 q1 s2 => wpAny_pure ?_)
  have hTO2 : IsPair g2 TO a b := s2.extBut _ _ D.TOi1 (s1.extBut _ _ D.TOz hTO)
  refine wpAny_bind (wpAny_seqItems hTO2 rfl ?_)
  refine wpAny_bind (wpAny_updateSeq_pair hTO2 fun g3 hTO3 s3 => ?_)
  replace hTO3 : IsPair g3 TO x b := hTO3
  refine wpAny_bind (wpAny_letGo (wpAny_pure ?_))
  refine wpAny_bind (wpAny_bind (wpAny_onRaise ?_))
  show wpAny _ _ (Builtin.SmallTypes.nextOf (.ref i2) >>= _) _ _ _
  refine wpAny_bind (N2.item y rfl _ _ _ (N2.l0 _ _ p2 fun c o e g => s3.extBut _ _ (ap2 c e).2.1 (s2.extBut _ _ (ap2 c e).2.2 (s1.extBut _ _ (ap2 c e).1 g))) fun g4 q2 s4 => wpAny_pure ?_)
  have hTO4 : IsPair g4 TO x b := s4.extBut _ _ D.TOi2 hTO3
  refine wpAny_bind (wpAny_seqItems hTO4 rfl ?_)
  refine wpAny_bind (wpAny_updateSeq_pair hTO4 fun g5 hTO5 s5 => ?_)
  replace hTO5 : IsPair g5 TO x y := hTO5
  refine wpAny_bind (wpAny_letGo (wpAny_pure (wpAny_pure ?_)))
  refine wpAny_bind (wpAny_seqItems hTO5 rfl ?_)
  refine wpAny_bind (wpAny_newTuple ?_)
  have hsz : g5.objs.size = s.heap.objs.size := by rw [s5.1, s4.1, s3.1, s2.1, s1.1]
  have hz5 : IsZip g5 z TI TO .ellipsis := s5.extBut _ _ D.TOz.symm (s4.extBut _ _ D.i2z.symm (s3.extBut _ _ D.TOz.symm (s2.extBut _ _ D.i1z.symm hz1)))
  have hk5 : ∀ c o, c ≠ z → c ≠ TO → c ≠ i1 → c ≠ i2 → s.heap.get? c = some o → g5.get? c = some o := fun c o c1 c2 c3 c4 e =>
    s5.extBut _ _ c2 (s4.extBut _ _ c4 (s3.extBut _ _ c2 (s2.extBut _ _ c3 (s1.extBut _ _ c1 e))))
  have q1' : P1' g5 := N1.l1 _ _ q1 fun c o e g => s5.extBut _ _ (ap1 c e).2.1 (s4.extBut _ _ (ap1 c e).2.2 (s3.extBut _ _ (ap1 c e).2.1 g))
  have q2' : P2' g5 := N2.l1 _ _ q2 fun c o e g => s5.extBut _ _ (ap2 c e).2.1 g
  have hzlt : z < g5.objs.size := Heap.lt_size hz5
  show wpAny _ _ (Builtin.SmallTypes.ownedTupleHandOut (.ref z) (.ref g5.objs.size) >>= _) _ _ _
  refine wpAny_bind ?_
  unfold Builtin.SmallTypes.ownedTupleHandOut
  have hz6 : IsZip (g5.push { cls := .type "tuple", data := .seq #[x, y] }) z TI TO .ellipsis := Heap.get?_push_of_some _ hz5
  refine wpAny_bind (wpAny_setField_rec hz6 (by simp) fun g7 hz7 s7 => ?_)
  replace hz7 : IsZip g7 z TI TO (rawInt g5.objs.size) := hz7
  refine wpAny_setField_rec hz7 (by simp) fun g8 hz8 s8 => ?_
  replace hz8 : IsZip g8 z TI TO (rawInt g5.objs.size) := hz8
  have up : ∀ c o, c ≠ z → g5.get? c = some o → g8.get? c = some o := fun c o c1 e => s8.extBut _ _ c1 (s7.extBut _ _ c1 (Heap.get?_push_of_some _ e))
  have hT8 : IsPair g8 g5.objs.size x y := s8.extBut _ _ (Nat.ne_of_gt hzlt) (s7.extBut _ _ (Nat.ne_of_gt hzlt) (Heap.get?_push_size _ rfl))
  have e8 : g8.objs.size = g5.objs.size + 1 := by rw [s8.1, s7.1, Heap.size_push]
  rw [hsz] at hz8 hT8 e8
  refine wpAny_pure ⟨_, rfl, ?_⟩
  show Q (.ref g5.objs.size) _
  rw [hsz]
  exact hQ g8 hz8 (up _ _ D.TOz hTO5) (N1.l1 _ _ q1' fun c o e g => up c o (ap1 c e).1 g) (N2.l1 _ _ q2' fun c o e g => up c o (ap2 c e).1 g) hT8 e8 fun c o c1 c2 c3 c4 e => up c o c1 (hk5 c o c1 c2 c3 c4 e)
theorem zipG_stop {z TI TO i1 i2 l1 l2 : Addr} {P1 P1' P2 P2' : Heap → Prop} {x y : Option Value} {a b : Value} {Q : Fin → Shared → Prop} (hh : A.handled = none) (D : ZipApart z TI TO i1 i2 l1 l2)
    (N1 : Nx prog w A i1 l1 P1 P1' x) (N2 : Nx prog w A i2 l2 P2 P2' y)
    (hz : IsZip s.heap z TI TO .none) (hTI : IsPair s.heap TI (.ref i1) (.ref i2)) (hTO : IsPair s.heap TO a b) (p1 : P1 s.heap) (p2 : P2 s.heap) (hend : x = none ∨ y = none)
    (hE : ∀ h' e, (∀ c o, c ≠ z → c ≠ TO → c ≠ i1 → c ≠ i2 → s.heap.get? c = some o → h'.get? c = some o) → (∃ o, h'.get? e = some o ∧ o.cls = .type "StopIteration") → E (.ref e) { s with heap := h' }) :
    wpAny (model prog w) A (Builtin.«zip.__next__» ⟨[.ref z], []⟩) Q E s := by
  have ap1 : ∀ c, c = i1 ∨ c = l1 → c ≠ z ∧ c ≠ TO ∧ c ≠ i2 := fun c e => by rcases e with rfl | rfl; exact ⟨D.i1z, D.TOi1.symm, D.i12⟩; exact ⟨D.l1z, D.l1TO, D.l1i2⟩
  have ap2 : ∀ c, c = i2 ∨ c = l2 → c ≠ z ∧ c ≠ TO ∧ c ≠ i1 := fun c e => by rcases e with rfl | rfl; exact ⟨D.i2z, D.TOi2.symm, D.i12.symm⟩; exact ⟨D.l2z, D.l2TO, D.l2i1⟩
  show wpAny _ _ (field (.ref z) 2 >>= _) _ _ _
  refine wpAny_bind (wpAny_field hz rfl (x := .bool false) rfl ?_)
  show wpAny _ _ (field (.ref z) 3 >>= _) _ _ _
  refine wpAny_bind (wpAny_field hz rfl (x := .ref TI) rfl ?_)
  refine wpAny_bind (wpAny_seqItems hTI rfl ?_)
  show wpAny _ _ (Builtin.SmallTypes.ownedTupleIsFree (.ref z) >>= _) _ _ _
  refine wpAny_bind ?_
  unfold Builtin.SmallTypes.ownedTupleIsFree
  refine wpAny_bind (wpAny_field hz rfl (x := .none) rfl (wpAny_pure ?_))
  simp only [if_true]
  refine wpAny_bind (wpAny_rule ?_)
  refine wpAny_bind (wpAny_field hz rfl (x := .ref TO) rfl ?_)
  refine wpAny_bind (wpAny_setField_rec hz (by simp) fun g1 hz1 s1 => ?_)
  replace hz1 : IsZip g1 z TI TO .ellipsis := hz1
  refine wpAny_bind ?_
  simp only [List.zipIdx_cons, List.zipIdx_nil, List.forIn_cons, List.forIn_nil]
  refine wpAny_bind (wpAny_bind (wpAny_onRaise ?_))
  show wpAny _ _ (Builtin.SmallTypes.nextOf (.ref i1) >>= _) _ _ _
  have r1 := N1.l0 s.heap g1 p1 fun c o e g => s1.extBut _ _ (ap1 c e).1 g
  cases x with
  | none =>
    refine wpAny_bind (N1.stop rfl hh _ _ _ r1 fun g2 e s2 he => ?_)
    obtain ⟨oe, hoe, hce⟩ := he
    have hz2 : IsZip g2 z TI TO .ellipsis := s2 _ _ D.i1z.symm hz1
    have hez : e ≠ z := fun x => by subst x; rw [hz2] at hoe; cases hoe; simp at hce
    refine wpAny_setField_rec hz2 (by simp) fun g3 _ s3 => hE g3 e (fun c o c1 _ c3 _ x => s3.extBut _ _ c1 (s2 _ _ c3 (s1.extBut _ _ c1 x))) ⟨oe, s3.extBut _ _ hez hoe, hce⟩
  | some v =>
    have hy : y = none := by rcases hend with h | h; cases h; exact h
    refine wpAny_bind (N1.item v rfl _ _ _ r1 fun g2 q1 s2 => wpAny_pure ?_)
    have hTO2 : IsPair g2 TO a b := s2.extBut _ _ D.TOi1 (s1.extBut _ _ D.TOz hTO)
    refine wpAny_bind (wpAny_seqItems hTO2 rfl ?_)
    refine wpAny_bind (wpAny_updateSeq_pair hTO2 fun g3 hTO3 s3 => ?_)
    refine wpAny_bind (wpAny_letGo (wpAny_pure ?_))
    refine wpAny_bind (wpAny_bind (wpAny_onRaise ?_))
    show wpAny _ _ (Builtin.SmallTypes.nextOf (.ref i2) >>= _) _ _ _
    refine wpAny_bind (N2.stop hy hh _ _ _ (N2.l0 _ _ p2 fun c o e g => s3.extBut _ _ (ap2 c e).2.1 (s2.extBut _ _ (ap2 c e).2.2 (s1.extBut _ _ (ap2 c e).1 g))) fun g4 e s4 he => ?_)
    obtain ⟨oe, hoe, hce⟩ := he
    have hz4 : IsZip g4 z TI TO .ellipsis := s4 _ _ D.i2z.symm (s3.extBut _ _ D.TOz.symm (s2.extBut _ _ D.i1z.symm hz1))
    have hez : e ≠ z := fun x => by subst x; rw [hz4] at hoe; cases hoe; simp at hce
    refine wpAny_setField_rec hz4 (by simp) fun g5 _ s5 => hE g5 e (fun c o c1 c2 c3 c4 x => s5.extBut _ _ c1 (s4 _ _ c4 (s3.extBut _ _ c2 (s2.extBut _ _ c3 (s1.extBut _ _ c1 x))))) ⟨oe, s5.extBut _ _ hez hoe, hce⟩
end
end RZ

namespace RZ
open PySem PySem.Spec PyProof.Rows L2
section
variable {prog : Program} {w : World} {A : Around} {E : Value → Shared → Prop} {s : Shared}
theorem pyNext_zipG_item {z TI TO i1 i2 l1 l2 : Addr} {P1 P1' P2 P2' : Heap → Prop} {x y a b : Value} {Q : Option Value → Shared → Prop} (D : ZipApart z TI TO i1 i2 l1 l2)
    (N1 : Nx prog w A.in1 i1 l1 P1 P1' (some x)) (N2 : Nx prog w A.in1 i2 l2 P2 P2' (some y))
    (hz : IsZip s.heap z TI TO .none) (hTI : IsPair s.heap TI (.ref i1) (.ref i2)) (hTO : IsPair s.heap TO a b) (p1 : P1 s.heap) (p2 : P2 s.heap)
    (hQ : ∀ h', IsZip h' z TI TO (rawInt s.heap.objs.size) → IsPair h' TO x y → P1' h' → P2' h' → IsPair h' s.heap.objs.size x y → h'.objs.size = s.heap.objs.size + 1 →
      (∀ c o, c ≠ z → c ≠ TO → c ≠ i1 → c ≠ i2 → s.heap.get? c = some o → h'.get? c = some o) → Q (some (.ref s.heap.objs.size)) { s with heap := h' }) :
    wpAny (model prog w) A (pyNext (.ref z)) Q E s := by
  have hT : s.TypeIs (.ref z) "zip" := ⟨_, hz, rfl⟩
  unfold pyNext
  exact wpAny_bind (wpAny_attempt (wpAny_callSpecial?_slot (name := Str.ofString "__next__") hT F.slot_zip_next
    (wpAny_call_entry F.slot_zip_next hT F.entry_zip_next (zipG_item D N1 N2 hz hTI hTO p1 p2 fun h' a1 a2 a3 a4 a5 a6 a7 => wpAny_pure (hQ h' a1 a2 a3 a4 a5 a6 a7)) (F.args_zip_next_1 _))))
theorem pyNext_zipG_stop {z TI TO i1 i2 l1 l2 : Addr} {P1 P1' P2 P2' : Heap → Prop} {x y : Option Value} {a b : Value} {Q : Option Value → Shared → Prop} (hh : A.handled = none) (D : ZipApart z TI TO i1 i2 l1 l2)
    (N1 : Nx prog w A.in1 i1 l1 P1 P1' x) (N2 : Nx prog w A.in1 i2 l2 P2 P2' y)
    (hz : IsZip s.heap z TI TO .none) (hTI : IsPair s.heap TI (.ref i1) (.ref i2)) (hTO : IsPair s.heap TO a b) (p1 : P1 s.heap) (p2 : P2 s.heap) (hend : x = none ∨ y = none)
    (hQ : ∀ h', (∀ c o, c ≠ z → c ≠ TO → c ≠ i1 → c ≠ i2 → s.heap.get? c = some o → h'.get? c = some o) → Q none { s with heap := h' }) : wpAny (model prog w) A (pyNext (.ref z)) Q E s := by
  have hT : s.TypeIs (.ref z) "zip" := ⟨_, hz, rfl⟩
  unfold pyNext
  refine wpAny_bind (wpAny_attempt (wpAny_callSpecial?_slot (name := Str.ofString "__next__") hT F.slot_zip_next
    (wpAny_call_entry F.slot_zip_next hT F.entry_zip_next (zipG_stop hh D N1 N2 hz hTI hTO p1 p2 hend fun h' e hk he => ?_) (F.args_zip_next_1 _))))
  obtain ⟨o, ho, hc⟩ := he
  refine wpAny_bind (wpAny_isInstance (T := "StopIteration") (b := true) ⟨o, ho, hc⟩ isSubtype_stop ?_)
  exact wpAny_pure (hQ _ hk)
end
/-! zip(t, l): t a tuple, l a list -/
abbrev zM1 (h : Heap) (l1 : Addr) : Heap := h.push { cls := .type "tuple_iterator", data := .fields #[.ref l1, .int 0 0] }
abbrev zM2 (h : Heap) (l1 l2 : Addr) : Heap := (zM1 h l1).push { cls := .type "list_iterator", data := .fields #[.ref l2, .int 0 0] }
abbrev zM3 (h : Heap) (l1 l2 : Addr) : Heap := (zM2 h l1 l2).push { cls := .type "tuple", data := .seq #[.ref h.objs.size, .ref (zM1 h l1).objs.size] }
abbrev zM4 (h : Heap) (l1 l2 : Addr) : Heap := (zM3 h l1 l2).push { cls := .type "tuple", data := .seq #[.none, .none] }
abbrev zM5 (h : Heap) (l1 l2 : Addr) : Heap := (zM4 h l1 l2).push { cls := .type "zip", data := .fields #[.none, .bool false, .bool false, .ref (zM2 h l1 l2).objs.size, .ref (zM3 h l1 l2).objs.size] }
theorem meets_zipM_new (l1 l2 : Addr) (xs ys : Array Value) :
    Meets (Builtin.«zip.__new__» ⟨[.type "zip", .ref l1, .ref l2], []⟩) (fun _ R s => s.heap.IsTuple l1 xs ∧ s.heap.IsList l2 ys ∧
      R (.ok (.ret (.ref (zM4 s.heap l1 l2).objs.size))) { s with heap := zM5 s.heap l1 l2 }) :=
  .of_wp fun prog w A R s h => by
    obtain ⟨hp, g, d, tk, os⟩ := s; obtain ⟨hl1, hl2, h⟩ := h
    have hsub := sub_zip
    have hL1 : Heap.IsTuple (Shared.heap ⟨hp, g, d, tk, os⟩) l1 xs := hl1
    have hL2 : Heap.IsList (Shared.heap ⟨hp.push { cls := .type "tuple_iterator", data := .fields #[.ref l1, .int 0 0] }, g, d, tk, os⟩) l2 ys := Heap.IsList.push hl2 _
    wp_walk using wpAny_pyIter_tuple hL1, wpAny_pyIter_list hL2
    exact ⟨_, rfl, h⟩
section
variable {prog : Program} {w : World} {A : Around} {E : Value → Shared → Prop} {s : Shared}
theorem call_zipM {l1 l2 : Addr} {xs ys : Array Value} {Q : Value → Shared → Prop} (hl1 : s.heap.IsTuple l1 xs) (hl2 : s.heap.IsList l2 ys)
    (h : ∀ h', IsZip h' (s.heap.objs.size + 4) (s.heap.objs.size + 2) (s.heap.objs.size + 3) .none → IsPair h' (s.heap.objs.size + 2) (.ref s.heap.objs.size) (.ref (s.heap.objs.size + 1)) →
      IsPair h' (s.heap.objs.size + 3) .none .none → h'.IsTupleIter s.heap.objs.size l1 0 → h'.IsListIter (s.heap.objs.size + 1) l2 0 → h'.objs.size = s.heap.objs.size + 5 →
      (∀ c o, s.heap.get? c = some o → h'.get? c = some o) → Q (.ref (s.heap.objs.size + 4)) { s with heap := h' }) :
    wpAny (model prog w) A (call (.type "zip") [.ref l1, .ref l2]) Q E s := by
  refine callType_new F.called_zip (by decide) (F.typeCall_zip_2 _ _) (F.newCall_zip_2 _ _) (fun obj => F.args_object_init_3 obj _ _) F.entry_zip_new
    (meets_zipM_new l1 l2 xs ys) ⟨hl1, hl2, ?_⟩
  have n1 : (zM1 s.heap l1).objs.size = s.heap.objs.size + 1 := Heap.size_push ..
  have n2 : (zM2 s.heap l1 l2).objs.size = s.heap.objs.size + 2 := by rw [Heap.size_push, n1]
  have n3 : (zM3 s.heap l1 l2).objs.size = s.heap.objs.size + 3 := by rw [Heap.size_push, n2]
  have n4 : (zM4 s.heap l1 l2).objs.size = s.heap.objs.size + 4 := by rw [Heap.size_push, n3]
  have n5 : (zM5 s.heap l1 l2).objs.size = s.heap.objs.size + 5 := by rw [Heap.size_push, n4]
  have k5 : (zM5 s.heap l1 l2).get? (zM4 s.heap l1 l2).objs.size = some _ := Heap.get?_push_size _ rfl
  have k4 : (zM5 s.heap l1 l2).get? (zM3 s.heap l1 l2).objs.size = some _ := Heap.get?_push_of_some _ (Heap.get?_push_size _ rfl)
  have k3 : (zM5 s.heap l1 l2).get? (zM2 s.heap l1 l2).objs.size = some _ := Heap.get?_push_of_some _ (Heap.get?_push_of_some _ (Heap.get?_push_size _ rfl))
  have k2 : (zM5 s.heap l1 l2).get? (zM1 s.heap l1).objs.size = some _ := Heap.get?_push_of_some _ (Heap.get?_push_of_some _ (Heap.get?_push_of_some _ (Heap.get?_push_size _ rfl)))
  have k1 : (zM5 s.heap l1 l2).get? s.heap.objs.size = some _ := Heap.get?_push_of_some _ (Heap.get?_push_of_some _ (Heap.get?_push_of_some _ (Heap.get?_push_of_some _ (Heap.get?_push_size _ rfl))))
  show _ ∧ _
  rw [n2, n3, n4] at k5
  rw [n1, n2] at k3
  rw [n3] at k4
  rw [n1] at k2
  rw [n4]
  exact ⟨⟨_, k5, rfl⟩, h _ k5 k3 k4 ⟨_, k1, rfl, rfl⟩ ⟨_, k2, rfl, rfl⟩ n5 fun c o x =>
    Heap.get?_push_of_some _ (Heap.get?_push_of_some _ (Heap.get?_push_of_some _ (Heap.get?_push_of_some _ (Heap.get?_push_of_some _ x))))⟩
end
end RZ

namespace RZ
open PySem PySem.Spec PyProof.Rows L2
/-- the tuple at a and the list at b, the items in new pairs -/
def ItzM (K : PySem.W.Frag) (a b : Addr) : It :=
  ⟨fun i H => ∃ (xs ys : List V) (x y : V), SqT K H a xs ∧ SqL K H b ys ∧ xs[i]? = some x ∧ ys[i]? = some y,
    fun i H v H' => ∃ T x y, v = .ref T ∧ H T = none ∧ H' = upd H T (.tup [x, y]) ∧ (∀ xs, SqT K H a xs → xs[i]? = some x) ∧ ∀ ys, SqL K H b ys → ys[i]? = some y,
    fun i H => ∃ xs ys : List V, SqT K H a xs ∧ SqL K H b ys ∧ (xs.length ≤ i ∨ ys.length ≤ i)⟩
theorem turn_zipM {P : Program} {w : World} {K : PySem.W.Frag} {elts : List Expr} {kk : Nat} {tpos : Pos} {a b z TI TO i1 i2 : Addr} (D : ZipApart z TI TO i1 i2 a b) :
    Turn P w K (.Tuple elts kk tpos) (ItzM K a b) [z, TI, TO, i1, i2] z (fun i h => IsZip h z TI TO .none ∧ IsPair h TI (.ref i1) (.ref i2) ∧ (∃ x y, IsPair h TO x y) ∧ h.IsTupleIter i1 a i ∧ h.IsListIter i2 b i) where
  mem := by simp
  obj := fun i h st c hc => by
    obtain ⟨hz, hTI, ⟨x, y, hTO⟩, ⟨o1, e1, _, d1⟩, ⟨o2, e2, _, d2⟩⟩ := st
    have e' : c = z ∨ c = TI ∨ c = TO ∨ c = i1 ∨ c = i2 := by simpa using hc
    rcases e' with q | q | q | q | q
    · rw [q]; exact ⟨_, hz, fun v q => nomatch q⟩
    · rw [q]; exact ⟨_, hTI, fun v q => nomatch q⟩
    · rw [q]; exact ⟨_, hTO, fun v q => nomatch q⟩
    · rw [q]; exact ⟨o1, e1, fun v q => by rw [d1] at q; cases q⟩
    · rw [q]; exact ⟨o2, e2, fun v q => by rw [d2] at q; cases q⟩
  keep := fun i h h' st k => by
    obtain ⟨hz, hTI, ⟨x, y, hTO⟩, h1, h2⟩ := st
    exact ⟨k z (by simp) _ hz, k TI (by simp) _ hTI, ⟨x, y, k TO (by simp) _ hTO⟩, h1.at fun o q => k i1 (by simp) o q, h2.at fun o q => k i2 (by simp) o q⟩
  item := by
    intro X hP hw hK hc i pins s σ H E I hf st hg
    subst hP hw hK
    obtain ⟨hz, hTI, ⟨x0, y0, hTO⟩, h1, h2⟩ := st
    obtain ⟨xs, ys, x, y, hqx, hqy, hx, hy⟩ := hg
    obtain ⟨its, rv, p, _⟩ := I.tuple hqx
    obtain ⟨its2, rv2, p2, _⟩ := I.list hqy
    obtain ⟨u, hu, ru⟩ := rv.get hx
    obtain ⟨u2, hu2, ru2⟩ := rv2.get hy
    have hzl : z < s.heap.objs.size := Heap.lt_size hz
    have g1 : its.toArray[i]? = some u := by simpa using hu
    have g2 : its2.toArray[i]? = some u2 := by simpa using hu2
    refine pyNext_zipG_item D (by rw [← g1]; exact nx_T D.l1i1) (by rw [← g2]; exact nx_L D.l2i2) hz hTI hTO (show OnT i1 a its.toArray i s.heap from ⟨h1, p⟩) (show OnL i2 b its2.toArray i s.heap from ⟨h2, p2.isList⟩) fun h' z' TO' h1' h2' hT hsz hk => ?_
    refine ⟨_, rfl, wpAny_letOwnedTupleGo_zip (s := { s with heap := h' }) z' fun h'' z'' sb => ?_⟩
    have hT2 : h''.get? s.heap.objs.size = some { cls := .type "tuple", data := .seq #[u, u2] } := (sb.2 _ (Nat.ne_of_gt hzl)).trans hT
    have new : ObjOk X.prog X.w (upd H s.heap.objs.size (.tup [x, y])) h'' s.heap.objs.size (.tup [x, y]) :=
      ⟨by show 2 ≤ sizeLine; decide, [u, u2], .cons ru (.cons ru2 .nil), ⟨_, hT2, rfl, _, rfl⟩⟩
    have I1 : Inv X pins σ (upd H s.heap.objs.size (.tup [x, y])) { s with heap := h'' } :=
      I.turnedNew (t' := s.toks) (ch := [z, TI, TO, i1, i2]) (fun c o hb q => (sb.2 c (fun q' => hb (by simp [q']))).trans (hk c o (fun q' => hb (by simp [q'])) (fun q' => hb (by simp [q'])) (fun q' => hb (by simp [q'])) (fun q' => hb (by simp [q'])) q)) hf (Nat.le_refl _) new
    refine ⟨.ref s.heap.objs.size, _, I1, rfl, ⟨_, x, y, rfl, I.hok.fresh (Nat.le_refl _), rfl, fun l hl => by rw [I.tuple_inj hl hqx]; exact hx, fun l hl => by rw [I.list_inj hl hqy]; exact hy⟩, ⟨z'', ?_, ⟨u, u2, ?_⟩, ?_, ?_⟩, fun c hcm => ?_⟩
    · exact (sb.2 _ D.TIz).trans (hk _ _ D.TIz D.TITO D.TIi1 D.TIi2 hTI)
    · exact (sb.2 _ D.TOz).trans TO'
    · exact h1'.1.at fun o q => (sb.2 _ D.i1z).trans q
    · exact h2'.1.at fun o q => (sb.2 _ D.i2z).trans q
    · have hlt : c < s.heap.objs.size := by
        have e' : c = z ∨ c = TI ∨ c = TO ∨ c = i1 ∨ c = i2 := by simpa using hcm
        rcases e' with q | q | q | q | q
        · rw [q]; exact hzl
        · rw [q]; exact Heap.lt_size hTI
        · rw [q]; exact Heap.lt_size hTO
        · rw [q]; obtain ⟨_, e1, _⟩ := h1; exact Heap.lt_size e1
        · rw [q]; obtain ⟨_, e2, _⟩ := h2; exact Heap.lt_size e2
      rw [upd_ne (Nat.ne_of_lt hlt)]
      exact (hf c hcm).1
  done := by
    intro X hP hw hK hc i pins s σ H E I hf st hg
    subst hP hw hK
    obtain ⟨hz, hTI, ⟨x0, y0, hTO⟩, h1, h2⟩ := st
    obtain ⟨xs, ys, hqx, hqy, hend⟩ := hg
    obtain ⟨its, rv, p, _⟩ := I.tuple hqx
    obtain ⟨its2, rv2, p2, _⟩ := I.list hqy
    have l1 := rv.length
    have l2 := rv2.length
    have he : its.toArray[i]? = none ∨ its2.toArray[i]? = none := by
      rcases hend with q | q
      · exact .inl (by simp; omega)
      · exact .inr (by simp; omega)
    exact pyNext_zipG_stop (I.ok.hd hc) D (nx_T D.l1i1) (nx_L D.l2i2) hz hTI hTO (show OnT i1 a its.toArray i s.heap from ⟨h1, p⟩) (show OnL i2 b its2.toArray i s.heap from ⟨h2, p2.isList⟩) he fun h' hk => ⟨rfl, I.turnedL (t' := s.toks) (ch := [z, TI, TO, i1, i2]) (fun c o hb q =>
      hk c o (fun q' => hb (by simp [q'])) (fun q' => hb (by simp [q'])) (fun q' => hb (by simp [q'])) (fun q' => hb (by simp [q'])) q) hf⟩
  self := fun A i s Q E st h => wpAny_pyIter_zip st.1 h
def iZipM (K : PySem.W.Frag) (ta : TA) : TI := fun σ H R => ta σ H fun vs H1 => ∃ a b xs ys, vs = [.ref a, .ref b] ∧ SqT K H1 a xs ∧ SqL K H1 b ys ∧ R (ItzM K a b) H1
theorem pi_zipM {X : Cx} {e e2 : Expr} {ta : TA} {p pos tpos : Pos} {elts : List Expr} {kk : Nat} (hg : Gl X "zip") (hm : X.mg "zip" = none) (ha : PA X [e, e2] ta)
    (hs : starEach [e, e2] X.env = (false, eval e X.env) :: starEach [e2] X.env := by rfl) (hpl : (backTo pos (starEach [e2] X.env)).any (·.1) = false := by rfl) :
    PI X (.Tuple elts kk tpos) (.Call (.Name "zip" p) [e, e2] [] pos) (iZipM X.K ta) := by
  refine ⟨fun pins s σ H R I h => ?_⟩
  refine Call_ (ld_blt I hg hm PyProof.Rows.boot_zip (PyProof.Rows.callWith_type1 (thn (ha.run pos pins s σ H _ I h) fun us s1 ⟨vs, H1, I1, r1, q1⟩ => ?_) hs hpl))
  obtain ⟨a, b, xs, ys, ex, hqx, hqy, q⟩ := q1
  subst ex
  cases r1 with
  | cons r rr =>
    cases rr with
    | cons r' rr =>
      cases rr
      cases r
      cases r'
      have fresh5 : ∀ c, c ∈ [s1.heap.objs.size + 4, s1.heap.objs.size + 2, s1.heap.objs.size + 3, s1.heap.objs.size, s1.heap.objs.size + 1] → FpOk X pins H1 c := fun c hcm => by
        have hle : s1.heap.objs.size ≤ c := by
          simp only [List.mem_cons, List.not_mem_nil, or_false] at hcm
          omega
        exact I1.fpOk hle (I1.hok.fresh hle)
      obtain ⟨its, rv, p1, _⟩ := I1.tuple hqx
      obtain ⟨its2, rv2, p2, _⟩ := I1.list hqy
      obtain ⟨o1, ho1, _⟩ := id p1
      refine call_zipM (show s1.heap.IsTuple a its.toArray from p1) p2.isList fun h' hz hTI hTO h1 h2 hsz hk => wpAny_pyIter_zip hz ?_
      have I2 : Inv X pins σ H1 { s1 with heap := h' } := I1.kept (t' := s1.toks) hk
      exact ⟨s1.heap.objs.size + 4, [s1.heap.objs.size + 4, s1.heap.objs.size + 2, s1.heap.objs.size + 3, s1.heap.objs.size, s1.heap.objs.size + 1], _, _, H1, rfl, I2, turn_zipM (PySem.W.ktu_apart s1.heap.objs.size a b (Heap.lt_size ho1) p2.lt), ⟨hz, hTI, ⟨_, _, hTO⟩, h1, h2⟩, fresh5, q⟩
end RZ
namespace PW
open PySem L2
/-! ### zip of a tuple and a list -/
def wZpM (wa wb : EW) : IW := fun kx s k => wa kx s fun v s1 => wb kx s1 fun u s2 => ∃ xs, v = .d (.tuple xs) ∧ lst u s2 fun ys s3 => k (zipD xs ys) none s3
theorem it_zipM {K : PySem.W.Frag} {a b : Addr} {v : PV} {xs ys : List PyData} (hs : LSrc v ys) : ItOk K (RZ.ItzM K a b) [(.d (.tuple xs), .ref a), (v, .ref b)] none (zipD xs ys) := by
  intro H0 F0 A0 s σ T H F A w ht _ i
  have p : PVOk K F A (.d (.tuple xs)) (.ref a) := w.tm _ (ht _ List.mem_cons_self)
  obtain ⟨a', vs, e, h1, h2⟩ := itemsT_ok w p rfl
  obtain ⟨b', ws, e', h1', h2'⟩ := lsrc_ok w hs (ht _ (List.mem_cons_of_mem _ List.mem_cons_self))
  cases e
  cases e'
  have hl := h2.len
  have hl' := h2'.len
  rw [zipD_len]
  refine ⟨fun hi => ⟨vs, ws, vs[i]'(by omega), ws[i]'(by omega), h1, h1', List.getElem?_eq_getElem (by omega), List.getElem?_eq_getElem (by omega)⟩, fun hi => ⟨vs, ws, h1, h1', by omega⟩, fun _ x H' hy => ?_⟩
  obtain ⟨t, y, z, rfl, ht, rfl, hx, hz⟩ := hy
  obtain ⟨d, hd, dq⟩ := h2.get i y (hx vs h1)
  obtain ⟨d', hd', dq'⟩ := h2'.get i z (hz ws h1')
  have sn := same_new (o := .tup [y, z]) (w.fz.g.free ht)
  exact ⟨.tuple [d, d'], zipD_get _ _ _ _ _ hd hd', _, (w.newD (o := .tup [y, z]) ht).push (.tup (SqT.of upd_same) (.cons (dq_same sn dq) (.cons (dq_same sn dq') .nil)))⟩
section
variable {X : Cx} {W : WX} {a b : Expr} {wa wb : EW} {pos p : Pos}
theorem i_zipM {elts : List Expr} {kk : Nat} {tpos : Pos} (hm : X.mg "zip" = none) (ha : PE X a (tE X.K W wa)) (hb : PE X b (tE X.K W wb)) (hg : Gl X "zip" := by rfl) (hs : starEach [a, b] X.env = (false, eval a X.env) :: starEach [b] X.env := by rfl) (hs2 : starEach [b] X.env = (false, eval b X.env) :: starEach [] X.env := by rfl) (hpl : (backTo pos (starEach [b] X.env)).any (·.1) = false := by rfl) :
    PI X (.Tuple elts kk tpos) (.Call (.Name "zip" p) [a, b] [] pos) (tI X.K W (wZpM wa wb)) := by
  refine PI.imp (RZ.pi_zipM hg hm (pa_cons ha (pa_cons hb pa_nil hs2) hs) hs hpl) fun σ H R ⟨H0, F0, A0, s, T, kx, k, w, xl, h, q⟩ => un_of w xl h fun v s1 u H1 h1 w1 => ?_
  refine ⟨H0, F0, A0, s1, _, kx, _, w1, xl.push, h1, fun v2 s2 h2 u2 H2 w2 => ?_⟩
  obtain ⟨xs, rfl, h2⟩ := h2
  obtain ⟨v3, ys, s4, h4, hs4, w4⟩ := lst_ok (T := (.d (.tuple xs), u) :: T) w2 h2
  obtain ⟨F, A, w5⟩ := id w4
  have p1 : PVOk X.K F A (.d (.tuple xs)) u := w5.tm _ (List.mem_cons_of_mem _ List.mem_cons_self)
  obtain ⟨a, vs, rfl, i3, i4⟩ := itemsT_ok w5 p1 rfl
  obtain ⟨b, ws, rfl, j3, j4⟩ := lsrc_ok w5 hs4 List.mem_cons_self
  refine ⟨a, b, vs, ws, rfl, i3, j3, q _ _ _ h4 _ [(.d (.tuple xs), .ref a), (v3, .ref b)] H2 (w4.sub fun t ht => ?_) (it_zipM hs4)⟩
  rcases List.mem_cons.mp ht with e | ht
  · rw [e]; exact List.mem_cons_of_mem _ List.mem_cons_self
  · rcases List.mem_cons.mp ht with e | ht
    · rw [e]; exact List.mem_cons_self
    · exact List.mem_cons_of_mem _ (List.mem_cons_of_mem _ ht)
end
end PW

set_option maxRecDepth 80000
namespace K32
open PySem L2 PW KN
local macro_rules
  | `(tactic| walk_at "sz") => `(tactic| first | omega | (simp only [tx_len, List.length_append, List.length_map, List.length_cons, List.length_nil, List.length_take, List.length_drop] <;> omega))
  | `(tactic| walk_at "go") => `(tactic| repeat (first | refine ⟨rfl, ?_⟩ | refine ⟨trivial, ?_⟩ | refine ⟨_, rfl, ?_⟩ | refine ⟨_, rfl, rfl, ?_⟩ | refine ⟨_, _, rfl, rfl, ?_⟩ | refine ⟨_, ix_hd, ?_⟩ | refine br_t rfl ?_ | refine br_f rfl ?_ | (refine ⟨le_sz ?_, ?_⟩; focus walk_at "sz") | (refine ⟨lt_sz ?_, ?_⟩; focus walk_at "sz") | (refine ⟨strLe_tx ?_, ?_⟩; focus walk_at "sz") | refine ⟨cmul_r rfl, ?_⟩ | refine ⟨cmul_l rfl, ?_⟩ | refine ⟨pos_ok rfl, ?_⟩ | refine ⟨cdiv_ok rfl, ?_⟩ | refine ⟨_, _, _, _, rfl, rfl, rfl, rfl, ?_⟩ | refine ⟨_, _, rfl, ?_⟩ | refine ⟨_, _, _, rfl, rfl, rfl, ?_⟩ | refine ⟨_, _, _, rfl, rfl, ?_⟩))
def iD (l : List Int) : List PyData := l.map PyData.int
def S_units_in (n : Nat) : FS := fun args o ret exc => ∃ ns, args = [.d (.tuple (ndsD ns))] ∧ o = [] ∧ hL ns < n ∧ (unL ns).length ≤ 20000 ∧ ret (.new (iD (unL ns))) []
def paD (x : List Nd × Int × Int) : PyData := .tuple [.tuple (ndsD x.1), .int x.2.1, .int x.2.2]
def S_law_parts (n : Nat) : FS := fun args o ret exc => ∃ ns s, args = [.d (.tuple (ndsD ns)), .d (.int s)] ∧ o = [] ∧ hL ns < n ∧ (unL ns).length ≤ 20000 ∧ ret (.new ((paL ns s).map paD)) []
def S_law_whole : FS := fun args o ret exc => ∃ i : Int, args = [.d (.int i)] ∧ o = [] ∧ ret (.d (.bool true)) []
theorem zero_units_in : ∀ args o r e, ¬ S_units_in 0 args o r e := by
  rintro args o r e ⟨k, _, _, h, _⟩
  omega
theorem zero_law_parts : ∀ args o r e, ¬ S_law_parts 0 args o r e := by
  rintro args o r e ⟨k, _, _, _, h, _⟩
  omega
def w_law_whole : SW :=
 (wRet (wAndV (wIsi "int" (wVar 0)) (wNotV (wIsi "bool" (wVar 0)))))
theorem pure_law_whole : ∀ args o ret exc, S_law_whole args o ret exc → w_law_whole (fun x s => exc x (cutL o.length s.o)) (pst0 args o 1) (bodyE o.length ret) := by
  rintro _ _ ret exc ⟨i, rfl, rfl, h⟩
  unfold w_law_whole
  walk_at "go"
  exact h
theorem unL_app : ∀ a b : List Nd, unL (a ++ b) = unL a ++ unL b
  | [], b => rfl
  | x :: a, b => by rw [List.cons_append, unL, unL, unL_app a b, List.append_assoc]
theorem unP_app : ∀ a b : List Pt, unP (a ++ b) = unP a ++ unP b
  | [], b => rfl
  | .mk u ns :: a, b => by rw [List.cons_append, unP, unP, unP_app a b, List.cons_append, List.append_assoc]
theorem hL_mem : ∀ {ns : List Nd} {x : Nd}, x ∈ ns → hN x ≤ hL ns
  | y :: r, x, m => by
    rw [hL]
    rcases List.mem_cons.mp m with rfl | m
    · omega
    · have := hL_mem m; omega
theorem hP_mem : ∀ {ps : List Pt} {u : Int} {ns : List Nd}, Pt.mk u ns ∈ ps → hL ns ≤ hP ps
  | .mk v y :: r, u, ns, m => by
    rw [hP]
    rcases List.mem_cons.mp m with e | m
    · cases e; omega
    · have := hP_mem m; omega
theorem take_one {α : Type} {l : List α} {j : Nat} (h : j < l.length) : l.take (j + 1) = l.take j ++ [l[j]] := by rw [List.take_succ, List.getElem?_eq_getElem h]; rfl
theorem un_split (ns : List Nd) {j : Nat} (h : j < ns.length) : (unL (ns.take j)).length + (unN ns[j]).length ≤ (unL ns).length := by
  have e : ns = ns.take j ++ (ns[j] :: ns.drop (j + 1)) := by rw [List.getElem_cons_drop, List.take_append_drop]
  have := congrArg (fun l => (unL l).length) e
  simp only [unL_app, unL, List.length_append] at this
  omega
theorem unP_split (ps : List Pt) {j : Nat} {u : Int} {ns : List Nd} (h : j < ps.length) (e0 : ps[j] = .mk u ns) : (unP (ps.take j)).length + 1 + (unL ns).length ≤ (unP ps).length := by
  have e : ps = ps.take j ++ (ps[j] :: ps.drop (j + 1)) := by rw [List.getElem_cons_drop, List.take_append_drop]
  rw [e0] at e
  have := congrArg (fun l => (unP l).length) e
  simp only [unP_app, unP, List.length_append, List.length_cons] at this
  omega
theorem nds_get {ns : List Nd} {j : Nat} {x : PyData} (h : (ndsD ns)[j]? = some x) : ∃ hj : j < ns.length, x = ndD ns[j] := by
  rw [ndsD_map, List.getElem?_map] at h
  by_cases hj : j < ns.length
  · rw [List.getElem?_eq_getElem hj] at h
    exact ⟨hj, (Option.some.inj h).symm⟩
  · rw [List.getElem?_eq_none (by omega)] at h
    cases h
theorem pts_get {ns : List Pt} {j : Nat} {x : PyData} (h : (ptsD ns)[j]? = some x) : ∃ hj : j < ns.length, x = ptD ns[j] := by
  rw [ptsD_map, List.getElem?_map] at h
  by_cases hj : j < ns.length
  · rw [List.getElem?_eq_getElem hj] at h
    exact ⟨hj, (Option.some.inj h).symm⟩
  · rw [List.getElem?_eq_none (by omega)] at h
    cases h
theorem nest_eq : PyData.eqv (.str "row") (.str "nest") = false ∧ PyData.eqv (.str "fence") (.str "nest") = false ∧ PyData.eqv (.str "nest") (.str "nest") = true := by decide +kernel
def lastU : Option Int → List Int
  | none => []
  | some i => [i]
theorem un_nest (ps : List Pt) (l : Option Int) : unN (.nest ps l) = unP ps ++ lastU l := by cases l <;> rfl
def w_units_in (R_units_in : FS) : SW :=
 (wSeq (wAsg (wLst wNil) 1)
 (wSeq (wFor (wTp (wVar 0)) (gN 2)
  (wSeq (wIfS (wB (wNe (wIx (wVar 2) (wC (.int 0))) (wC (.str "nest"))))
  (wSeq (wDrop (wApp (wVar 1) (wIx (wVar 2) (wC (.int 1)))))
 wCnt)
  wNext)
 (wSeq (wFor (wTp (wIx (wVar 2) (wC (.int 1)))) (gT 2 (gsCons (gN 3) (gsCons (gN 4) gsNil)))
  (wSeq (wDrop (wApp (wVar 1) (wVar 3)))
 (wDrop (wExt (wVar 1) (wCall R_units_in (wCons (wVar 4) wNil))))))
 (wIfS (wB (wNotN (wIx (wVar 2) (wC (.int 2)))))
  (wDrop (wApp (wVar 1) (wIx (wVar 2) (wC (.int 2)))))
  wNext))))
 (wRet (wVar 1))))
theorem pure_units_in (n : Nat) : ∀ args o ret exc, S_units_in (n + 1) args o ret exc → w_units_in (S_units_in n) (fun x s => exc x (cutL o.length s.o)) (pst0 args o 5) (bodyE o.length ret) := by
  rintro _ _ ret exc ⟨ns, rfl, rfl, hh, hl, h⟩
  obtain ⟨r1, r2, r3⟩ := nest_eq
  have hlen : ∀ l : List Int, (iD l).length = l.length := fun l => List.length_map _
  unfold w_units_in
  walk_at "go"
  refine ⟨fun j s1 => ∃ x2 x3 x4 : Option PV, s1 = ⟨[some (.d (.tuple (ndsD ns))), some (.own 0), x2, x3, x4], [.dl (iD (unL (ns.take j)))]⟩, ⟨none, none, none, rfl⟩, fun _ _ _ _ => trivial, ?_, ?_⟩
  · rintro j x s1 hx ⟨x2, x3, x4, rfl⟩
    obtain ⟨hj, rfl⟩ := nds_get hx
    clear hx
    have hs := un_split ns hj
    have hm := hL_mem (List.getElem_mem hj)
    have key : iD (unL (ns.take (j + 1))) = iD (unL (ns.take j)) ++ iD (unN ns[j]) := by
      rw [take_one hj, unL_app, unL, unL, List.append_nil, iD, List.map_append]; rfl
    generalize ns[j] = nd at *
    generalize unL (ns.take j) = U at *
    cases nd with
    | row u =>
      walk_at "go"
      refine ⟨lt_sz (by rw [hlen]; omega), ?_⟩
      exact .inl ⟨_, _, _, by rw [key]; rfl⟩
    | fence u =>
      walk_at "go"
      refine ⟨lt_sz (by rw [hlen]; omega), ?_⟩
      exact .inl ⟨_, _, _, by rw [key]; rfl⟩
    | nest ps l =>
      have hm : 1 + hP ps ≤ hL ns := hm
      rw [un_nest, List.length_append] at hs
      rw [un_nest] at key
      have key' : iD (unL (ns.take (j + 1))) = iD (U ++ unP ps) ++ iD (lastU l) := by rw [key]; simp [iD]
      walk_at "go"
      refine ⟨fun i s1 => ∃ x3 x4 : Option PV, s1 = ⟨[some (.d (.tuple (ndsD ns))), some (.own 0), some (.d (ndD (.nest ps l))), x3, x4], [.dl (iD (U ++ unP (ps.take i)))]⟩, ?_, fun _ _ _ _ => trivial, ?_, ?_⟩
      · exact ⟨_, _, by rw [List.take_zero, unP, List.append_nil]; rfl⟩
      · rintro i x s1 hx ⟨x3, x4, rfl⟩
        obtain ⟨hi, rfl⟩ := pts_get hx
        clear hx
        obtain ⟨u, inner, hp⟩ : ∃ u inner, ps[i] = .mk u inner := by cases ps[i]; exact ⟨_, _, rfl⟩
        have hq := unP_split ps hi hp
        have hpm : Pt.mk u inner ∈ ps := by rw [← hp]; exact List.getElem_mem hi
        have hd := hP_mem hpm
        have kp : iD (U ++ unP (ps.take (i + 1))) = (iD (U ++ unP (ps.take i)) ++ [.int u]) ++ iD (unL inner) := by
          rw [take_one hi, hp, unP_app, unP, unP, List.append_nil]; simp [iD]
        rw [hp]
        generalize unP (ps.take i) = V at *
        walk_at "go"
        refine ⟨lt_sz (by rw [hlen, List.length_append]; omega), ?_⟩
        walk_at "go"
        refine ⟨by omega, by omega, ?_⟩
        walk_at "go"
        refine ⟨le_sz (by rw [List.length_append, hlen, hlen, List.length_append, List.length_singleton]; omega), ?_⟩
        exact .inr ⟨_, _, by rw [kp]; rfl⟩
      · rintro s1 ⟨x3, x4, rfl⟩
        rw [ptsD_ln, List.take_length]
        cases l with
        | none =>
          walk_at "go"
          exact .inl ⟨_, _, _, by rw [key', show iD (lastU none) = [] from rfl, List.append_nil]⟩
        | some i =>
          walk_at "go"
          refine ⟨lt_sz (by rw [hlen, List.length_append]; omega), ?_⟩
          exact .inl ⟨_, _, _, by rw [key']; rfl⟩
  · rintro s1 ⟨x2, x3, x4, rfl⟩
    rw [ndsD_ln, List.take_length]
    walk_at "go"
    exact ⟨Nat.le_refl _, _, rfl, h⟩
end K32

namespace K34
open PySem L2 PW KN
local macro_rules
  | `(tactic| walk_at "sz") => `(tactic| first | omega | (simp only [tx_len, List.length_append, List.length_map, List.length_cons, List.length_nil, List.length_take, List.length_drop] <;> omega))
  | `(tactic| walk_at "go") => `(tactic| repeat (first | refine ⟨rfl, ?_⟩ | refine ⟨trivial, ?_⟩ | refine ⟨_, rfl, ?_⟩ | refine ⟨_, rfl, rfl, ?_⟩ | refine ⟨_, _, rfl, rfl, ?_⟩ | refine ⟨_, ix_hd, ?_⟩ | refine br_t rfl ?_ | refine br_f rfl ?_ | (refine ⟨le_sz ?_, ?_⟩; focus walk_at "sz") | (refine ⟨lt_sz ?_, ?_⟩; focus walk_at "sz") | (refine ⟨strLe_tx ?_, ?_⟩; focus walk_at "sz") | refine ⟨cmul_r rfl, ?_⟩ | refine ⟨cmul_l rfl, ?_⟩ | refine ⟨pos_ok rfl, ?_⟩ | refine ⟨cdiv_ok rfl, ?_⟩ | refine ⟨_, _, _, _, rfl, rfl, rfl, rfl, ?_⟩ | refine ⟨_, _, rfl, ?_⟩ | refine ⟨_, _, _, rfl, rfl, rfl, ?_⟩ | refine ⟨_, _, _, rfl, rfl, ?_⟩ | refine ⟨_, _, _, _, _, rfl, rfl, rfl, rfl, rfl, ?_⟩ | rw [tx_app]))

structure Dw where
  L : List Int
  C : List Int
  r : Int
  t : Int
  m : Int
def Dw.kv (D : Dw) : List (Key × PV) := [(.inr "large", .own 0), (.inr "cells", .own 2), (.inr "rest", .d (.int D.r)), (.inr "turn", .d (.int D.t)), (.inr "mix", .d (.int D.m))]
def Dw.o (D : Dw) : List OC := [.dl (D.L.map .int), .dm D.kv, .dl (D.C.map .int)]
structure Dw.Ok (D : Dw) : Prop where
  l : D.L.length ≤ 63
  c : D.C.length ≤ 63
  m0 : 0 ≤ D.m
  m1 : D.m ≤ 2147483629
def S_law_take : FS := fun args o ret exc => ∃ (D : Dw) (n : Int), args = [.own 1, .d (.int n)] ∧ o = D.o ∧ D.Ok ∧ 0 < n ∧ n ≤ 1000 ∧ ∀ (D' : Dw) (v : Int), D'.Ok → 0 ≤ v → v < n → ret (.d (.int v)) D'.o
def w_law_take : SW :=
 (wSeq (wIfS (wAnd (wB (wEq (wDG (wVar 0) (wC (.str "rest"))) (wC (.int 0)))) (wB (wNe (wDG (wVar 0) (wC (.str "large"))) (wLst wNil))))
  (wSetM (wPop0 (wDG (wVar 0) (wC (.str "large")))) (wVar 0) (wC (.str "rest")))
  (wIfS (wB (wEq (wDG (wVar 0) (wC (.str "rest"))) (wC (.int 0))))
  (wSeq (wSetM (wAdd (wDG (wVar 0) (wC (.str "turn"))) (wC (.int 1))) (wVar 0) (wC (.str "turn")))
 (wSeq (wFor (wL (wCat (wLst (wCons (wDG (wVar 0) (wC (.str "turn"))) wNil)) (wDG (wVar 0) (wC (.str "cells"))))) (gN 2)
  (wSetM (wMod (wInt1 (wAdd (wAdd (wMul (wDG (wVar 0) (wC (.str "mix"))) (wC (.int 69621))) (wMul (wVar 2) (wC (.int 48271)))) (wC (.int 12345)))) (wC (.int 2147483629))) (wVar 0) (wC (.str "mix"))))
 (wSetM (wMod (wInt1 (wPow (wDG (wVar 0) (wC (.str "mix"))) (wC (.int 5)))) (wC (.int 2305843009213693951))) (wVar 0) (wC (.str "rest")))))
  wNext))
 (wSeq (wUnp (wDvm (wDG (wVar 0) (wC (.str "rest"))) (wVar 1)) (gT 2 (gsCons (gDMr 0 (.inr "rest")) (gsCons (gN 3) gsNil))))
 (wRet (wVar 3))))
def w_law_take_1 : SW :=
 (wSeq (wUnp (wDvm (wDG (wVar 0) (wC (.str "rest"))) (wVar 1)) (gT 2 (gsCons (gDMr 0 (.inr "rest")) (gsCons (gN 3) gsNil)))) (wRet (wVar 3)))

theorem put_rest (D : Dw) (x : Int) : putM D.kv (.inr "rest") (.d (.int x)) = ({ D with r := x } : Dw).kv := by
  cases D; rfl
theorem put_turn (D : Dw) (x : Int) : putM D.kv (.inr "turn") (.d (.int x)) = ({ D with t := x } : Dw).kv := by
  cases D; rfl
theorem put_mix (D : Dw) (x : Int) : putM D.kv (.inr "mix") (.d (.int x)) = ({ D with m := x } : Dw).kv := by
  cases D; rfl
theorem val_rest (D : Dw) : valM D.kv (.inr "rest") = some (.d (.int D.r)) := by cases D; rfl
theorem val_turn (D : Dw) : valM D.kv (.inr "turn") = some (.d (.int D.t)) := by cases D; rfl
theorem val_mix (D : Dw) : valM D.kv (.inr "mix") = some (.d (.int D.m)) := by cases D; rfl
theorem val_large (D : Dw) : valM D.kv (.inr "large") = some (.own 0) := by cases D; rfl
theorem val_cells (D : Dw) : valM D.kv (.inr "cells") = some (.own 2) := by cases D; rfl
theorem kv_len (D : Dw) : D.kv.length < sizeLine := by
  rw [sizeLine_eq]; show 5 < _; decide
theorem take2 {ret : RV → List OC → Prop} {kx : KX} {D : Dw} {n : Int} {x2 : Option PV} {J : List OC} (hD : D.Ok) (h0 : 0 < n) (hn : n ≤ 1000) (h : ∀ (D' : Dw) (v : Int), D'.Ok → 0 ≤ v → v < n → ret (.d (.int v)) D'.o) :
    w_law_take_1 kx ⟨[some (.own 1), some (.d (.int n)), x2, none], .dl (D.L.map .int) :: .dm D.kv :: .dl (D.C.map .int) :: J⟩ (bodyE 3 ret) := by
  unfold w_law_take_1
  have hv := h ⟨D.L, D.C, D.r / n, D.t, D.m⟩ (D.r % n) ⟨hD.l, hD.c, hD.m0, hD.m1⟩ (Int.emod_nonneg _ (by omega)) (Int.emod_lt_of_pos _ h0)
  refine ⟨_, rfl, _, _, _, _, _, rfl, rfl, rfl, rfl, val_rest D, ?_⟩
  refine ⟨_, rfl, ?_⟩
  refine ⟨_, _, rfl, rfl, ⟨h0, by omega⟩, ?_⟩
  refine ⟨_, rfl, rfl, _, _, rfl, ⟨1, D.kv, rfl, rfl, kv_len D, ?_⟩⟩
  rw [put_rest]
  walk_at "go"
  exact hv
theorem pure_law_take : ∀ args o ret exc, S_law_take args o ret exc → w_law_take (fun x s => exc x (cutL o.length s.o)) (pst0 args o 4) (bodyE o.length ret) := by
  rintro _ _ ret exc ⟨D, n, rfl, rfl, hD, h0, hn, h⟩
  have ⟨hL, hC, hm0, hm1⟩ := hD
  have t2 : ∀ (kx : KX) (D : Dw) (x2 : Option PV) (J : List OC), D.Ok → w_law_take_1 kx ⟨[some (.own 1), some (.d (.int n)), x2, none], .dl (D.L.map .int) :: .dm D.kv :: .dl (D.C.map .int) :: J⟩ (bodyE 3 ret) := fun kx D x2 J hD => take2 hD h0 hn h
  unfold w_law_take
  change wSeq _ w_law_take_1 _ _ _
  generalize w_law_take_1 = W at t2
  refine ⟨_, rfl, _, _, _, _, _, rfl, rfl, rfl, rfl, val_rest D, ?_⟩
  walk_at "go"
  have shI : ∀ l : List Int, SeqAt.shaped (.list (l.map .int)) = true := fun l => shaped_list fun x m => by
    obtain ⟨i, _, rfl⟩ := List.mem_map.mp m
    exact ⟨rfl, Nat.le_of_ble_eq_true rfl⟩
  refine br_b (fun q1 => ?_) (fun q1 => ?_)
  · refine ⟨_, rfl, _, _, _, _, _, rfl, rfl, rfl, rfl, val_large D, ?_⟩
    walk_at "go"
    refine ⟨eqOk_of (shI _) rfl, ?_⟩
    obtain ⟨L, C, r, t, m⟩ := D
    cases L with
    | cons x L =>
      refine ⟨_, rfl, br_t rfl ?_⟩
      refine ⟨_, rfl, _, _, _, _, _, rfl, rfl, rfl, rfl, val_large _, ?_⟩
      refine ⟨0, .int x, L.map .int, rfl, rfl, ?_⟩
      refine ⟨_, rfl, ?_⟩
      refine ⟨1, _, _, _, rfl, rfl, rfl, rfl, kv_len _, ?_⟩
      rw [put_rest]
      exact t2 _ ⟨L, C, x, t, m⟩ none _ ⟨by simp at hL ⊢; omega, hC, hm0, hm1⟩
    | nil =>
      refine ⟨_, rfl, br_f rfl ?_⟩
      refine ⟨_, rfl, _, _, _, _, _, rfl, rfl, rfl, rfl, val_rest _, ?_⟩
      walk_at "go"
      have q1 : PyData.eqv (.int r) (.int 0) = true := q1
      refine br_b (fun q2 => ?_) (fun q2 => ?_)
      rotate_left
      · have q2 : PyData.eqv (.int r) (.int 0) = false := q2
        rw [q1] at q2; cases q2
      refine ⟨_, rfl, _, _, _, _, _, rfl, rfl, rfl, rfl, val_turn _, ?_⟩
      walk_at "go"
      refine ⟨kv_len _, ?_⟩
      rw [put_turn]
      refine ⟨_, rfl, _, _, _, _, _, rfl, rfl, rfl, rfl, val_turn _, ?_⟩
      refine ⟨le_sz (show 1 ≤ _ by decide), ?_⟩
      refine ⟨_, rfl, _, _, _, _, _, rfl, rfl, rfl, rfl, val_cells _, ?_⟩
      have hC : C.length ≤ 63 := hC
      have hm0 : 0 ≤ m := hm0
      have hm1 : m ≤ 2147483629 := hm1
      refine ⟨[.int (t + 1)], C.map .int, rfl, rfl, le_sz (by simp; omega), ?_⟩
      refine ⟨_, rfl, ?_⟩
      refine ⟨_, rfl, ?_⟩
      refine ⟨fun j s => ∃ (m' : Int) (x2 : Option PV), 0 ≤ m' ∧ m' ≤ 2147483629 ∧ (x2 = none ∨ ∃ i : Int, x2 = some (.d (.int i))) ∧ s = (⟨[some (.own 1), some (.d (.int n)), x2, none], [.dl [], .dm (Dw.kv ⟨[], C, r, t + 1, m'⟩), .dl (C.map .int), .dl [], .dl [.int (t + 1)], .no]⟩ : PSt), ⟨m, none, hm0, hm1, .inl rfl, rfl⟩, fun _ _ _ _ => trivial, ?_, ?_⟩
      · rintro j x _ hx ⟨m', x2, a0, a1, hx2, rfl⟩
        obtain ⟨c, rfl⟩ : ∃ c : Int, x = .int c := by
          have := List.mem_of_getElem? hx
          rcases List.mem_append.mp this with z | z
          · exact ⟨_, List.mem_singleton.mp z⟩
          · obtain ⟨c, _, e⟩ := List.mem_map.mp z; exact ⟨c, e.symm⟩
        clear hx
        refine ⟨_, rfl, _, _, _, _, _, rfl, rfl, rfl, rfl, val_mix _, ?_⟩
        walk_at "go"
        refine .inl ⟨_, rfl, ?_⟩
        walk_at "go"
        refine ⟨kv_len _, .inl ?_⟩
        rw [put_mix]
        exact ⟨_, _, Int.emod_nonneg _ (by decide), Int.le_of_lt (Int.lt_of_lt_of_le (Int.emod_lt_of_pos _ (by decide)) (by decide)), .inr ⟨_, rfl⟩, rfl⟩
      · rintro _ ⟨m', x2, a0, a1, hx2, rfl⟩
        refine ⟨_, rfl, _, _, _, _, _, rfl, rfl, rfl, rfl, val_mix _, ?_⟩
        refine ⟨_, _, rfl, rfl, ?_, ?_⟩
        · exact ⟨by decide, by decide, by show m'.natAbs < _; omega⟩
        refine .inl ⟨_, rfl, ?_⟩
        walk_at "go"
        refine ⟨kv_len _, ?_⟩
        rw [put_rest]
        exact t2 _ ⟨[], C, _, t + 1, m'⟩ _ _ ⟨Nat.zero_le _, hC, a0, a1⟩
  · refine br_b (fun q2 => absurd q2 (by decide)) (fun _ => ?_)
    refine ⟨_, rfl, _, _, _, _, _, rfl, rfl, rfl, rfl, val_rest _, ?_⟩
    walk_at "go"
    refine br_b (fun q2 => ?_) (fun q2 => ?_)
    · have q1 : PyData.eqv (.int D.r) (.int 0) = false := q1
      have q2 : PyData.eqv (.int D.r) (.int 0) = true := q2
      rw [q1] at q2; cases q2
    exact t2 _ D none [] hD
end K34

namespace K34
open PySem L2 PW KN
local macro_rules
  | `(tactic| walk_at "sz") => `(tactic| first | omega | (simp only [tx_len, List.length_append, List.length_map, List.length_cons, List.length_nil, List.length_take, List.length_drop] <;> omega))
  | `(tactic| walk_at "go") => `(tactic| repeat (first | refine ⟨rfl, ?_⟩ | refine ⟨trivial, ?_⟩ | refine ⟨_, rfl, ?_⟩ | refine ⟨_, rfl, rfl, ?_⟩ | refine ⟨_, _, rfl, rfl, ?_⟩ | refine ⟨_, ix_hd, ?_⟩ | refine br_t rfl ?_ | refine br_f rfl ?_ | (refine ⟨le_sz ?_, ?_⟩; focus walk_at "sz") | (refine ⟨lt_sz ?_, ?_⟩; focus walk_at "sz") | (refine ⟨strLe_tx ?_, ?_⟩; focus walk_at "sz") | refine ⟨cmul_r rfl, ?_⟩ | refine ⟨cmul_l rfl, ?_⟩ | refine ⟨pos_ok rfl, ?_⟩ | refine ⟨cdiv_ok rfl, ?_⟩ | refine ⟨_, _, _, _, rfl, rfl, rfl, rfl, ?_⟩ | refine ⟨_, _, rfl, ?_⟩ | refine ⟨_, _, _, rfl, rfl, rfl, ?_⟩ | refine ⟨_, _, _, rfl, rfl, ?_⟩ | refine ⟨_, _, _, _, _, rfl, rfl, rfl, rfl, rfl, ?_⟩ | rw [tx_app]))


theorem take_call {kx : KX} {ws : AW} {r : List (Option PV)} {D : Dw} {J : List OC} {k : PV → PSt → Prop} {n : Int} (hw : ∀ q : List PV → PSt → Prop, q [.own 1, .d (.int n)] ⟨r, D.o ++ J⟩ → ws kx ⟨r, D.o ++ J⟩ q) (hD : D.Ok) (h0 : 0 < n) (hn : n ≤ 1000)
    (h : ∀ (D' : Dw) (v : Int), D'.Ok → 0 ≤ v → v < n → k (.d (.int v)) ⟨r, D'.o ++ J⟩) : wCallM 3 S_law_take ws kx ⟨r, D.o ++ J⟩ k := by
  refine hw _ ?_
  refine ⟨rfl, ?_⟩
  refine ⟨rfl, Nat.le_add_left _ _, D, n, rfl, rfl, hD, h0, hn, ?_⟩
  exact fun D' v g1 g2 g3 => h D' v g1 g2 g3
def S_law_mixed_row : FS := fun args o ret exc => ∃ (D : Dw), args = [.own 1] ∧ o = D.o ∧ D.Ok ∧ ∀ (D' : Dw) (d : PyData) (k : Wk), D'.Ok → RowOk d k → plainW k = true → ret (.d d) D'.o
def S_law_opener : FS := fun args o ret exc => ∃ (D : Dw), args = [.own 1] ∧ o = D.o ∧ D.Ok ∧ ∀ (D' : Dw) (d : PyData) (k : Wk), D'.Ok → RowOk d k → (opWs k).isSome = true → ret (.d d) D'.o
def w_law_mixed_row : SW :=
 (wSeq (wAsg (wLst (wCons (wTup (wCons (wC (.str "say")) (wCons (wTup (wCons (wC (.str "number")) (wCons (wC (.int 1)) wNil))) wNil))) (wCons (wTup (wCons (wC (.str "let")) (wCons (wC (.str "a")) (wCons (wC (.int 1)) (wCons (wTup (wCons (wC (.str "number")) (wCons (wC (.int 2)) wNil))) wNil))))) (wCons (wTup (wCons (wC (.str "bare")) wNil)) (wCons (wTup (wCons (wC (.str "do")) (wCons (wC (.str "h")) (wCons (wC (.int 1)) (wCons (wTup wNil) wNil))))) (wCons (wC .none) wNil)))))) 1)
 (wSeq (wAsg (wCat (wVar 1) (wLst (wCons (wTup (wCons (wC (.str "set")) (wCons (wC (.str "a")) (wCons (wC (.int 1)) (wCons (wTup (wCons (wC (.str "name")) (wCons (wC (.str "b")) (wCons (wC (.int 3)) wNil)))) wNil))))) (wCons (wTup (wCons (wC (.str "read")) (wCons (wC (.str "a")) (wCons (wC (.int 1)) wNil)))) (wCons (wTup (wCons (wC (.str "fault")) (wCons (wTup (wCons (wC (.str "number")) (wCons (wC (.int 3)) wNil))) wNil))) wNil))))) 1)
 (wRet (wIx (wVar 1) (wCallM 3 S_law_take (wCons (wVar 0) (wCons (wLen (wVar 1)) wNil)))))))
def w_law_opener : SW :=
 (wSeq (wAsg (wLst (wCons (wTup (wCons (wC (.str "while")) (wCons (wTup (wCons (wC (.str "name")) (wCons (wC (.str "a")) (wCons (wC (.int 1)) wNil)))) wNil))) (wCons (wTup (wCons (wC (.str "block")) wNil)) (wCons (wTup (wCons (wC (.str "with")) (wCons (wTup (wCons (wTup (wCons (wC (.str "a")) (wCons (wC (.int 1)) (wCons (wTup (wCons (wC (.str "number")) (wCons (wC (.int 1)) wNil))) wNil)))) wNil)) wNil))) (wCons (wTup (wCons (wC (.str "helper")) (wCons (wC (.str "h")) (wCons (wC (.int 1)) (wCons (wTup wNil) wNil))))) wNil))))) 1)
 (wRet (wIx (wVar 1) (wCallM 3 S_law_take (wCons (wVar 0) (wCons (wLen (wVar 1)) wNil))))))
def mixR : List PyData := [.tuple [.str "say", .tuple [.str "number", .int 1]], .tuple [.str "let", .str "a", .int 1, .tuple [.str "number", .int 2]], .tuple [.str "bare"], .tuple [.str "do", .str "h", .int 1, .tuple []], .none, .tuple [.str "set", .str "a", .int 1, .tuple [.str "name", .str "b", .int 3]], .tuple [.str "read", .str "a", .int 1], .tuple [.str "fault", .tuple [.str "number", .int 3]]]
theorem mixR_ok : ∀ x ∈ mixR, ∃ k, RowOk x k ∧ plainW k = true := by
  intro x hx
  simp only [mixR, List.mem_cons, List.not_mem_nil, or_false] at hx
  rcases hx with rfl | rfl | rfl | rfl | rfl | rfl | rfl | rfl
  · exact ⟨.say, ⟨⟨_, rfl⟩, by decide +kernel, by decide +kernel⟩, rfl⟩
  · exact ⟨.let_, ⟨⟨_, rfl⟩, by decide +kernel, by decide +kernel⟩, rfl⟩
  · exact ⟨.bare, ⟨⟨_, rfl⟩, by decide +kernel, by decide +kernel⟩, rfl⟩
  · exact ⟨.do_, ⟨⟨_, rfl⟩, by decide +kernel, by decide +kernel⟩, rfl⟩
  · exact ⟨.none, ⟨rfl, by decide +kernel, by decide +kernel⟩, rfl⟩
  · exact ⟨.set, ⟨⟨_, rfl⟩, by decide +kernel, by decide +kernel⟩, rfl⟩
  · exact ⟨.read, ⟨⟨_, rfl⟩, by decide +kernel, by decide +kernel⟩, rfl⟩
  · exact ⟨.fault, ⟨⟨_, rfl⟩, by decide +kernel, by decide +kernel⟩, rfl⟩
theorem at_int {l : List PyData} {v : Int} (h0 : 0 ≤ v) (h1 : v < l.length) : ∃ z, atI l v = some z ∧ z ∈ l := by
  obtain ⟨i, rfl⟩ := Int.eq_ofNat_of_zero_le h0
  have hi : i < l.length := by omega
  exact ⟨l[i], atI_nat hi, List.getElem_mem hi⟩
def opnR : List PyData := [.tuple [.str "while", .tuple [.str "name", .str "a", .int 1]], .tuple [.str "block"], .tuple [.str "with", .tuple [.tuple [.str "a", .int 1, .tuple [.str "number", .int 1]]]], .tuple [.str "helper", .str "h", .int 1, .tuple []]]
theorem opnR_ok : ∀ x ∈ opnR, ∃ k, RowOk x k ∧ (opWs k).isSome = true := by
  intro x hx
  simp only [opnR, List.mem_cons, List.not_mem_nil, or_false] at hx
  rcases hx with rfl | rfl | rfl | rfl
  · exact ⟨.while_, ⟨⟨_, rfl⟩, by decide +kernel, by decide +kernel⟩, rfl⟩
  · exact ⟨.block, ⟨⟨_, rfl⟩, by decide +kernel, by decide +kernel⟩, rfl⟩
  · exact ⟨.with_, ⟨⟨_, rfl⟩, by decide +kernel, by decide +kernel⟩, rfl⟩
  · exact ⟨.helper, ⟨⟨_, rfl⟩, by decide +kernel, by decide +kernel⟩, rfl⟩
theorem pure_law_mixed_row : ∀ args o ret exc, S_law_mixed_row args o ret exc → w_law_mixed_row (fun x s => exc x (cutL o.length s.o)) (pst0 args o 2) (bodyE o.length ret) := by
  rintro _ _ ret exc ⟨D, rfl, rfl, hD, h⟩
  unfold w_law_mixed_row
  repeat refine ⟨le_sz (by decide), ?_⟩
  refine ⟨_, rfl, ?_⟩
  repeat refine ⟨le_sz (by decide), ?_⟩
  refine ⟨_, _, rfl, rfl, le_sz (by decide), ?_⟩
  refine ⟨_, rfl, take_call (D := D) (n := 8) (J := [.dl _, .dl _, .dl mixR]) ?_ hD (by decide) (by decide) ?_⟩
  · intro q hq
    refine ⟨_, rfl, ?_⟩
    walk_at "go"
    exact hq
  · intro D' v hD' v0 v1
    obtain ⟨z, hz, hm⟩ := at_int (l := mixR) v0 v1
    obtain ⟨k, hk, hp⟩ := mixR_ok z hm
    refine ⟨_, _, rfl, rfl, trivial, z, hz, ?_⟩
    exact h D' z k hD' hk hp
theorem pure_law_opener : ∀ args o ret exc, S_law_opener args o ret exc → w_law_opener (fun x s => exc x (cutL o.length s.o)) (pst0 args o 2) (bodyE o.length ret) := by
  rintro _ _ ret exc ⟨D, rfl, rfl, hD, h⟩
  unfold w_law_opener
  repeat refine ⟨le_sz (by decide), ?_⟩
  refine ⟨_, rfl, take_call (D := D) (n := 4) (J := [.dl opnR]) ?_ hD (by decide) (by decide) ?_⟩
  · intro q hq
    refine ⟨_, rfl, ?_⟩
    walk_at "go"
    exact hq
  · intro D' v hD' v0 v1
    obtain ⟨z, hz, hm⟩ := at_int (l := opnR) v0 v1
    obtain ⟨k, hk, hp⟩ := opnR_ok z hm
    refine ⟨_, _, rfl, rfl, trivial, z, hz, ?_⟩
    exact h D' z k hD' hk hp
end K34

namespace K34
open PySem L2 PW KN
local macro_rules
  | `(tactic| walk_at "sz") => `(tactic| first | omega | (simp only [tx_len, List.length_append, List.length_map, List.length_cons, List.length_nil, List.length_take, List.length_drop] <;> omega))
  | `(tactic| walk_at "go") => `(tactic| repeat (first | refine ⟨rfl, ?_⟩ | refine ⟨trivial, ?_⟩ | refine ⟨_, rfl, ?_⟩ | refine ⟨_, rfl, rfl, ?_⟩ | refine ⟨_, _, rfl, rfl, ?_⟩ | refine ⟨_, ix_hd, ?_⟩ | refine br_t rfl ?_ | refine br_f rfl ?_ | (refine ⟨le_sz ?_, ?_⟩; focus walk_at "sz") | (refine ⟨lt_sz ?_, ?_⟩; focus walk_at "sz") | (refine ⟨strLe_tx ?_, ?_⟩; focus walk_at "sz") | refine ⟨cmul_r rfl, ?_⟩ | refine ⟨cmul_l rfl, ?_⟩ | refine ⟨pos_ok rfl, ?_⟩ | refine ⟨cdiv_ok rfl, ?_⟩ | refine ⟨_, _, _, _, rfl, rfl, rfl, rfl, ?_⟩ | refine ⟨_, _, rfl, ?_⟩ | refine ⟨_, _, _, rfl, rfl, rfl, ?_⟩ | refine ⟨_, _, _, rfl, rfl, ?_⟩ | refine ⟨_, _, _, _, _, rfl, rfl, rfl, rfl, rfl, ?_⟩ | rw [tx_app]))


theorem sq_asg {we : EW} {b : SW} {kx : KX} {s : PSt} {k : PEnds} {i : Nat} (h : we kx s fun v s1 => b kx (s1.st i v) k) : wSeq (wAsg we i) b kx s k := h
def PB : Nat → Nat
  | 0 => 3
  | r + 1 => 12 + 9 * PB r
theorem PB_le {r : Nat} (h : r ≤ 3) : PB r ≤ 3279 := by
  match r, h with
  | 0, _ => decide
  | 1, _ => decide
  | 2, _ => decide
  | 3, _ => decide
structure Q where
  row : PyData
  rows : List PyData
  k : Wk
  ks : List Wk
  ns : List Nd
def Q.d (q : Q) : PyData := .tuple [q.row, .list q.rows]
def Q.p (q : Q) : Prt := (q.k, q.ks, q.ns)
structure Q.Ok (r : Nat) (q : Q) : Prop where
  a : RowOk q.row q.k
  b : RowsOk q.rows q.ks
  l : q.rows.length ≤ PB r
def S_law_piece (n : Nat) : FS := fun args o ret exc => ∃ (D : Dw) (r : Nat), args = [.own 1, .d (.int r)] ∧ o = D.o ∧ D.Ok ∧ 2 * r < n ∧ r ≤ 3 ∧ ∀ (D' : Dw) (rows : List PyData) (ks : List Wk) (ns : List Nd), D'.Ok → RowsOk rows ks → rows.length ≤ PB r → Cl r ks ns → ret (.new rows) D'.o
def S_law_pieces (n : Nat) : FS := fun args o ret exc => ∃ (D : Dw) (r : Nat), args = [.own 1, .d (.int r)] ∧ o = D.o ∧ D.Ok ∧ 2 * r + 1 < n ∧ r ≤ 3 ∧ ∀ (D' : Dw) (L : List Q), D'.Ok → (∀ q ∈ L, q.Ok r) → L.length ≤ 3 → NeP r (L.map Q.p) → ret (.new (L.map Q.d)) D'.o
theorem zero_law_piece : ∀ args o r e, ¬ S_law_piece 0 args o r e := by
  rintro args o r e ⟨D, k, _, _, _, h, _⟩
  omega
theorem zero_law_pieces : ∀ args o r e, ¬ S_law_pieces 0 args o r e := by
  rintro args o r e ⟨D, k, _, _, _, h, _⟩
  omega
def TakeC (W : AW → EW) : Prop := ∀ (n : Int) (D : Dw) (J : List OC) {kx : KX} {ws : AW} {r : List (Option PV)} {k : PV → PSt → Prop}, (∀ q : List PV → PSt → Prop, q [.own 1, .d (.int n)] ⟨r, D.o ++ J⟩ → ws kx ⟨r, D.o ++ J⟩ q) → D.Ok → 0 < n → n ≤ 1000 →
    (∀ (D' : Dw) (v : Int), D'.Ok → 0 ≤ v → v < n → k (.d (.int v)) ⟨r, D'.o ++ J⟩) → W ws kx ⟨r, D.o ++ J⟩ k
theorem takeC : TakeC (wCallM 3 S_law_take) := fun n D J kx ws r k a b c d e => take_call a b c d e
def PieceC (n : Nat) (W : AW → EW) : Prop := ∀ (room m : Nat) (D : Dw) (J : List OC) {kx : KX} {ws : AW} {r : List (Option PV)} {k : PV → PSt → Prop}, (∀ q : List PV → PSt → Prop, q [.own 1, .d (.int room)] ⟨r, D.o ++ J⟩ → ws kx ⟨r, D.o ++ J⟩ q) → D.Ok → 2 * room < n → room ≤ 3 → (D.o ++ J).length = m →
    (∀ (D' : Dw) (rows : List PyData) (ks : List Wk) (ns : List Nd), D'.Ok → RowsOk rows ks → rows.length ≤ PB room → Cl room ks ns → k (.own m) ⟨r, D'.o ++ J ++ [.dl rows]⟩) → W ws kx ⟨r, D.o ++ J⟩ k
theorem pieceC (n : Nat) : PieceC n (wCallM 3 (S_law_piece n)) := by
  intro room m D J kx ws r k hw hD h0 hn hm h
  refine hw _ ?_
  refine ⟨rfl, ?_⟩
  refine ⟨rfl, Nat.le_add_left _ _, D, room, rfl, rfl, hD, h0, hn, ?_⟩
  intro D' rows ks ns g1 g2 g3 g4
  have := h D' rows ks ns g1 g2 g3 g4
  rw [← hm] at this
  exact this
def OpenC (W : AW → EW) : Prop := ∀ (D : Dw) (J : List OC) {kx : KX} {ws : AW} {r : List (Option PV)} {k : PV → PSt → Prop}, (∀ q : List PV → PSt → Prop, q [.own 1] ⟨r, D.o ++ J⟩ → ws kx ⟨r, D.o ++ J⟩ q) → D.Ok →
    (∀ (D' : Dw) (d : PyData) (w : Wk), D'.Ok → RowOk d w → (opWs w).isSome = true → k (.d d) ⟨r, D'.o ++ J⟩) → W ws kx ⟨r, D.o ++ J⟩ k
theorem openC : OpenC (wCallM 3 S_law_opener) := by
  intro D J kx ws r k hw hD h
  refine hw _ ?_
  refine ⟨rfl, ?_⟩
  refine ⟨rfl, Nat.le_add_left _ _, D, rfl, rfl, hD, ?_⟩
  exact fun D' v w g1 g2 g3 => h D' v w g1 g2 g3
def MixC (W : AW → EW) : Prop := ∀ (D : Dw) (J : List OC) {kx : KX} {ws : AW} {r : List (Option PV)} {k : PV → PSt → Prop}, (∀ q : List PV → PSt → Prop, q [.own 1] ⟨r, D.o ++ J⟩ → ws kx ⟨r, D.o ++ J⟩ q) → D.Ok →
    (∀ (D' : Dw) (d : PyData) (w : Wk), D'.Ok → RowOk d w → plainW w = true → k (.d d) ⟨r, D'.o ++ J⟩) → W ws kx ⟨r, D.o ++ J⟩ k
theorem mixC : MixC (wCallM 3 S_law_mixed_row) := by
  intro D J kx ws r k hw hD h
  refine hw _ ?_
  refine ⟨rfl, ?_⟩
  refine ⟨rfl, Nat.le_add_left _ _, D, rfl, rfl, hD, ?_⟩
  exact fun D' v w g1 g2 g3 => h D' v w g1 g2 g3
def PiecesC (n : Nat) (W : AW → EW) : Prop := ∀ (room m : Nat) (D : Dw) (J : List OC) {kx : KX} {ws : AW} {r : List (Option PV)} {k : PV → PSt → Prop}, (∀ q : List PV → PSt → Prop, q [.own 1, .d (.int room)] ⟨r, D.o ++ J⟩ → ws kx ⟨r, D.o ++ J⟩ q) → D.Ok → 2 * room + 1 < n → room ≤ 3 → (D.o ++ J).length = m →
    (∀ (D' : Dw) (L : List Q), D'.Ok → (∀ q ∈ L, q.Ok room) → L.length ≤ 3 → NeP room (L.map Q.p) → k (.own m) ⟨r, D'.o ++ J ++ [.dl (L.map Q.d)]⟩) → W ws kx ⟨r, D.o ++ J⟩ k
theorem piecesC (n : Nat) : PiecesC n (wCallM 3 (S_law_pieces n)) := by
  intro room m D J kx ws r k hw hD h0 hn hm h
  refine hw _ ?_
  refine ⟨rfl, ?_⟩
  refine ⟨rfl, Nat.le_add_left _ _, D, room, rfl, rfl, hD, h0, hn, ?_⟩
  intro D' rows g1 g2 g3 g4
  have := h D' rows g1 g2 g3 g4
  rw [← hm] at this
  exact this
theorem q_if : RowOk (.tuple [.str "if", .tuple [.str "name", .str "a", .int 1]]) .if_ := ⟨⟨_, rfl⟩, by decide +kernel, by decide +kernel⟩
theorem q_else : RowOk (.tuple [.str "else"]) .else_ := ⟨⟨_, rfl⟩, by decide +kernel, by decide +kernel⟩
theorem q_try : RowOk (.tuple [.str "try"]) .try_ := ⟨⟨_, rfl⟩, by decide +kernel, by decide +kernel⟩
theorem q_catch : RowOk (.tuple [.str "catch", .str "e", .int 1]) .catch_ := ⟨⟨_, rfl⟩, by decide +kernel, by decide +kernel⟩
theorem q_fin : RowOk (.tuple [.str "finally"]) .finally_ := ⟨⟨_, rfl⟩, by decide +kernel, by decide +kernel⟩
theorem q_end : RowOk (.tuple [.str "end"]) .end_ := ⟨⟨_, rfl⟩, by decide +kernel, by decide +kernel⟩
def w_law_pieces (R_law_piece : FS) : SW :=
 (wSeq (wAsg (wCallM 3 S_law_take (wCons (wVar 0) (wCons (wC (.int 5)) wNil))) 2)
 (wSeq (wIfS (wB (wLt (wVar 2) (wC (.int 2))))
  (wSeq (wAsg (wLst (wCons (wTup (wCons (wTup (wCons (wC (.str "if")) (wCons (wTup (wCons (wC (.str "name")) (wCons (wC (.str "a")) (wCons (wC (.int 1)) wNil)))) wNil))) (wCons (wCallM 3 R_law_piece (wCons (wVar 0) (wCons (wVar 1) wNil))) wNil))) wNil)) 3)
 (wSeq (wIfS (wB (wEq (wVar 2) (wC (.int 0))))
  (wDrop (wApp (wVar 3) (wTup (wCons (wTup (wCons (wC (.str "else")) wNil)) (wCons (wCallM 3 R_law_piece (wCons (wVar 0) (wCons (wVar 1) wNil))) wNil)))))
  wNext)
 (wRet (wVar 3))))
  wNext)
 (wSeq (wIfS (wB (wEq (wVar 2) (wC (.int 2))))
  (wRet (wLst (wCons (wTup (wCons (wCallM 3 S_law_opener (wCons (wVar 0) wNil)) (wCons (wCallM 3 R_law_piece (wCons (wVar 0) (wCons (wVar 1) wNil))) wNil))) wNil)))
  wNext)
 (wSeq (wAsg (wLst (wCons (wTup (wCons (wTup (wCons (wC (.str "try")) wNil)) (wCons (wCallM 3 R_law_piece (wCons (wVar 0) (wCons (wVar 1) wNil))) wNil))) wNil)) 3)
 (wSeq (wIfS (wOr (wB (wEq (wVar 2) (wC (.int 3)))) (wB (wEq (wCallM 3 S_law_take (wCons (wVar 0) (wCons (wC (.int 2)) wNil))) (wC (.int 0)))))
  (wDrop (wApp (wVar 3) (wTup (wCons (wTup (wCons (wC (.str "catch")) (wCons (wC (.str "e")) (wCons (wC (.int 1)) wNil)))) (wCons (wCallM 3 R_law_piece (wCons (wVar 0) (wCons (wVar 1) wNil))) wNil)))))
  wNext)
 (wSeq (wIfS (wB (wEq (wVar 2) (wC (.int 4))))
  (wDrop (wApp (wVar 3) (wTup (wCons (wTup (wCons (wC (.str "finally")) wNil)) (wCons (wCallM 3 R_law_piece (wCons (wVar 0) (wCons (wVar 1) wNil))) wNil)))))
  wNext)
 (wRet (wVar 3))))))))

theorem pure_law_pieces (n : Nat) : ∀ args o ret exc, S_law_pieces (n + 1) args o ret exc → w_law_pieces (S_law_piece n) (fun x s => exc x (cutL o.length s.o)) (pst0 args o 4) (bodyE o.length ret) := by
  rintro _ _ ret exc ⟨D, r, rfl, rfl, hD, hr, hr3, h⟩
  unfold w_law_pieces
  have hr2 : 2 * r < n := by omega
  have pc := pieceC n
  generalize wCallM 3 (S_law_piece n) = WP at pc ⊢
  have tc := takeC
  generalize wCallM 3 S_law_take = WT at tc ⊢
  have oc := openC
  generalize wCallM 3 S_law_opener = WO at oc ⊢
  refine sq_asg ?_
  refine tc 5 D [] (fun q hq => ⟨_, rfl, hq⟩) hD (by decide) (by decide) ?_
  intro D1 v hD1 v0 v1
  have hv : v = 0 ∨ v = 1 ∨ v = 2 ∨ v = 3 ∨ v = 4 := by omega
  rcases hv with rfl | rfl | rfl | rfl | rfl
  · walk_at "go"
    refine pc r 3 D1 [] (fun q hq => ⟨_, rfl, _, rfl, hq⟩) hD1 hr2 hr3 rfl ?_
    intro D2 rows ks ns hD2 hrw hl hc
    walk_at "go"
    refine pc r 5 D2 [.no, .dl [Q.d ⟨_, rows, .if_, ks, ns⟩]] (fun q hq => ⟨_, rfl, _, rfl, hq⟩) hD2 hr2 hr3 rfl ?_
    intro D3 rows3 ks3 ns3 hD3 hrw3 hl3 hc3
    walk_at "go"
    exact ⟨Nat.le_of_ble_eq_true rfl, _, rfl, h D3 [⟨_, rows, .if_, ks, ns⟩, ⟨_, rows3, .else_, ks3, ns3⟩] hD3 (fun q m => by
      rcases List.mem_cons.mp m with rfl | m
      · exact ⟨q_if, hrw, hl⟩
      · cases List.mem_singleton.mp m
        exact ⟨q_else, hrw3, hl3⟩) (Nat.le_of_ble_eq_true rfl) ⟨_, rfl, hc, _, rfl, hc3, trivial⟩⟩
  · walk_at "go"
    refine pc r 3 D1 [] (fun q hq => ⟨_, rfl, _, rfl, hq⟩) hD1 hr2 hr3 rfl ?_
    intro D2 rows ks ns hD2 hrw hl hc
    walk_at "go"
    exact ⟨Nat.le_of_ble_eq_true rfl, _, rfl, h D2 [⟨_, rows, .if_, ks, ns⟩] hD2 (fun q m => by
      cases List.mem_singleton.mp m
      exact ⟨q_if, hrw, hl⟩) (Nat.le_of_ble_eq_true rfl) ⟨_, rfl, hc, trivial⟩⟩
  · walk_at "go"
    refine oc D1 [] (fun q hq => ⟨_, rfl, hq⟩) hD1 ?_
    intro D2 d w hD2 hrow how
    obtain ⟨t, ht⟩ := Option.isSome_iff_exists.mp how
    refine pc r 3 D2 [] (fun q hq => ⟨_, rfl, _, rfl, hq⟩) hD2 hr2 hr3 rfl ?_
    intro D3 rows ks ns hD3 hrw hl hc
    walk_at "go"
    exact ⟨Nat.le_of_ble_eq_true rfl, _, rfl, h D3 [⟨d, rows, w, ks, ns⟩] hD3 (fun q m => by
      cases List.mem_singleton.mp m
      exact ⟨hrow, hrw, hl⟩) (Nat.le_of_ble_eq_true rfl) ⟨_, ht, hc, trivial⟩⟩
  · walk_at "go"
    refine pc r 3 D1 [] (fun q hq => ⟨_, rfl, _, rfl, hq⟩) hD1 hr2 hr3 rfl ?_
    intro D2 rows ks ns hD2 hrw hl hc
    walk_at "go"
    refine pc r 5 D2 [.no, .dl [Q.d ⟨_, rows, .try_, ks, ns⟩]] (fun q hq => ⟨_, rfl, _, rfl, hq⟩) hD2 hr2 hr3 rfl ?_
    intro D3 rows3 ks3 ns3 hD3 hrw3 hl3 hc3
    walk_at "go"
    exact ⟨Nat.le_of_ble_eq_true rfl, _, rfl, h D3 [⟨_, rows, .try_, ks, ns⟩, ⟨_, rows3, .catch_, ks3, ns3⟩] hD3 (fun q m => by
      rcases List.mem_cons.mp m with rfl | m
      · exact ⟨q_try, hrw, hl⟩
      · cases List.mem_singleton.mp m
        exact ⟨q_catch, hrw3, hl3⟩) (Nat.le_of_ble_eq_true rfl) ⟨_, rfl, hc, _, rfl, hc3, trivial⟩⟩
  · walk_at "go"
    refine pc r 3 D1 [] (fun q hq => ⟨_, rfl, _, rfl, hq⟩) hD1 hr2 hr3 rfl ?_
    intro D2 rows ks ns hD2 hrw hl hc
    walk_at "go"
    refine tc 2 D2 [.no, .dl [Q.d ⟨_, rows, .try_, ks, ns⟩]] (fun q hq => ⟨_, rfl, hq⟩) hD2 (by decide) (by decide) ?_
    intro D3 v hD3 v0 v1
    have hv : v = 0 ∨ v = 1 := by omega
    rcases hv with rfl | rfl
    · walk_at "go"
      refine pc r 5 D3 [.no, .dl [Q.d ⟨_, rows, .try_, ks, ns⟩]] (fun q hq => ⟨_, rfl, _, rfl, hq⟩) hD3 hr2 hr3 rfl ?_
      intro D4 rows4 ks4 ns4 hD4 hrw4 hl4 hc4
      walk_at "go"
      refine pc r 6 D4 [.no, .dl [Q.d ⟨_, rows, .try_, ks, ns⟩, Q.d ⟨_, rows4, .catch_, ks4, ns4⟩], .no] (fun q hq => ⟨_, rfl, _, rfl, hq⟩) hD4 hr2 hr3 rfl ?_
      intro D5 rows5 ks5 ns5 hD5 hrw5 hl5 hc5
      walk_at "go"
      exact ⟨Nat.le_of_ble_eq_true rfl, _, rfl, h D5 [⟨_, rows, .try_, ks, ns⟩, ⟨_, rows4, .catch_, ks4, ns4⟩, ⟨_, rows5, .finally_, ks5, ns5⟩] hD5 (fun q m => by
        rcases List.mem_cons.mp m with rfl | m
        · exact ⟨q_try, hrw, hl⟩
        · rcases List.mem_cons.mp m with rfl | m
          · exact ⟨q_catch, hrw4, hl4⟩
          · cases List.mem_singleton.mp m
            exact ⟨q_fin, hrw5, hl5⟩) (Nat.le_of_ble_eq_true rfl) ⟨_, rfl, hc, _, rfl, hc4, _, rfl, hc5, trivial⟩⟩
    · walk_at "go"
      refine pc r 5 D3 [.no, .dl [Q.d ⟨_, rows, .try_, ks, ns⟩]] (fun q hq => ⟨_, rfl, _, rfl, hq⟩) hD3 hr2 hr3 rfl ?_
      intro D5 rows5 ks5 ns5 hD5 hrw5 hl5 hc5
      walk_at "go"
      exact ⟨Nat.le_of_ble_eq_true rfl, _, rfl, h D5 [⟨_, rows, .try_, ks, ns⟩, ⟨_, rows5, .finally_, ks5, ns5⟩] hD5 (fun q m => by
        rcases List.mem_cons.mp m with rfl | m
        · exact ⟨q_try, hrw, hl⟩
        · cases List.mem_singleton.mp m
          exact ⟨q_fin, hrw5, hl5⟩) (Nat.le_of_ble_eq_true rfl) ⟨_, rfl, hc, _, rfl, hc5, trivial⟩⟩
end K34

namespace K34
open PySem L2 PW KN
local macro_rules
  | `(tactic| walk_at "sz") => `(tactic| first | omega | (simp only [tx_len, List.length_append, List.length_map, List.length_cons, List.length_nil, List.length_take, List.length_drop] <;> omega))
  | `(tactic| walk_at "go") => `(tactic| repeat (first | refine ⟨rfl, ?_⟩ | refine ⟨trivial, ?_⟩ | refine ⟨_, rfl, ?_⟩ | refine ⟨_, rfl, rfl, ?_⟩ | refine ⟨_, _, rfl, rfl, ?_⟩ | refine ⟨_, ix_hd, ?_⟩ | refine br_t rfl ?_ | refine br_f rfl ?_ | (refine ⟨le_sz ?_, ?_⟩; focus walk_at "sz") | (refine ⟨lt_sz ?_, ?_⟩; focus walk_at "sz") | (refine ⟨strLe_tx ?_, ?_⟩; focus walk_at "sz") | refine ⟨cmul_r rfl, ?_⟩ | refine ⟨cmul_l rfl, ?_⟩ | refine ⟨pos_ok rfl, ?_⟩ | refine ⟨cdiv_ok rfl, ?_⟩ | refine ⟨_, _, _, _, rfl, rfl, rfl, rfl, ?_⟩ | refine ⟨_, _, rfl, ?_⟩ | refine ⟨_, _, _, rfl, rfl, rfl, ?_⟩ | refine ⟨_, _, _, rfl, rfl, ?_⟩ | refine ⟨_, _, _, _, _, rfl, rfl, rfl, rfl, rfl, ?_⟩ | rw [tx_app]))


def flR : List Q → List PyData
  | [] => []
  | q :: r => q.row :: (q.rows ++ flR r)
theorem flR_app : ∀ a b : List Q, flR (a ++ b) = flR a ++ flR b
  | [], b => rfl
  | q :: a, b => by rw [List.cons_append, flR, flR, flR_app a b]; simp
theorem flR_take {L : List Q} {i : Nat} {q : Q} (h : L[i]? = some q) : flR (L.take (i + 1)) = flR (L.take i) ++ [q.row] ++ q.rows := by
  rw [List.take_succ, h, flR_app]
  simp [flR]
theorem flR_len {r : Nat} : ∀ {L : List Q}, (∀ q ∈ L, q.Ok r) → (flR L).length ≤ L.length * (1 + PB r)
  | [], _ => Nat.zero_le _
  | q :: L, h => by
    have ih := flR_len fun q m => h q (List.mem_cons_of_mem _ m)
    have := (h q List.mem_cons_self).l
    rw [flR, List.length_cons, List.length_append, List.length_cons, Nat.succ_mul]
    omega
theorem flR_ok {r : Nat} : ∀ {L : List Q}, (∀ q ∈ L, q.Ok r) → RowsOk (flR L) (flP (L.map Q.p))
  | [], _ => RowsOk.nil
  | q :: L, h => by
    have ih := flR_ok fun q m => h q (List.mem_cons_of_mem _ m)
    have g := h q List.mem_cons_self
    exact (RowsOk.one g.a).app (g.b.app ih)
theorem flR_tk {r : Nat} {L : List Q} (hL : L.length ≤ 3) (hr : r ≤ 3) (h : ∀ q ∈ L, q.Ok r) (i : Nat) : (flR (L.take i)).length ≤ 9840 := by
  have h1 := flR_len (L := L.take i) fun q m => h q (List.mem_of_mem_take m)
  have h2 := PB_le hr
  have h3 : (L.take i).length ≤ 3 := by rw [List.length_take]; omega
  have : (L.take i).length * (1 + PB r) ≤ 3 * 3280 := Nat.mul_le_mul h3 (by omega)
  omega
def w_inn (WP : AW → EW) : SW := (wFor2 2 (wL (WP (wCons (wVar 0) (wCons (wSub (wVar 1) (wC (.int 1))) wNil)))) (gT 2 (gsCons (gN 4) (gsCons (gN 5) gsNil)))
  (wAsg (wCat (wCat (wVar 2) (wLst (wCons (wVar 4) wNil))) (wVar 5)) 2))
theorem q_get {L : List Q} {i : Nat} {x : PyData} (h : (L.map Q.d)[i]? = some x) : ∃ q, L[i]? = some q ∧ q ∈ L ∧ x = .tuple [q.row, .list q.rows] := by
  rw [List.getElem?_map] at h
  match e : L[i]?, h with
  | some q, h =>
    exact ⟨q, rfl, List.mem_of_getElem? e, (Option.some.inj h).symm⟩
  | none, h =>
    cases h
theorem one_le {L : List Q} {r : Nat} (h : NeP r (L.map Q.p)) : 1 ≤ L.length := by
  cases L with
  | nil => exact h.elim
  | cons q L => exact Nat.le_add_left _ _

theorem inn3 {WP : AW → EW} {n r : Nat} {D : Dw} {rows : List PyData} {kx : KX} {k : PEnds} {x3 x4 x5 : Option PyData} (pc : PiecesC n WP) (hD : D.Ok) (hn : 2 * r + 1 < n) (hr : r ≤ 3) (hl : rows.length ≤ 30000)
    (h : ∀ (D : Dw) (L : List Q) (x4 x5 : Option PyData) (a0 a1 : OC), D.Ok → (∀ q ∈ L, q.Ok r) → L.length ≤ 3 → NeP r (L.map Q.p) → k.nx ⟨[some (.own 1), some (.d (.int ((r + 1 : Nat) : Int))), some (.own 5), x3.map .d, x4.map .d, x5.map .d], D.o ++ [a0, a1, .dl (rows ++ flR L)]⟩) :
    w_inn WP kx ⟨[some (.own 1), some (.d (.int ((r + 1 : Nat) : Int))), some (.own 3), x3.map .d, x4.map .d, x5.map .d], D.o ++ [.dl rows]⟩ k := by
  unfold w_inn
  refine pc r 4 D [.dl rows] (fun q hq => ⟨_, rfl, _, rfl, ?_⟩) hD hn hr rfl ?_
  · have e : (((r + 1 : Nat) : Int)) - 1 = (r : Int) := by omega
    rw [← e] at hq
    exact ⟨_, _, rfl, rfl, hq⟩
  intro D L hD hL hL3 hN
  have h1 := one_le hN
  have ht := flR_tk hL3 hr hL
  refine ⟨_, rfl, ?_⟩
  refine ⟨_, rfl, ?_⟩
  refine ⟨fun i s => ∃ x4 x5 : Option PyData, (i = 0 ∧ s = ⟨[some (.own 1), some (.d (.int ((r + 1 : Nat) : Int))), some (.own 3), x3.map .d, x4.map .d, x5.map .d], D.o ++ [.dl rows, .no]⟩) ∨ (1 ≤ i ∧ ∃ a0 a1 : OC, s = ⟨[some (.own 1), some (.d (.int ((r + 1 : Nat) : Int))), some (.own 5), x3.map .d, x4.map .d, x5.map .d], D.o ++ [a0, a1, .dl (rows ++ flR (L.take i))]⟩), ?_, fun _ _ _ _ => trivial, ?_, ?_⟩
  · refine ⟨x4, x5, .inl ⟨rfl, ?_⟩⟩
    cases x3 <;> cases x4 <;> cases x5 <;> rfl
  · intro i x s hx hI
    obtain ⟨q, hq, hm, rfl⟩ := q_get hx
    have hql := (hL q hm).l
    have hp := PB_le hr
    have ht1 := ht i
    have key := flR_take hq
    obtain ⟨x4, x5, ⟨rfl, rfl⟩ | ⟨hi, a0, a1, rfl⟩⟩ := hI
    · refine ⟨_, rfl, rfl, ?_⟩
      walk_at "go"
      have key : rows ++ flR (L.take 1) = rows ++ [q.row] ++ q.rows := by rw [key]; simp [flR]
      refine .inr (.inr ⟨_, _, rfl, Nat.le_of_ble_eq_true rfl, rfl, some q.row, some (.list q.rows), .inr ⟨Nat.le_refl _, .dl rows, .no, ?_⟩⟩)
      rw [key]
      cases x3 <;> rfl
    · refine ⟨_, rfl, rfl, ?_⟩
      walk_at "go"
      have key : rows ++ flR (L.take (i + 1)) = rows ++ flR (L.take i) ++ [q.row] ++ q.rows := by rw [key]; simp
      refine .inr (.inr ⟨_, _, rfl, Nat.le_of_ble_eq_true rfl, rfl, some q.row, some (.list q.rows), .inr ⟨Nat.le_add_left _ _, OC.cut 5 a0, OC.cut 5 a1, ?_⟩⟩)
      rw [key]
      cases x3 <;> rfl
  · rintro s ⟨x4, x5, ⟨h0, rfl⟩ | ⟨hi, a0, a1, rfl⟩⟩
    · rw [List.length_map] at h0
      omega
    · rw [List.length_map, List.take_length]
      exact h D L x4 x5 a0 a1 hD hL hL3 hN

theorem inn4 {WP : AW → EW} {n r : Nat} {D : Dw} {g : OC} {rows : List PyData} {kx : KX} {k : PEnds} {x3 x4 x5 : Option PyData} (pc : PiecesC n WP) (hD : D.Ok) (hn : 2 * r + 1 < n) (hr : r ≤ 3) (hl : rows.length ≤ 30000)
    (h : ∀ (D : Dw) (L : List Q) (x4 x5 : Option PyData) (a0 a1 a2 : OC), D.Ok → (∀ q ∈ L, q.Ok r) → L.length ≤ 3 → NeP r (L.map Q.p) → k.nx ⟨[some (.own 1), some (.d (.int ((r + 1 : Nat) : Int))), some (.own 6), x3.map .d, x4.map .d, x5.map .d], D.o ++ [a0, a1, a2, .dl (rows ++ flR L)]⟩) :
    w_inn WP kx ⟨[some (.own 1), some (.d (.int ((r + 1 : Nat) : Int))), some (.own 4), x3.map .d, x4.map .d, x5.map .d], D.o ++ [g, .dl rows]⟩ k := by
  unfold w_inn
  refine pc r 5 D [g, .dl rows] (fun q hq => ⟨_, rfl, _, rfl, ?_⟩) hD hn hr rfl ?_
  · have e : (((r + 1 : Nat) : Int)) - 1 = (r : Int) := by omega
    rw [← e] at hq
    exact ⟨_, _, rfl, rfl, hq⟩
  intro D L hD hL hL3 hN
  have h1 := one_le hN
  have ht := flR_tk hL3 hr hL
  refine ⟨_, rfl, ?_⟩
  refine ⟨_, rfl, ?_⟩
  refine ⟨fun i s => ∃ x4 x5 : Option PyData, (i = 0 ∧ s = ⟨[some (.own 1), some (.d (.int ((r + 1 : Nat) : Int))), some (.own 4), x3.map .d, x4.map .d, x5.map .d], D.o ++ [g, .dl rows, .no]⟩) ∨ (1 ≤ i ∧ ∃ a0 a1 a2 : OC, s = ⟨[some (.own 1), some (.d (.int ((r + 1 : Nat) : Int))), some (.own 6), x3.map .d, x4.map .d, x5.map .d], D.o ++ [a0, a1, a2, .dl (rows ++ flR (L.take i))]⟩), ?_, fun _ _ _ _ => trivial, ?_, ?_⟩
  · refine ⟨x4, x5, .inl ⟨rfl, ?_⟩⟩
    cases x3 <;> cases x4 <;> cases x5 <;> rfl
  · intro i x s hx hI
    obtain ⟨q, hq, hm, rfl⟩ := q_get hx
    have hql := (hL q hm).l
    have hp := PB_le hr
    have ht1 := ht i
    have key := flR_take hq
    obtain ⟨x4, x5, ⟨rfl, rfl⟩ | ⟨hi, a0, a1, a2, rfl⟩⟩ := hI
    · refine ⟨_, rfl, rfl, ?_⟩
      walk_at "go"
      have key : rows ++ flR (L.take 1) = rows ++ [q.row] ++ q.rows := by rw [key]; simp [flR]
      refine .inr (.inr ⟨_, _, rfl, Nat.le_of_ble_eq_true rfl, rfl, some q.row, some (.list q.rows), .inr ⟨Nat.le_refl _, OC.cut 6 g, .dl rows, .no, ?_⟩⟩)
      rw [key]
      cases x3 <;> rfl
    · refine ⟨_, rfl, rfl, ?_⟩
      walk_at "go"
      have key : rows ++ flR (L.take (i + 1)) = rows ++ flR (L.take i) ++ [q.row] ++ q.rows := by rw [key]; simp
      refine .inr (.inr ⟨_, _, rfl, Nat.le_of_ble_eq_true rfl, rfl, some q.row, some (.list q.rows), .inr ⟨Nat.le_add_left _ _, OC.cut 6 a0, OC.cut 6 a1, OC.cut 6 a2, ?_⟩⟩)
      rw [key]
      cases x3 <;> rfl
  · rintro s ⟨x4, x5, ⟨h0, rfl⟩ | ⟨hi, a0, a1, a2, rfl⟩⟩
    · rw [List.length_map] at h0
      omega
    · rw [List.length_map, List.take_length]
      exact h D L x4 x5 a0 a1 a2 hD hL hL3 hN
end K34

namespace K34
open PySem L2 PW KN
local macro_rules
  | `(tactic| walk_at "sz") => `(tactic| first | omega | (simp only [tx_len, List.length_append, List.length_map, List.length_cons, List.length_nil, List.length_take, List.length_drop] <;> omega))
  | `(tactic| walk_at "go") => `(tactic| repeat (first | refine ⟨rfl, ?_⟩ | refine ⟨trivial, ?_⟩ | refine ⟨_, rfl, ?_⟩ | refine ⟨_, rfl, rfl, ?_⟩ | refine ⟨_, _, rfl, rfl, ?_⟩ | refine ⟨_, ix_hd, ?_⟩ | refine br_t rfl ?_ | refine br_f rfl ?_ | (refine ⟨le_sz ?_, ?_⟩; focus walk_at "sz") | (refine ⟨lt_sz ?_, ?_⟩; focus walk_at "sz") | (refine ⟨strLe_tx ?_, ?_⟩; focus walk_at "sz") | refine ⟨cmul_r rfl, ?_⟩ | refine ⟨cmul_l rfl, ?_⟩ | refine ⟨pos_ok rfl, ?_⟩ | refine ⟨cdiv_ok rfl, ?_⟩ | refine ⟨_, _, _, _, rfl, rfl, rfl, rfl, ?_⟩ | refine ⟨_, _, rfl, ?_⟩ | refine ⟨_, _, _, rfl, rfl, rfl, ?_⟩ | refine ⟨_, _, _, rfl, rfl, ?_⟩ | refine ⟨_, _, _, _, _, rfl, rfl, rfl, rfl, rfl, ?_⟩ | rw [tx_app]))

def w_law_piece (R_law_pieces : FS) : SW :=
 (wSeq (wAsg (wLst wNil) 2)
 (wSeq (wFor2 2 (wRg1 (wCallM 3 S_law_take (wCons (wVar 0) (wCons (wC (.int 4)) wNil)))) (gN 3)
  (wIfS (wAnd (wB (wGt (wVar 1) (wC (.int 0)))) (wB (wEq (wCallM 3 S_law_take (wCons (wVar 0) (wCons (wC (.int 2)) wNil))) (wC (.int 0)))))
  (wSeq (wFor2 2 (wL (wCallM 3 R_law_pieces (wCons (wVar 0) (wCons (wSub (wVar 1) (wC (.int 1))) wNil)))) (gT 2 (gsCons (gN 4) (gsCons (gN 5) gsNil)))
  (wAsg (wCat (wCat (wVar 2) (wLst (wCons (wVar 4) wNil))) (wVar 5)) 2))
 (wDrop (wApp (wVar 2) (wTup (wCons (wC (.str "end")) wNil)))))
  (wDrop (wApp (wVar 2) (wCallM 3 S_law_mixed_row (wCons (wVar 0) wNil))))))
 (wRet (wVar 2))))
def CT : Nat → Nat
  | 0 => 1
  | r + 1 => 4 + 3 * PB r
theorem CT_PB (r : Nat) : 3 * CT r = PB r := by
  cases r with
  | zero => rfl
  | succ r => rw [CT, PB]; omega
theorem sq_any {a b : SW} {kx : KX} {s : PSt} {k : PEnds} (h : a kx s { k with nx := fun s1 => b kx s1 k }) : wSeq a b kx s k := h
theorem cl_mixed {r : Nat} {ks : List Wk} {ns : List Nd} (h : Cl r ks ns) {w : Wk} (hw : plainW w = true) : ∃ ms, Cl r (ks ++ [w]) ms := by
  obtain ⟨n, hn⟩ := Cl.plain hw
  exact ⟨_, h.app (hn.up (Nat.zero_le _))⟩
theorem cl_parts {r : Nat} {ks : List Wk} {ns : List Nd} (h : Cl (r + 1) ks ns) {L : List Prt} (hL : NeP r L) : ∃ ms, Cl (r + 1) (ks ++ (flP L ++ [.end_])) ms := ⟨_, h.app (Cl.nest hL)⟩
def St3 (r : Nat) (D : Dw) (rows : List PyData) (x3 x4 x5 : Option PyData) (s : PSt) : Prop :=
  s = ⟨[some (.own 1), some (.d (.int (r : Int))), some (.own 3), x3.map .d, x4.map .d, x5.map .d], D.o ++ [.dl rows]⟩ ∨ ∃ g : OC, s = ⟨[some (.own 1), some (.d (.int (r : Int))), some (.own 4), x3.map .d, x4.map .d, x5.map .d], D.o ++ [g, .dl rows]⟩
def In (r j : Nat) (s : PSt) : Prop := ∃ (D : Dw) (rows : List PyData) (ks : List Wk) (ns : List Nd) (x3 x4 x5 : Option PyData), D.Ok ∧ RowsOk rows ks ∧ Cl r ks ns ∧ rows.length ≤ j * CT r ∧ St3 r D rows x3 x4 x5 s
theorem pure_law_piece (n : Nat) : ∀ args o ret exc, S_law_piece (n + 1) args o ret exc → w_law_piece (S_law_pieces n) (fun x s => exc x (cutL o.length s.o)) (pst0 args o 6) (bodyE o.length ret) := by
  rintro _ _ ret exc ⟨D, r, rfl, rfl, hD, hr, hr3, h⟩
  unfold w_law_piece
  have tc := takeC
  generalize wCallM 3 S_law_take = WT at tc ⊢
  have mc := mixC
  generalize wCallM 3 S_law_mixed_row = WM at mc ⊢
  have pc := piecesC n
  generalize wCallM 3 (S_law_pieces n) = WP at pc ⊢
  have hCT : CT r ≤ 1093 := by have := CT_PB r; have := PB_le hr3; omega
  have hCT1 : 1 ≤ CT r := by
    cases r with
    | zero => decide
    | succ r => rw [CT]; omega
  walk_at "go"
  refine tc 4 D [.dl []] (fun q hq => ⟨_, rfl, hq⟩) hD (by decide) (by decide) ?_
  intro D1 v hD1 v0 v1
  obtain ⟨vn, rfl⟩ := Int.eq_ofNat_of_zero_le v0
  refine ⟨_, rfl, by omega, by omega, ?_⟩
  have hlen : (intsD 0 (vn : Int).toNat).length = vn := by unfold intsD; rw [List.length_map, List.length_range]; omega
  refine ⟨In r, ⟨D1, [], [], [], none, none, none, hD1, RowsOk.nil, Cl.nil, Nat.zero_le _, .inl rfl⟩, fun _ _ _ _ => trivial, ?_, ?_⟩
  · rintro j x s hx ⟨D, rows, ks, ns, x3, x4, x5, hD, hR, hC, hl, hS⟩
    have hj : j < 3 := by
      have := (List.getElem?_eq_some_iff.mp hx).1
      omega
    clear hx
    have hl2 : rows.length ≤ 3279 := Nat.le_trans hl (Nat.le_trans (Nat.mul_le_mul (show j ≤ 3 by omega) hCT) (by decide))
    have hl3 : rows.length + CT r ≤ (j + 1) * CT r := by rw [Nat.succ_mul]; omega
    cases r with
    | zero =>
      rcases hS with rfl | ⟨g, rfl⟩
      · refine ⟨_, rfl, ?_⟩
        walk_at "go"
        refine mc D [.dl rows] (fun q hq => ⟨_, rfl, hq⟩) hD ?_
        intro D2 d w hD2 hrow hw
        obtain ⟨ms, hms⟩ := cl_mixed hC hw
        walk_at "go"
        exact .inl ⟨D2, rows ++ [d], ks ++ [w], ms, some x, x4, x5, hD2, hR.app (RowsOk.one hrow), hms, by rw [List.length_append, List.length_singleton]; omega, .inl rfl⟩
      · refine ⟨_, rfl, ?_⟩
        walk_at "go"
        refine mc D [g, .dl rows] (fun q hq => ⟨_, rfl, hq⟩) hD ?_
        intro D2 d w hD2 hrow hw
        obtain ⟨ms, hms⟩ := cl_mixed hC hw
        walk_at "go"
        exact .inl ⟨D2, rows ++ [d], ks ++ [w], ms, some x, x4, x5, hD2, hR.app (RowsOk.one hrow), hms, by rw [List.length_append, List.length_singleton]; omega, .inr ⟨_, rfl⟩⟩
    | succ r =>
      rcases hS with rfl | ⟨g, rfl⟩
      · refine ⟨_, rfl, ?_⟩
        walk_at "go"
        refine br_t (by simp) ?_
        refine tc 2 D [.dl rows] (fun q hq => ⟨_, rfl, hq⟩) hD (by decide) (by decide) ?_
        intro D2 v hD2 v0 v1
        have hv : v = 0 ∨ v = 1 := by omega
        rcases hv with rfl | rfl
        · walk_at "go"
          refine sq_any (inn3 (x3 := some x) (x4 := x4) (x5 := x5) pc hD2 (show 2 * r + 1 < n by omega) (show r ≤ 3 by omega) (show rows.length ≤ 30000 by omega) ?_)
          intro D3 L x4 x5 a0 a1 hD3 hL hL3 hN
          obtain ⟨ms, hms⟩ := cl_parts hC hN
          have hfl := flR_len hL
          have hf2 : L.length * (1 + PB r) ≤ 3 * (1 + PB r) := Nat.mul_le_mul_right _ hL3
          have hPB := PB_le (show r ≤ 3 by omega)
          walk_at "go"
          refine .inr (.inr ⟨5, _, rfl, Nat.le_of_ble_eq_true rfl, rfl, D3, rows ++ flR L ++ [.tuple [.str "end"]], ks ++ (flP (L.map Q.p) ++ [.end_]), ms, some x, x4, x5, hD3, ?_, hms, ?_, .inr ⟨OC.cut 4 a0, ?_⟩⟩)
          · rw [List.append_assoc]; exact hR.app ((flR_ok hL).app (RowsOk.one q_end))
          · rw [List.length_append, List.length_append, List.length_singleton]
            have : CT (r + 1) = 4 + 3 * PB r := rfl
            omega
          · cases x4 <;> cases x5 <;> rfl
        · walk_at "go"
          refine mc D2 [.dl rows] (fun q hq => ⟨_, rfl, hq⟩) hD2 ?_
          intro D3 d w hD3 hrow hw
          obtain ⟨ms, hms⟩ := cl_mixed hC hw
          walk_at "go"
          exact .inl ⟨D3, rows ++ [d], ks ++ [w], ms, some x, x4, x5, hD3, hR.app (RowsOk.one hrow), hms, by rw [List.length_append, List.length_singleton]; omega, .inl rfl⟩
      · refine ⟨_, rfl, ?_⟩
        walk_at "go"
        refine br_t (by simp) ?_
        refine tc 2 D [g, .dl rows] (fun q hq => ⟨_, rfl, hq⟩) hD (by decide) (by decide) ?_
        intro D2 v hD2 v0 v1
        have hv : v = 0 ∨ v = 1 := by omega
        rcases hv with rfl | rfl
        · walk_at "go"
          refine sq_any (inn4 (x3 := some x) (x4 := x4) (x5 := x5) pc hD2 (show 2 * r + 1 < n by omega) (show r ≤ 3 by omega) (show rows.length ≤ 30000 by omega) ?_)
          intro D3 L x4 x5 a0 a1 a2 hD3 hL hL3 hN
          obtain ⟨ms, hms⟩ := cl_parts hC hN
          have hfl := flR_len hL
          have hf2 : L.length * (1 + PB r) ≤ 3 * (1 + PB r) := Nat.mul_le_mul_right _ hL3
          have hPB := PB_le (show r ≤ 3 by omega)
          walk_at "go"
          refine .inr (.inr ⟨6, _, rfl, Nat.le_of_ble_eq_true rfl, rfl, D3, rows ++ flR L ++ [.tuple [.str "end"]], ks ++ (flP (L.map Q.p) ++ [.end_]), ms, some x, x4, x5, hD3, ?_, hms, ?_, .inr ⟨OC.cut 4 a0, ?_⟩⟩)
          · rw [List.append_assoc]; exact hR.app ((flR_ok hL).app (RowsOk.one q_end))
          · rw [List.length_append, List.length_append, List.length_singleton]
            have : CT (r + 1) = 4 + 3 * PB r := rfl
            omega
          · cases x4 <;> cases x5 <;> rfl
        · walk_at "go"
          refine mc D2 [g, .dl rows] (fun q hq => ⟨_, rfl, hq⟩) hD2 ?_
          intro D3 d w hD3 hrow hw
          obtain ⟨ms, hms⟩ := cl_mixed hC hw
          walk_at "go"
          exact .inl ⟨D3, rows ++ [d], ks ++ [w], ms, some x, x4, x5, hD3, hR.app (RowsOk.one hrow), hms, by rw [List.length_append, List.length_singleton]; omega, .inr ⟨_, rfl⟩⟩

  · rintro s ⟨D, rows, ks, ns, x3, x4, x5, hD, hR, hC, hl, hS⟩
    rw [hlen] at hl
    have hl3 : rows.length ≤ PB r := by
      rw [← CT_PB]
      exact Nat.le_trans hl (Nat.mul_le_mul_right _ (by omega))
    rcases hS with rfl | ⟨g, rfl⟩
    · refine ⟨_, rfl, ?_⟩
      exact ⟨Nat.le_of_ble_eq_true rfl, _, rfl, h D rows ks ns hD hR hl3 hC⟩
    · refine ⟨_, rfl, ?_⟩
      exact ⟨Nat.le_of_ble_eq_true rfl, _, rfl, h D rows ks ns hD hR hl3 hC⟩
end K34

namespace K34
open PySem L2 PW KN
local macro_rules
  | `(tactic| walk_at "sz") => `(tactic| first | omega | (simp only [tx_len, List.length_append, List.length_map, List.length_cons, List.length_nil, List.length_take, List.length_drop] <;> omega))
  | `(tactic| walk_at "go") => `(tactic| repeat (first | refine ⟨rfl, ?_⟩ | refine ⟨trivial, ?_⟩ | refine ⟨_, rfl, ?_⟩ | refine ⟨_, rfl, rfl, ?_⟩ | refine ⟨_, _, rfl, rfl, ?_⟩ | refine ⟨_, ix_hd, ?_⟩ | refine br_t rfl ?_ | refine br_f rfl ?_ | (refine ⟨le_sz ?_, ?_⟩; focus walk_at "sz") | (refine ⟨lt_sz ?_, ?_⟩; focus walk_at "sz") | (refine ⟨strLe_tx ?_, ?_⟩; focus walk_at "sz") | refine ⟨cmul_r rfl, ?_⟩ | refine ⟨cmul_l rfl, ?_⟩ | refine ⟨pos_ok rfl, ?_⟩ | refine ⟨cdiv_ok rfl, ?_⟩ | refine ⟨_, _, _, _, rfl, rfl, rfl, rfl, ?_⟩ | refine ⟨_, _, rfl, ?_⟩ | refine ⟨_, _, _, rfl, rfl, rfl, ?_⟩ | refine ⟨_, _, _, rfl, rfl, ?_⟩ | refine ⟨_, _, _, _, _, rfl, rfl, rfl, rfl, rfl, ?_⟩ | rw [tx_app]))


def S_law_strayed : FS := fun args o ret exc => ∃ (D : Dw) (rows : List PyData) (ks : List Wk) (ns : List Nd), args = [.own 1, .d (.list rows)] ∧ o = D.o ∧ D.Ok ∧ RowsOk rows ks ∧ Tp ks ns ∧ rows.length ≤ 3279 ∧ ∀ (D' : Dw) (rows : List PyData) (ks : List Wk) (ns : List Nd), D'.Ok → RowsOk rows ks → Tp ks ns → rows.length ≤ 3400 → ret (.new rows) D'.o
def w_law_strayed : SW :=
 (wSeq (wAsg (wLst (wCons (wTup (wCons (wC (.str "else")) wNil)) (wCons (wTup (wCons (wC (.str "catch")) (wCons (wC (.str "e")) (wCons (wC (.int 1)) wNil)))) (wCons (wTup (wCons (wC (.str "finally")) wNil)) (wCons (wTup (wCons (wC (.str "end")) wNil)) (wCons (wC .none) wNil)))))) 2)
 (wSeq (wAsg (wListOf (wVar 1)) 3)
 (wSeq (wFor2 3 (wRg1 (wCallM 3 S_law_take (wCons (wVar 0) (wCons (wC (.int 3)) wNil)))) (gN 4)
  (wAsg (wCat (wCat (wVar 3) (wLst (wCons (wIx (wVar 2) (wCallM 3 S_law_take (wCons (wVar 0) (wCons (wC (.int 5)) wNil)))) wNil))) (wCallM 3 (S_law_piece 8) (wCons (wVar 0) (wCons (wC (.int 1)) wNil)))) 3))
 (wRet (wVar 3)))))
def strR : List PyData := [.tuple [.str "else"], .tuple [.str "catch", .str "e", .int 1], .tuple [.str "finally"], .tuple [.str "end"], .none]
theorem strR_ok : ∀ x ∈ strR, ∃ k, RowOk x k ∧ strayW k = true := by
  intro x hx
  simp only [strR, List.mem_cons, List.not_mem_nil, or_false] at hx
  rcases hx with rfl | rfl | rfl | rfl | rfl
  · exact ⟨.else_, q_else, rfl⟩
  · exact ⟨.catch_, q_catch, rfl⟩
  · exact ⟨.finally_, q_fin, rfl⟩
  · exact ⟨.end_, q_end, rfl⟩
  · exact ⟨.none, ⟨rfl, by decide +kernel, by decide +kernel⟩, rfl⟩
theorem pure_law_strayed : ∀ args o ret exc, S_law_strayed args o ret exc → w_law_strayed (fun x s => exc x (cutL o.length s.o)) (pst0 args o 5) (bodyE o.length ret) := by
  rintro _ _ ret exc ⟨D, rows0, ks0, ns0, rfl, rfl, hD, hR0, hT0, hl0, h⟩
  unfold w_law_strayed
  have tc := takeC
  generalize wCallM 3 S_law_take = WT at tc ⊢
  have pc := pieceC 8
  generalize wCallM 3 (S_law_piece 8) = WP at pc ⊢
  walk_at "go"
  refine ⟨rows0, .inl rfl, ?_⟩
  refine tc 3 D [.dl strR, .dl rows0] (fun q hq => ⟨_, rfl, hq⟩) hD (by decide) (by decide) ?_
  intro D1 v hD1 v0 v1
  obtain ⟨vn, rfl⟩ := Int.eq_ofNat_of_zero_le v0
  refine ⟨_, rfl, by omega, by omega, ?_⟩
  have hlen : (intsD 0 (vn : Int).toNat).length = vn := by unfold intsD; rw [List.length_map, List.length_range]; omega
  refine ⟨fun j s => ∃ (D : Dw) (rows : List PyData) (ks : List Wk) (ns : List Nd) (x4 : Option PyData), D.Ok ∧ RowsOk rows ks ∧ Tp ks ns ∧ rows.length ≤ 3279 + 40 * j ∧ (s = ⟨[some (.own 1), some (.d (.list rows0)), some (.own 3), some (.own 4), x4.map .d], D.o ++ [.dl strR, .dl rows]⟩ ∨ ∃ g : OC, s = ⟨[some (.own 1), some (.d (.list rows0)), some (.own 3), some (.own 5), x4.map .d], D.o ++ [.dl strR, g, .dl rows]⟩), ⟨D1, rows0, ks0, ns0, none, hD1, hR0, hT0, hl0, .inl rfl⟩, fun _ _ _ _ => trivial, ?_, ?_⟩
  · rintro j x s hx ⟨D, rows, ks, ns, x4, hD, hR, hT, hl, hS⟩
    have hj : j < 2 := by
      have := (List.getElem?_eq_some_iff.mp hx).1
      omega
    clear hx
    rcases hS with rfl | ⟨g, rfl⟩
    · refine ⟨_, rfl, ?_⟩
      refine ⟨_, rfl, ?_⟩
      refine tc 5 D [.dl strR, .dl rows] (fun q hq => ⟨_, rfl, hq⟩) hD (by decide) (by decide) ?_
      intro D2 v hD2 v0 v1
      obtain ⟨z, hz, hm⟩ := at_int (l := strR) v0 v1
      obtain ⟨k, hk, hp⟩ := strR_ok z hm
      refine ⟨_, _, rfl, rfl, trivial, z, hz, ?_⟩
      walk_at "go"
      refine pc 1 7 D2 [.dl strR, .dl rows, .dl [z], .dl (rows ++ [z])] (fun q hq => ⟨_, rfl, hq⟩) hD2 (by decide) (by decide) rfl ?_
      intro D3 rows3 ks3 ns3 hD3 hR3 hl3 hc3
      have hl3 : rows3.length ≤ 39 := hl3
      walk_at "go"
      refine .inr (.inr ⟨_, _, rfl, Nat.le_of_ble_eq_true rfl, rfl, D3, rows ++ [z] ++ rows3, ks ++ [k] ++ ks3, _, some x, hD3, (hR.app (RowsOk.one hk)).app hR3, (hT.app (Tp.stray hp)).app (hc3.tp (by decide)), ?_, .inr ⟨.dl rows, rfl⟩⟩)
      rw [List.length_append, List.length_append, List.length_singleton]
      omega
    · refine ⟨_, rfl, ?_⟩
      refine ⟨_, rfl, ?_⟩
      refine tc 5 D [.dl strR, g, .dl rows] (fun q hq => ⟨_, rfl, hq⟩) hD (by decide) (by decide) ?_
      intro D2 v hD2 v0 v1
      obtain ⟨z, hz, hm⟩ := at_int (l := strR) v0 v1
      obtain ⟨k, hk, hp⟩ := strR_ok z hm
      refine ⟨_, _, rfl, rfl, trivial, z, hz, ?_⟩
      walk_at "go"
      refine pc 1 8 D2 [.dl strR, g, .dl rows, .dl [z], .dl (rows ++ [z])] (fun q hq => ⟨_, rfl, hq⟩) hD2 (by decide) (by decide) rfl ?_
      intro D3 rows3 ks3 ns3 hD3 hR3 hl3 hc3
      have hl3 : rows3.length ≤ 39 := hl3
      walk_at "go"
      refine .inr (.inr ⟨_, _, rfl, Nat.le_of_ble_eq_true rfl, rfl, D3, rows ++ [z] ++ rows3, ks ++ [k] ++ ks3, _, some x, hD3, (hR.app (RowsOk.one hk)).app hR3, (hT.app (Tp.stray hp)).app (hc3.tp (by decide)), ?_, .inr ⟨OC.cut 5 g, rfl⟩⟩)
      rw [List.length_append, List.length_append, List.length_singleton]
      omega
  · rintro s ⟨D, rows, ks, ns, x4, hD, hR, hT, hl, hS⟩
    rw [hlen] at hl
    rcases hS with rfl | ⟨g, rfl⟩
    · refine ⟨_, rfl, ?_⟩
      exact ⟨Nat.le_of_ble_eq_true rfl, _, rfl, h D rows ks ns hD hR hT (by omega)⟩
    · refine ⟨_, rfl, ?_⟩
      exact ⟨Nat.le_of_ble_eq_true rfl, _, rfl, h D rows ks ns hD hR hT (by omega)⟩
end K34

namespace K34
open PySem L2 PW KN
local macro_rules
  | `(tactic| walk_at "sz") => `(tactic| first | omega | (simp only [tx_len, List.length_append, List.length_map, List.length_cons, List.length_nil, List.length_take, List.length_drop] <;> omega))
  | `(tactic| walk_at "go") => `(tactic| repeat (first | refine ⟨rfl, ?_⟩ | refine ⟨trivial, ?_⟩ | refine ⟨_, rfl, ?_⟩ | refine ⟨_, rfl, rfl, ?_⟩ | refine ⟨_, _, rfl, rfl, ?_⟩ | refine ⟨_, ix_hd, ?_⟩ | refine br_t rfl ?_ | refine br_f rfl ?_ | (refine ⟨le_sz ?_, ?_⟩; focus walk_at "sz") | (refine ⟨lt_sz ?_, ?_⟩; focus walk_at "sz") | (refine ⟨strLe_tx ?_, ?_⟩; focus walk_at "sz") | refine ⟨cmul_r rfl, ?_⟩ | refine ⟨cmul_l rfl, ?_⟩ | refine ⟨pos_ok rfl, ?_⟩ | refine ⟨cdiv_ok rfl, ?_⟩ | refine ⟨_, _, _, _, rfl, rfl, rfl, rfl, ?_⟩ | refine ⟨_, _, rfl, ?_⟩ | refine ⟨_, _, _, rfl, rfl, rfl, ?_⟩ | refine ⟨_, _, _, rfl, rfl, ?_⟩ | refine ⟨_, _, _, _, _, rfl, rfl, rfl, rfl, rfl, ?_⟩ | rw [tx_app]))


open K32
def S_law_moved (n : Nat) : FS := fun args o ret exc => ∃ (ns : List Nd) (ks : List Wk) (m : Nat) (b : Int), args = [.d (.tuple (ndsD ns)), .d (.int b)] ∧ o = [] ∧ HdL ks m ns ∧ m < n ∧ (unL ns).length ≤ 20000 ∧ ret (.d (.tuple (ndsD (shL b ns)))) []
theorem zero_law_moved : ∀ args o r e, ¬ S_law_moved 0 args o r e := by
  rintro args o r e ⟨_, _, _, _, _, _, _, h, _⟩
  omega
theorem len_unP : ∀ ps : List Pt, ps.length ≤ (unP ps).length
  | [] => Nat.zero_le _
  | .mk u ns :: r => by
    have := len_unP r
    rw [unP, List.length_cons, List.length_cons, List.length_append]
    omega
theorem len_unL {ks : List Wk} {m : Nat} : ∀ {ns : List Nd}, HdL ks m ns → ns.length ≤ (unL ns).length
  | [], _ => Nat.zero_le _
  | n :: r, h => by
    have h : HdN ks m n ∧ HdL ks m r := by cases m <;> exact h
    have ih := len_unL h.2
    have : 1 ≤ (unN n).length := by
      cases n with
      | row u => exact Nat.le_refl _
      | fence u => exact Nat.le_refl _
      | nest ps l =>
        cases m with
        | zero => exact h.1.elim
        | succ m =>
          have h1 : HdT ks ps ∧ HdP ks m ps := h.1
          cases ps with
          | nil => exact h1.1.elim
          | cons p r =>
            have := len_unP (p :: r)
            rw [un_nest, List.length_append]
            rw [List.length_cons] at this
            omega
    rw [unL, List.length_cons, List.length_append]
    omega
theorem shL_take (b : Int) {ns : List Nd} {j : Nat} (h : j < ns.length) : ndsD (shL b (ns.take (j + 1))) = ndsD (shL b (ns.take j)) ++ [ndD (shN b ns[j])] := by
  rw [take_one h, shL_app, ndsD_map, ndsD_map, List.map_append]
  rfl
theorem shP_take (b : Int) {ps : List Pt} {j : Nat} (h : j < ps.length) : ptsD (shP b (ps.take (j + 1))) = ptsD (shP b (ps.take j)) ++ [ptD (shT b ps[j])] := by
  rw [take_one h, shP_app, ptsD_map, ptsD_map, List.map_append]
  rfl
theorem shL_len (b : Int) : ∀ ns : List Nd, (ndsD (shL b ns)).length = ns.length
  | [] => rfl
  | n :: r => by rw [shL, ndsD, List.length_cons, shL_len b r, List.length_cons]
theorem shPD_len (b : Int) (ps : List Pt) : (ptsD (shP b ps)).length = ps.length := by rw [ptsD_ln, shP_len]
def w_law_moved (R_law_moved : FS) : SW :=
 (wSeq (wAsg (wLst wNil) 2)
 (wSeq (wFor (wTp (wVar 0)) (gN 3)
  (wIfS (wB (wEq (wIx (wVar 3) (wC (.int 0))) (wC (.str "nest"))))
  (wSeq (wAsg (wTupOf (wLc (wTp (wIx (wVar 3) (wC (.int 1)))) (gT 2 (gsCons (gN 5) (gsCons (gN 6) gsNil))) wYes (wTup (wCons (wAdd (wVar 5) (wVar 1)) (wCons (wCall R_law_moved (wCons (wVar 6) (wCons (wVar 1) wNil))) wNil))) [5, 6])) 4)
 (wDrop (wApp (wVar 2) (wTup (wCons (wC (.str "nest")) (wCons (wVar 4) (wCons (wIf (wB (wIsN (wIx (wVar 3) (wC (.int 2))))) (wC .none) (wAdd (wIx (wVar 3) (wC (.int 2))) (wVar 1))) wNil)))))))
  (wDrop (wApp (wVar 2) (wTup (wCons (wIx (wVar 3) (wC (.int 0))) (wCons (wAdd (wIx (wVar 3) (wC (.int 1))) (wVar 1)) wNil)))))))
 (wRet (wTupOf (wVar 2)))))
theorem pure_law_moved (n : Nat) : ∀ args o ret exc, S_law_moved (n + 1) args o ret exc → w_law_moved (S_law_moved n) (fun x s => exc x (cutL o.length s.o)) (pst0 args o 7) (bodyE o.length ret) := by
  rintro _ _ ret exc ⟨ns, ks, m, b, rfl, rfl, hH, hm, hU, h⟩
  obtain ⟨r1, r2, r3⟩ := nest_eq
  unfold w_law_moved
  have hln := len_unL hH
  walk_at "go"
  refine ⟨fun j s => ∃ x3 x4 x5 x6 : Option PyData, s = ⟨[some (.d (.tuple (ndsD ns))), some (.d (.int b)), some (.own 0), x3.map .d, x4.map .d, x5.map .d, x6.map .d], [.dl (ndsD (shL b (ns.take j)))]⟩, ⟨none, none, none, none, rfl⟩, fun _ _ _ _ => trivial, ?_, ?_⟩
  · rintro j x s hx ⟨x3, x4, x5, x6, rfl⟩
    obtain ⟨hj, rfl⟩ := nds_get hx
    clear hx
    have hs := un_split ns hj
    have key := shL_take b hj
    have hlj : (ndsD (shL b (ns.take j))).length < 20000 := by rw [shL_len, List.length_take]; omega
    have hH2 := HdL.at hH hj
    generalize ndsD (shL b (ns.take j)) = X at *
    generalize ns[j] = nd at *
    refine ⟨_, rfl, ?_⟩
    cases nd with
    | row u =>
      walk_at "go"
      exact .inl ⟨some _, x4, x5, x6, by rw [key]; rfl⟩
    | fence u =>
      walk_at "go"
      exact .inl ⟨some _, x4, x5, x6, by rw [key]; rfl⟩
    | nest ps l =>
      have hH3 : ∃ m', m = m' + 1 ∧ HdP ks m' ps := by
        cases m with
        | zero => exact hH2.elim
        | succ m => exact ⟨m, rfl, hH2.2⟩
      obtain ⟨m', rfl, hP⟩ := hH3
      have hups : (unP ps).length ≤ 20000 := by rw [un_nest, List.length_append] at hs; omega
      have hpl := len_unP ps
      walk_at "go"
      refine ⟨fun i acc s => acc = ptsD (shP b (ps.take i)) ∧ s = ⟨[some (.d (.tuple (ndsD ns))), some (.d (.int b)), some (.own 0), some (.d (ndD (.nest ps l))), x4.map .d, none, none], [.dl X]⟩, ⟨rfl, rfl⟩, fun _ _ _ _ _ => trivial, ?_, ?_⟩
      · rintro i x acc s hx hsl ⟨rfl, rfl⟩
        obtain ⟨hi, rfl⟩ := pts_get hx
        clear hx
        obtain ⟨u, inner, hp⟩ : ∃ u inner, ps[i] = .mk u inner := by cases ps[i]; exact ⟨_, _, rfl⟩
        have hq := unP_split ps hi hp
        have hI : HdL ks m' inner := HdP.at hP (by rw [List.getElem?_eq_getElem hi, hp])
        have kp := shP_take b hi
        have hai : (ptsD (shP b (ps.take i))).length < 20001 := by rw [shPD_len, List.length_take]; omega
        rw [hp] at kp ⊢
        refine ⟨_, rfl, rfl, ?_⟩
        walk_at "go"
        refine ⟨inner, ks, m', b, rfl, rfl, hI, by omega, by omega, ?_⟩
        walk_at "go"
        exact ⟨kp.symm, by cases x4 <;> rfl⟩
      · rintro acc s hsl ⟨rfl, rfl⟩
        rw [ptsD_ln, List.take_length]
        cases l with
        | none =>
          refine ⟨_, .inl rfl, ?_⟩
          walk_at "go"
          exact .inr ⟨some _, some _, none, none, by rw [key]; rfl⟩
        | some v =>
          refine ⟨_, .inl rfl, ?_⟩
          walk_at "go"
          exact .inr ⟨some _, some _, none, none, by rw [key]; rfl⟩
  · rintro s ⟨x3, x4, x5, x6, rfl⟩
    rw [ndsD_len, List.take_length]
    refine ⟨_, rfl, _, .inl rfl, ?_⟩
    exact h
end K34

namespace K34
open PySem L2 PW KN
local macro_rules
  | `(tactic| walk_at "sz") => `(tactic| first | omega | (simp only [tx_len, List.length_append, List.length_map, List.length_cons, List.length_nil, List.length_take, List.length_drop] <;> omega))
  | `(tactic| walk_at "go") => `(tactic| repeat (first | refine ⟨rfl, ?_⟩ | refine ⟨trivial, ?_⟩ | refine ⟨_, rfl, ?_⟩ | refine ⟨_, rfl, rfl, ?_⟩ | refine ⟨_, _, rfl, rfl, ?_⟩ | refine ⟨_, ix_hd, ?_⟩ | refine br_t rfl ?_ | refine br_f rfl ?_ | (refine ⟨le_sz ?_, ?_⟩; focus walk_at "sz") | (refine ⟨lt_sz ?_, ?_⟩; focus walk_at "sz") | (refine ⟨strLe_tx ?_, ?_⟩; focus walk_at "sz") | refine ⟨cmul_r rfl, ?_⟩ | refine ⟨cmul_l rfl, ?_⟩ | refine ⟨pos_ok rfl, ?_⟩ | refine ⟨cdiv_ok rfl, ?_⟩ | refine ⟨_, _, _, _, rfl, rfl, rfl, rfl, ?_⟩ | refine ⟨_, _, rfl, ?_⟩ | refine ⟨_, _, _, rfl, rfl, rfl, ?_⟩ | refine ⟨_, _, _, rfl, rfl, ?_⟩ | refine ⟨_, _, _, _, _, rfl, rfl, rfl, rfl, rfl, ?_⟩ | rw [tx_app]))


open K32
theorem sok : PyData.strOk (Str.ofString "row") = true ∧ PyData.strOk (Str.ofString "fence") = true ∧ PyData.strOk (Str.ofString "nest") = true := by decide +kernel
mutual
theorem ndD_sh : ∀ n : Nd, (ndD n).canLay0 = true ∧ (ndD n).depth ≤ 4 * hN n + 2
  | .row u => ⟨by simp [ndD, PyData.canLay0, PyData.canLayAll0, sok], by simp [ndD, PyData.depth, PyData.depthAll]⟩
  | .fence u => ⟨by simp [ndD, PyData.canLay0, PyData.canLayAll0, sok], by simp [ndD, PyData.depth, PyData.depthAll]⟩
  | .nest ps l => by
    obtain ⟨h1, h2⟩ := ptsD_sh ps
    cases l
    · exact ⟨by simp [ndD, optD, PyData.canLay0, PyData.canLayAll0, sok, h1], by simp [ndD, optD, PyData.depth, PyData.depthAll, hN]; omega⟩
    · exact ⟨by simp [ndD, optD, PyData.canLay0, PyData.canLayAll0, sok, h1], by simp [ndD, optD, PyData.depth, PyData.depthAll, hN]; omega⟩
theorem ndsD_sh : ∀ n : List Nd, PyData.canLayAll0 (ndsD n) = true ∧ PyData.depthAll (ndsD n) ≤ 4 * hL n + 2
  | [] => ⟨rfl, Nat.zero_le _⟩
  | n :: r => by
    obtain ⟨h1, h2⟩ := ndD_sh n
    obtain ⟨h3, h4⟩ := ndsD_sh r
    exact ⟨by simp [ndsD, PyData.canLayAll0, h1, h3], by simp only [ndsD, PyData.depthAll, hL]; omega⟩
theorem ptsD_sh : ∀ n : List Pt, PyData.canLayAll0 (ptsD n) = true ∧ PyData.depthAll (ptsD n) ≤ 4 * hP n + 4
  | [] => ⟨rfl, Nat.zero_le _⟩
  | .mk u ns :: r => by
    obtain ⟨h1, h2⟩ := ndsD_sh ns
    obtain ⟨h3, h4⟩ := ptsD_sh r
    exact ⟨by simp [ptsD, ptD, PyData.canLay0, PyData.canLayAll0, h1, h3], by simp only [ptsD, ptD, PyData.depth, PyData.depthAll, hP]; omega⟩
end
theorem nds_shaped {ns : List Nd} (h : hL ns ≤ 9) : SeqAt.shaped (.tuple (ndsD ns)) = true := by
  have := ndsD_sh ns
  unfold SeqAt.shaped
  simp [PyData.canLay0, PyData.depth, this.1]
  omega
theorem nds_eqv (ns : List Nd) : PyData.eqv (.tuple (ndsD ns)) (.tuple (ndsD ns)) = true := SeqAt.eqv_refl _ (ndsD_sh ns).1
theorem flP_app : ∀ a b : List Prt, flP (a ++ b) = flP a ++ flP b
  | [], b => rfl
  | (k, ks, ns) :: r, b => by rw [List.cons_append, flP, flP, flP_app r b]; simp
theorem ptsP_snoc (k : Wk) (ks : List Wk) (ns : List Nd) : ∀ (L : List Prt) (a : Int), ptsP a (L ++ [(k, ks, ns)]) = ptsP a L ++ [.mk (a + (flP L).length) (shL (a + (flP L).length + 1) ns)]
  | [], a => by simp [ptsP, flP]
  | (k', ks', ns') :: r, a => by
    have ih := ptsP_snoc k ks ns r (a + 1 + ks'.length)
    rw [List.cons_append, ptsP, ih, ptsP, List.cons_append]
    have e : a + 1 + (ks'.length : Int) + ((flP r).length : Int) = a + ((flP ((k', ks', ns') :: r)).length : Int) := by
      rw [flP, List.length_cons, List.length_append]
      omega
    rw [e]
theorem GoP.cl {d : Nat} : ∀ {L : List Prt} {t : Ws}, GoP d t L → ∀ p ∈ L, Cl d p.2.1 p.2.2
  | (k, ks, ns) :: r, t, ⟨t', h1, h2, h3⟩, p, m => by
    rcases List.mem_cons.mp m with rfl | m
    · exact h2
    · exact GoP.cl h3 p m
theorem NeP.cl {d : Nat} : ∀ {L : List Prt}, NeP d L → ∀ p ∈ L, Cl d p.2.1 p.2.2
  | (k, ks, ns) :: r, ⟨t, h1, h2, h3⟩, p, m => by
    rcases List.mem_cons.mp m with rfl | m
    · exact h2
    · exact GoP.cl h3 p m
def S_law_in_nest_right : FS := fun args o ret exc => ∃ (D : Dw), args = [.own 1] ∧ o = D.o ∧ D.Ok ∧ ∀ (D' : Dw), D'.Ok → ret (.d (.bool true)) D'.o
def w_law_in_nest_right : SW :=
 (wSeq (wPar 1 2 (wCons (wLst wNil) (wCons (wLst wNil) wNil)))
 (wSeq (wFor2 1 (wL (wCallM 3 (S_law_pieces 8) (wCons (wVar 0) (wCons (wC (.int 2)) wNil)))) (gT 2 (gsCons (gN 3) (gsCons (gN 4) gsNil)))
  (wSeq (wDrop (wApp (wVar 2) (wTup (wCons (wLen (wVar 1)) (wCons (wCall (S_law_moved 12) (wCons (wCall S_nodes_of (wCons (wVar 4) wNil)) (wCons (wAdd (wLen (wVar 1)) (wC (.int 1))) wNil))) wNil)))))
 (wAsg (wCat (wCat (wVar 1) (wLst (wCons (wVar 3) wNil))) (wVar 4)) 1)))
 (wSeq (wIfS (wOr (wB (wNe (wCall S_nodes_of (wCons (wCat (wVar 1) (wLst (wCons (wTup (wCons (wC (.str "end")) wNil)) wNil))) wNil)) (wTup (wCons (wTup (wCons (wC (.str "nest")) (wCons (wTupOf (wVar 2)) (wCons (wLen (wVar 1)) wNil)))) wNil)))) (wB (wCall S_is_whole (wCons (wVar 1) wNil))))
  (wRet (wC (.bool false)))
  wNext)
 (wSeq (wAsg (wCallM 3 (S_law_piece 8) (wCons (wVar 0) (wCons (wC (.int 2)) wNil))) 5)
 (wSeq (wAsg (wTup (wCons (wIx (wIx (wVar 2) (wNeg (wC (.int 1)))) (wC (.int 0))) (wCons (wCatT (wIx (wIx (wVar 2) (wNeg (wC (.int 1)))) (wC (.int 1))) (wCall (S_law_moved 12) (wCons (wCall S_nodes_of (wCons (wVar 5) wNil)) (wCons (wLen (wVar 1)) wNil)))) wNil))) 6)
 (wRet (wEq (wCall S_nodes_of (wCons (wCat (wVar 1) (wVar 5)) wNil)) (wTup (wCons (wTup (wCons (wC (.str "nest")) (wCons (wTupOf (wCat (wSl (wVar 2) wNoPart (wPart (wNeg (wC (.int 1))))) (wLst (wCons (wVar 6) wNil)))) (wCons (wC .none) wNil)))) wNil)))))))))
theorem shaped_lay {a : PyData} (h : SeqAt.shaped a = true) : a.canLay0 = true := by
  unfold SeqAt.shaped at h
  rw [Bool.and_eq_true] at h
  exact h.1
theorem ne_same {a : PyData} {q : PyData → Prop} (h : SeqAt.shaped a = true) (k : q (.bool false)) : rEqP true a a q := by
  have e := SeqAt.eqv_refl a (shaped_lay h)
  refine ⟨eqOk_of h h, ?_⟩
  rw [e]
  exact k
theorem eq_same {a : PyData} {q : PyData → Prop} (h : SeqAt.shaped a = true) (k : q (.bool true)) : rEqP false a a q := by
  have e := SeqAt.eqv_refl a (shaped_lay h)
  refine ⟨eqOk_of h h, ?_⟩
  rw [e]
  exact k
theorem pts_take {L : List Q} {i : Nat} {q : Q} (hq : L[i]? = some q) : ptsD (ptsP 0 ((L.take (i + 1)).map Q.p)) = ptsD (ptsP 0 ((L.take i).map Q.p)) ++ [.tuple [.int (flP ((L.take i).map Q.p)).length, .tuple (ndsD (shL ((flP ((L.take i).map Q.p)).length + 1) q.ns))]] := by
  have e : (L.take (i + 1)).map Q.p = (L.take i).map Q.p ++ [(q.k, q.ks, q.ns)] := by
    rw [List.take_succ, hq, List.map_append]
    rfl
  rw [e, ptsP_snoc, ptsD_map, ptsD_map, List.map_append, Int.zero_add]
  rfl
theorem ptsP_ln : ∀ (L : List Prt) (a : Int), (ptsP a L).length = L.length
  | [], a => rfl
  | (k, ks, ns) :: r, a => by rw [ptsP, List.length_cons, ptsP_ln r, List.length_cons]
theorem pure_law_in_nest_right : ∀ args o ret exc, S_law_in_nest_right args o ret exc → w_law_in_nest_right (fun x s => exc x (cutL o.length s.o)) (pst0 args o 7) (bodyE o.length ret) := by
  rintro _ _ ret exc ⟨D, rfl, rfl, hD, h⟩
  unfold w_law_in_nest_right
  have pc := pieceC 8
  generalize wCallM 3 (S_law_piece 8) = WP at pc ⊢
  have sc := piecesC 8
  generalize wCallM 3 (S_law_pieces 8) = WS at sc ⊢
  walk_at "go"
  refine sc 2 5 D [.dl [], .dl []] (fun q hq => ⟨_, rfl, hq⟩) hD (by decide) (by decide) rfl ?_
  intro D L hD hL hL3 hN
  have h1 := one_le hN
  have ht := flR_tk hL3 (show 2 ≤ 3 by decide) hL
  have hcl := NeP.cl hN
  refine ⟨_, rfl, ?_⟩
  refine ⟨_, rfl, ?_⟩
  refine ⟨fun i s => ∃ x3 x4 : Option PyData, (i = 0 ∧ s = ⟨[some (.own 1), some (.own 3), some (.own 4), x3.map .d, x4.map .d, none, none], D.o ++ [.dl [], .dl [], .no]⟩) ∨ (1 ≤ i ∧ s = ⟨[some (.own 1), some (.own 6), some (.own 4), x3.map .d, x4.map .d, none, none], D.o ++ [.dl [], .dl (ptsD (ptsP 0 ((L.take i).map Q.p))), .no, .dl (flR (L.take i))]⟩), ⟨none, none, .inl ⟨rfl, rfl⟩⟩, fun _ _ _ _ => trivial, ?_, ?_⟩
  · intro i x s hx hI
    obtain ⟨q, hq, hm, rfl⟩ := q_get hx
    have hqo := hL q hm
    have hql := hqo.l
    have hqk : q.ks.length ≤ 3279 := by
      have := hqo.b.1.1
      have := PB_le (show 2 ≤ 3 by decide)
      omega
    have hql2 : q.rows.length ≤ 3279 := Nat.le_trans hql (PB_le (by decide))
    have hqn : nodesM q.ks = q.ns := (Cl.tp (hcl q.p (List.mem_map_of_mem hm)) (by decide)).nodes
    have hd := hd_nodes q.ks (by omega)
    have hun : (unL (nodesM q.ks)).length ≤ 20000 := by rw [nodes_units, ivl_len]; omega
    have ht1 := ht i
    have key := flR_take hq
    have kp := pts_take hq
    have hpl : (ptsD (ptsP 0 ((L.take i).map Q.p))).length ≤ 3 := by rw [ptsD_ln, ptsP_ln, List.length_map, List.length_take]; omega
    have hln : (flP ((L.take i).map Q.p)).length = (flR (L.take i)).length := by
      have := (flR_ok (L := L.take i) fun q m => hL q (List.mem_of_mem_take m)).1.1
      exact this.symm
    rw [hln, ← hqn] at kp
    obtain ⟨x3, x4, ⟨rfl, rfl⟩ | ⟨hi, rfl⟩⟩ := hI
    · refine ⟨_, rfl, rfl, ?_⟩
      walk_at "go"
      refine ⟨q.rows, q.ks, rfl, rfl, hqo.b.1, by omega, ?_⟩
      walk_at "go"
      refine ⟨nodesM q.ks, q.ks, 9, 1, rfl, rfl, hd, by decide, hun, ?_⟩
      walk_at "go"
      refine .inr (.inr ⟨_, _, rfl, Nat.le_of_ble_eq_true rfl, rfl, some q.row, some (.list q.rows), .inr ⟨Nat.le_refl _, ?_⟩⟩)
      rw [kp, key]
      rfl
    · refine ⟨_, rfl, rfl, ?_⟩
      walk_at "go"
      refine ⟨q.rows, q.ks, rfl, rfl, hqo.b.1, by omega, ?_⟩
      walk_at "go"
      refine ⟨nodesM q.ks, q.ks, 9, _, rfl, rfl, hd, by decide, hun, ?_⟩
      walk_at "go"
      refine .inr (.inr ⟨_, _, rfl, Nat.le_of_ble_eq_true rfl, rfl, some q.row, some (.list q.rows), .inr ⟨Nat.le_add_left _ _, ?_⟩⟩)
      rw [kp, key]
      rfl
  · rintro s ⟨x3, x4, ⟨h0, rfl⟩ | ⟨hi, rfl⟩⟩
    · rw [List.length_map] at h0
      omega
    · rw [List.length_map, List.take_length]
      have hR := flR_ok hL
      have hlf : (flR L).length ≤ 9840 := by have := ht L.length; rwa [List.take_length] at this
      have hlk : (flP (L.map Q.p)).length = (flR L).length := hR.1.1.symm
      have hlp : (ptsD (ptsP 0 (L.map Q.p))).length ≤ 3 := by rw [ptsD_ln, ptsP_ln, List.length_map]; exact hL3
      have e1 := nest_nodes hN (by decide)
      have hE := hR.app (RowsOk.one q_end)
      have c1 := (nodes_cov (flP (L.map Q.p) ++ [.end_])).2
      have sh1 := nds_shaped (Nat.le_succ_of_le c1)
      have ev1 := nds_eqv (nodesM (flP (L.map Q.p) ++ [.end_]))
      have e2 := open_nodes hN (by decide) (Cl.nil (d := 2))
      obtain ⟨init0, u0, cur0, e20, e21⟩ := e2
      rw [List.append_nil] at e21
      have e3 := fun {more : List Wk} {ms : List Nd} (g : Cl 2 more ms) => open_nodes hN (by decide) g
      generalize flP (L.map Q.p) = F at *
      generalize ptsP 0 (L.map Q.p) = P at *
      generalize flR L = R at *
      have eb : PyData.tuple (ndsD (nodesM (F ++ [.end_]))) = .tuple [.tuple [.str "nest", .tuple (ptsD P), .int (R.length : Int)]] := by rw [e1, hlk]; rfl
      walk_at "go"
      refine ⟨R ++ [.tuple [.str "end"]], F ++ [.end_], rfl, rfl, hE.1, by rw [List.length_append, List.length_singleton]; omega, ?_⟩
      walk_at "go"
      refine ⟨_, .inl rfl, ?_⟩
      walk_at "go"
      rw [← eb]
      refine ne_same sh1 ?_
      walk_at "go"
      refine ⟨R, F, rfl, rfl, hR.1, by omega, hd_nodes F (by omega), ?_⟩
      have hw : whL (trK F) (nodesM F) = false := by rw [e21]; simp [whL, whN]
      rw [hw]
      walk_at "go"
      refine pc 2 9 D [.dl [], .dl (ptsD P), .no, .no, .dl _, .no] (fun q hq => ⟨_, rfl, hq⟩) hD (by decide) (by decide) rfl ?_
      intro D2 more mk ms hD2 hRM hlm hcm
      have hlm := Nat.le_trans hlm (PB_le (by decide))
      have hlm2 := hRM.1.1
      have hdm := hd_nodes mk (by omega)
      have hum : (unL (nodesM mk)).length ≤ 20000 := by rw [nodes_units, ivl_len]; omega
      have hnm : nodesM mk = ms := (Cl.tp hcm (by decide)).nodes
      obtain ⟨init, u, cur, e30, e31⟩ := e3 hcm
      have ix : ixD (.list (ptsD P)) (-1) = some (ptD (.mk u cur)) := by
        rw [e30, ptsD_map, List.map_append]
        exact atI_snoc _ _
      have hsum : (ndsD cur).length + (ndsD (shL (R.length : Int) (nodesM mk))).length ≤ 20000 := by
        have hH := hd_nodes (F ++ mk) (by rw [List.length_append]; omega)
        have hU : (unL (nodesM (F ++ mk))).length ≤ 20000 := by rw [nodes_units, ivl_len, List.length_append]; omega
        rw [e31] at hH hU
        have hP := hH.1.2
        have hc := HdP.at (j := init.length) (u := u) hP (by rw [List.getElem?_append_right (Nat.le_refl _), Nat.sub_self]; rfl)
        have hl := len_unL hc
        rw [unL, unL, List.append_nil, un_nest, unP_app, unP, unP] at hU
        simp only [List.length_append, List.length_cons, List.length_nil] at hU hl
        have h2 : (ndsD (shL (R.length : Int) (nodesM mk))).length = (shL ((F.length : Nat) : Int) ms).length := by rw [hlk, hnm, ndsD_len]
        rw [h2, ndsD_len]
        omega
      have eb2 : PyData.tuple (ndsD (nodesM (F ++ mk))) = .tuple [.tuple [.str "nest", .tuple (cutD (ptsD P) none (some (-1)) ++ [.tuple [.int u, .tuple (ndsD cur ++ ndsD (shL (R.length : Int) (nodesM mk)))]]), .none]] := by
        rw [e31, cutD_last, e30, hlk, hnm, ptsD_map, List.map_append]
        show _ = PyData.tuple [.tuple [.str "nest", .tuple ((init.map ptD ++ [ptD (.mk u cur)]).dropLast ++ _), .none]]
        rw [List.dropLast_concat]
        show PyData.tuple [.tuple [.str "nest", .tuple (ptsD _), .none]] = _
        rw [ptsD_map, List.map_append]
        show PyData.tuple [.tuple [.str "nest", .tuple (_ ++ [.tuple [.int u, .tuple (ndsD _)]]), .none]] = _
        rw [ndsD_map, List.map_append, ndsD_map, ndsD_map]
      have hRR := hR.app hRM
      have c3 := (nodes_cov (F ++ mk)).2
      have sh3 := nds_shaped (Nat.le_succ_of_le c3)
      walk_at "go"
      refine ⟨_, ix, ?_⟩
      walk_at "go"
      refine ⟨_, ix, ?_⟩
      walk_at "go"
      refine ⟨more, mk, rfl, rfl, hRM.1, by omega, ?_⟩
      walk_at "go"
      refine ⟨nodesM mk, mk, 9, _, rfl, rfl, hdm, by decide, hum, ?_⟩
      walk_at "go"
      refine ⟨R ++ more, F ++ mk, rfl, rfl, hRR.1, by rw [List.length_append]; omega, ?_⟩
      walk_at "go"
      refine ⟨le_sz (by rw [cutD_last, List.length_dropLast, List.length_singleton]; omega), _, .inl rfl, ?_⟩
      walk_at "go"
      rw [← eb2]
      refine eq_same sh3 ?_
      exact h D2 hD2
end K34

namespace K34
open PySem L2 PW KN
local macro_rules
  | `(tactic| walk_at "sz") => `(tactic| first | omega | (simp only [tx_len, List.length_append, List.length_map, List.length_cons, List.length_nil, List.length_take, List.length_drop] <;> omega))
  | `(tactic| walk_at "go") => `(tactic| repeat (first | refine ⟨rfl, ?_⟩ | refine ⟨trivial, ?_⟩ | refine ⟨_, rfl, ?_⟩ | refine ⟨_, rfl, rfl, ?_⟩ | refine ⟨_, _, rfl, rfl, ?_⟩ | refine ⟨_, ix_hd, ?_⟩ | refine br_t rfl ?_ | refine br_f rfl ?_ | (refine ⟨le_sz ?_, ?_⟩; focus walk_at "sz") | (refine ⟨lt_sz ?_, ?_⟩; focus walk_at "sz") | (refine ⟨strLe_tx ?_, ?_⟩; focus walk_at "sz") | refine ⟨cmul_r rfl, ?_⟩ | refine ⟨cmul_l rfl, ?_⟩ | refine ⟨pos_ok rfl, ?_⟩ | refine ⟨cdiv_ok rfl, ?_⟩ | refine ⟨_, _, _, _, rfl, rfl, rfl, rfl, ?_⟩ | refine ⟨_, _, rfl, ?_⟩ | refine ⟨_, _, _, rfl, rfl, rfl, ?_⟩ | refine ⟨_, _, _, rfl, rfl, ?_⟩ | refine ⟨_, _, _, _, _, rfl, rfl, rfl, rfl, rfl, ?_⟩ | rw [tx_app]))


open K32
def fenL (a : Int) (n : Nat) : List Nd := (List.range n).map fun i => .fence (a + (i : Nat))
def dueN (E m : Int) : Nat → List Nd
  | 0 => fenL 8 (m - 8).toNat
  | j + 1 => [.nest [.mk (E - 1 - (j : Nat)) (dueN E m j)] (some (m + (j : Nat)))]
def rowsW (m : Nat) : List Wk := List.replicate m .block ++ List.replicate m .end_
def mn8 (m : Int) : Int := if m < 8 then m else 8
theorem deep_ok : ∀ m : Nat, 1 ≤ m → m ≤ 12 → nodesM (rowsW m) = dueN (mn8 m) m (mn8 m).toNat ++ fenL (m + 8) ((m : Int) - 8).toNat := by
  intro m h1 h2
  have : m = 1 ∨ m = 2 ∨ m = 3 ∨ m = 4 ∨ m = 5 ∨ m = 6 ∨ m = 7 ∨ m = 8 ∨ m = 9 ∨ m = 10 ∨ m = 11 ∨ m = 12 := by omega
  rcases this with rfl | rfl | rfl | rfl | rfl | rfl | rfl | rfl | rfl | rfl | rfl | rfl <;> rfl
def S_law_deep_right : FS := fun args o ret exc => ∃ m : Nat, args = [.d (.int m)] ∧ o = [] ∧ 1 ≤ m ∧ m ≤ 12 ∧ ret (.d (.bool true)) []
def w_law_deep_right : SW :=
 (wSeq (wAsg (wCat (wRep (wLst (wCons (wTup (wCons (wC (.str "block")) wNil)) wNil)) (wVar 0)) (wRep (wLst (wCons (wTup (wCons (wC (.str "end")) wNil)) wNil)) (wVar 0))) 1)
 (wSeq (wAsg (wTupOf (wLc (wRg2 (wC (.int 8)) (wVar 0)) (gN 3) wYes (wTup (wCons (wC (.str "fence")) (wCons (wVar 3) wNil))) [3])) 2)
 (wSeq (wFor (wRg1 (wMin2 (wC (.int 8)) (wVar 0))) (gN 3)
  (wAsg (wTup (wCons (wTup (wCons (wC (.str "nest")) (wCons (wTup (wCons (wTup (wCons (wSub (wSub (wMin2 (wC (.int 8)) (wVar 0)) (wC (.int 1))) (wVar 3)) (wCons (wVar 2) wNil))) wNil)) (wCons (wAdd (wVar 0) (wVar 3)) wNil)))) wNil)) 2))
 (wRet (wEq (wCall S_nodes_of (wCons (wVar 1) wNil)) (wCatT (wVar 2) (wTupOf (wLc (wRg2 (wC (.int 8)) (wVar 0)) (gN 3) wYes (wTup (wCons (wC (.str "fence")) (wCons (wAdd (wVar 0) (wVar 3)) wNil))) [3]))))))))
theorem q_block : RowOk (.tuple [.str "block"]) .block := ⟨⟨_, rfl⟩, by decide +kernel, by decide +kernel⟩
theorem rows_rep2 {d : PyData} {k : Wk} (h : RowOk d k) : ∀ n : Nat, RowsOk (List.replicate n [d]).flatten (List.replicate n k)
  | 0 => RowsOk.nil
  | n + 1 => by
    rw [List.replicate_succ, List.flatten_cons, List.replicate_succ]
    exact RowsOk.app (RowsOk.one h) (rows_rep2 h n)
theorem pure_law_deep_right : ∀ args o ret exc, S_law_deep_right args o ret exc → w_law_deep_right (fun x s => exc x (cutL o.length s.o)) (pst0 args o 4) (bodyE o.length ret) := by
  rintro _ _ ret exc ⟨m, rfl, rfl, h1, h2, h⟩
  unfold w_law_deep_right
  have hmt : (m : Int).toNat = m := rfl
  walk_at "go"
  refine ⟨by omega, by omega, le_sz (by simp; omega), ?_⟩
  walk_at "go"
  refine ⟨by omega, by omega, le_sz (by simp; omega), ?_⟩
  refine ⟨_, _, rfl, rfl, le_sz (by simp; omega), ?_⟩
  walk_at "go"
  refine ⟨by omega, ?_⟩
  have mn0 : 0 ≤ mn8 m := by unfold mn8; split <;> omega
  have mn1 : mn8 m ≤ 8 := by unfold mn8; split <;> omega
  have key1 : ∀ (a : Int) (i : Nat), ndsD (fenL a (i + 1)) = ndsD (fenL a i) ++ [.tuple [.str "fence", .int (a + (i : Nat))]] := by
    intro a i
    rw [ndsD_map, ndsD_map, fenL, fenL, List.range_succ, List.map_append, List.map_append]
    rfl
  have fln : ∀ (a : Int) (i : Nat), (ndsD (fenL a i)).length = i := by
    intro a i
    rw [ndsD_len, fenL, List.length_map, List.length_range]
  generalize hBL : (List.replicate (m : Int).toNat [PyData.tuple [.str "block"]]).flatten = BL
  generalize hEL : (List.replicate (m : Int).toNat [PyData.tuple [.str "end"]]).flatten = EL
  refine ⟨fun i acc s => acc = ndsD (fenL 8 i) ∧ s = ⟨[some (.d (.int m)), some (.own 4), none, none], [.dl _, .dl BL, .dl _, .dl EL, .dl (BL ++ EL)]⟩, ⟨rfl, rfl⟩, fun _ _ _ _ _ => trivial, ?_, ?_⟩
  · rintro i x acc s hx hsl ⟨rfl, rfl⟩
    obtain ⟨hi, rfl⟩ := PW.ints_get hx
    have hf := fln 8 i
    walk_at "go"
    exact ⟨(key1 8 i).symm, rfl⟩
  · rintro acc s hsl ⟨rfl, rfl⟩
    have il : (intsD 8 ((m : Int) - 8).toNat).length = ((m : Int) - 8).toNat := by unfold intsD; rw [List.length_map, List.length_range]
    rw [il]
    refine ⟨_, .inl rfl, ?_⟩
    walk_at "go"
    refine ⟨show -2 ^ 62 ≤ mn8 m by omega, show mn8 m < 2 ^ 62 by omega, ?_⟩
    have il2 : (intsD 0 (mn8 m).toNat).length = (mn8 m).toNat := by unfold intsD; rw [List.length_map, List.length_range]
    refine ⟨fun j s => ∃ x3 : Option PyData, s = ⟨[some (.d (.int m)), some (.own 4), some (.d (.tuple (ndsD (dueN (mn8 m) m j)))), x3.map .d], [.dl _, .dl BL, .dl _, .dl EL, .dl (BL ++ EL), .dl _]⟩, ⟨none, rfl⟩, fun _ _ _ _ => trivial, ?_, ?_⟩
    · rintro j x s hx ⟨x3, rfl⟩
      obtain ⟨hi, rfl⟩ := PW.ints_get hx
      rw [Int.zero_add]
      walk_at "go"
      exact .inl ⟨some _, rfl⟩
    · rintro s ⟨x3, rfl⟩
      have hil : (intsD 0 (if (m : Int) < 8 then (m : Int) else 8).toNat).length = (mn8 m).toNat := il2
      rw [hil]
      have hRows : RowsOk (BL ++ EL) (rowsW m) := by
        rw [← hBL, ← hEL, hmt]
        exact (rows_rep2 q_block m).app (rows_rep2 q_end m)
      have hrl : (rowsW m).length = m + m := by unfold rowsW; simp
      have hdue : (ndsD (dueN (mn8 m) m (mn8 m).toNat)).length ≤ 12 := by
        rw [ndsD_len]
        cases (mn8 m).toNat with
        | zero => rw [dueN, fenL, List.length_map, List.length_range]; omega
        | succ j => exact Nat.le_of_ble_eq_true rfl
      have dk := deep_ok m h1 h2
      have c3 := (nodes_cov (rowsW m)).2
      have sh3 := nds_shaped (Nat.le_succ_of_le c3)
      have eb : PyData.tuple (ndsD (nodesM (rowsW m))) = .tuple (ndsD (dueN (mn8 m) m (mn8 m).toNat) ++ ndsD (fenL (m + 8) ((m : Int) - 8).toNat)) := by
        rw [dk, ndsD_map, List.map_append, ndsD_map, ndsD_map]
      generalize dueN (mn8 m) m (mn8 m).toNat = DD at *
      walk_at "go"
      refine ⟨BL ++ EL, rowsW m, rfl, rfl, hRows.1, by omega, ?_⟩
      walk_at "go"
      refine ⟨by omega, ?_⟩
      refine ⟨fun i acc s => acc = ndsD (fenL (m + 8) i) ∧ s = ⟨[some (.d (.int m)), some (.d (.list (BL ++ EL))), some (.d (.tuple (ndsD DD))), none], [.dl _, .dl BL, .dl _, .dl EL, .no, .dl _]⟩, ⟨rfl, rfl⟩, fun _ _ _ _ _ => trivial, ?_, ?_⟩
      · rintro i x acc s hx hsl ⟨rfl, rfl⟩
        obtain ⟨hi, rfl⟩ := PW.ints_get hx
        have hf := fln (m + 8) i
        walk_at "go"
        refine ⟨?_, rfl⟩
        rw [key1, Int.add_assoc]
      · rintro acc s hsl ⟨rfl, rfl⟩
        rw [il]
        have hf := fln (m + 8) ((m : Int) - 8).toNat
        refine ⟨_, .inl rfl, ?_⟩
        walk_at "go"
        rw [← eb]
        refine eq_same sh3 ?_
        exact h
end K34

namespace K34
open PySem L2 PW KN
local macro_rules
  | `(tactic| walk_at "sz") => `(tactic| first | omega | (simp only [tx_len, List.length_append, List.length_map, List.length_cons, List.length_nil, List.length_take, List.length_drop] <;> omega))
  | `(tactic| walk_at "go") => `(tactic| repeat (first | refine ⟨rfl, ?_⟩ | refine ⟨trivial, ?_⟩ | refine ⟨_, rfl, ?_⟩ | refine ⟨_, rfl, rfl, ?_⟩ | refine ⟨_, _, rfl, rfl, ?_⟩ | refine ⟨_, ix_hd, ?_⟩ | refine br_t rfl ?_ | refine br_f rfl ?_ | (refine ⟨le_sz ?_, ?_⟩; focus walk_at "sz") | (refine ⟨lt_sz ?_, ?_⟩; focus walk_at "sz") | (refine ⟨strLe_tx ?_, ?_⟩; focus walk_at "sz") | refine ⟨cmul_r rfl, ?_⟩ | refine ⟨cmul_l rfl, ?_⟩ | refine ⟨pos_ok rfl, ?_⟩ | refine ⟨cdiv_ok rfl, ?_⟩ | refine ⟨_, _, _, _, rfl, rfl, rfl, rfl, ?_⟩ | refine ⟨_, _, rfl, ?_⟩ | refine ⟨_, _, _, rfl, rfl, rfl, ?_⟩ | refine ⟨_, _, _, rfl, rfl, ?_⟩ | refine ⟨_, _, _, _, _, rfl, rfl, rfl, rfl, rfl, ?_⟩ | rw [tx_app]))


open K32
def S_law_begin : FSO := fun args o ret exc => ∃ (ns : List Int), args = [.scr ns] ∧ o = [] ∧ ns.length ≤ 63 ∧ ∀ D : Dw, D.Ok → ret (.own 1) D.o
def lawS : FS := fun args o ret exc => ∃ (ns : List Int), args = [.scr ns] ∧ o = [] ∧ ns.length ≤ 63 ∧ ret (.d (.bool true)) []
def w_law_begin : SW :=
 (wSeq (wAsg (wLc (wL (wVar 0)) (gN 2) (wB (wGe (wAbs (wVar 2)) (wPow (wC (.int 10)) (wC (.int 18))))) (wAbs (wVar 2)) [2]) 1)
 (wRet (wDictM (wmCons (wC (.str "large")) (wVar 1) (wmCons (wC (.str "cells")) (wListOf (wVar 0)) (wmCons (wC (.str "rest")) (wC (.int 0)) (wmCons (wC (.str "turn")) (wC (.int 0)) (wmCons (wC (.str "mix")) (wC (.int 7)) wmNil))))))))
theorem pure_law_begin : ∀ args o ret exc, S_law_begin args o ret exc → w_law_begin (fun x s => exc x s.o) (pst0 args o 3) (bodyO ret) := by
  rintro _ _ ret exc ⟨ns, rfl, rfl, hn, h⟩
  unfold w_law_begin
  walk_at "go"
  refine ⟨fun i acc s => (∃ L : List Int, acc = L.map .int ∧ L.length ≤ i) ∧ s = ⟨[some (.scr ns), none, none], []⟩, ⟨⟨[], rfl, Nat.zero_le _⟩, rfl⟩, fun _ _ _ _ _ => trivial, ?_, ?_⟩
  · rintro i x acc s hx hsl ⟨⟨L, rfl, hL⟩, rfl⟩
    have hi : i < ns.length := by
      have := (List.getElem?_eq_some_iff.mp hx).1
      rwa [List.length_map] at this
    have hx := List.mem_of_getElem? hx
    obtain ⟨c, _, rfl⟩ := List.mem_map.mp hx
    walk_at "go"
    refine ⟨⟨by decide, by decide, by decide⟩, ?_⟩
    walk_at "go"
    refine br_b (fun _ => ?_) (fun _ => ?_)
    · walk_at "go"
      exact ⟨⟨L ++ [if c < 0 then -c else c], by rw [List.map_append]; rfl, by rw [List.length_append, List.length_singleton]; omega⟩, rfl⟩
    · walk_at "go"
      exact ⟨⟨L, rfl, by omega⟩, rfl⟩
  · rintro acc s hsl ⟨⟨L, rfl, hL⟩, rfl⟩
    rw [List.length_map] at hL
    walk_at "go"
    refine ⟨_, .inl rfl, ?_⟩
    walk_at "go"
    refine ⟨Nat.le_of_ble_eq_true rfl, ?_⟩
    exact h ⟨L, ns, 0, 0, 7⟩ ⟨Nat.le_trans hL hn, hn, show (0 : Int) ≤ 7 by decide, show (7 : Int) ≤ 2147483629 by decide⟩
theorem iD_shaped (l : List Int) : SeqAt.shaped (.list (iD l)) = true := shaped_list fun x m => by
  obtain ⟨i, _, rfl⟩ := List.mem_map.mp m
  exact ⟨rfl, Nat.le_of_ble_eq_true rfl⟩
theorem iD_ivl (n : Nat) : iD (ivl 0 n) = intsD 0 n := by
  unfold iD ivl intsD
  rw [List.map_map, show ((n : Int) - 0).toNat = n by omega]
  rfl
theorem strayed_ok {rows : List PyData} {D : Dw} {ret : RV → List OC → Prop} {exc : XV → List OC → Prop} {ks : List Wk} {ns : List Nd} (hD : D.Ok) (hR : RowsOk rows ks) (hT : Tp ks ns) (hl : rows.length ≤ 3279)
    (h : ∀ (D' : Dw) (rows : List PyData) (ks : List Wk) (ns : List Nd), D'.Ok → RowsOk rows ks → Tp ks ns → rows.length ≤ 3400 → ret (.new rows) D'.o) : S_law_strayed [.own 1, .d (.list rows)] D.o ret exc := ⟨D, rows, ks, ns, rfl, rfl, hD, hR, hT, hl, h⟩
def w_t3 : SW := (wIfS (wOr (wNot (wB (wCallM 3 S_law_in_nest_right (wCons (wVar 1) wNil)))) (wNot (wB (wCall S_law_deep_right (wCons (wAdd (wC (.int 1)) (wCallM 3 S_law_take (wCons (wVar 1) (wCons (wC (.int 12)) wNil)))) wNil)))))
  (wRet (wC (.bool false)))
  wNext)
def w_t2 : SW := (wSeq (wAsg (wCall S_nodes_of (wCons (wCat (wVar 3) (wVar 4)) wNil)) 5)
 (wSeq (wIfS (wB (wNe (wVar 5) (wCatT (wCall S_nodes_of (wCons (wVar 3) wNil)) (wCall (S_law_moved 12) (wCons (wCall S_nodes_of (wCons (wVar 4) wNil)) (wCons (wLen (wVar 3)) wNil))))))
  (wRet (wC (.bool false)))
  wNext)
 (wSeq (wIfS (wB (wNe (wCall (S_units_in 12) (wCons (wVar 5) wNil)) (wLRg1 (wAdd (wLen (wVar 3)) (wLen (wVar 4))))))
  (wRet (wC (.bool false)))
  wNext)
 (wSeq (wIfS (wB (wNe (wCall S_is_whole (wCons (wCat (wVar 3) (wVar 4)) wNil)) (wAndV (wCall S_is_whole (wCons (wVar 3) wNil)) (wCall S_is_whole (wCons (wVar 4) wNil)))))
  (wRet (wC (.bool false)))
  wNext)
 w_t3))))

theorem t3_ok {ns : List Int} {D : Dw} {o : List OC} {x y z : PyData} {x2 : Option PV} {kx : KX} {k : PEnds} (hD : D.Ok)
    (h : ∀ (D : Dw) (o : List OC), D.Ok → k.nx ⟨[some (.scr ns), some (.own 1), x2, some (.d x), some (.d y), some (.d z)], D.o ++ o⟩) :
    w_t3 kx ⟨[some (.scr ns), some (.own 1), x2, some (.d x), some (.d y), some (.d z)], D.o ++ o⟩ k := by
  unfold w_t3
  have tc := takeC
  generalize wCallM 3 S_law_take = WT at tc ⊢
  refine ⟨_, rfl, ?_⟩
  refine ⟨rfl, ?_⟩
  refine ⟨rfl, Nat.le_add_left _ _, D, rfl, rfl, hD, ?_⟩
  clear hD
  intro D hD
  walk_at "go"
  refine tc 12 D o (fun q hq => ⟨_, rfl, hq⟩) hD (by decide) (by decide) ?_
  clear hD
  intro D v hD v0 v1
  obtain ⟨vn, rfl⟩ := Int.eq_ofNat_of_zero_le v0
  walk_at "go"
  refine ⟨show 1 ≤ 1 + vn by omega, show 1 + vn ≤ 12 by omega, ?_⟩
  walk_at "go"
  exact h D o hD
theorem t2_ok {ns : List Int} {D : Dw} {a1 a2 : List PyData} {k1 k2 : List Wk} {n1 n2 : List Nd} {x2 : PyData} {x5 : Option PV} {kx : KX} {k : PEnds} (hD : D.Ok) (hR1 : RowsOk a1 k1) (hR2 : RowsOk a2 k2) (hT1 : Tp k1 n1) (hT2 : Tp k2 n2) (hl1 : a1.length ≤ 3400) (hl2 : a2.length ≤ 3400)
    (h : ∀ (D : Dw) (o : List OC) (x y z : PyData), D.Ok → k.nx ⟨[some (.scr ns), some (.own 1), some (.d x2), some (.d x), some (.d y), some (.d z)], D.o ++ o⟩) :
    w_t2 kx ⟨[some (.scr ns), some (.own 1), some (.d x2), some (.own 4), some (.own 6), x5], D.o ++ [.no, .dl a1, .no, .dl a2]⟩ k := by
  unfold w_t2
  have tc := takeC
  generalize wCallM 3 S_law_take = WT at tc ⊢
  have e1 := hR1.1.1
  have e2 := hR2.1.1
  have hRR := hR1.app hR2
  have hd1 := hd_nodes k1 (by omega)
  have hd2 := hd_nodes k2 (by omega)
  have hd3 := hd_nodes (k1 ++ k2) (by rw [List.length_append]; omega)
  have hu1 : (unL (nodesM k1)).length ≤ 20000 := by rw [nodes_units, ivl_len]; omega
  have hu2 : (unL (nodesM k2)).length ≤ 20000 := by rw [nodes_units, ivl_len]; omega
  have hu3 : (unL (nodesM (k1 ++ k2))).length ≤ 20000 := by rw [nodes_units, ivl_len, List.length_append]; omega
  have hb1 : (ndsD (nodesM k1)).length ≤ 20000 := by rw [ndsD_len]; exact Nat.le_trans (len_unL hd1) hu1
  have hb2 : (ndsD (shL (a1.length : Int) (nodesM k2))).length ≤ 20000 := by rw [shL_len]; exact Nat.le_trans (len_unL hd2) hu2
  have c3 := (nodes_cov (k1 ++ k2)).2
  have sh3 := nds_shaped (Nat.le_succ_of_le c3)
  have eb : PyData.tuple (ndsD (nodesM (k1 ++ k2))) = .tuple (ndsD (nodesM k1) ++ ndsD (shL (a1.length : Int) (nodesM k2))) := by
    rw [nodes_app hT1 hT2, e1, ndsD_map, List.map_append, ndsD_map, ndsD_map]
  have eu : iD (unL (nodesM (k1 ++ k2))) = intsD 0 ((a1.length : Int) + (a2.length : Int)).toNat := by
    rw [nodes_units, iD_ivl, List.length_append, e1, e2]
    rfl
  have shu := iD_shaped (unL (nodesM (k1 ++ k2)))
  have ew := whole_app hT1 hT2
  walk_at "go"
  refine ⟨a1 ++ a2, k1 ++ k2, rfl, rfl, hRR.1, by rw [List.length_append]; omega, ?_⟩
  walk_at "go"
  refine ⟨a1, k1, rfl, rfl, hR1.1, by omega, ?_⟩
  walk_at "go"
  refine ⟨a2, k2, rfl, rfl, hR2.1, by omega, ?_⟩
  walk_at "go"
  refine ⟨nodesM k2, k2, 9, _, rfl, rfl, hd2, by decide, hu2, ?_⟩
  walk_at "go"
  rw [← eb]
  refine ne_same sh3 ?_
  walk_at "go"
  refine ⟨by omega, hu3, ?_⟩
  walk_at "go"
  refine ⟨⟨by omega, by omega, by omega⟩, ?_⟩
  walk_at "go"
  rw [← eu]
  refine ne_same shu ?_
  walk_at "go"
  refine ⟨a1 ++ a2, k1 ++ k2, rfl, rfl, hRR.1, by rw [List.length_append]; omega, hd3, ?_⟩
  rw [ew]
  have hw3 : ∀ {k : PEnds} {D : Dw} {o : List OC} {x y z : PyData}, D.Ok → (∀ (D : Dw) (o : List OC) (x y z : PyData), D.Ok → k.nx ⟨[some (.scr ns), some (.own 1), some (.d x2), some (.d x), some (.d y), some (.d z)], D.o ++ o⟩) → w_t3 kx ⟨[some (.scr ns), some (.own 1), some (.d x2), some (.d x), some (.d y), some (.d z)], D.o ++ o⟩ k := fun hD h => t3_ok hD fun D o hD => h D o _ _ _ hD
  generalize w_t3 = W3 at hw3 ⊢
  walk_at "go"
  refine ⟨a1, k1, rfl, rfl, hR1.1, by omega, hd1, ?_⟩
  cases whL (trK k1) (nodesM k1) with
  | false =>
    walk_at "go"
    exact hw3 (D := D) hD h
  | true =>
    walk_at "go"
    refine ⟨a2, k2, rfl, rfl, hR2.1, by omega, hd2, ?_⟩
    cases whL (trK k2) (nodesM k2) with
    | false =>
      walk_at "go"
      exact hw3 (D := D) hD h
    | true =>
      walk_at "go"
      exact hw3 (D := D) hD h
def w_law : SW :=
 (wSeq (wAsg (wCallO S_law_begin (wCons (wVar 0) wNil)) 1)
 (wSeq (wFor (wRg1 (wMax2 (wC (.int 3)) (wMin2 (wC (.int 12)) (wLen (wVar 0))))) (gN 2)
  (wSeq (wPar 3 4 (wCons (wCallM 3 S_law_strayed (wCons (wVar 1) (wCons (wCallM 3 (S_law_piece 8) (wCons (wVar 1) (wCons (wC (.int 3)) wNil))) wNil))) (wCons (wCallM 3 S_law_strayed (wCons (wVar 1) (wCons (wCallM 3 (S_law_piece 8) (wCons (wVar 1) (wCons (wC (.int 3)) wNil))) wNil))) wNil)))
 (wSeq (wAsg (wCall S_nodes_of (wCons (wCat (wVar 3) (wVar 4)) wNil)) 5)
 (wSeq (wIfS (wB (wNe (wVar 5) (wCatT (wCall S_nodes_of (wCons (wVar 3) wNil)) (wCall (S_law_moved 12) (wCons (wCall S_nodes_of (wCons (wVar 4) wNil)) (wCons (wLen (wVar 3)) wNil))))))
  (wRet (wC (.bool false)))
  wNext)
 (wSeq (wIfS (wB (wNe (wCall (S_units_in 12) (wCons (wVar 5) wNil)) (wLRg1 (wAdd (wLen (wVar 3)) (wLen (wVar 4))))))
  (wRet (wC (.bool false)))
  wNext)
 (wSeq (wIfS (wB (wNe (wCall S_is_whole (wCons (wCat (wVar 3) (wVar 4)) wNil)) (wAndV (wCall S_is_whole (wCons (wVar 3) wNil)) (wCall S_is_whole (wCons (wVar 4) wNil)))))
  (wRet (wC (.bool false)))
  wNext)
 (wIfS (wOr (wNot (wB (wCallM 3 S_law_in_nest_right (wCons (wVar 1) wNil)))) (wNot (wB (wCall S_law_deep_right (wCons (wAdd (wC (.int 1)) (wCallM 3 S_law_take (wCons (wVar 1) (wCons (wC (.int 12)) wNil)))) wNil)))))
  (wRet (wC (.bool false)))
  wNext)))))))
 (wRet (wC (.bool true)))))
theorem pure_law : ∀ args o ret exc, lawS args o ret exc → w_law (fun x s => exc x (cutL o.length s.o)) (pst0 args o 6) (bodyE o.length ret) := by
  rintro _ _ ret exc ⟨ns, rfl, rfl, hn, h⟩
  unfold w_law
  have pc := pieceC 8
  generalize wCallM 3 (S_law_piece 8) = WP at pc ⊢
  refine ⟨_, rfl, ns, rfl, rfl, hn, ?_⟩
  intro D hD
  walk_at "go"
  rw [List.length_map]
  refine ⟨by (repeat' split) <;> omega, by (repeat' split) <;> omega, ?_⟩
  refine ⟨fun _ s => ∃ (D : Dw) (x2 x3 x4 x5 : Option PV), D.Ok ∧ s = ⟨[some (.scr ns), some (.own 1), x2, x3, x4, x5], D.o⟩, ⟨D, none, none, none, none, hD, rfl⟩, fun _ _ _ _ => trivial, ?_, ?_⟩
  · clear hD
    rintro j x s hx ⟨D, x2, x3, x4, x5, hD, rfl⟩
    clear hx
    walk_at "go"
    refine pc 3 3 D [] (fun q hq => ⟨_, rfl, hq⟩) hD (by decide) (by decide) rfl ?_
    clear hD
    intro D pa pk pn hD hR hl hC
    walk_at "go"
    refine ⟨Nat.le_of_ble_eq_true rfl, strayed_ok hD hR (hC.tp (by decide)) (Nat.le_trans hl (PB_le (by decide))) ?_⟩
    clear hD hR hl hC
    intro D1 a1 k1 n1 hD1 hR1 hT1 hl1
    walk_at "go"
    refine pc 3 5 D1 [.no, .dl a1] (fun q hq => ⟨_, rfl, hq⟩) hD1 (by decide) (by decide) rfl ?_
    clear hD1
    intro D pa pk pn hD hR hl hC
    walk_at "go"
    refine ⟨Nat.le_of_ble_eq_true rfl, strayed_ok hD hR (hC.tp (by decide)) (Nat.le_trans hl (PB_le (by decide))) ?_⟩
    clear hD hR hl hC
    intro D2 a2 k2 n2 hD2 hR2 hT2 hl2
    refine ⟨_, _, rfl, ?_⟩
    refine t2_ok (ns := ns) (D := D2) (a1 := a1) (a2 := a2) (x2 := x) hD2 hR1 hR2 hT1 hT2 hl1 hl2 ?_
    intro D o x y z hD
    exact .inr ⟨D, _, _, _, _, hD, rfl⟩
  · rintro s ⟨D, x2, x3, x4, x5, hD, rfl⟩
    exact h
end K34

namespace PW
open PySem L2
/-! ### a def handed as a value, and called by a local name -/
section
variable {X : Cx} {W : WX} {k i : Nat} {ps : List Str} {x : Str} {p pos : Pos} {e : Expr} {es : List Expr} {ws : AW} {f : Addr} {fd : FuncData} {t : TA} {sp : Sp} {E : St → XK}
theorem pe_callLS (F : FnOk X.prog X.w X.K X.mg X.base (L2.CX X.prog X.w) k f fd ps sp) (hr : Room k X.A) (hN : X.N[i]? = some x) (hv : Vis X.env.scope x) (hk : PySem.W.keepIn X.K (.ref f) = true) (hb : Binds X.K fd ps [])
    (hx : ∀ σ, PassesAt (L2.CX X.prog X.w) X σ (E σ)) (ha : PA X (e :: es) t) (hdb : (x == ("__debug__" : Str)) = false) (hcd : (x == ("__classdict__" : Str)) = false)
    (he : starEach (e :: es) X.env = (false, eval e X.env) :: starEach es X.env) (hpl : (backTo pos (starEach es X.env)).any (·.1) = false) :
    PE X (.Call (.Name x p) (e :: es) [] pos) (fun σ H Q => σ[i]? = some (some (.ref f)) ∧ t σ H fun vs H1 => sp vs H1 Q (E σ)) := by
  refine ⟨fun pins s σ H Q I h => ?_⟩
  obtain ⟨hs, ht⟩ := h
  refine wpAny_Call_Name_kw (thn ((pe_var hN hv hdb hcd).run pins s σ H (fun v H1 => v = V.ref f ∧ H1 = H) I ⟨V.ref f, hs, rfl, rfl⟩) fun u s1 y => ?_)
  obtain ⟨v, H1, I1, r1, rfl, rfl⟩ := y
  cases r1
  exact PySem.W.callWith_K I.ok.mod.kin hk (thn (ha.run pos pins s1 σ H1 (fun vs H1 => sp vs H1 Q (E σ)) I1 ht) fun us s2 y => by
    obtain ⟨vs, H2, I2, r, q⟩ := y
    exact ⟨Inv.kIn I2, run_fnS F hr hb (hx σ) I2 r q⟩) he hpl
/-- a def of the top as a value -/
def wGl (u : V) : EW := fun _ s k => k (.gl u) s
theorem e_gl (hg : Gl X x) (hm : X.mg x = some (.ref f)) (hd : (x == ("__debug__" : Str)) = false := by decide) : PE X (.Name x pos) (tE X.K W (wGl (.ref f))) := by
  have h : PE X (.Name x pos) (tC (.ref f)) := pe_glob hg hm rfl hd
  refine PE.imp h fun σ H Q ⟨H0, F0, A0, s, T, kx, k, w, xl, hk, q⟩ => ?_
  obtain ⟨F, A, w⟩ := w
  exact q _ _ hk _ H ⟨F, A, w.push rfl⟩
/-- a call of what a local name holds -/
def wCallG (i : Nat) (S : Addr → FS → Prop) (ws : AW) : EW := fun kx s k => ∃ f sp, s.r[i]? = some (some (.gl (.ref f))) ∧ S f sp ∧ ws kx s fun vs s1 => prep vs s1 fun xs s2 => sp xs [] (fun r _ => match r with | .d z => k (.d z) s2 | .new zs => k (.own s2.o.length) ⟨s2.r, s2.o ++ [.dl zs]⟩) (fun x _ => kx x s2)
def CalA (P : Program) (w : World) (K : PySem.W.Frag) (mg : Str → Option Value) (base : Heap) (k : Nat) (f : Addr) (S : FS) : Prop := ∃ fd ps, FnOk P w K mg base (L2.CX P w) k f fd ps (spOf K S) ∧ PySem.W.keepIn K (.ref f) = true ∧ Binds K fd ps []
theorem e_callG {S : Addr → FS → Prop} (C : ∀ f sp, S f sp → ∃ j, j ≤ k ∧ CalA X.prog X.w X.K X.mg X.base j f sp) (tk : Takes X W) (hr : Room k X.A) (hN : X.N[i]? = some x) (hv : Vis X.env.scope x)
    (ha : PA X (e :: es) (tA X.K W ws)) (hdb : (x == ("__debug__" : Str)) = false := by decide) (hcd : (x == ("__classdict__" : Str)) = false := by decide) (he : starEach (e :: es) X.env = (false, eval e X.env) :: starEach es X.env := by rfl) (hpl : (backTo pos (starEach es X.env)).any (·.1) = false := by rfl) :
    PE X (.Call (.Name x p) (e :: es) [] pos) (tE X.K W (wCallG i S ws)) := by
  refine ⟨fun pins s0 σ H Q I h => ?_⟩
  obtain ⟨H0, F0, A0, s, T, kx, kk, w, xl, ⟨f, S', hf, hS', h⟩, q⟩ := h
  obtain ⟨j, hj, fd, ps, F, hk, hb⟩ := C f S' hS'
  have hσ : σ[i]? = some (some (.ref f)) := by
    obtain ⟨F1, A, w1⟩ := w
    obtain ⟨u, e2, p2⟩ := w1.pv i _ hf
    rw [e2]
    have : u = V.ref f := p2
    rw [this]
  refine (pe_callLS F (hr.mono hj) hN hv hk hb (fun σ => passAt tk σ) ha hdb hcd he hpl).run pins s0 σ H Q I ⟨hσ, ar_of w xl h fun vs s1 us H1 h1 e1 w1 => ?_⟩
  obtain ⟨xs, s2, hS, e2, pl, w2⟩ := prep_ok vs us s1 T _ e1 w1 h1
  obtain ⟨F1, A, w2⟩ := w2
  have w3 := w2.sub (T' := T) fun t h => List.mem_append_right _ h
  refine ⟨H1, F1, [], xs, [], _, _, ⟨F1, [], ?_⟩, rfl, hS, fun r o hr ho v H' ret => ?_, fun y o hx ho d H' w' => ?_⟩
  · refine ⟨⟨Same.refl _, w2.fz.g, Same.refl _, fun p _ h => h⟩, List.prefix_refl _, rfl, List.nodup_nil, (fun _ z => nomatch z), (fun n p c z => by simp at z), (by rw [List.length_map, List.length_map, e2]), (fun i v hv => ?_), (fun _ z => nomatch z)⟩
    obtain ⟨u, a, b⟩ := args_wd w2 xs us e2 pl (fun t h => List.mem_append_left _ h) i v hv
    exact ⟨u, a, b _⟩
  · cases List.eq_nil_of_length_eq_zero ho
    cases r with
    | d z =>
      obtain ⟨F', A', w'⟩ := ret
      have dz : Dq X.K F' v z := w'.tm (.d z, v) List.mem_cons_self
      exact q _ _ hr v H' ⟨F', A, (w3.after w'.fz).push dz⟩
    | new zs =>
      obtain ⟨F', A', w'⟩ := ret
      obtain ⟨qq, hq, rfl⟩ := w'.tm (.own 0, v) List.mem_cons_self
      have ad := w'.ad qq (List.mem_of_getElem? hq)
      have oc := w'.oc 0 qq (.dl zs) hq rfl
      have w4 := w3.after w'.fz
      have nin : qq ∉ A := fun hA => (w2.ad qq hA).2 ad.1
      refine q _ _ hr _ H' ⟨F', A ++ [qq], (w4.addL (c := .dl zs) nin (w3.fz.h.free ad.1) ad.2 oc).push ⟨qq, ?_, rfl⟩⟩
      rw [← w4.len, List.getElem?_append_right (Nat.le_refl _), Nat.sub_self]
      rfl
  · obtain ⟨F', A', w'⟩ := w'
    have px : PVOk X.K F' A (.xd y.fs) (dV d) := w'.tm (.xd y.fs, dV d) List.mem_cons_self
    exact xl y s2 hx σ H' d ⟨F', A, (w3.after w'.fz).push px⟩
end
theorem Cal.ca {P : Program} {w : World} {K : PySem.W.Frag} {mg : Str → Option Value} {base : Heap} {k : Nat} {x : Str} {ps : List Str} {S : FS} {f : Addr} (C : Cal P w K mg base k x ps S) (hm : mg x = some (.ref f)) : CalA P w K mg base k f S := by
  obtain ⟨g, fd, F, m, kp, b⟩ := C.ex
  rw [hm] at m
  cases m
  exact ⟨fd, ps, F, kp, b⟩
/-! ### a list that is data, or owned and lent -/
def Ld (o : List OC) (v : PV) (xs : List PyData) : Prop := match v with
  | .d x => x = .list xs
  | .own n => o[n]? = some (.dl xs)
  | _ => False
def srcOf (v : PV) (xs : List PyData) : SrcO := match v with
  | .own n => some (n, xs)
  | _ => none
def wLX (we : EW) : IW := fun kx s k => we kx s fun v s1 => ∃ xs, Ld s1.o v xs ∧ k xs (srcOf v xs) s1
section
variable {X : Cx} {W : WX} {tg e : Expr} {we : EW}
theorem i_listX (he : PE X e (tE X.K W we)) : PI X tg e (tI X.K W (wLX we)) := by
  refine PI.imp (pi_list he) fun σ H R ⟨H0, F0, A0, s, T, kx, k, w, xl, h, q⟩ => un_of w xl h fun v s1 u H1 h1 w1 => ?_
  obtain ⟨xs, hl, h1⟩ := h1
  cases v with
  | d x =>
    have hl : x = .list xs := hl
    subst hl
    obtain ⟨v', ys, s2, h2, hs, w2⟩ := lst_ok (k := fun xs s => k xs none s) w1 ⟨xs, rfl, h1⟩
    obtain ⟨F, A, w3⟩ := id w2
    obtain ⟨a, vs, rfl, h3, h4⟩ := lsrc_ok w3 hs List.mem_cons_self
    exact ⟨a, rfl, ⟨vs, h3⟩, q _ _ _ h2 _ [(v', .ref a)] H1 w2 (it_list hs)⟩
  | own n =>
    have ho : s1.o[n]? = some (.dl xs) := hl
    obtain ⟨F, A, w3⟩ := id w1
    obtain ⟨p, vs, hp, rfl, h3, h4⟩ := own_at w3 List.mem_cons_self ho
    exact ⟨p, rfl, ⟨vs, SqL.of h3⟩, q _ _ _ h1 _ [(.own n, .ref p)] H1 w1 it_own⟩
  | scr _ => exact hl.elim
  | tp _ => exact hl.elim
  | gl _ => exact hl.elim
  | exc _ => exact hl.elim
  | xd _ => exact hl.elim
  | dk _ => exact hl.elim
end
theorem Ld.src {o : List OC} {v : PV} {xs : List PyData} {r : List (Option PV)} (h : Ld o v xs) : Src (srcOf v xs) ⟨r, o⟩ := by
  cases v with
  | own n => exact h
  | _ => trivial
theorem Ld.ty {o : List OC} {v : PV} {xs : List PyData} {r : List (Option PV)} (h : Ld o v xs) : tyPV ⟨r, o⟩ v = some "list" := by
  cases v with
  | d x => have h : x = .list xs := h; subst h; rfl
  | own n =>
    have h : o[n]? = some (.dl xs) := h
    unfold tyPV
    simp only [h]
    rfl
  | _ => exact h.elim
theorem Ld.app {o q : List OC} {v : PV} {xs : List PyData} (h : Ld o v xs) : Ld (o ++ q) v xs := by
  cases v with
  | d x => exact h
  | own n =>
    have h : o[n]? = some (.dl xs) := h
    show (o ++ q)[n]? = _
    rw [List.getElem?_append_left (List.getElem?_eq_some_iff.mp h).1, h]
  | _ => exact h.elim
end PW

namespace K34
open PySem L2 PW KN K32
def topS (i : Nat) : Stmt := PySem.Challenge.pw_mender_k34_whole_nodes_by_pieces.main.body.getD i (.Pass ⟨0, 0, 0, 0⟩)
abbrev s_goes_on : Stmt := topS 3
abbrev N_goes_on : List Str := ["words", "word"]
theorem sc_goes_on : FnScope N_goes_on ["words", "word"] (defScope s_goes_on) := ⟨rfl, rfl, rfl, by decide +kernel, rfl, by decide +kernel, by decide +kernel⟩
abbrev s_closed : Stmt := topS 4
abbrev N_closed : List Str := ["frame", "last", "unit", "nodes"]
theorem sc_closed : FnScope N_closed ["frame", "last"] (defScope s_closed) := ⟨rfl, rfl, rfl, by decide +kernel, rfl, by decide +kernel, by decide +kernel⟩
abbrev s_nodes_of : Stmt := topS 5
abbrev N_nodes_of : List Str := ["rows", "stack", "unit", "row", "word", "words", "parts", "frame"]
theorem sc_nodes_of : FnScope N_nodes_of ["rows"] (defScope s_nodes_of) := ⟨rfl, rfl, rfl, by decide +kernel, rfl, by decide +kernel, by decide +kernel⟩
abbrev s_units_in : Stmt := topS 6
abbrev N_units_in : List Str := ["nodes", "found", "node", "unit", "inner"]
theorem sc_units_in : FnScope N_units_in ["nodes"] (defScope s_units_in) := ⟨rfl, rfl, rfl, by decide +kernel, rfl, by decide +kernel, by decide +kernel⟩
abbrev s_are_whole : Stmt := topS 7
abbrev N_are_whole : List Str := ["nodes", "rows", "node", "unit", "inner"]
theorem sc_are_whole : FnScope N_are_whole ["nodes", "rows"] (defScope s_are_whole) := ⟨rfl, rfl, rfl, by decide +kernel, rfl, by decide +kernel, by decide +kernel⟩
abbrev s_is_whole : Stmt := topS 8
abbrev N_is_whole : List Str := ["rows"]
theorem sc_is_whole : FnScope N_is_whole ["rows"] (defScope s_is_whole) := ⟨rfl, rfl, rfl, by decide +kernel, rfl, by decide +kernel, by decide +kernel⟩
abbrev s_law_begin : Stmt := topS 10
abbrev N_law_begin : List Str := ["_law_script", "_law_large", "_law_cell"]
theorem sc_law_begin : FnScope N_law_begin ["_law_script"] (defScope s_law_begin) := ⟨rfl, rfl, rfl, by decide +kernel, rfl, by decide +kernel, by decide +kernel⟩
abbrev s_law_take : Stmt := topS 11
abbrev N_law_take : List Str := ["_law_draw", "_law_size", "_law_cell", "_law_found"]
theorem sc_law_take : FnScope N_law_take ["_law_draw", "_law_size"] (defScope s_law_take) := ⟨rfl, rfl, rfl, by decide +kernel, rfl, by decide +kernel, by decide +kernel⟩
abbrev s_law_mixed_row : Stmt := topS 12
abbrev N_law_mixed_row : List Str := ["_law_draw", "_law_some"]
theorem sc_law_mixed_row : FnScope N_law_mixed_row ["_law_draw"] (defScope s_law_mixed_row) := ⟨rfl, rfl, rfl, by decide +kernel, rfl, by decide +kernel, by decide +kernel⟩
abbrev s_law_opener : Stmt := topS 13
abbrev N_law_opener : List Str := ["_law_draw", "_law_some"]
theorem sc_law_opener : FnScope N_law_opener ["_law_draw"] (defScope s_law_opener) := ⟨rfl, rfl, rfl, by decide +kernel, rfl, by decide +kernel, by decide +kernel⟩
abbrev s_law_pieces : Stmt := topS 14
abbrev N_law_pieces : List Str := ["_law_draw", "_law_room", "_law_way", "_law_found"]
theorem sc_law_pieces : FnScope N_law_pieces ["_law_draw", "_law_room"] (defScope s_law_pieces) := ⟨rfl, rfl, rfl, by decide +kernel, rfl, by decide +kernel, by decide +kernel⟩
abbrev s_law_piece : Stmt := topS 15
abbrev N_law_piece : List Str := ["_law_draw", "_law_room", "_law_found", "_law_k", "_law_row", "_law_inner"]
theorem sc_law_piece : FnScope N_law_piece ["_law_draw", "_law_room"] (defScope s_law_piece) := ⟨rfl, rfl, rfl, by decide +kernel, rfl, by decide +kernel, by decide +kernel⟩
abbrev s_law_strayed : Stmt := topS 16
abbrev N_law_strayed : List Str := ["_law_draw", "_law_piece_here", "_law_some", "_law_found", "_law_k"]
theorem sc_law_strayed : FnScope N_law_strayed ["_law_draw", "_law_piece_here"] (defScope s_law_strayed) := ⟨rfl, rfl, rfl, by decide +kernel, rfl, by decide +kernel, by decide +kernel⟩
abbrev s_law_moved : Stmt := topS 17
abbrev N_law_moved : List Str := ["_law_nodes", "_law_by", "_law_found", "_law_node", "_law_parts", "_law_u", "_law_inner"]
theorem sc_law_moved : FnScope N_law_moved ["_law_nodes", "_law_by"] (defScope s_law_moved) := ⟨rfl, rfl, rfl, by decide +kernel, rfl, by decide +kernel, by decide +kernel⟩
abbrev s_law_in_nest_right : Stmt := topS 18
abbrev N_law_in_nest_right : List Str := ["_law_draw", "_law_rows", "_law_parts", "_law_row", "_law_inner", "_law_more", "_law_last"]
theorem sc_law_in_nest_right : FnScope N_law_in_nest_right ["_law_draw"] (defScope s_law_in_nest_right) := ⟨rfl, rfl, rfl, by decide +kernel, rfl, by decide +kernel, by decide +kernel⟩
abbrev s_law_deep_right : Stmt := topS 19
abbrev N_law_deep_right : List Str := ["_law_many", "_law_rows", "_law_due", "_law_k"]
theorem sc_law_deep_right : FnScope N_law_deep_right ["_law_many"] (defScope s_law_deep_right) := ⟨rfl, rfl, rfl, by decide +kernel, rfl, by decide +kernel, by decide +kernel⟩
abbrev s_law : Stmt := topS 20
abbrev N_law : List Str := ["_law_script", "_law_draw", "_law_turn", "_law_first", "_law_second", "_law_told"]
theorem sc_law : FnScope N_law ["_law_script"] (defScope s_law) := ⟨rfl, rfl, rfl, by decide +kernel, rfl, by decide +kernel, by decide +kernel⟩
/-- what the top has written: constants, built-in names that are free, errors -/
structure Txt (K : PySem.W.Frag) (mg : Str → Option Value) : Prop where
  b_tuple : mg "tuple" = none
  b_len : mg "len" = none
  b_enumerate : mg "enumerate" = none
  g_OPENERS : GTup K mg "OPENERS" [(PyData.str "if"), (PyData.str "while"), (PyData.str "block"), (PyData.str "with"), (PyData.str "helper"), (PyData.str "try")]
  g_MOST_DEEP : ∃ t, mg "MOST_DEEP" = some (.int 8 t)
  b_all : mg "all" = none
  b_list : mg "list" = none
  b_abs : mg "abs" = none
  b_divmod : mg "divmod" = none
  b_int : mg "int" = none
  b_range : mg "range" = none
  b_min : mg "min" = none
  b_max : mg "max" = none
end K34
namespace K34
open PySem L2 PW KN K32
theorem len_goes_on : ∀ args o r e, S_goes_on args o r e → args.length = 2 := by
  intro args o r e h
  unfold S_goes_on at h
  repeat (first | (obtain ⟨rfl, _⟩ := h; rfl) | obtain ⟨_, h⟩ := h)
theorem len_closed : ∀ args o r e, S_closed args o r e → args.length = 2 := by
  intro args o r e h
  unfold S_closed at h
  repeat (first | (obtain ⟨rfl, _⟩ := h; rfl) | obtain ⟨_, h⟩ := h)
theorem len_nodes_of : ∀ args o r e, S_nodes_of args o r e → args.length = 1 := by
  intro args o r e h
  unfold S_nodes_of at h
  repeat (first | (obtain ⟨rfl, _⟩ := h; rfl) | obtain ⟨_, h⟩ := h)
theorem len_units_in {n : Nat} : ∀ args o r e, S_units_in n args o r e → args.length = 1 := by
  intro args o r e h
  unfold S_units_in at h
  repeat (first | (obtain ⟨rfl, _⟩ := h; rfl) | obtain ⟨_, h⟩ := h)
theorem len_are_whole {n : Nat} : ∀ args o r e, S_are_whole n args o r e → args.length = 2 := by
  intro args o r e h
  unfold S_are_whole at h
  repeat (first | (obtain ⟨rfl, _⟩ := h; rfl) | obtain ⟨_, h⟩ := h)
theorem len_is_whole : ∀ args o r e, S_is_whole args o r e → args.length = 1 := by
  intro args o r e h
  unfold S_is_whole at h
  repeat (first | (obtain ⟨rfl, _⟩ := h; rfl) | obtain ⟨_, h⟩ := h)
theorem len_law_begin : ∀ args o r e, S_law_begin args o r e → args.length = 1 := by
  intro args o r e h
  unfold S_law_begin at h
  repeat (first | (obtain ⟨rfl, _⟩ := h; rfl) | obtain ⟨_, h⟩ := h)
theorem len_law_take : ∀ args o r e, S_law_take args o r e → args.length = 2 := by
  intro args o r e h
  unfold S_law_take at h
  repeat (first | (obtain ⟨rfl, _⟩ := h; rfl) | obtain ⟨_, h⟩ := h)
theorem len_law_mixed_row : ∀ args o r e, S_law_mixed_row args o r e → args.length = 1 := by
  intro args o r e h
  unfold S_law_mixed_row at h
  repeat (first | (obtain ⟨rfl, _⟩ := h; rfl) | obtain ⟨_, h⟩ := h)
theorem len_law_opener : ∀ args o r e, S_law_opener args o r e → args.length = 1 := by
  intro args o r e h
  unfold S_law_opener at h
  repeat (first | (obtain ⟨rfl, _⟩ := h; rfl) | obtain ⟨_, h⟩ := h)
theorem len_law_pieces {n : Nat} : ∀ args o r e, S_law_pieces n args o r e → args.length = 2 := by
  intro args o r e h
  unfold S_law_pieces at h
  repeat (first | (obtain ⟨rfl, _⟩ := h; rfl) | obtain ⟨_, h⟩ := h)
theorem len_law_piece {n : Nat} : ∀ args o r e, S_law_piece n args o r e → args.length = 2 := by
  intro args o r e h
  unfold S_law_piece at h
  repeat (first | (obtain ⟨rfl, _⟩ := h; rfl) | obtain ⟨_, h⟩ := h)
theorem len_law_strayed : ∀ args o r e, S_law_strayed args o r e → args.length = 2 := by
  intro args o r e h
  unfold S_law_strayed at h
  repeat (first | (obtain ⟨rfl, _⟩ := h; rfl) | obtain ⟨_, h⟩ := h)
theorem len_law_moved {n : Nat} : ∀ args o r e, S_law_moved n args o r e → args.length = 2 := by
  intro args o r e h
  unfold S_law_moved at h
  repeat (first | (obtain ⟨rfl, _⟩ := h; rfl) | obtain ⟨_, h⟩ := h)
theorem len_law_in_nest_right : ∀ args o r e, S_law_in_nest_right args o r e → args.length = 1 := by
  intro args o r e h
  unfold S_law_in_nest_right at h
  repeat (first | (obtain ⟨rfl, _⟩ := h; rfl) | obtain ⟨_, h⟩ := h)
theorem len_law_deep_right : ∀ args o r e, S_law_deep_right args o r e → args.length = 1 := by
  intro args o r e h
  unfold S_law_deep_right at h
  repeat (first | (obtain ⟨rfl, _⟩ := h; rfl) | obtain ⟨_, h⟩ := h)
theorem len_law : ∀ args o r e, lawS args o r e → args.length = 1 := by
  intro args o r e h
  unfold lawS at h
  repeat (first | (obtain ⟨rfl, _⟩ := h; rfl) | obtain ⟨_, h⟩ := h)
theorem ok_goes_on {P : Program} {w : World} {K : PySem.W.Frag} {mg : Str → Option Value} {base : Heap} (T : Txt K mg) (D : Dfd K mg "goes_on" ["words", "word"] s_goes_on) : Cal P w K mg base 1 "goes_on" ["words", "word"] S_goes_on :=
  D.cal (k := 0) (wb := w_goes_on) sc_goes_on len_goes_on (fun f cdv A outer s H E hr => by
    have tk := takes_of (X := cxOf (L2.CX P w) P w K mg base N_goes_on "goes_on" (defScope s_goes_on) f cdv A outer s H E) rfl rfl rfl rfl
    exact (s_cons (s_if (t_eq (hu64 hr) (e_var 1) e_str)
  (s_one (s_ret (e_eq (hu64 hr) (e_var 0) (e_lst (a_cons e_str a_nil)))))
  s_nil)
 (s_cons (s_if (t_eq (hu64 hr) (e_var 1) e_str)
  (s_one (s_ret (e_eq (hu64 hr) (e_var 0) (e_lst (a_cons e_str a_nil)))))
  s_nil)
 (s_one (s_ret (e_andC (e_eq (hu64 hr) (e_var 1) e_str) (e_one (e_inT (hu65 hr) rfl (e_var 0) (e_tup (a_cons (e_lst (a_cons e_str a_nil)) (a_cons (e_lst (a_cons e_str (a_cons e_str a_nil))) a_nil)))))))))))
    (pure_goes_on)
theorem ok_closed {P : Program} {w : World} {K : PySem.W.Frag} {mg : Str → Option Value} {base : Heap} (T : Txt K mg) (D : Dfd K mg "closed" ["frame", "last"] s_closed) : Cal P w K mg base 1 "closed" ["frame", "last"] S_closed :=
  D.cal (k := 0) (wb := w_closed) sc_closed len_closed (fun f cdv A outer s H E hr => by
    have tk := takes_of (X := cxOf (L2.CX P w) P w K mg base N_closed "closed" (defScope s_closed) f cdv A outer s H E) rfl rfl rfl rfl
    exact (s_one (s_ret (e_tup (a_cons e_str (a_cons (e_tupOf T.b_tuple (e_lcM (own := [("unit", 2), ("nodes", 3)]) rfl sc_closed.nd (e_ixM (e_var 0) e_int) (blkOk_by (N := N_closed) (sc := defScope s_closed) (by decide +kernel)) (by decide) (fun _ _ _ _ _ => (g_tupM rfl (gs_consM (g_nameM (i := 2) sc_closed.nd rfl (by first | exact Or.inl rfl | exact Or.inr rfl)) (gs_consM (g_nameM (i := 3) sc_closed.nd rfl (by first | exact Or.inl rfl | exact Or.inr rfl)) gs_nilM)))) (fun _ _ _ _ _ => ts_nil) (fun _ _ _ _ _ => (e_tup (a_cons (e_var 2) (a_cons (e_tupOf T.b_tuple (e_var 3)) a_nil)))))) (a_cons (e_var 1) a_nil)))))))
    (pure_closed)
theorem ok_nodes_of {P : Program} {w : World} {K : PySem.W.Frag} {mg : Str → Option Value} {base : Heap} (T : Txt K mg) (D : Dfd K mg "nodes_of" ["rows"] s_nodes_of) (c_closed : Cal P w K mg base 1 "closed" ["frame", "last"] S_closed) (c_goes_on : Cal P w K mg base 1 "goes_on" ["words", "word"] S_goes_on) : Cal P w K mg base 2 "nodes_of" ["rows"] S_nodes_of :=
  D.cal (k := 1) (wb := w_nodes_of) sc_nodes_of len_nodes_of (fun f cdv A outer s H E hr => by
    have tk := takes_of (X := cxOf (L2.CX P w) P w K mg base N_nodes_of "nodes_of" (defScope s_nodes_of) f cdv A outer s H E) rfl rfl rfl rfl
    exact (s_cons (s_set (i := 1) sc_nodes_of.nd rfl (by first | exact Or.inl rfl | exact Or.inr rfl) (e_lstM (a_cons (e_tupM (a_cons (e_lst a_nil) (a_cons (e_lstM (a_cons (e_tupM (a_cons (e_neg e_int) (a_cons (e_lst a_nil) a_nil))) a_nil)) a_nil))) a_nil)))
 (s_cons (s_for (passes_of rfl) rfl (i_enum T.b_enumerate (e_var 0)) (g_tup rfl (gs_cons (g_name (i := 2) sc_nodes_of.nd rfl (by first | exact Or.inl rfl | exact Or.inr rfl)) (gs_cons (g_name (i := 3) sc_nodes_of.nd rfl (by first | exact Or.inl rfl | exact Or.inr rfl)) gs_nil)))
  (s_cons (s_set (i := 4) sc_nodes_of.nd rfl (by first | exact Or.inl rfl | exact Or.inr rfl) (e_if (t_isN (e_var 3)) e_str (e_ix (e_var 3) e_int)))
 (s_cons (s_unpM (e_ixM (e_var 1) (e_neg e_int)) (g_tupM rfl (gs_consM (g_nameM (i := 5) sc_nodes_of.nd rfl (by first | exact Or.inl rfl | exact Or.inr rfl)) (gs_consM (g_nameM (i := 6) sc_nodes_of.nd rfl (by first | exact Or.inl rfl | exact Or.inr rfl)) gs_nilM))))
 (s_one (s_if (t_pw (t_andC (t_in (hu65 hr) rfl (e_var 4) (e_gtup rfl T.g_OPENERS)) (t_and1 (t_le (e_lenM T.b_len (e_var 1)) (e_gi rfl T.g_MOST_DEEP)))))
  (s_one (s_expr (e_appM (e_var 1) (e_tupM (a_cons (e_lst (a_cons (e_var 4) a_nil)) (a_cons (e_lstM (a_cons (e_tupM (a_cons (e_var 2) (a_cons (e_lst a_nil) a_nil))) a_nil)) a_nil))))))
  (s_one (s_if (t_val (c_callL c_goes_on tk hr (a_cons (e_var 5) (a_cons (e_var 4) a_nil))))
  (s_cons (s_expr (e_app (e_var 5) (e_var 4)))
 (s_one (s_expr (e_appM (e_var 6) (e_tupM (a_cons (e_var 2) (a_cons (e_lst a_nil) a_nil)))))))
  (s_one (s_if (t_pw (t_andC (t_eq (hu64 hr) (e_var 4) e_str) (t_and1 (t_gt (e_lenM T.b_len (e_var 1)) e_int))))
  (s_cons (s_expr (e_popM (e_var 1)))
 (s_one (s_expr (e_app (e_ixM (e_ixM (e_ixM (e_ixM (e_var 1) (e_neg e_int)) e_int) (e_neg e_int)) e_int) (c_callH c_closed tk hr (a_cons (e_tupM (a_cons (e_var 5) (a_cons (e_var 6) a_nil))) (a_cons (e_var 2) a_nil)))))))
  (s_one (s_if (t_pw (t_orC (t_isN (e_var 3)) (t_orC (t_in (hu65 hr) rfl (e_var 4) (e_gtup rfl T.g_OPENERS)) (t_or1 (t_in (hu65 hr) rfl (e_var 4) (e_tup (a_cons e_str (a_cons e_str (a_cons e_str (a_cons e_str a_nil))))))))))
  (s_one (s_expr (e_app (e_ixM (e_ixM (e_var 6) (e_neg e_int)) e_int) (e_tup (a_cons e_str (a_cons (e_var 2) a_nil))))))
  (s_one (s_expr (e_app (e_ixM (e_ixM (e_var 6) (e_neg e_int)) e_int) (e_tup (a_cons e_str (a_cons (e_var 2) a_nil)))))))))))))))))
 (s_cons (s_while (passes_of rfl) (t_gt (e_lenM T.b_len (e_var 1)) e_int)
  (s_cons (s_set (i := 7) sc_nodes_of.nd rfl (by first | exact Or.inl rfl | exact Or.inr rfl) (e_popM (e_var 1)))
 (s_one (s_expr (e_app (e_ixM (e_ixM (e_ixM (e_ixM (e_var 1) (e_neg e_int)) e_int) (e_neg e_int)) e_int) (c_callH c_closed tk hr (a_cons (e_var 7) (a_cons e_non a_nil))))))))
 (s_one (s_ret (e_tupOf T.b_tuple (e_ixM (e_ixM (e_ixM (e_ixM (e_var 1) e_int) e_int) e_int) e_int))))))))
    (pure_nodes_of)
theorem ok_units_in {P : Program} {w : World} {K : PySem.W.Frag} {mg : Str → Option Value} {base : Heap} {k : Nat} {S R_units_in : FS} (hk : 1 ≤ k) (T : Txt K mg) (D : Dfd K mg "units_in" ["nodes"] s_units_in) (c_units_in : Cal P w K mg base k "units_in" ["nodes"] R_units_in) (len : ∀ args o r e, S args o r e → args.length = 1) (pure : ∀ args o ret exc, S args o ret exc → w_units_in R_units_in (fun x s => exc x (cutL o.length s.o)) (pst0 args o 5) (bodyE o.length ret)) : Cal P w K mg base (k + 1) "units_in" ["nodes"] S :=
  D.cal (k := k) (wb := w_units_in R_units_in) sc_units_in len (fun f cdv A outer s H E hr => by
    have tk := takes_of (X := cxOf (L2.CX P w) P w K mg base N_units_in "units_in" (defScope s_units_in) f cdv A outer s H E) rfl rfl rfl rfl
    exact (s_cons (s_set (i := 1) sc_units_in.nd rfl (by first | exact Or.inl rfl | exact Or.inr rfl) (e_lst a_nil))
 (s_cons (s_for (passes_of rfl) rfl (i_tup (e_var 0)) (g_name (i := 2) sc_units_in.nd rfl (by first | exact Or.inl rfl | exact Or.inr rfl))
  (s_cons (s_if (t_ne (hu64 hr) (e_ix (e_var 2) e_int) e_str)
  (s_cons (s_expr (e_app (e_var 1) (e_ix (e_var 2) e_int)))
 (s_one s_cnt))
  s_nil)
 (s_cons (s_for (passes_of rfl) rfl (i_tup (e_ix (e_var 2) e_int)) (g_tup rfl (gs_cons (g_name (i := 3) sc_units_in.nd rfl (by first | exact Or.inl rfl | exact Or.inr rfl)) (gs_cons (g_name (i := 4) sc_units_in.nd rfl (by first | exact Or.inl rfl | exact Or.inr rfl)) gs_nil)))
  (s_cons (s_expr (e_app (e_var 1) (e_var 3)))
 (s_one (s_expr (e_ext (e_var 1) (c_call c_units_in tk hr (a_cons (e_var 4) a_nil) (hk := Nat.le_refl _)))))))
 (s_one (s_if (t_notN (e_ix (e_var 2) e_int))
  (s_one (s_expr (e_app (e_var 1) (e_ix (e_var 2) e_int))))
  s_nil)))))
 (s_one (s_ret (e_var 1))))))
    pure
theorem ok_are_whole {P : Program} {w : World} {K : PySem.W.Frag} {mg : Str → Option Value} {base : Heap} {k : Nat} {S R_are_whole : FS} (hk : 1 ≤ k) (T : Txt K mg) (D : Dfd K mg "are_whole" ["nodes", "rows"] s_are_whole) (c_are_whole : Cal P w K mg base k "are_whole" ["nodes", "rows"] R_are_whole) (len : ∀ args o r e, S args o r e → args.length = 2) (pure : ∀ args o ret exc, S args o ret exc → w_are_whole R_are_whole (fun x s => exc x (cutL o.length s.o)) (pst0 args o 5) (bodyE o.length ret)) : Cal P w K mg base (k + 1) "are_whole" ["nodes", "rows"] S :=
  D.cal (k := k) (wb := w_are_whole R_are_whole) sc_are_whole len (fun f cdv A outer s H E hr => by
    have tk := takes_of (X := cxOf (L2.CX P w) P w K mg base N_are_whole "are_whole" (defScope s_are_whole) f cdv A outer s H E) rfl rfl rfl rfl
    exact (s_cons (s_for (passes_of rfl) rfl (i_tup (e_var 0)) (g_name (i := 2) sc_are_whole.nd rfl (by first | exact Or.inl rfl | exact Or.inr rfl))
  (s_cons (s_if (t_eq (hu64 hr) (e_ix (e_var 2) e_int) e_str)
  (s_one (s_ret e_bl))
  s_nil)
 (s_one (s_if (t_eq (hu64 hr) (e_ix (e_var 2) e_int) e_str)
  (s_cons (s_if (t_pw (t_orC (t_isN (e_ix (e_var 2) e_int)) (t_or1 (t_pw (t_andC (t_eq (hu64 hr) (e_ix (e_ix (e_var 1) (e_ix (e_ix (e_ix (e_var 2) e_int) e_int) e_int)) e_int) e_str) (t_and1 (t_eq (hu64 hr) (e_len T.b_len (e_ix (e_var 2) e_int)) e_int)))))))
  (s_one (s_ret e_bl))
  s_nil)
 (s_one (s_if (t_not (t_val (e_all rfl T.b_all (e_lc (own := [("unit", 3), ("inner", 4)]) rfl sc_are_whole.nd (i_tup (e_ix (e_var 2) e_int)) (blkOk_by (N := N_are_whole) (sc := defScope s_are_whole) (by decide +kernel)) (by decide) (fun _ _ _ _ _ => (g_tup rfl (gs_cons (g_name (i := 3) sc_are_whole.nd rfl (by first | exact Or.inl rfl | exact Or.inr rfl)) (gs_cons (g_name (i := 4) sc_are_whole.nd rfl (by first | exact Or.inl rfl | exact Or.inr rfl)) gs_nil)))) (fun _ _ _ _ _ => ts_nil) (fun _ _ _ _ _ => (c_call c_are_whole takes0 hr (a_cons (e_var 4) (a_cons (e_var 1) a_nil)) (hk := Nat.le_refl _)))))))
  (s_one (s_ret e_bl))
  s_nil)))
  s_nil))))
 (s_one (s_ret e_bl))))
    pure
theorem ok_is_whole {P : Program} {w : World} {K : PySem.W.Frag} {mg : Str → Option Value} {base : Heap} (T : Txt K mg) (D : Dfd K mg "is_whole" ["rows"] s_is_whole) (c_nodes_of : Cal P w K mg base 2 "nodes_of" ["rows"] S_nodes_of) (c_are_whole : Cal P w K mg base 13 "are_whole" ["nodes", "rows"] (S_are_whole 12)) : Cal P w K mg base 14 "is_whole" ["rows"] S_is_whole :=
  D.cal (k := 13) (wb := w_is_whole) sc_is_whole len_is_whole (fun f cdv A outer s H E hr => by
    have tk := takes_of (X := cxOf (L2.CX P w) P w K mg base N_is_whole "is_whole" (defScope s_is_whole) f cdv A outer s H E) rfl rfl rfl rfl
    exact (s_one (s_ret (c_call c_are_whole tk hr (a_cons (c_call c_nodes_of tk hr (a_cons (e_var 0) a_nil)) (a_cons (e_var 0) a_nil))))))
    (pure_is_whole)
theorem ok_law_begin {P : Program} {w : World} {K : PySem.W.Frag} {mg : Str → Option Value} {base : Heap} (T : Txt K mg) (D : Dfd K mg "_law_begin" ["_law_script"] s_law_begin) : CalO P w K mg base 1 "_law_begin" ["_law_script"] S_law_begin :=
  D.calO (k := 0) (wb := w_law_begin) sc_law_begin len_law_begin (fun f cdv A outer s H E hr => by
    have tk := takes_of (X := cxOf (L2.CX P w) P w K mg base N_law_begin "_law_begin" (defScope s_law_begin) f cdv A outer s H E) rfl rfl rfl rfl
    exact (s_cons (s_setLc (i := 1) (own := [("_law_cell", 2)]) rfl sc_law_begin.nd rfl rfl (sw_true rfl rfl rfl (by decide +kernel)) (i_list (e_var 0)) (blkOk_by (N := N_law_begin) (sc := defScope s_law_begin) (by decide +kernel)) (by decide) (fun _ _ _ _ _ => (g_name (i := 2) sc_law_begin.nd rfl (by first | exact Or.inl rfl | exact Or.inr rfl))) (fun _ _ _ _ _ => (ts_one (t_ge (e_abs T.b_abs (e_var 2)) (e_pow e_int e_int)))) (fun _ _ _ _ _ => (e_abs T.b_abs (e_var 2))))
 (s_one (s_ret (e_dictM (m_cons e_str (e_var 1) (m_cons e_str (e_listOf T.b_list (e_var 0)) (m_cons e_str e_int (m_cons e_str e_int (m_cons e_str e_int m_nil))))) rfl rfl (by simp) (by decide))))))
    (pure_law_begin)
theorem ok_law_take {P : Program} {w : World} {K : PySem.W.Frag} {mg : Str → Option Value} {base : Heap} (T : Txt K mg) (D : Dfd K mg "_law_take" ["_law_draw", "_law_size"] s_law_take) : Cal P w K mg base 1 "_law_take" ["_law_draw", "_law_size"] S_law_take :=
  D.cal (k := 0) (wb := w_law_take) sc_law_take len_law_take (fun f cdv A outer s H E hr => by
    have tk := takes_of (X := cxOf (L2.CX P w) P w K mg base N_law_take "_law_take" (defScope s_law_take) f cdv A outer s H E) rfl rfl rfl rfl
    exact (s_cons (s_if (t_pw (t_andC (t_eq (hu64 hr) (e_dg (hu64 hr) (e_var 0) e_str) e_int) (t_and1 (t_ne (hu64 hr) (e_dg (hu64 hr) (e_var 0) e_str) (e_lst a_nil)))))
  (s_one (s_setM (hu64 hr) (e_pop0 (e_dg (hu64 hr) (e_var 0) e_str)) (e_var 0) e_str))
  (s_one (s_if (t_eq (hu64 hr) (e_dg (hu64 hr) (e_var 0) e_str) e_int)
  (s_cons (s_setM (hu64 hr) (e_add (e_dg (hu64 hr) (e_var 0) e_str) e_int) (e_var 0) e_str)
 (s_cons (s_for (passes_of rfl) rfl (i_list (e_cat (e_lst (a_cons (e_dg (hu64 hr) (e_var 0) e_str) a_nil)) (e_dg (hu64 hr) (e_var 0) e_str))) (g_name (i := 2) sc_law_take.nd rfl (by first | exact Or.inl rfl | exact Or.inr rfl))
  (s_one (s_setM (hu64 hr) (e_mod (e_int1 T.b_int (e_add (e_add (e_mul (e_dg (hu64 hr) (e_var 0) e_str) e_int) (e_mul (e_var 2) e_int)) e_int)) e_int) (e_var 0) e_str)))
 (s_one (s_setM (hu64 hr) (e_mod (e_int1 T.b_int (e_pow (e_dg (hu64 hr) (e_var 0) e_str) e_int)) e_int) (e_var 0) e_str))))
  s_nil)))
 (s_cons (s_unp (e_dvm T.b_divmod (e_dg (hu64 hr) (e_var 0) e_str) (e_var 1)) (g_tup rfl (gs_cons (g_dm (i := 0) (hu64 hr) (pe_var rfl (by first | exact Or.inl rfl | exact Or.inr (Or.inl rfl) | exact Or.inr (Or.inr rfl))) pe_str) (gs_cons (g_name (i := 3) sc_law_take.nd rfl (by first | exact Or.inl rfl | exact Or.inr rfl)) gs_nil))))
 (s_one (s_ret (e_var 3))))))
    (pure_law_take)
theorem ok_law_mixed_row {P : Program} {w : World} {K : PySem.W.Frag} {mg : Str → Option Value} {base : Heap} (T : Txt K mg) (D : Dfd K mg "_law_mixed_row" ["_law_draw"] s_law_mixed_row) (c_law_take : Cal P w K mg base 1 "_law_take" ["_law_draw", "_law_size"] S_law_take) : Cal P w K mg base 2 "_law_mixed_row" ["_law_draw"] S_law_mixed_row :=
  D.cal (k := 1) (wb := w_law_mixed_row) sc_law_mixed_row len_law_mixed_row (fun f cdv A outer s H E hr => by
    have tk := takes_of (X := cxOf (L2.CX P w) P w K mg base N_law_mixed_row "_law_mixed_row" (defScope s_law_mixed_row) f cdv A outer s H E) rfl rfl rfl rfl
    exact (s_cons (s_set (i := 1) sc_law_mixed_row.nd rfl (by first | exact Or.inl rfl | exact Or.inr rfl) (e_lst (a_cons (e_tup (a_cons e_str (a_cons (e_tup (a_cons e_str (a_cons e_int a_nil))) a_nil))) (a_cons (e_tup (a_cons e_str (a_cons e_str (a_cons e_int (a_cons (e_tup (a_cons e_str (a_cons e_int a_nil))) a_nil))))) (a_cons (e_tup (a_cons e_str a_nil)) (a_cons (e_tup (a_cons e_str (a_cons e_str (a_cons e_int (a_cons (e_tup a_nil) a_nil))))) (a_cons e_non a_nil)))))))
 (s_cons (s_set (i := 1) sc_law_mixed_row.nd rfl (by first | exact Or.inl rfl | exact Or.inr rfl) (e_cat (e_var 1) (e_lst (a_cons (e_tup (a_cons e_str (a_cons e_str (a_cons e_int (a_cons (e_tup (a_cons e_str (a_cons e_str (a_cons e_int a_nil)))) a_nil))))) (a_cons (e_tup (a_cons e_str (a_cons e_str (a_cons e_int a_nil)))) (a_cons (e_tup (a_cons e_str (a_cons (e_tup (a_cons e_str (a_cons e_int a_nil))) a_nil))) a_nil))))))
 (s_one (s_ret (e_ix (e_var 1) (c_callM (m := 3) c_law_take tk hr (a_cons (e_var 0) (a_cons (e_len T.b_len (e_var 1)) a_nil)))))))))
    (pure_law_mixed_row)
theorem ok_law_opener {P : Program} {w : World} {K : PySem.W.Frag} {mg : Str → Option Value} {base : Heap} (T : Txt K mg) (D : Dfd K mg "_law_opener" ["_law_draw"] s_law_opener) (c_law_take : Cal P w K mg base 1 "_law_take" ["_law_draw", "_law_size"] S_law_take) : Cal P w K mg base 2 "_law_opener" ["_law_draw"] S_law_opener :=
  D.cal (k := 1) (wb := w_law_opener) sc_law_opener len_law_opener (fun f cdv A outer s H E hr => by
    have tk := takes_of (X := cxOf (L2.CX P w) P w K mg base N_law_opener "_law_opener" (defScope s_law_opener) f cdv A outer s H E) rfl rfl rfl rfl
    exact (s_cons (s_set (i := 1) sc_law_opener.nd rfl (by first | exact Or.inl rfl | exact Or.inr rfl) (e_lst (a_cons (e_tup (a_cons e_str (a_cons (e_tup (a_cons e_str (a_cons e_str (a_cons e_int a_nil)))) a_nil))) (a_cons (e_tup (a_cons e_str a_nil)) (a_cons (e_tup (a_cons e_str (a_cons (e_tup (a_cons (e_tup (a_cons e_str (a_cons e_int (a_cons (e_tup (a_cons e_str (a_cons e_int a_nil))) a_nil)))) a_nil)) a_nil))) (a_cons (e_tup (a_cons e_str (a_cons e_str (a_cons e_int (a_cons (e_tup a_nil) a_nil))))) a_nil))))))
 (s_one (s_ret (e_ix (e_var 1) (c_callM (m := 3) c_law_take tk hr (a_cons (e_var 0) (a_cons (e_len T.b_len (e_var 1)) a_nil))))))))
    (pure_law_opener)
theorem ok_law_pieces {P : Program} {w : World} {K : PySem.W.Frag} {mg : Str → Option Value} {base : Heap} {k : Nat} {S R_law_piece : FS} (hk : 3 ≤ k) (T : Txt K mg) (D : Dfd K mg "_law_pieces" ["_law_draw", "_law_room"] s_law_pieces) (c_law_piece : Cal P w K mg base k "_law_piece" ["_law_draw", "_law_room"] R_law_piece) (c_law_take : Cal P w K mg base 1 "_law_take" ["_law_draw", "_law_size"] S_law_take) (c_law_opener : Cal P w K mg base 2 "_law_opener" ["_law_draw"] S_law_opener) (len : ∀ args o r e, S args o r e → args.length = 2) (pure : ∀ args o ret exc, S args o ret exc → w_law_pieces R_law_piece (fun x s => exc x (cutL o.length s.o)) (pst0 args o 4) (bodyE o.length ret)) : Cal P w K mg base (k + 1) "_law_pieces" ["_law_draw", "_law_room"] S :=
  D.cal (k := k) (wb := w_law_pieces R_law_piece) sc_law_pieces len (fun f cdv A outer s H E hr => by
    have tk := takes_of (X := cxOf (L2.CX P w) P w K mg base N_law_pieces "_law_pieces" (defScope s_law_pieces) f cdv A outer s H E) rfl rfl rfl rfl
    exact (s_cons (s_set (i := 2) sc_law_pieces.nd rfl (by first | exact Or.inl rfl | exact Or.inr rfl) (c_callM (m := 3) c_law_take tk hr (a_cons (e_var 0) (a_cons e_int a_nil)) (hk := Nat.le_trans (by decide) hk)))
 (s_cons (s_if (t_lt (e_var 2) e_int)
  (s_cons (s_set (i := 3) sc_law_pieces.nd rfl (by first | exact Or.inl rfl | exact Or.inr rfl) (e_lst (a_cons (e_tup (a_cons (e_tup (a_cons e_str (a_cons (e_tup (a_cons e_str (a_cons e_str (a_cons e_int a_nil)))) a_nil))) (a_cons (c_callM (m := 3) c_law_piece tk hr (a_cons (e_var 0) (a_cons (e_var 1) a_nil)) (hk := Nat.le_refl _)) a_nil))) a_nil)))
 (s_cons (s_if (t_eq (hu64 hr) (e_var 2) e_int)
  (s_one (s_expr (e_app (e_var 3) (e_tup (a_cons (e_tup (a_cons e_str a_nil)) (a_cons (c_callM (m := 3) c_law_piece tk hr (a_cons (e_var 0) (a_cons (e_var 1) a_nil)) (hk := Nat.le_refl _)) a_nil))))))
  s_nil)
 (s_one (s_ret (e_var 3)))))
  s_nil)
 (s_cons (s_if (t_eq (hu64 hr) (e_var 2) e_int)
  (s_one (s_ret (e_lst (a_cons (e_tup (a_cons (c_callM (m := 3) c_law_opener tk hr (a_cons (e_var 0) a_nil) (hk := Nat.le_trans (by decide) hk)) (a_cons (c_callM (m := 3) c_law_piece tk hr (a_cons (e_var 0) (a_cons (e_var 1) a_nil)) (hk := Nat.le_refl _)) a_nil))) a_nil))))
  s_nil)
 (s_cons (s_set (i := 3) sc_law_pieces.nd rfl (by first | exact Or.inl rfl | exact Or.inr rfl) (e_lst (a_cons (e_tup (a_cons (e_tup (a_cons e_str a_nil)) (a_cons (c_callM (m := 3) c_law_piece tk hr (a_cons (e_var 0) (a_cons (e_var 1) a_nil)) (hk := Nat.le_refl _)) a_nil))) a_nil)))
 (s_cons (s_if (t_pw (t_orC (t_eq (hu64 hr) (e_var 2) e_int) (t_or1 (t_eq (hu64 hr) (c_callM (m := 3) c_law_take tk hr (a_cons (e_var 0) (a_cons e_int a_nil)) (hk := Nat.le_trans (by decide) hk)) e_int))))
  (s_one (s_expr (e_app (e_var 3) (e_tup (a_cons (e_tup (a_cons e_str (a_cons e_str (a_cons e_int a_nil)))) (a_cons (c_callM (m := 3) c_law_piece tk hr (a_cons (e_var 0) (a_cons (e_var 1) a_nil)) (hk := Nat.le_refl _)) a_nil))))))
  s_nil)
 (s_cons (s_if (t_eq (hu64 hr) (e_var 2) e_int)
  (s_one (s_expr (e_app (e_var 3) (e_tup (a_cons (e_tup (a_cons e_str a_nil)) (a_cons (c_callM (m := 3) c_law_piece tk hr (a_cons (e_var 0) (a_cons (e_var 1) a_nil)) (hk := Nat.le_refl _)) a_nil))))))
  s_nil)
 (s_one (s_ret (e_var 3))))))))))
    pure
theorem ok_law_piece {P : Program} {w : World} {K : PySem.W.Frag} {mg : Str → Option Value} {base : Heap} {k : Nat} {S R_law_pieces : FS} (hk : 3 ≤ k) (T : Txt K mg) (D : Dfd K mg "_law_piece" ["_law_draw", "_law_room"] s_law_piece) (c_law_take : Cal P w K mg base 1 "_law_take" ["_law_draw", "_law_size"] S_law_take) (c_law_pieces : Cal P w K mg base k "_law_pieces" ["_law_draw", "_law_room"] R_law_pieces) (c_law_mixed_row : Cal P w K mg base 2 "_law_mixed_row" ["_law_draw"] S_law_mixed_row) (len : ∀ args o r e, S args o r e → args.length = 2) (pure : ∀ args o ret exc, S args o ret exc → w_law_piece R_law_pieces (fun x s => exc x (cutL o.length s.o)) (pst0 args o 6) (bodyE o.length ret)) : Cal P w K mg base (k + 1) "_law_piece" ["_law_draw", "_law_room"] S :=
  D.cal (k := k) (wb := w_law_piece R_law_pieces) sc_law_piece len (fun f cdv A outer s H E hr => by
    have tk := takes_of (X := cxOf (L2.CX P w) P w K mg base N_law_piece "_law_piece" (defScope s_law_piece) f cdv A outer s H E) rfl rfl rfl rfl
    exact (s_cons (s_set (i := 2) sc_law_piece.nd rfl (by first | exact Or.inl rfl | exact Or.inr rfl) (e_lst a_nil))
 (s_cons (s_for2 (passes_of rfl) rfl (i_rg1 T.b_range (c_callM (m := 3) c_law_take tk hr (a_cons (e_var 0) (a_cons e_int a_nil)) (hk := Nat.le_trans (by decide) hk))) (g_name (i := 3) sc_law_piece.nd rfl (by first | exact Or.inl rfl | exact Or.inr rfl))
  (s_one (s_if (t_pw (t_andC (t_gt (e_var 1) e_int) (t_and1 (t_eq (hu64 hr) (c_callM (m := 3) c_law_take tk hr (a_cons (e_var 0) (a_cons e_int a_nil)) (hk := Nat.le_trans (by decide) hk)) e_int))))
  (s_cons (s_for2 (passes_of rfl) rfl (i_list (c_callM (m := 3) c_law_pieces tk hr (a_cons (e_var 0) (a_cons (e_sub (e_var 1) e_int) a_nil)) (hk := Nat.le_refl _))) (g_tup rfl (gs_cons (g_name (i := 4) sc_law_piece.nd rfl (by first | exact Or.inl rfl | exact Or.inr rfl)) (gs_cons (g_name (i := 5) sc_law_piece.nd rfl (by first | exact Or.inl rfl | exact Or.inr rfl)) gs_nil)))
  (s_one (s_set (i := 2) sc_law_piece.nd rfl (by first | exact Or.inl rfl | exact Or.inr rfl) (e_cat (e_cat (e_var 2) (e_lst (a_cons (e_var 4) a_nil))) (e_var 5)))))
 (s_one (s_expr (e_app (e_var 2) (e_tup (a_cons e_str a_nil))))))
  (s_one (s_expr (e_app (e_var 2) (c_callM (m := 3) c_law_mixed_row tk hr (a_cons (e_var 0) a_nil) (hk := Nat.le_trans (by decide) hk))))))))
 (s_one (s_ret (e_var 2))))))
    pure
theorem ok_law_strayed {P : Program} {w : World} {K : PySem.W.Frag} {mg : Str → Option Value} {base : Heap} (T : Txt K mg) (D : Dfd K mg "_law_strayed" ["_law_draw", "_law_piece_here"] s_law_strayed) (c_law_take : Cal P w K mg base 1 "_law_take" ["_law_draw", "_law_size"] S_law_take) (c_law_piece : Cal P w K mg base 11 "_law_piece" ["_law_draw", "_law_room"] (S_law_piece 8)) : Cal P w K mg base 12 "_law_strayed" ["_law_draw", "_law_piece_here"] S_law_strayed :=
  D.cal (k := 11) (wb := w_law_strayed) sc_law_strayed len_law_strayed (fun f cdv A outer s H E hr => by
    have tk := takes_of (X := cxOf (L2.CX P w) P w K mg base N_law_strayed "_law_strayed" (defScope s_law_strayed) f cdv A outer s H E) rfl rfl rfl rfl
    exact (s_cons (s_set (i := 2) sc_law_strayed.nd rfl (by first | exact Or.inl rfl | exact Or.inr rfl) (e_lst (a_cons (e_tup (a_cons e_str a_nil)) (a_cons (e_tup (a_cons e_str (a_cons e_str (a_cons e_int a_nil)))) (a_cons (e_tup (a_cons e_str a_nil)) (a_cons (e_tup (a_cons e_str a_nil)) (a_cons e_non a_nil)))))))
 (s_cons (s_set (i := 3) sc_law_strayed.nd rfl (by first | exact Or.inl rfl | exact Or.inr rfl) (e_listOf T.b_list (e_var 1)))
 (s_cons (s_for2 (passes_of rfl) rfl (i_rg1 T.b_range (c_callM (m := 3) c_law_take tk hr (a_cons (e_var 0) (a_cons e_int a_nil)))) (g_name (i := 4) sc_law_strayed.nd rfl (by first | exact Or.inl rfl | exact Or.inr rfl))
  (s_one (s_set (i := 3) sc_law_strayed.nd rfl (by first | exact Or.inl rfl | exact Or.inr rfl) (e_cat (e_cat (e_var 3) (e_lst (a_cons (e_ix (e_var 2) (c_callM (m := 3) c_law_take tk hr (a_cons (e_var 0) (a_cons e_int a_nil)))) a_nil))) (c_callM (m := 3) c_law_piece tk hr (a_cons (e_var 0) (a_cons e_int a_nil)))))))
 (s_one (s_ret (e_var 3)))))))
    (pure_law_strayed)
theorem ok_law_moved {P : Program} {w : World} {K : PySem.W.Frag} {mg : Str → Option Value} {base : Heap} {k : Nat} {S R_law_moved : FS} (hk : 1 ≤ k) (T : Txt K mg) (D : Dfd K mg "_law_moved" ["_law_nodes", "_law_by"] s_law_moved) (c_law_moved : Cal P w K mg base k "_law_moved" ["_law_nodes", "_law_by"] R_law_moved) (len : ∀ args o r e, S args o r e → args.length = 2) (pure : ∀ args o ret exc, S args o ret exc → w_law_moved R_law_moved (fun x s => exc x (cutL o.length s.o)) (pst0 args o 7) (bodyE o.length ret)) : Cal P w K mg base (k + 1) "_law_moved" ["_law_nodes", "_law_by"] S :=
  D.cal (k := k) (wb := w_law_moved R_law_moved) sc_law_moved len (fun f cdv A outer s H E hr => by
    have tk := takes_of (X := cxOf (L2.CX P w) P w K mg base N_law_moved "_law_moved" (defScope s_law_moved) f cdv A outer s H E) rfl rfl rfl rfl
    exact (s_cons (s_set (i := 2) sc_law_moved.nd rfl (by first | exact Or.inl rfl | exact Or.inr rfl) (e_lst a_nil))
 (s_cons (s_for (passes_of rfl) rfl (i_tup (e_var 0)) (g_name (i := 3) sc_law_moved.nd rfl (by first | exact Or.inl rfl | exact Or.inr rfl))
  (s_one (s_if (t_eq (hu64 hr) (e_ix (e_var 3) e_int) e_str)
  (s_cons (s_set (i := 4) sc_law_moved.nd rfl (by first | exact Or.inl rfl | exact Or.inr rfl) (e_tupOf T.b_tuple (e_lc (own := [("_law_u", 5), ("_law_inner", 6)]) rfl sc_law_moved.nd (i_tup (e_ix (e_var 3) e_int)) (blkOk_by (N := N_law_moved) (sc := defScope s_law_moved) (by decide +kernel)) (by decide) (fun _ _ _ _ _ => (g_tup rfl (gs_cons (g_name (i := 5) sc_law_moved.nd rfl (by first | exact Or.inl rfl | exact Or.inr rfl)) (gs_cons (g_name (i := 6) sc_law_moved.nd rfl (by first | exact Or.inl rfl | exact Or.inr rfl)) gs_nil)))) (fun _ _ _ _ _ => ts_nil) (fun _ _ _ _ _ => (e_tup (a_cons (e_add (e_var 5) (e_var 1)) (a_cons (c_call c_law_moved takes0 hr (a_cons (e_var 6) (a_cons (e_var 1) a_nil)) (hk := Nat.le_refl _)) a_nil)))))))
 (s_one (s_expr (e_app (e_var 2) (e_tup (a_cons e_str (a_cons (e_var 4) (a_cons (e_if (t_isN (e_ix (e_var 3) e_int)) e_non (e_add (e_ix (e_var 3) e_int) (e_var 1))) a_nil))))))))
  (s_one (s_expr (e_app (e_var 2) (e_tup (a_cons (e_ix (e_var 3) e_int) (a_cons (e_add (e_ix (e_var 3) e_int) (e_var 1)) a_nil)))))))))
 (s_one (s_ret (e_tupOf T.b_tuple (e_var 2)))))))
    pure
theorem ok_law_in_nest_right {P : Program} {w : World} {K : PySem.W.Frag} {mg : Str → Option Value} {base : Heap} (T : Txt K mg) (D : Dfd K mg "_law_in_nest_right" ["_law_draw"] s_law_in_nest_right) (c_nodes_of : Cal P w K mg base 2 "nodes_of" ["rows"] S_nodes_of) (c_law_moved : Cal P w K mg base 13 "_law_moved" ["_law_nodes", "_law_by"] (S_law_moved 12)) (c_law_piece : Cal P w K mg base 11 "_law_piece" ["_law_draw", "_law_room"] (S_law_piece 8)) (c_is_whole : Cal P w K mg base 14 "is_whole" ["rows"] S_is_whole) (c_law_pieces : Cal P w K mg base 11 "_law_pieces" ["_law_draw", "_law_room"] (S_law_pieces 8)) : Cal P w K mg base 15 "_law_in_nest_right" ["_law_draw"] S_law_in_nest_right :=
  D.cal (k := 14) (wb := w_law_in_nest_right) sc_law_in_nest_right len_law_in_nest_right (fun f cdv A outer s H E hr => by
    have tk := takes_of (X := cxOf (L2.CX P w) P w K mg base N_law_in_nest_right "_law_in_nest_right" (defScope s_law_in_nest_right) f cdv A outer s H E) rfl rfl rfl rfl
    exact (s_cons (s_par (i := 1) (j := 2) rfl sc_law_in_nest_right.nd rfl rfl (by decide) rfl rfl (a_cons (e_lst a_nil) (a_cons (e_lst a_nil) a_nil)))
 (s_cons (s_for2 (passes_of rfl) rfl (i_list (c_callM (m := 3) c_law_pieces tk hr (a_cons (e_var 0) (a_cons e_int a_nil)))) (g_tup rfl (gs_cons (g_name (i := 3) sc_law_in_nest_right.nd rfl (by first | exact Or.inl rfl | exact Or.inr rfl)) (gs_cons (g_name (i := 4) sc_law_in_nest_right.nd rfl (by first | exact Or.inl rfl | exact Or.inr rfl)) gs_nil)))
  (s_cons (s_expr (e_app (e_var 2) (e_tup (a_cons (e_len T.b_len (e_var 1)) (a_cons (c_call c_law_moved tk hr (a_cons (c_call c_nodes_of tk hr (a_cons (e_var 4) a_nil)) (a_cons (e_add (e_len T.b_len (e_var 1)) e_int) a_nil))) a_nil)))))
 (s_one (s_set (i := 1) sc_law_in_nest_right.nd rfl (by first | exact Or.inl rfl | exact Or.inr rfl) (e_cat (e_cat (e_var 1) (e_lst (a_cons (e_var 3) a_nil))) (e_var 4))))))
 (s_cons (s_if (t_pw (t_orC (t_ne (hu64 hr) (c_call c_nodes_of tk hr (a_cons (e_cat (e_var 1) (e_lst (a_cons (e_tup (a_cons e_str a_nil)) a_nil))) a_nil)) (e_tup (a_cons (e_tup (a_cons e_str (a_cons (e_tupOf T.b_tuple (e_var 2)) (a_cons (e_len T.b_len (e_var 1)) a_nil)))) a_nil))) (t_or1 (t_val (c_call c_is_whole tk hr (a_cons (e_var 1) a_nil))))))
  (s_one (s_ret e_bl))
  s_nil)
 (s_cons (s_set (i := 5) sc_law_in_nest_right.nd rfl (by first | exact Or.inl rfl | exact Or.inr rfl) (c_callM (m := 3) c_law_piece tk hr (a_cons (e_var 0) (a_cons e_int a_nil))))
 (s_cons (s_set (i := 6) sc_law_in_nest_right.nd rfl (by first | exact Or.inl rfl | exact Or.inr rfl) (e_tup (a_cons (e_ix (e_ix (e_var 2) (e_neg e_int)) e_int) (a_cons (e_catT (e_ix (e_ix (e_var 2) (e_neg e_int)) e_int) (c_call c_law_moved tk hr (a_cons (c_call c_nodes_of tk hr (a_cons (e_var 5) a_nil)) (a_cons (e_len T.b_len (e_var 1)) a_nil)))) a_nil))))
 (s_one (s_ret (e_eq (hu64 hr) (c_call c_nodes_of tk hr (a_cons (e_cat (e_var 1) (e_var 5)) a_nil)) (e_tup (a_cons (e_tup (a_cons e_str (a_cons (e_tupOf T.b_tuple (e_cat (e_sl (e_var 2) o_none (o_some (e_neg e_int))) (e_lst (a_cons (e_var 6) a_nil)))) (a_cons e_non a_nil)))) a_nil)))))))))))
    (pure_law_in_nest_right)
theorem ok_law_deep_right {P : Program} {w : World} {K : PySem.W.Frag} {mg : Str → Option Value} {base : Heap} (T : Txt K mg) (D : Dfd K mg "_law_deep_right" ["_law_many"] s_law_deep_right) (c_nodes_of : Cal P w K mg base 2 "nodes_of" ["rows"] S_nodes_of) : Cal P w K mg base 3 "_law_deep_right" ["_law_many"] S_law_deep_right :=
  D.cal (k := 2) (wb := w_law_deep_right) sc_law_deep_right len_law_deep_right (fun f cdv A outer s H E hr => by
    have tk := takes_of (X := cxOf (L2.CX P w) P w K mg base N_law_deep_right "_law_deep_right" (defScope s_law_deep_right) f cdv A outer s H E) rfl rfl rfl rfl
    exact (s_cons (s_set (i := 1) sc_law_deep_right.nd rfl (by first | exact Or.inl rfl | exact Or.inr rfl) (e_cat (e_rep (e_lst (a_cons (e_tup (a_cons e_str a_nil)) a_nil)) (e_var 0)) (e_rep (e_lst (a_cons (e_tup (a_cons e_str a_nil)) a_nil)) (e_var 0))))
 (s_cons (s_set (i := 2) sc_law_deep_right.nd rfl (by first | exact Or.inl rfl | exact Or.inr rfl) (e_tupOf T.b_tuple (e_lc (own := [("_law_k", 3)]) rfl sc_law_deep_right.nd (i_rg2 T.b_range e_int (e_var 0)) (blkOk_by (N := N_law_deep_right) (sc := defScope s_law_deep_right) (by decide +kernel)) (by decide) (fun _ _ _ _ _ => (g_name (i := 3) sc_law_deep_right.nd rfl (by first | exact Or.inl rfl | exact Or.inr rfl))) (fun _ _ _ _ _ => ts_nil) (fun _ _ _ _ _ => (e_tup (a_cons e_str (a_cons (e_var 3) a_nil)))))))
 (s_cons (s_for (passes_of rfl) rfl (i_rg1 T.b_range (e_min2 rfl T.b_min e_int (e_var 0))) (g_name (i := 3) sc_law_deep_right.nd rfl (by first | exact Or.inl rfl | exact Or.inr rfl))
  (s_one (s_set (i := 2) sc_law_deep_right.nd rfl (by first | exact Or.inl rfl | exact Or.inr rfl) (e_tup (a_cons (e_tup (a_cons e_str (a_cons (e_tup (a_cons (e_tup (a_cons (e_sub (e_sub (e_min2 rfl T.b_min e_int (e_var 0)) e_int) (e_var 3)) (a_cons (e_var 2) a_nil))) a_nil)) (a_cons (e_add (e_var 0) (e_var 3)) a_nil)))) a_nil)))))
 (s_one (s_ret (e_eq (hu64 hr) (c_call c_nodes_of tk hr (a_cons (e_var 1) a_nil)) (e_catT (e_var 2) (e_tupOf T.b_tuple (e_lc (own := [("_law_k", 3)]) rfl sc_law_deep_right.nd (i_rg2 T.b_range e_int (e_var 0)) (blkOk_by (N := N_law_deep_right) (sc := defScope s_law_deep_right) (by decide +kernel)) (by decide) (fun _ _ _ _ _ => (g_name (i := 3) sc_law_deep_right.nd rfl (by first | exact Or.inl rfl | exact Or.inr rfl))) (fun _ _ _ _ _ => ts_nil) (fun _ _ _ _ _ => (e_tup (a_cons e_str (a_cons (e_add (e_var 0) (e_var 3)) a_nil))))))))))))))
    (pure_law_deep_right)
theorem rec_units_in {P : Program} {w : World} {K : PySem.W.Frag} {mg : Str → Option Value} {base : Heap} (T : Txt K mg) (D_units_in : Dfd K mg "units_in" ["nodes"] s_units_in) : ∀ n : Nat, Cal P w K mg base (1 + n) "units_in" ["nodes"] (S_units_in n)
  | 0 => D_units_in.cal0 zero_units_in
  | n + 1 => by
    have r := rec_units_in (P := P) (w := w) (base := base) T D_units_in n
    exact ok_units_in (k := 1 + n) (Nat.le_add_right _ _) T D_units_in r len_units_in (pure_units_in n)
theorem rec_are_whole {P : Program} {w : World} {K : PySem.W.Frag} {mg : Str → Option Value} {base : Heap} (T : Txt K mg) (D_are_whole : Dfd K mg "are_whole" ["nodes", "rows"] s_are_whole) : ∀ n : Nat, Cal P w K mg base (1 + n) "are_whole" ["nodes", "rows"] (S_are_whole n)
  | 0 => D_are_whole.cal0 zero_are_whole
  | n + 1 => by
    have r := rec_are_whole (P := P) (w := w) (base := base) T D_are_whole n
    exact ok_are_whole (k := 1 + n) (Nat.le_add_right _ _) T D_are_whole r len_are_whole (pure_are_whole n)
theorem rec_law_pieces {P : Program} {w : World} {K : PySem.W.Frag} {mg : Str → Option Value} {base : Heap} (T : Txt K mg) (D_law_pieces : Dfd K mg "_law_pieces" ["_law_draw", "_law_room"] s_law_pieces) (D_law_piece : Dfd K mg "_law_piece" ["_law_draw", "_law_room"] s_law_piece) (c_law_take : Cal P w K mg base 1 "_law_take" ["_law_draw", "_law_size"] S_law_take) (c_law_opener : Cal P w K mg base 2 "_law_opener" ["_law_draw"] S_law_opener) (c_law_mixed_row : Cal P w K mg base 2 "_law_mixed_row" ["_law_draw"] S_law_mixed_row) : ∀ n : Nat, Cal P w K mg base (3 + n) "_law_pieces" ["_law_draw", "_law_room"] (S_law_pieces n) ∧ Cal P w K mg base (3 + n) "_law_piece" ["_law_draw", "_law_room"] (S_law_piece n)
  | 0 => ⟨D_law_pieces.cal0 zero_law_pieces, D_law_piece.cal0 zero_law_piece⟩
  | n + 1 => by
    have r := rec_law_pieces (P := P) (w := w) (base := base) T D_law_pieces D_law_piece c_law_take c_law_opener c_law_mixed_row n
    exact ⟨ok_law_pieces (k := 3 + n) (Nat.le_add_right _ _) T D_law_pieces r.2 c_law_take c_law_opener len_law_pieces (pure_law_pieces n), ok_law_piece (k := 3 + n) (Nat.le_add_right _ _) T D_law_piece c_law_take r.1 c_law_mixed_row len_law_piece (pure_law_piece n)⟩
theorem rec_law_moved {P : Program} {w : World} {K : PySem.W.Frag} {mg : Str → Option Value} {base : Heap} (T : Txt K mg) (D_law_moved : Dfd K mg "_law_moved" ["_law_nodes", "_law_by"] s_law_moved) : ∀ n : Nat, Cal P w K mg base (1 + n) "_law_moved" ["_law_nodes", "_law_by"] (S_law_moved n)
  | 0 => D_law_moved.cal0 zero_law_moved
  | n + 1 => by
    have r := rec_law_moved (P := P) (w := w) (base := base) T D_law_moved n
    exact ok_law_moved (k := 1 + n) (Nat.le_add_right _ _) T D_law_moved r len_law_moved (pure_law_moved n)
theorem ok_law {P : Program} {w : World} {K : PySem.W.Frag} {mg : Str → Option Value} {base : Heap} (T : Txt K mg) {fl : Addr} {fd : FuncData} (F : Fun K "law" "law" s_law fl fd) (c_law_in_nest_right : Cal P w K mg base 15 "_law_in_nest_right" ["_law_draw"] S_law_in_nest_right) (c_law_take : Cal P w K mg base 1 "_law_take" ["_law_draw", "_law_size"] S_law_take) (c_law_deep_right : Cal P w K mg base 3 "_law_deep_right" ["_law_many"] S_law_deep_right) (c_is_whole : Cal P w K mg base 14 "is_whole" ["rows"] S_is_whole) (c_units_in : Cal P w K mg base 13 "units_in" ["nodes"] (S_units_in 12)) (c_nodes_of : Cal P w K mg base 2 "nodes_of" ["rows"] S_nodes_of) (c_law_moved : Cal P w K mg base 13 "_law_moved" ["_law_nodes", "_law_by"] (S_law_moved 12)) (c_law_piece : Cal P w K mg base 11 "_law_piece" ["_law_draw", "_law_room"] (S_law_piece 8)) (c_law_strayed : Cal P w K mg base 12 "_law_strayed" ["_law_draw", "_law_piece_here"] S_law_strayed) (c_law_begin : CalO P w K mg base 1 "_law_begin" ["_law_script"] S_law_begin) : FnOk P w K mg base (L2.CX P w) 16 fl fd ["_law_script"] (spOf K lawS) :=
  fn_ok (k := 15) (wb := w_law) F sc_law len_law (fun cdv A outer s H E hr => by
    have tk := takes_of (X := cxOf (L2.CX P w) P w K mg base N_law "law" (defScope s_law) fl cdv A outer s H E) rfl rfl rfl rfl
    exact (s_cons (s_set (i := 1) sc_law.nd rfl (by first | exact Or.inl rfl | exact Or.inr rfl) (c_callO c_law_begin tk hr (a_cons (e_var 0) a_nil)))
 (s_cons (s_for (passes_of rfl) rfl (i_rg1 T.b_range (e_max2 rfl T.b_max e_int (e_min2 rfl T.b_min e_int (e_len T.b_len (e_var 0))))) (g_name (i := 2) sc_law.nd rfl (by first | exact Or.inl rfl | exact Or.inr rfl))
  (s_cons (s_par (i := 3) (j := 4) rfl sc_law.nd rfl rfl (by decide) rfl rfl (a_cons (c_callM (m := 3) c_law_strayed tk hr (a_cons (e_var 1) (a_cons (c_callM (m := 3) c_law_piece tk hr (a_cons (e_var 1) (a_cons e_int a_nil))) a_nil))) (a_cons (c_callM (m := 3) c_law_strayed tk hr (a_cons (e_var 1) (a_cons (c_callM (m := 3) c_law_piece tk hr (a_cons (e_var 1) (a_cons e_int a_nil))) a_nil))) a_nil)))
 (s_cons (s_set (i := 5) sc_law.nd rfl (by first | exact Or.inl rfl | exact Or.inr rfl) (c_call c_nodes_of tk hr (a_cons (e_cat (e_var 3) (e_var 4)) a_nil)))
 (s_cons (s_if (t_ne (hu64 hr) (e_var 5) (e_catT (c_call c_nodes_of tk hr (a_cons (e_var 3) a_nil)) (c_call c_law_moved tk hr (a_cons (c_call c_nodes_of tk hr (a_cons (e_var 4) a_nil)) (a_cons (e_len T.b_len (e_var 3)) a_nil)))))
  (s_one (s_ret e_bl))
  s_nil)
 (s_cons (s_if (t_ne (hu64 hr) (c_call c_units_in tk hr (a_cons (e_var 5) a_nil)) (e_lrg1 rfl T.b_list T.b_range (e_add (e_len T.b_len (e_var 3)) (e_len T.b_len (e_var 4)))))
  (s_one (s_ret e_bl))
  s_nil)
 (s_cons (s_if (t_ne (hu64 hr) (c_call c_is_whole tk hr (a_cons (e_cat (e_var 3) (e_var 4)) a_nil)) (e_andC (c_call c_is_whole tk hr (a_cons (e_var 3) a_nil)) (e_one (c_call c_is_whole tk hr (a_cons (e_var 4) a_nil)))))
  (s_one (s_ret e_bl))
  s_nil)
 (s_one (s_if (t_pw (t_orC (t_not (t_val (c_callM (m := 3) c_law_in_nest_right tk hr (a_cons (e_var 1) a_nil)))) (t_or1 (t_not (t_val (c_call c_law_deep_right tk hr (a_cons (e_add e_int (c_callM (m := 3) c_law_take tk hr (a_cons (e_var 1) (a_cons e_int a_nil)))) a_nil)))))))
  (s_one (s_ret e_bl))
  s_nil))))))))
 (s_one (s_ret e_bl)))))
    (pure_law)
theorem all_mk {l : PySem.W.OpenLaw} {w : World} {K : PySem.W.Frag} {h : Heap} {mg : Str → Option Value} {fa f1 f2 f3 f4 f5 f6 f7 f8 f9 f10 f11 f12 f13 f14 f15 f16 f17 p_OPENERS : Addr} (X : K.In h) (G : h.Ns mainGlobals mg) (hfa : mg "law" = some (.ref fa))
    {od1 an1 od2 an2 od3 an3 od4 an4 od5 an5 od6 an6 od7 an7 od8 an8 od9 an9 od10 an10 od11 an11 od12 an12 od13 an13 od14 an14 od15 an15 od16 an16 od17 an17 : Option Addr} {sl1 sl2 sl3 sl4 sl5 sl6 sl7 sl8 sl9 sl10 sl11 sl12 sl13 sl14 sl15 sl16 sl17 : Array (Option Value)} {oc1 kV1 dc1 pm1 cd1 ct1 oc2 kV2 dc2 pm2 cd2 ct2 oc3 kV3 dc3 pm3 cd3 ct3 oc4 kV4 dc4 pm4 cd4 ct4 oc5 kV5 dc5 pm5 cd5 ct5 oc6 kV6 dc6 pm6 cd6 ct6 oc7 kV7 dc7 pm7 cd7 ct7 oc8 kV8 dc8 pm8 cd8 ct8 oc9 kV9 dc9 pm9 cd9 ct9 oc10 kV10 dc10 pm10 cd10 ct10 oc11 kV11 dc11 pm11 cd11 ct11 oc12 kV12 dc12 pm12 cd12 ct12 oc13 kV13 dc13 pm13 cd13 ct13 oc14 kV14 dc14 pm14 cd14 ct14 oc15 kV15 dc15 pm15 cd15 ct15 oc16 kV16 dc16 pm16 cd16 ct16 oc17 kV17 dc17 pm17 cd17 ct17 : Value}
    (a1 : PySem.W.nsIn K mainGlobals "goes_on" = some (some (.ref f1))) (l1 : K.lookup f1 = some ⟨oc1, od1, .func (PySem.W.fnOf "goes_on" "goes_on" (defArgs s_goes_on) (defBody s_goes_on) (defScope s_goes_on) .none kV1 dc1 pm1 an1 cd1 ct1), sl1⟩) (c1 : PySem.W.codeIn K cd1 "goes_on" = true) (k1 : PySem.W.keepIn K (.ref f1) = true)
    (a2 : PySem.W.nsIn K mainGlobals "closed" = some (some (.ref f2))) (l2 : K.lookup f2 = some ⟨oc2, od2, .func (PySem.W.fnOf "closed" "closed" (defArgs s_closed) (defBody s_closed) (defScope s_closed) .none kV2 dc2 pm2 an2 cd2 ct2), sl2⟩) (c2 : PySem.W.codeIn K cd2 "closed" = true) (k2 : PySem.W.keepIn K (.ref f2) = true)
    (a3 : PySem.W.nsIn K mainGlobals "nodes_of" = some (some (.ref f3))) (l3 : K.lookup f3 = some ⟨oc3, od3, .func (PySem.W.fnOf "nodes_of" "nodes_of" (defArgs s_nodes_of) (defBody s_nodes_of) (defScope s_nodes_of) .none kV3 dc3 pm3 an3 cd3 ct3), sl3⟩) (c3 : PySem.W.codeIn K cd3 "nodes_of" = true) (k3 : PySem.W.keepIn K (.ref f3) = true)
    (a4 : PySem.W.nsIn K mainGlobals "units_in" = some (some (.ref f4))) (l4 : K.lookup f4 = some ⟨oc4, od4, .func (PySem.W.fnOf "units_in" "units_in" (defArgs s_units_in) (defBody s_units_in) (defScope s_units_in) .none kV4 dc4 pm4 an4 cd4 ct4), sl4⟩) (c4 : PySem.W.codeIn K cd4 "units_in" = true) (k4 : PySem.W.keepIn K (.ref f4) = true)
    (a5 : PySem.W.nsIn K mainGlobals "are_whole" = some (some (.ref f5))) (l5 : K.lookup f5 = some ⟨oc5, od5, .func (PySem.W.fnOf "are_whole" "are_whole" (defArgs s_are_whole) (defBody s_are_whole) (defScope s_are_whole) .none kV5 dc5 pm5 an5 cd5 ct5), sl5⟩) (c5 : PySem.W.codeIn K cd5 "are_whole" = true) (k5 : PySem.W.keepIn K (.ref f5) = true)
    (a6 : PySem.W.nsIn K mainGlobals "is_whole" = some (some (.ref f6))) (l6 : K.lookup f6 = some ⟨oc6, od6, .func (PySem.W.fnOf "is_whole" "is_whole" (defArgs s_is_whole) (defBody s_is_whole) (defScope s_is_whole) .none kV6 dc6 pm6 an6 cd6 ct6), sl6⟩) (c6 : PySem.W.codeIn K cd6 "is_whole" = true) (k6 : PySem.W.keepIn K (.ref f6) = true)
    (a7 : PySem.W.nsIn K mainGlobals "_law_begin" = some (some (.ref f7))) (l7 : K.lookup f7 = some ⟨oc7, od7, .func (PySem.W.fnOf "_law_begin" "_law_begin" (defArgs s_law_begin) (defBody s_law_begin) (defScope s_law_begin) .none kV7 dc7 pm7 an7 cd7 ct7), sl7⟩) (c7 : PySem.W.codeIn K cd7 "_law_begin" = true) (k7 : PySem.W.keepIn K (.ref f7) = true)
    (a8 : PySem.W.nsIn K mainGlobals "_law_take" = some (some (.ref f8))) (l8 : K.lookup f8 = some ⟨oc8, od8, .func (PySem.W.fnOf "_law_take" "_law_take" (defArgs s_law_take) (defBody s_law_take) (defScope s_law_take) .none kV8 dc8 pm8 an8 cd8 ct8), sl8⟩) (c8 : PySem.W.codeIn K cd8 "_law_take" = true) (k8 : PySem.W.keepIn K (.ref f8) = true)
    (a9 : PySem.W.nsIn K mainGlobals "_law_mixed_row" = some (some (.ref f9))) (l9 : K.lookup f9 = some ⟨oc9, od9, .func (PySem.W.fnOf "_law_mixed_row" "_law_mixed_row" (defArgs s_law_mixed_row) (defBody s_law_mixed_row) (defScope s_law_mixed_row) .none kV9 dc9 pm9 an9 cd9 ct9), sl9⟩) (c9 : PySem.W.codeIn K cd9 "_law_mixed_row" = true) (k9 : PySem.W.keepIn K (.ref f9) = true)
    (a10 : PySem.W.nsIn K mainGlobals "_law_opener" = some (some (.ref f10))) (l10 : K.lookup f10 = some ⟨oc10, od10, .func (PySem.W.fnOf "_law_opener" "_law_opener" (defArgs s_law_opener) (defBody s_law_opener) (defScope s_law_opener) .none kV10 dc10 pm10 an10 cd10 ct10), sl10⟩) (c10 : PySem.W.codeIn K cd10 "_law_opener" = true) (k10 : PySem.W.keepIn K (.ref f10) = true)
    (a11 : PySem.W.nsIn K mainGlobals "_law_pieces" = some (some (.ref f11))) (l11 : K.lookup f11 = some ⟨oc11, od11, .func (PySem.W.fnOf "_law_pieces" "_law_pieces" (defArgs s_law_pieces) (defBody s_law_pieces) (defScope s_law_pieces) .none kV11 dc11 pm11 an11 cd11 ct11), sl11⟩) (c11 : PySem.W.codeIn K cd11 "_law_pieces" = true) (k11 : PySem.W.keepIn K (.ref f11) = true)
    (a12 : PySem.W.nsIn K mainGlobals "_law_piece" = some (some (.ref f12))) (l12 : K.lookup f12 = some ⟨oc12, od12, .func (PySem.W.fnOf "_law_piece" "_law_piece" (defArgs s_law_piece) (defBody s_law_piece) (defScope s_law_piece) .none kV12 dc12 pm12 an12 cd12 ct12), sl12⟩) (c12 : PySem.W.codeIn K cd12 "_law_piece" = true) (k12 : PySem.W.keepIn K (.ref f12) = true)
    (a13 : PySem.W.nsIn K mainGlobals "_law_strayed" = some (some (.ref f13))) (l13 : K.lookup f13 = some ⟨oc13, od13, .func (PySem.W.fnOf "_law_strayed" "_law_strayed" (defArgs s_law_strayed) (defBody s_law_strayed) (defScope s_law_strayed) .none kV13 dc13 pm13 an13 cd13 ct13), sl13⟩) (c13 : PySem.W.codeIn K cd13 "_law_strayed" = true) (k13 : PySem.W.keepIn K (.ref f13) = true)
    (a14 : PySem.W.nsIn K mainGlobals "_law_moved" = some (some (.ref f14))) (l14 : K.lookup f14 = some ⟨oc14, od14, .func (PySem.W.fnOf "_law_moved" "_law_moved" (defArgs s_law_moved) (defBody s_law_moved) (defScope s_law_moved) .none kV14 dc14 pm14 an14 cd14 ct14), sl14⟩) (c14 : PySem.W.codeIn K cd14 "_law_moved" = true) (k14 : PySem.W.keepIn K (.ref f14) = true)
    (a15 : PySem.W.nsIn K mainGlobals "_law_in_nest_right" = some (some (.ref f15))) (l15 : K.lookup f15 = some ⟨oc15, od15, .func (PySem.W.fnOf "_law_in_nest_right" "_law_in_nest_right" (defArgs s_law_in_nest_right) (defBody s_law_in_nest_right) (defScope s_law_in_nest_right) .none kV15 dc15 pm15 an15 cd15 ct15), sl15⟩) (c15 : PySem.W.codeIn K cd15 "_law_in_nest_right" = true) (k15 : PySem.W.keepIn K (.ref f15) = true)
    (a16 : PySem.W.nsIn K mainGlobals "_law_deep_right" = some (some (.ref f16))) (l16 : K.lookup f16 = some ⟨oc16, od16, .func (PySem.W.fnOf "_law_deep_right" "_law_deep_right" (defArgs s_law_deep_right) (defBody s_law_deep_right) (defScope s_law_deep_right) .none kV16 dc16 pm16 an16 cd16 ct16), sl16⟩) (c16 : PySem.W.codeIn K cd16 "_law_deep_right" = true) (k16 : PySem.W.keepIn K (.ref f16) = true)
    (a17 : PySem.W.nsIn K mainGlobals "law" = some (some (.ref f17))) (l17 : K.lookup f17 = some ⟨oc17, od17, .func (PySem.W.fnOf "law" "law" (defArgs s_law) (defBody s_law) (defScope s_law) .none kV17 dc17 pm17 an17 cd17 ct17), sl17⟩) (c17 : PySem.W.codeIn K cd17 "law" = true) (k17 : PySem.W.keepIn K (.ref f17) = true)
    (z_tuple : PySem.W.nsIn K mainGlobals "tuple" = some none)
    (z_len : PySem.W.nsIn K mainGlobals "len" = some none)
    (z_enumerate : PySem.W.nsIn K mainGlobals "enumerate" = some none)
    {dd_OPENERS : Option Addr} {its_OPENERS : Array Value} {n_OPENERS : Nat} {sl_OPENERS : Array (Option Value)} (g_OPENERS : PySem.W.nsIn K mainGlobals "OPENERS" = some (some (.ref p_OPENERS))) (gl_OPENERS : K.lookup p_OPENERS = some ⟨.type "tuple", dd_OPENERS, .seq its_OPENERS n_OPENERS, sl_OPENERS⟩) (gv_OPENERS : vDs its_OPENERS.toList = some [(PyData.str "if"), (PyData.str "while"), (PyData.str "block"), (PyData.str "with"), (PyData.str "helper"), (PyData.str "try")]) (gz_OPENERS : its_OPENERS.size ≤ sizeLine)
    {t_MOST_DEEP : Tok} (g_MOST_DEEP : PySem.W.nsIn K mainGlobals "MOST_DEEP" = some (some (.int 8 t_MOST_DEEP)))
    (z_all : PySem.W.nsIn K mainGlobals "all" = some none)
    (z_list : PySem.W.nsIn K mainGlobals "list" = some none)
    (z_abs : PySem.W.nsIn K mainGlobals "abs" = some none)
    (z_divmod : PySem.W.nsIn K mainGlobals "divmod" = some none)
    (z_int : PySem.W.nsIn K mainGlobals "int" = some none)
    (z_range : PySem.W.nsIn K mainGlobals "range" = some none)
    (z_min : PySem.W.nsIn K mainGlobals "min" = some none)
    (z_max : PySem.W.nsIn K mainGlobals "max" = some none)
    : ∃ fd : FuncData, (∀ (s : Shared) (u : Value), BindsTo s fd ⟨[u], []⟩ [("_law_script", u)]) ∧ ∀ base : Heap, K.In base → base.Ns mainGlobals mg → FnOk l.prog w K mg base (L2.CX l.prog w) 16 fa fd ["_law_script"] (spOf K lawS) := by
  have e := hfa.symm.trans (PySem.W.mg_of X G a17)
  cases e
  have T : Txt K mg := ⟨PySem.W.mg_none_of X G z_tuple, PySem.W.mg_none_of X G z_len, PySem.W.mg_none_of X G z_enumerate, gtup_mk X G g_OPENERS gl_OPENERS gv_OPENERS gz_OPENERS, ⟨_, PySem.W.mg_of X G g_MOST_DEEP⟩, PySem.W.mg_none_of X G z_all, PySem.W.mg_none_of X G z_list, PySem.W.mg_none_of X G z_abs, PySem.W.mg_none_of X G z_divmod, PySem.W.mg_none_of X G z_int, PySem.W.mg_none_of X G z_range, PySem.W.mg_none_of X G z_min, PySem.W.mg_none_of X G z_max⟩
  have D_goes_on : Dfd K mg "goes_on" ["words", "word"] s_goes_on := dfd_mk X G a1 l1 c1 k1 (fun _ _ _ _ _ _ us hl => match us, hl with | [_, _], _ => rfl)
  have D_closed : Dfd K mg "closed" ["frame", "last"] s_closed := dfd_mk X G a2 l2 c2 k2 (fun _ _ _ _ _ _ us hl => match us, hl with | [_, _], _ => rfl)
  have D_nodes_of : Dfd K mg "nodes_of" ["rows"] s_nodes_of := dfd_mk X G a3 l3 c3 k3 (fun _ _ _ _ _ _ us hl => match us, hl with | [_], _ => rfl)
  have D_units_in : Dfd K mg "units_in" ["nodes"] s_units_in := dfd_mk X G a4 l4 c4 k4 (fun _ _ _ _ _ _ us hl => match us, hl with | [_], _ => rfl)
  have D_are_whole : Dfd K mg "are_whole" ["nodes", "rows"] s_are_whole := dfd_mk X G a5 l5 c5 k5 (fun _ _ _ _ _ _ us hl => match us, hl with | [_, _], _ => rfl)
  have D_is_whole : Dfd K mg "is_whole" ["rows"] s_is_whole := dfd_mk X G a6 l6 c6 k6 (fun _ _ _ _ _ _ us hl => match us, hl with | [_], _ => rfl)
  have D_law_begin : Dfd K mg "_law_begin" ["_law_script"] s_law_begin := dfd_mk X G a7 l7 c7 k7 (fun _ _ _ _ _ _ us hl => match us, hl with | [_], _ => rfl)
  have D_law_take : Dfd K mg "_law_take" ["_law_draw", "_law_size"] s_law_take := dfd_mk X G a8 l8 c8 k8 (fun _ _ _ _ _ _ us hl => match us, hl with | [_, _], _ => rfl)
  have D_law_mixed_row : Dfd K mg "_law_mixed_row" ["_law_draw"] s_law_mixed_row := dfd_mk X G a9 l9 c9 k9 (fun _ _ _ _ _ _ us hl => match us, hl with | [_], _ => rfl)
  have D_law_opener : Dfd K mg "_law_opener" ["_law_draw"] s_law_opener := dfd_mk X G a10 l10 c10 k10 (fun _ _ _ _ _ _ us hl => match us, hl with | [_], _ => rfl)
  have D_law_pieces : Dfd K mg "_law_pieces" ["_law_draw", "_law_room"] s_law_pieces := dfd_mk X G a11 l11 c11 k11 (fun _ _ _ _ _ _ us hl => match us, hl with | [_, _], _ => rfl)
  have D_law_piece : Dfd K mg "_law_piece" ["_law_draw", "_law_room"] s_law_piece := dfd_mk X G a12 l12 c12 k12 (fun _ _ _ _ _ _ us hl => match us, hl with | [_, _], _ => rfl)
  have D_law_strayed : Dfd K mg "_law_strayed" ["_law_draw", "_law_piece_here"] s_law_strayed := dfd_mk X G a13 l13 c13 k13 (fun _ _ _ _ _ _ us hl => match us, hl with | [_, _], _ => rfl)
  have D_law_moved : Dfd K mg "_law_moved" ["_law_nodes", "_law_by"] s_law_moved := dfd_mk X G a14 l14 c14 k14 (fun _ _ _ _ _ _ us hl => match us, hl with | [_, _], _ => rfl)
  have D_law_in_nest_right : Dfd K mg "_law_in_nest_right" ["_law_draw"] s_law_in_nest_right := dfd_mk X G a15 l15 c15 k15 (fun _ _ _ _ _ _ us hl => match us, hl with | [_], _ => rfl)
  have D_law_deep_right : Dfd K mg "_law_deep_right" ["_law_many"] s_law_deep_right := dfd_mk X G a16 l16 c16 k16 (fun _ _ _ _ _ _ us hl => match us, hl with | [_], _ => rfl)
  refine ⟨PySem.W.fnOf "law" "law" (defArgs s_law) (defBody s_law) (defScope s_law) .none kV17 dc17 pm17 an17 cd17 ct17, fun s u => .of_eq rfl, fun base _ _ => ?_⟩
  have c_closed : Cal l.prog w K mg base 1 "closed" ["frame", "last"] S_closed := ok_closed T D_closed
  have c_goes_on : Cal l.prog w K mg base 1 "goes_on" ["words", "word"] S_goes_on := ok_goes_on T D_goes_on
  have c_nodes_of : Cal l.prog w K mg base 2 "nodes_of" ["rows"] S_nodes_of := ok_nodes_of T D_nodes_of c_closed c_goes_on
  have r_rec_law_moved := rec_law_moved (P := l.prog) (w := w) (base := base) T D_law_moved 12
  have c_law_moved : Cal l.prog w K mg base 13 "_law_moved" ["_law_nodes", "_law_by"] (S_law_moved 12) := r_rec_law_moved
  have c_law_take : Cal l.prog w K mg base 1 "_law_take" ["_law_draw", "_law_size"] S_law_take := ok_law_take T D_law_take
  have c_law_opener : Cal l.prog w K mg base 2 "_law_opener" ["_law_draw"] S_law_opener := ok_law_opener T D_law_opener c_law_take
  have c_law_mixed_row : Cal l.prog w K mg base 2 "_law_mixed_row" ["_law_draw"] S_law_mixed_row := ok_law_mixed_row T D_law_mixed_row c_law_take
  have r_rec_law_pieces := rec_law_pieces (P := l.prog) (w := w) (base := base) T D_law_pieces D_law_piece c_law_take c_law_opener c_law_mixed_row 8
  have c_law_pieces : Cal l.prog w K mg base 11 "_law_pieces" ["_law_draw", "_law_room"] (S_law_pieces 8) := r_rec_law_pieces.1
  have c_law_piece : Cal l.prog w K mg base 11 "_law_piece" ["_law_draw", "_law_room"] (S_law_piece 8) := r_rec_law_pieces.2
  have r_rec_are_whole := rec_are_whole (P := l.prog) (w := w) (base := base) T D_are_whole 12
  have c_are_whole : Cal l.prog w K mg base 13 "are_whole" ["nodes", "rows"] (S_are_whole 12) := r_rec_are_whole
  have c_is_whole : Cal l.prog w K mg base 14 "is_whole" ["rows"] S_is_whole := ok_is_whole T D_is_whole c_nodes_of c_are_whole
  have c_law_in_nest_right : Cal l.prog w K mg base 15 "_law_in_nest_right" ["_law_draw"] S_law_in_nest_right := ok_law_in_nest_right T D_law_in_nest_right c_nodes_of c_law_moved c_law_piece c_is_whole c_law_pieces
  have c_law_deep_right : Cal l.prog w K mg base 3 "_law_deep_right" ["_law_many"] S_law_deep_right := ok_law_deep_right T D_law_deep_right c_nodes_of
  have r_rec_units_in := rec_units_in (P := l.prog) (w := w) (base := base) T D_units_in 12
  have c_units_in : Cal l.prog w K mg base 13 "units_in" ["nodes"] (S_units_in 12) := r_rec_units_in
  have c_law_strayed : Cal l.prog w K mg base 12 "_law_strayed" ["_law_draw", "_law_piece_here"] S_law_strayed := ok_law_strayed T D_law_strayed c_law_take c_law_piece
  have c_law_begin : CalO l.prog w K mg base 1 "_law_begin" ["_law_script"] S_law_begin := ok_law_begin T D_law_begin
  exact ok_law T (fun_mk (st := s_law) l17 c17 k17) c_law_in_nest_right c_law_take c_law_deep_right c_is_whole c_units_in c_nodes_of c_law_moved c_law_piece c_law_strayed c_law_begin
end K34
open PySem PySem.W PyProof.Rows
set_option maxRecDepth 100000 in
set_option maxHeartbeats 0 in
theorem PySem.Challenge.cw_mender_k34_whole_nodes_by_pieces_holds : PySem.Challenge.rw_mender_k34_whole_nodes_by_pieces.Holds := by
  w_on; o_law; k_head; (case hw => w_witness2)
  k_fill
  refine PW.law_of (l := PySem.Challenge.rw_mender_k34_whole_nodes_by_pieces) (k := 16) (x := "_law_script") rfl rfl ⟨rfl, by decide, by decide⟩ (fun w h Y => PySem.W.kIn_of Y) ?F
  case F =>
    intro w mg fa h KX G hmg
    refine' K34.all_mk KX G hmg ?a1 ?l1 ?c1 ?k1 ?a2 ?l2 ?c2 ?k2 ?a3 ?l3 ?c3 ?k3 ?a4 ?l4 ?c4 ?k4 ?a5 ?l5 ?c5 ?k5 ?a6 ?l6 ?c6 ?k6 ?a7 ?l7 ?c7 ?k7 ?a8 ?l8 ?c8 ?k8 ?a9 ?l9 ?c9 ?k9 ?a10 ?l10 ?c10 ?k10 ?a11 ?l11 ?c11 ?k11 ?a12 ?l12 ?c12 ?k12 ?a13 ?l13 ?c13 ?k13 ?a14 ?l14 ?c14 ?k14 ?a15 ?l15 ?c15 ?k15 ?a16 ?l16 ?c16 ?k16 ?a17 ?l17 ?c17 ?k17 ?z_tuple ?z_len ?z_enumerate ?g_OPENERS ?gl_OPENERS ?gv_OPENERS ?gz_OPENERS ?g_MOST_DEEP ?z_all ?z_list ?z_abs ?z_divmod ?z_int ?z_range ?z_min ?z_max
    (case a1 => k_is)
    (case l1 => k_is)
    (case c1 => k_is)
    (case k1 => k_is)
    (case a2 => k_is)
    (case l2 => k_is)
    (case c2 => k_is)
    (case k2 => k_is)
    (case a3 => k_is)
    (case l3 => k_is)
    (case c3 => k_is)
    (case k3 => k_is)
    (case a4 => k_is)
    (case l4 => k_is)
    (case c4 => k_is)
    (case k4 => k_is)
    (case a5 => k_is)
    (case l5 => k_is)
    (case c5 => k_is)
    (case k5 => k_is)
    (case a6 => k_is)
    (case l6 => k_is)
    (case c6 => k_is)
    (case k6 => k_is)
    (case a7 => k_is)
    (case l7 => k_is)
    (case c7 => k_is)
    (case k7 => k_is)
    (case a8 => k_is)
    (case l8 => k_is)
    (case c8 => k_is)
    (case k8 => k_is)
    (case a9 => k_is)
    (case l9 => k_is)
    (case c9 => k_is)
    (case k9 => k_is)
    (case a10 => k_is)
    (case l10 => k_is)
    (case c10 => k_is)
    (case k10 => k_is)
    (case a11 => k_is)
    (case l11 => k_is)
    (case c11 => k_is)
    (case k11 => k_is)
    (case a12 => k_is)
    (case l12 => k_is)
    (case c12 => k_is)
    (case k12 => k_is)
    (case a13 => k_is)
    (case l13 => k_is)
    (case c13 => k_is)
    (case k13 => k_is)
    (case a14 => k_is)
    (case l14 => k_is)
    (case c14 => k_is)
    (case k14 => k_is)
    (case a15 => k_is)
    (case l15 => k_is)
    (case c15 => k_is)
    (case k15 => k_is)
    (case a16 => k_is)
    (case l16 => k_is)
    (case c16 => k_is)
    (case k16 => k_is)
    (case a17 => k_is)
    (case l17 => k_is)
    (case c17 => k_is)
    (case k17 => k_is)
    (case z_tuple => k_is)
    (case z_len => k_is)
    (case z_enumerate => k_is)
    (case g_OPENERS => k_is)
    (case gl_OPENERS => k_is)
    (case gv_OPENERS => rfl)
    (case gz_OPENERS => decide)
    (case g_MOST_DEEP => k_is)
    (case z_all => k_is)
    (case z_list => k_is)
    (case z_abs => k_is)
    (case z_divmod => k_is)
    (case z_int => k_is)
    (case z_range => k_is)
    (case z_min => k_is)
    (case z_max => k_is)
