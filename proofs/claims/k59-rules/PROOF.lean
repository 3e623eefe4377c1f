import PyProof.Rows.All
import Wide.All
import OpenK.AllK
import Wide.FinOn
import PyProof.EqAt
import PyProof.EqKinds
import PyProof.TupleCall
import HandS.ForMost
import HandS.ForExc
import HandS.Evl
import HandS.Deep
import HandS.TupAny
import HandS.IsInst
import HandS.ExcCtx
import HandS.Replace
import HandS.ReplaceLit
import PyProof.ToksMono
import HandS.Dict
import HandS.More
import HandS.SortInts
import PyProof.StrOps2
import HandS.HotCalls
import HandS.ExcIs
import HandS.ExcField
import KE.KExcIs
import HandS.WordsExc
import HandS.Zip
import HandS.SetFor
import HandS.Conv
import HandS.SortKw
import PyProof.MinMaxWalk
import HandS.Style
import HandS.Defaults
import HandS.TryOnly
import HandS.Text
import KE.IntTextLaws
import HandS.CallSlots
import KE.KIntText
import HandS.Hot
import PyProof.EnumIter
import PySem.Challenge.RW_mender_k59_rules_read
set_option Elab.async false
set_option linter.all false
set_option maxRecDepth 100000
set_option maxHeartbeats 4000000
namespace L2N
open PySem L2
theorem takes0 {X : Cx} : L2N.Takes X (fun _ _ _ _ => False) := fun _ _ x => by
  obtain ⟨_, _, _, _, _, _, _, _, _, _, _, _, _, _, _, _, z⟩ := x
  exact z.elim
theorem passL {X : Cx} : Passes (L2N.CX X.prog X.w) X E0 := fun _ _ _ _ _ _ _ h => by
  obtain ⟨_, _, _, _, _, _, _, _, _, _, _, _, z⟩ := h
  exact z.elim
end L2N
namespace PW
open PySem L2

/-- an exception: its class, its fields -/
structure XV where
  C : Addr
  fs : Option (List (Str × PyData))
/-- a value of the plain machine: data, an owned thing, the script, a tuple with owned things in it, a thing of the top, an exception, an exception's dict -/
inductive PV where
  | d (x : PyData)
  | own (n : Nat)
  | scr (ns : List Int)
  | tp (vs : List PV)
  | gl (u : V)
  | exc (x : XV)
  | xd (fs : Option (List (Str × PyData)))
  | dk (kvs : List (Key × PyData))
/-- what an owned thing holds -/
inductive OC where
  | no
  | dl (xs : List PyData)
  | di (kvs : List (Key × PyData))
  | ml (vs : List PV)
  | ob (C : Addr) (fs : List (Str × PV))
  | dm (kvs : List (Key × PV))
  | dt (kvs : List (List Key × PV))
/-- locals by slot, owned lists -/
structure PSt where
  r : List (Option PV)
  o : List OC

theorem same_new {H : Hp} {p : Addr} {o : HO} (h : H p = none) : Same H (upd H p o) := fun a u e => by
  rw [upd_ne (ne_of_none e h)]
  exact e
theorem same_rd {H H' : Hp} {a : Addr} {u : HO} (e : Same H H') (h : Rd H a u) : Rd H' a u := by
  rcases h with h | ⟨o, h⟩
  · exact Or.inl (e a _ h)
  · exact Or.inr ⟨o, e a _ h⟩
theorem same_l {K : PySem.W.Frag} {H H' : Hp} {a : Addr} {xs : List V} (e : Same H H') (h : SqL K H a xs) : SqL K H' a xs := by
  rcases h with h | h
  · exact Or.inl (same_rd e h)
  · exact Or.inr h
theorem same_t {K : PySem.W.Frag} {H H' : Hp} {a : Addr} {xs : List V} (e : Same H H') (h : SqT K H a xs) : SqT K H' a xs := by
  rcases h with h | h
  · exact Or.inl (same_rd e h)
  · exact Or.inr h
mutual
/-- data in the heap: its lists are plain tracked ones -/
inductive Dq (K : PySem.W.Frag) (H : Hp) : V → PyData → Prop
  | non : Dq K H .non .none
  | bl (b : Bool) : Dq K H (.bl b) (.bool b)
  | int (i : Int) : Dq K H (.int i) (.int i)
  | str (x : Str) : Dq K H (.str x) (.str x)
  | lst {a : Addr} {xs : List V} {ds : List PyData} : H a = some (.lst xs) → DqAll K H xs ds → Dq K H (.ref a) (.list ds)
  | tup {a : Addr} {xs : List V} {ds : List PyData} : SqT K H a xs → DqAll K H xs ds → Dq K H (.ref a) (.tuple ds)
inductive DqAll (K : PySem.W.Frag) (H : Hp) : List V → List PyData → Prop
  | nil : DqAll K H [] []
  | cons {v : V} {vs : List V} {d : PyData} {ds : List PyData} : Dq K H v d → DqAll K H vs ds → DqAll K H (v :: vs) (d :: ds)
end
mutual
theorem dq_dp {K : PySem.W.Frag} {H : Hp} : ∀ {v : V} {d : PyData}, Dq K H v d → Dp K H v d
  | _, _, .non => .non
  | _, _, .bl b => .bl b
  | _, _, .int i => .int i
  | _, _, .str x => .str x
  | _, _, .lst h t => .lst (SqL.of h) (dqAll_dp t)
  | _, _, .tup h t => .tup h (dqAll_dp t)
theorem dqAll_dp {K : PySem.W.Frag} {H : Hp} : ∀ {vs : List V} {ds : List PyData}, DqAll K H vs ds → DpAll K H vs ds
  | _, _, .nil => .nil
  | _, _, .cons h t => .cons (dq_dp h) (dqAll_dp t)
end
mutual
theorem dq_same {K : PySem.W.Frag} {H H' : Hp} (e : Same H H') : ∀ {v : V} {d : PyData}, Dq K H v d → Dq K H' v d
  | _, _, .non => .non
  | _, _, .bl b => .bl b
  | _, _, .int i => .int i
  | _, _, .str x => .str x
  | _, _, .lst h t => .lst (e _ _ h) (dqAll_same e t)
  | _, _, .tup h t => .tup (same_t e h) (dqAll_same e t)
theorem dqAll_same {K : PySem.W.Frag} {H H' : Hp} (e : Same H H') : ∀ {vs : List V} {ds : List PyData}, DqAll K H vs ds → DqAll K H' vs ds
  | _, _, .nil => .nil
  | _, _, .cons h t => .cons (dq_same e h) (dqAll_same e t)
end
theorem DqAll.len {K : PySem.W.Frag} {H : Hp} : ∀ {vs : List V} {ds : List PyData}, DqAll K H vs ds → vs.length = ds.length
  | _, _, .nil => rfl
  | _, _, .cons _ t => by rw [List.length_cons, List.length_cons, DqAll.len t]
theorem DqAll.get {K : PySem.W.Frag} {H : Hp} : ∀ {vs : List V} {ds : List PyData}, DqAll K H vs ds → ∀ (i : Nat) v, vs[i]? = some v → ∃ d, ds[i]? = some d ∧ Dq K H v d
  | _, _, .nil, _, _, h => by simp at h
  | _, _, .cons h t, 0, v, e => by
    have e' : _ = v := Option.some.inj e
    subst e'
    exact ⟨_, rfl, h⟩
  | _, _, .cons h t, i + 1, v, e => DqAll.get t i v e
theorem DqAll.getd {K : PySem.W.Frag} {H : Hp} : ∀ {vs : List V} {ds : List PyData}, DqAll K H vs ds → ∀ (i : Nat) d, ds[i]? = some d → ∃ v, vs[i]? = some v ∧ Dq K H v d
  | _, _, .nil, _, _, h => by simp at h
  | _, _, .cons h t, 0, v, e => by
    have e' : _ = v := Option.some.inj e
    subst e'
    exact ⟨_, rfl, h⟩
  | _, _, .cons h t, i + 1, v, e => DqAll.getd t i v e
theorem DqAll.app {K : PySem.W.Frag} {H : Hp} : ∀ {vs ws : List V} {ds es : List PyData}, DqAll K H vs ds → DqAll K H ws es → DqAll K H (vs ++ ws) (ds ++ es)
  | _, _, _, _, .nil, h => h
  | _, _, _, _, .cons h t, q => .cons h (DqAll.app t q)
theorem DqAll.take {K : PySem.W.Frag} {H : Hp} : ∀ {vs : List V} {ds : List PyData} (n : Nat), DqAll K H vs ds → DqAll K H (vs.take n) (ds.take n)
  | _, _, 0, _ => by rw [List.take_zero, List.take_zero]; exact .nil
  | _, _, _ + 1, .nil => by rw [List.take_nil, List.take_nil]; exact .nil
  | _, _, n + 1, .cons h t => by rw [List.take_succ_cons, List.take_succ_cons]; exact .cons h (DqAll.take n t)
theorem DqAll.drop {K : PySem.W.Frag} {H : Hp} : ∀ {vs : List V} {ds : List PyData} (n : Nat), DqAll K H vs ds → DqAll K H (vs.drop n) (ds.drop n)
  | _, _, 0, h => h
  | _, _, _ + 1, .nil => .nil
  | _, _, n + 1, .cons h t => DqAll.drop n t
theorem DqAll.set {K : PySem.W.Frag} {H : Hp} : ∀ {vs : List V} {ds : List PyData} (n : Nat) {v : V} {d : PyData}, DqAll K H vs ds → Dq K H v d → DqAll K H (vs.set n v) (ds.set n d)
  | _, _, _, _, _, .nil, _ => .nil
  | _, _, 0, _, _, .cons h t, q => .cons q t
  | _, _, n + 1, _, _, .cons h t, q => .cons h (DqAll.set n t q)

/-- the frozen part F of the heap H -/
structure Fz (H0 F0 H F : Hp) : Prop where
  f : Same F0 F
  g : Same F H
  h : Same H0 H
  n : ∀ p, H0 p ≠ none → F0 p = none → F p = none

def dV : Option Addr → V
  | none => .non
  | some a => .ref a
/-- the fields of an exception -/
def XdOk (K : PySem.W.Frag) (H : Hp) (d : Option Addr) : Option (List (Str × PyData)) → Prop
  | none => d = none
  | some l => ∃ a vl, d = some a ∧ H a = some (.xd vl) ∧ vl.map (·.1) = l.map (·.1) ∧ DqAll K H (vl.map (·.2)) (l.map (·.2))
theorem XdOk.same {K : PySem.W.Frag} {H H' : Hp} (e : Same H H') {d : Option Addr} {l : Option (List (Str × PyData))} (h : XdOk K H d l) : XdOk K H' d l := by
  cases l with
  | none => exact h
  | some l =>
    obtain ⟨a, vl, h1, h2, h3, h4⟩ := h
    exact ⟨a, vl, h1, e _ _ h2, h3, dqAll_same e h4⟩
mutual
def PVOk (K : PySem.W.Frag) (F : Hp) (A : List Addr) : PV → V → Prop
  | .d x, v => Dq K F v x
  | .scr ns, v => ∃ a, v = .ref a ∧ SqL K F a (ns.map V.int)
  | .own n, v => ∃ p, A[n]? = some p ∧ v = .ref p
  | .tp ps, v => ∃ a us, v = .ref a ∧ SqT K F a us ∧ PVAll K F A ps us
  | .gl u, v => v = u
  | .exc x, v => ∃ a oe d, v = .ref a ∧ F a = some (.ext fun h => h.get? a = some oe) ∧ L2N.Zn (.ref x.C) d oe ∧ (∃ vs, oe.data = .fields vs) ∧ XdOk K F d x.fs
  | .xd fs, v => ∃ d, v = dV d ∧ XdOk K F d fs
  | .dk kvs, v => ∃ a vs, v = .ref a ∧ F a = some (.dK vs) ∧ vs.map (·.1) = kvs.map (·.1) ∧ DqAll K F (vs.map (·.2)) (kvs.map (·.2))
def PVAll (K : PySem.W.Frag) (F : Hp) (A : List Addr) : List PV → List V → Prop
  | [], [] => True
  | p :: ps, v :: vs => PVOk K F A p v ∧ PVAll K F A ps vs
  | [], _ :: _ => False
  | _ :: _, [] => False
end
def OCOk (K : PySem.W.Frag) (F H : Hp) (A : List Addr) (p : Addr) : OC → Prop
  | .no => True
  | .dl xs => F p = none ∧ ∃ vs, H p = some (.lst vs) ∧ DqAll K F vs xs
  | .di kvs => F p = none ∧ ∃ vs : List (Key × V), H p = some (.dK vs) ∧ vs.map (·.1) = kvs.map (·.1) ∧ DqAll K F (vs.map (·.2)) (kvs.map (·.2))
  | .ml ps => F p = none ∧ ∃ vs, H p = some (.lst vs) ∧ PVAll K F A ps vs
  | .ob C fs => F p = none ∧ ∃ dx vs, H p = some (.ins C dx vs) ∧ vs.map (·.1) = fs.map (·.1) ∧ PVAll K F A (fs.map (·.2)) (vs.map (·.2))
  | .dm kvs => F p = none ∧ ∃ vs, H p = some (.dK vs) ∧ vs.map (·.1) = kvs.map (·.1) ∧ PVAll K F A (kvs.map (·.2)) (vs.map (·.2))
  | .dt kvs => F p = none ∧ ∃ vs, H p = some (.dT vs) ∧ vs.map (·.1) = kvs.map (·.1) ∧ PVAll K F A (kvs.map (·.2)) (vs.map (·.2))

mutual
theorem PVOk.mono {K : PySem.W.Frag} {F F' : Hp} {A A' : List Addr} (e : Same F F') (a : A <+: A') : ∀ {v : PV} {u : V}, PVOk K F A v u → PVOk K F' A' v u
  | .d x, u, h => dq_same e h
  | .scr ns, u, ⟨p, h, q⟩ => ⟨p, h, same_l e q⟩
  | .own n, u, ⟨p, h, q⟩ => ⟨p, by
      obtain ⟨t, rfl⟩ := a
      rw [List.getElem?_append_left (List.getElem?_eq_some_iff.mp h).1]
      exact h, q⟩
  | .tp ps, u, ⟨p, us, h, q, r⟩ => ⟨p, us, h, same_t e q, PVAll.mono e a r⟩
  | .gl x, u, h => h
  | .exc x, u, ⟨p, oe, d, h1, h2, h3, h4, h5⟩ => ⟨p, oe, d, h1, e _ _ h2, h3, h4, h5.same e⟩
  | .xd fs, u, ⟨d, h1, h2⟩ => ⟨d, h1, h2.same e⟩
  | .dk _, u, ⟨p, vs, h1, h2, h3, h4⟩ => ⟨p, vs, h1, e _ _ h2, h3, dqAll_same e h4⟩
theorem PVAll.mono {K : PySem.W.Frag} {F F' : Hp} {A A' : List Addr} (e : Same F F') (a : A <+: A') : ∀ {ps : List PV} {us : List V}, PVAll K F A ps us → PVAll K F' A' ps us
  | [], [], h => h
  | _ :: _, _ :: _, ⟨h, r⟩ => ⟨PVOk.mono e a h, PVAll.mono e a r⟩
  | [], _ :: _, h => h.elim
  | _ :: _, [], h => h.elim
end
theorem OCOk.mono {K : PySem.W.Frag} {F F' H H' : Hp} {A A' : List Addr} {p : Addr} (e : Same F F') (a : A <+: A') (f : F p = none → F' p = none) (h : ∀ o, H p = some o → H' p = some o) : ∀ {c : OC}, OCOk K F H A p c → OCOk K F' H' A' p c
  | .no, _ => True.intro
  | .dl _, ⟨x, vs, y, z⟩ => ⟨f x, vs, h _ y, dqAll_same e z⟩
  | .di _, ⟨x, vs, y, k, z⟩ => ⟨f x, vs, h _ y, k, dqAll_same e z⟩
  | .ml _, ⟨x, vs, y, z⟩ => ⟨f x, vs, h _ y, PVAll.mono e a z⟩
  | .ob _ _, ⟨x, dx, vs, y, k, z⟩ => ⟨f x, dx, vs, h _ y, k, PVAll.mono e a z⟩
  | .dm _, ⟨x, vs, y, k, z⟩ => ⟨f x, vs, h _ y, k, PVAll.mono e a z⟩
  | .dt _, ⟨x, vs, y, k, z⟩ => ⟨f x, vs, h _ y, k, PVAll.mono e a z⟩
structure WdF (K : PySem.W.Frag) (H0 F0 : Hp) (A0 : List Addr) (s : PSt) (σ : St) (T : List (PV × V)) (H F : Hp) (A : List Addr) : Prop where
  fz : Fz H0 F0 H F
  pre : A0 <+: A
  len : A.length = s.o.length
  nd : A.Nodup
  ad : ∀ p ∈ A, H0 p = none ∧ H p ≠ none
  oc : ∀ (n : Nat) p c, A[n]? = some p → s.o[n]? = some c → OCOk K F H A p c
  sl : s.r.length = σ.length
  pv : ∀ (i : Nat) v, s.r[i]? = some (some v) → ∃ u, σ[i]? = some (some u) ∧ PVOk K F A v u
  tm : ∀ t ∈ T, PVOk K F A t.1 t.2
def Wd (K : PySem.W.Frag) (H0 F0 : Hp) (A0 : List Addr) (s : PSt) (σ : St) (T : List (PV × V)) (H : Hp) : Prop := ∃ F A, WdF K H0 F0 A0 s σ T H F A

section
variable {K : PySem.W.Frag} {H0 F0 : Hp} {A0 : List Addr} {s : PSt} {σ : St} {T : List (PV × V)} {H F : Hp} {A : List Addr}
theorem nodup_ne {A : List Addr} (h : A.Nodup) {m n : Nat} {p q : Addr} (h1 : A[m]? = some q) (h2 : A[n]? = some p) (hm : m ≠ n) : q ≠ p := fun e => by
  subst e
  obtain ⟨l1, e1⟩ := List.getElem?_eq_some_iff.mp h1
  obtain ⟨l2, e2⟩ := List.getElem?_eq_some_iff.mp h2
  exact hm ((List.getElem_inj h).mp (e1.trans e2.symm))
/-- more is frozen, at places that aren't owned or new -/
theorem WdF.more {F' H' : Hp} (w : WdF K H0 F0 A0 s σ T H F A) (e : Same F F') (g : Same F' H') (h : ∀ a, H0 a ≠ none → H' a = H a) (hA : ∀ p ∈ A, F' p = F p ∧ H' p = H p) (nF : ∀ p, H0 p ≠ none → F' p = F p) : WdF K H0 F0 A0 s σ T H' F' A where
  fz := ⟨w.fz.f.trans e, g, fun a u z => (h a (by rw [z]; exact fun z => nomatch z)).trans (w.fz.h a u z), fun p h1 h2 => (nF p h1).trans (w.fz.n p h1 h2)⟩
  pre := w.pre
  len := w.len
  nd := w.nd
  ad := fun q hq => ⟨(w.ad q hq).1, by rw [(hA q hq).2]; exact (w.ad q hq).2⟩
  oc := fun n q c h1 h2 => (w.oc n q c h1 h2).mono e (List.prefix_refl _) (fun z => (hA q (List.mem_of_getElem? h1)).1.trans z) fun o z => (hA q (List.mem_of_getElem? h1)).2.trans z
  sl := w.sl
  pv := fun i v h => by
    obtain ⟨u, a, b⟩ := w.pv i v h
    exact ⟨u, a, b.mono e (List.prefix_refl _)⟩
  tm := fun t ht => (w.tm t ht).mono e (List.prefix_refl _)
/-- a new object that is frozen at once: a tuple, a list -/
theorem WdF.newD {p : Addr} {o : HO} (w : WdF K H0 F0 A0 s σ T H F A) (hp : H p = none) : WdF K H0 F0 A0 s σ T (upd H p o) (upd F p o) A := by
  have fp : F p = none := w.fz.g.free hp
  have h0 : H0 p = none := w.fz.h.free hp
  refine w.more (same_new fp) (fun a u e => ?_) (fun a ha => upd_ne fun z => ha (z ▸ h0)) (fun q hq => ?_) (fun q hq => upd_ne fun z => hq (z ▸ h0))
  · by_cases h : a = p
    · subst h; rw [upd_same] at e ⊢; exact e
    · rw [upd_ne h] at e ⊢; exact w.fz.g a u e
  · have ne : q ≠ p := fun z => (w.ad q hq).2 (z ▸ hp)
    exact ⟨upd_ne ne, upd_ne ne⟩

theorem WdF.tms {T' : List (PV × V)} (w : WdF K H0 F0 A0 s σ T H F A) (h : ∀ t ∈ T', PVOk K F A t.1 t.2) : WdF K H0 F0 A0 s σ T' H F A := { w with tm := h }
theorem WdF.push {v : PV} {u : V} (w : WdF K H0 F0 A0 s σ T H F A) (h : PVOk K F A v u) : WdF K H0 F0 A0 s σ ((v, u) :: T) H F A := w.tms fun t ht => by
  rcases List.mem_cons.mp ht with e | ht
  · rw [e]; exact h
  · exact w.tm t ht
theorem WdF.sub {T' : List (PV × V)} (w : WdF K H0 F0 A0 s σ T H F A) (h : ∀ t ∈ T', t ∈ T) : WdF K H0 F0 A0 s σ T' H F A := { w with tm := fun t ht => w.tm t (h t ht) }

/-- a new thing that is owned -/
theorem WdF.newO {p : Addr} {o : HO} {c : OC} (w : WdF K H0 F0 A0 s σ T H F A) (hp : H p = none) (hv : F p = none → OCOk K F (upd H p o) (A ++ [p]) p c) : WdF K H0 F0 A0 ⟨s.r, s.o ++ [c]⟩ σ T (upd H p o) F (A ++ [p]) where
  fz := ⟨w.fz.f, w.fz.g.trans (same_new hp), w.fz.h.trans (same_new hp), w.fz.n⟩
  pre := w.pre.trans (List.prefix_append _ _)
  len := by rw [List.length_append, List.length_append, w.len]; rfl
  nd := by
    rw [List.nodup_append]
    refine ⟨w.nd, by simp, fun a ha b hb => ?_⟩
    have e : b = p := by simpa using hb
    subst e
    rintro rfl
    exact (w.ad _ ha).2 hp
  ad := fun q hq => by
    rcases List.mem_append.mp hq with h1 | h1
    · have hne : q ≠ p := fun e => (w.ad q h1).2 (e ▸ hp)
      exact ⟨(w.ad q h1).1, by rw [upd_ne hne]; exact (w.ad q h1).2⟩
    · have e : q = p := by simpa using h1
      rw [e]
      refine ⟨?_, by rw [upd_same]; exact fun z => nomatch z⟩
      exact w.fz.h.free hp
  oc := fun n q c' h1 h2 => by
    have fp : F p = none := w.fz.g.free hp
    rcases Nat.lt_trichotomy n A.length with hn | hn | hn
    · rw [List.getElem?_append_left hn] at h1
      rw [List.getElem?_append_left (by rw [← w.len]; exact hn)] at h2
      have hne : q ≠ p := fun e => by subst e; exact (w.ad q (List.mem_of_getElem? h1)).2 hp
      exact (w.oc n q c' h1 h2).mono (Same.refl _) (List.prefix_append _ _) id fun o z => (upd_ne hne).trans z
    · subst hn
      rw [List.getElem?_append_right (Nat.le_refl _), Nat.sub_self] at h1
      rw [List.getElem?_append_right (by rw [w.len]; exact Nat.le_refl _), w.len, Nat.sub_self] at h2
      cases h1
      cases h2
      exact hv fp
    · rw [List.getElem?_eq_none (by rw [List.length_append]; show A.length + 1 ≤ n; omega)] at h1
      cases h1
  sl := w.sl
  pv := fun i v h => by
    obtain ⟨u, a, b⟩ := w.pv i v h
    exact ⟨u, a, b.mono (Same.refl _) (List.prefix_append _ _)⟩
  tm := fun t ht => (w.tm t ht).mono (Same.refl _) (List.prefix_append _ _)
theorem WdF.newL {p : Addr} {vs : List V} {xs : List PyData} (w : WdF K H0 F0 A0 s σ T H F A) (hp : H p = none) (hv : DqAll K F vs xs) : WdF K H0 F0 A0 ⟨s.r, s.o ++ [.dl xs]⟩ σ T (upd H p (.lst vs)) F (A ++ [p]) :=
  w.newO hp fun fp => ⟨fp, vs, upd_same, hv⟩

/-- an owned thing is written -/
theorem WdF.wrO {n : Nat} {p : Addr} {o : HO} {c : OC} (w : WdF K H0 F0 A0 s σ T H F A) (hp : A[n]? = some p) (fp : F p = none) (hl : n < s.o.length) (hv : OCOk K F (upd H p o) A p c) : WdF K H0 F0 A0 ⟨s.r, s.o.set n c⟩ σ T (upd H p o) F A where
  fz := by
    refine ⟨w.fz.f, fun a u e => ?_, fun a u e => ?_, w.fz.n⟩
    · rw [upd_ne (ne_of_none e fp)]
      exact w.fz.g a u e
    · rw [upd_ne (ne_of_none e (w.ad p (List.mem_of_getElem? hp)).1)]
      exact w.fz.h a u e
  pre := w.pre
  len := by rw [List.length_set]; exact w.len
  nd := w.nd
  ad := fun q hq => ⟨(w.ad q hq).1, fun z => by
    by_cases e : q = p
    · subst e; rw [upd_same] at z; cases z
    · rw [upd_ne e] at z; exact (w.ad q hq).2 z⟩
  oc := fun m q c' h1 h2 => by
    by_cases hm : m = n
    · subst hm
      rw [hp] at h1
      cases h1
      rw [List.getElem?_set_self hl] at h2
      cases h2
      exact hv
    · rw [List.getElem?_set_ne (Ne.symm hm)] at h2
      have hne : q ≠ p := nodup_ne w.nd h1 hp hm
      exact (w.oc m q c' h1 h2).mono (Same.refl _) (List.prefix_refl _) id fun o z => (upd_ne hne).trans z
  sl := w.sl
  pv := w.pv
  tm := w.tm
theorem WdF.wr {n : Nat} {p : Addr} {vs : List V} {xs ys : List PyData} (w : WdF K H0 F0 A0 s σ T H F A) (hp : A[n]? = some p) (ho : s.o[n]? = some (.dl xs)) (hv : DqAll K F vs ys) : WdF K H0 F0 A0 ⟨s.r, s.o.set n (.dl ys)⟩ σ T (upd H p (.lst vs)) F A := by
  obtain ⟨fp, _⟩ := w.oc n p _ hp ho
  exact w.wrO hp fp (List.getElem?_eq_some_iff.mp ho).1 ⟨fp, vs, upd_same, hv⟩

/-- a slot is stored -/
theorem WdF.st {i : Nat} {v : PV} {u : V} (w : WdF K H0 F0 A0 s σ T H F A) (h : PVOk K F A v u) : WdF K H0 F0 A0 ⟨s.r.set i (some v), s.o⟩ (σ.set i (some u)) T H F A :=
  { w with
    len := w.len
    oc := w.oc
    sl := by rw [List.length_set, List.length_set]; exact w.sl
    pv := fun j x e => by
      by_cases hj : j = i
      · subst hj
        by_cases hl : j < s.r.length
        · rw [List.getElem?_set_self hl] at e
          cases e
          exact ⟨u, by rw [List.getElem?_set_self (by rw [← w.sl]; exact hl)], h⟩
        · rw [List.getElem?_eq_none (by rw [List.length_set]; omega)] at e
          cases e
      · rw [List.getElem?_set_ne (Ne.symm hj)] at e
        obtain ⟨y, a, b⟩ := w.pv j x e
        exact ⟨y, by rw [List.getElem?_set_ne (Ne.symm hj)]; exact a, b⟩ }
end
end PW
namespace PW
open PySem L2

/-! ### from the hand layer's readings to the plain machine's -/
theorem PE.imp {X : Cx} {e : Expr} {t t' : TE} (h : PE X e t) (i : ∀ σ H Q, t' σ H Q → t σ H Q) : PE X e t' := ⟨fun pins s σ H Q I q => h.run pins s σ H Q I (i σ H Q q)⟩
theorem PT.imp {X : Cx} {e : Expr} {t t' : TT} (h : PT X e t) (i : ∀ σ H Q, t' σ H Q → t σ H Q) : PT X e t' := ⟨fun pins s σ H Q I q => h.run pins s σ H Q I (i σ H Q q)⟩
theorem PTs.imp {X : Cx} {es : List Expr} {t t' : TT} (h : PTs X es t) (i : ∀ σ H Q, t' σ H Q → t σ H Q) : PTs X es t' := ⟨fun pins s σ H Q I q => h.run pins s σ H Q I (i σ H Q q)⟩
theorem PWi.imp {X : Cx} {e : Expr} {t t' : TT} (h : L2.PW X e t) (i : ∀ σ H Q, t' σ H Q → t σ H Q) : L2.PW X e t' := ⟨fun w pins s σ H Q I q => h.run w pins s σ H Q I (i σ H Q q)⟩
theorem PA.imp {X : Cx} {es : List Expr} {t t' : TA} (h : PA X es t) (i : ∀ σ H Q, t' σ H Q → t σ H Q) : PA X es t' := ⟨fun p pins s σ H Q I q => h.run p pins s σ H Q I (i σ H Q q)⟩
theorem PO.imp {X : Cx} {e : Option Expr} {t t' : TO} (h : PO X e t) (i : ∀ σ H Q, t' σ H Q → t σ H Q) : PO X e t' := ⟨fun pins s σ H Q I q => h.run pins s σ H Q I (i σ H Q q)⟩
theorem PS.imp {X : Cx} {st : Stmt} {t t' : TS} (h : PS X st t) (i : ∀ D σ H, t' D σ H → t D σ H) : PS X st t' := ⟨fun pins s σ H D I q => h.run pins s σ H D I (i D σ H q)⟩
theorem PSs.imp {X : Cx} {st : List Stmt} {t t' : TS} (h : PSs X st t) (i : ∀ D σ H, t' D σ H → t D σ H) : PSs X st t' := ⟨fun pins s σ H D I q => h.run pins s σ H D I (i D σ H q)⟩
theorem PG.imp {X : Cx} {e : Expr} {t t' : TG} (h : PG X e t) (i : ∀ v σ H Q, t' v σ H Q → t v σ H Q) : PG X e t' := ⟨fun pins s σ H v u Q I r q => h.run pins s σ H v u Q I r (i v σ H Q q)⟩
theorem PI.imp {X : Cx} {tg e : Expr} {t t' : TI} (h : PI X tg e t) (i : ∀ σ H R, t' σ H R → t σ H R) : PI X tg e t' := ⟨fun pins s σ H R I q => h.run pins s σ H R I (i σ H R q)⟩

abbrev KX := XV → PSt → Prop
abbrev EW := KX → PSt → (PV → PSt → Prop) → Prop
abbrev TW := KX → PSt → (Bool → PSt → Prop) → Prop
abbrev AW := KX → PSt → (List PV → PSt → Prop) → Prop
abbrev OW := KX → PSt → (Option Int → PSt → Prop) → Prop
/-- a list that is walked as it is owned: it has to stay -/
abbrev SrcO := Option (Nat × List PyData)
def Src (c : SrcO) (s : PSt) : Prop := match c with
  | none => True
  | some (n, xs) => s.o[n]? = some (.dl xs)
abbrev IW := KX → PSt → (List PyData → SrcO → PSt → Prop) → Prop
abbrev GW := PyData → PSt → (PSt → Prop) → Prop
structure PEnds where
  nx : PSt → Prop
  rt : PV → PSt → Prop
  bk : PSt → Prop := fun _ => False
  ct : PSt → Prop := fun _ => False
abbrev SW := KX → PSt → PEnds → Prop

/-- what is wanted of exceptions -/
def XL (K : PySem.W.Frag) (H0 F0 : Hp) (A0 : List Addr) (T : List (PV × V)) (W : WX) (kx : KX) : Prop :=
  ∀ x s', kx x s' → ∀ σ' H' d, Wd K H0 F0 A0 s' σ' ((.xd x.fs, dV d) :: T) H' → W (.ref x.C) d σ' H'
theorem Wd.sub {K : PySem.W.Frag} {H0 F0 : Hp} {A0 : List Addr} {s : PSt} {σ : St} {T T' : List (PV × V)} {H : Hp} (w : Wd K H0 F0 A0 s σ T H) (h : ∀ t ∈ T', t ∈ T) : Wd K H0 F0 A0 s σ T' H := by
  obtain ⟨F, A, w⟩ := w
  exact ⟨F, A, w.sub h⟩
theorem Wd.pop {K : PySem.W.Frag} {H0 F0 : Hp} {A0 : List Addr} {s : PSt} {σ : St} {t : PV × V} {T : List (PV × V)} {H : Hp} (w : Wd K H0 F0 A0 s σ (t :: T) H) : Wd K H0 F0 A0 s σ T H := w.sub fun _ h => List.mem_cons_of_mem _ h
theorem XL.more {K : PySem.W.Frag} {H0 F0 : Hp} {A0 : List Addr} {T T' : List (PV × V)} {W : WX} {kx : KX} (h : XL K H0 F0 A0 T W kx) (m : ∀ t ∈ T, t ∈ T') : XL K H0 F0 A0 T' W kx := fun x s' q σ' H' d w => h x s' q σ' H' d (w.sub fun t ht => by
  rcases List.mem_cons.mp ht with z | z
  · rw [z]; exact List.mem_cons_self
  · exact List.mem_cons_of_mem _ (m t z))
theorem XL.push {K : PySem.W.Frag} {H0 F0 : Hp} {A0 : List Addr} {T : List (PV × V)} {t : PV × V} {W : WX} {kx : KX} (h : XL K H0 F0 A0 T W kx) : XL K H0 F0 A0 (t :: T) W kx := h.more fun _ m => List.mem_cons_of_mem _ m

/-- an expression, a test, arguments, a slice's end, what is walked, a target, a statement -/
def tE (K : PySem.W.Frag) (W : WX) (w : EW) : TE := fun σ H Q => ∃ H0 F0 A0 s T kx k, Wd K H0 F0 A0 s σ T H ∧ XL K H0 F0 A0 T W kx ∧ w kx s k ∧ ∀ v s', k v s' → ∀ u H', Wd K H0 F0 A0 s' σ ((v, u) :: T) H' → Q u H'
def tT (K : PySem.W.Frag) (W : WX) (w : TW) : TT := fun σ H Q => ∃ H0 F0 A0 s T kx k, Wd K H0 F0 A0 s σ T H ∧ XL K H0 F0 A0 T W kx ∧ w kx s k ∧ ∀ b s', k b s' → ∀ H', Wd K H0 F0 A0 s' σ T H' → Q b H'
def tA (K : PySem.W.Frag) (W : WX) (w : AW) : TA := fun σ H Q => ∃ H0 F0 A0 s T kx k, Wd K H0 F0 A0 s σ T H ∧ XL K H0 F0 A0 T W kx ∧ w kx s k ∧ ∀ vs s', k vs s' → ∀ us H', us.length = vs.length → Wd K H0 F0 A0 s' σ (vs.zip us ++ T) H' → Q us H'
def tO (K : PySem.W.Frag) (W : WX) (w : OW) : TO := fun σ H Q => ∃ H0 F0 A0 s T kx k, Wd K H0 F0 A0 s σ T H ∧ XL K H0 F0 A0 T W kx ∧ w kx s k ∧ ∀ o s', k o s' → ∀ H', Wd K H0 F0 A0 s' σ T H' → Q o H'
/-- J yields these data as long as T1 stands -/
def ItOk (K : PySem.W.Frag) (J : It) (T1 : List (PV × V)) (c : SrcO) (xs : List PyData) : Prop :=
  ∀ (H0 F0 : Hp) (A0 : List Addr) (s : PSt) (σ : St) (T : List (PV × V)) (H F : Hp) (A : List Addr), WdF K H0 F0 A0 s σ T H F A → (∀ t ∈ T1, t ∈ T) → Src c s → ∀ i, (i < xs.length → J.go i H) ∧ (xs.length ≤ i → J.stop i H) ∧
    (i < xs.length → ∀ x H', J.yld i H x H' → ∃ d, xs[i]? = some d ∧ ∃ F', WdF K H0 F0 A0 s σ ((.d d, x) :: T) H' F' A)
def tI (K : PySem.W.Frag) (W : WX) (w : IW) : TI := fun σ H R => ∃ H0 F0 A0 s T kx k, Wd K H0 F0 A0 s σ T H ∧ XL K H0 F0 A0 T W kx ∧ w kx s k ∧ ∀ xs c s', k xs c s' → ∀ J T1 H', Wd K H0 F0 A0 s' σ (T1 ++ T) H' → ItOk K J T1 c xs → R J H'
def OutL (L : List Nat) (σ σ' : St) : Prop := σ'.length = σ.length ∧ ∀ j, j ∉ L → σ'[j]? = σ[j]?
def tG (K : PySem.W.Frag) (L : List Nat) (g : GW) : TG := fun v σ H Q => ∃ H0 F0 A0 s T x k, Wd K H0 F0 A0 s σ T H ∧ (PV.d x, v) ∈ T ∧ g x s k ∧ ∀ s', k s' → ∀ σ' H', OutL L σ σ' → Wd K H0 F0 A0 s' σ' T H' → Q σ' H'
def tS (K : PySem.W.Frag) (W : WX) (w : SW) : TS := fun D σ H => ∃ H0 F0 A0 s T kx k, Wd K H0 F0 A0 s σ T H ∧ XL K H0 F0 A0 T W kx ∧ w kx s k ∧ (∀ s', k.nx s' → ∀ σ' H', Wd K H0 F0 A0 s' σ' T H' → D.nx σ' H') ∧
  (∀ v s', k.rt v s' → ∀ u σ' H', Wd K H0 F0 A0 s' σ' ((v, u) :: T) H' → D.rt u H') ∧ (∀ s', k.bk s' → ∀ σ' H', Wd K H0 F0 A0 s' σ' T H' → D.bk σ' H') ∧ (∀ s', k.ct s' → ∀ σ' H', Wd K H0 F0 A0 s' σ' T H' → D.ct σ' H')

/-- the data that a value stands for now -/
def ocD : Option OC → Option PyData
  | some (.dl xs) => some (.list xs)
  | _ => none
def dat (s : PSt) : PV → Option PyData
  | .d x => some x
  | .own n => ocD s.o[n]?
  | .scr ns => some (.list (ns.map PyData.int))
  | _ => none
/-- .. where it isn't the script -/
def datq (s : PSt) : PV → Option PyData
  | .d x => some x
  | .own n => ocD s.o[n]?
  | _ => none
theorem datq_ok {K : PySem.W.Frag} {H0 F0 : Hp} {A0 : List Addr} {s : PSt} {σ : St} {T : List (PV × V)} {H F : Hp} {A : List Addr} {v : PV} {u : V} {x : PyData} (w : WdF K H0 F0 A0 s σ T H F A) (p : PVOk K F A v u) (e : datq s v = some x) : Dq K H u x := by
  cases v with
  | d y =>
    cases e
    exact dq_same w.fz.g p
  | scr ns => cases e
  | tp ps => cases e
  | gl g => cases e
  | exc y => cases e
  | xd y => cases e
  | dk y => cases e
  | own n =>
    obtain ⟨q, hq, rfl⟩ := p
    have e : ocD s.o[n]? = some x := e
    cases ho : s.o[n]? with
    | none => rw [ho] at e; cases e
    | some c =>
      rw [ho] at e
      cases c with
      | no => cases e
      | dl xs =>
        cases e
        obtain ⟨_, vs, h1, h2⟩ := w.oc n q _ hq ho
        exact .lst h1 (dqAll_same w.fz.g h2)
      | di kvs => cases e
      | ml ps => cases e
      | ob _ _ => cases e
      | dm _ => cases e
      | dt _ => cases e
theorem ints_dp {K : PySem.W.Frag} {H : Hp} : ∀ ns : List Int, DpAll K H (ns.map V.int) (ns.map PyData.int)
  | [] => .nil
  | n :: r => .cons (.int n) (ints_dp r)
theorem ints_dq {K : PySem.W.Frag} {H : Hp} : ∀ ns : List Int, DqAll K H (ns.map V.int) (ns.map PyData.int)
  | [] => .nil
  | n :: r => .cons (.int n) (ints_dq r)
theorem dat_ok {K : PySem.W.Frag} {H0 F0 : Hp} {A0 : List Addr} {s : PSt} {σ : St} {T : List (PV × V)} {H F : Hp} {A : List Addr} {v : PV} {u : V} {x : PyData} (w : WdF K H0 F0 A0 s σ T H F A) (p : PVOk K F A v u) (e : dat s v = some x) : Dp K H u x := by
  cases v with
  | d y => exact dq_dp (datq_ok w p e)
  | own n => exact dq_dp (datq_ok w p e)
  | tp ps => cases e
  | gl g => cases e
  | exc y => cases e
  | xd y => cases e
  | dk y => cases e
  | scr ns =>
    cases e
    obtain ⟨a, rfl, h⟩ := p
    exact .lst (same_l w.fz.g h) (ints_dp ns)
/-- what is in a list or tuple is frozen data -/
theorem items_ok {K : PySem.W.Frag} {H0 F0 : Hp} {A0 : List Addr} {s : PSt} {σ : St} {T : List (PV × V)} {H F : Hp} {A : List Addr} {v : PV} {u : V} {xs : List PyData} (w : WdF K H0 F0 A0 s σ T H F A) (p : PVOk K F A v u) (e : dat s v = some (.list xs)) :
    ∃ a vs, u = .ref a ∧ SqL K H a vs ∧ DqAll K F vs xs := by
  cases v with
  | d y =>
    cases e
    cases p with
    | lst h t => exact ⟨_, _, rfl, SqL.of (w.fz.g _ _ h), t⟩
  | scr ns =>
    have e : some (PyData.list (ns.map PyData.int)) = some (.list xs) := e
    injection e with e
    injection e with e
    subst e
    obtain ⟨a, rfl, h⟩ := p
    exact ⟨a, _, rfl, same_l w.fz.g h, ints_dq ns⟩
  | tp ps => cases e
  | gl g => cases e
  | exc y => cases e
  | xd y => cases e
  | dk y => cases e
  | own n =>
    obtain ⟨q, hq, rfl⟩ := p
    have e : ocD s.o[n]? = some (.list xs) := e
    cases ho : s.o[n]? with
    | none => rw [ho] at e; cases e
    | some c =>
      rw [ho] at e
      cases c with
      | no => cases e
      | dl ys =>
        cases e
        obtain ⟨_, vs, h1, h2⟩ := w.oc n q _ hq ho
        exact ⟨_, _, rfl, SqL.of h1, h2⟩
      | di kvs => cases e
      | ml ps => cases e
      | ob _ _ => cases e
      | dm _ => cases e
      | dt _ => cases e
theorem itemsT_ok {K : PySem.W.Frag} {H0 F0 : Hp} {A0 : List Addr} {s : PSt} {σ : St} {T : List (PV × V)} {H F : Hp} {A : List Addr} {v : PV} {u : V} {xs : List PyData} (w : WdF K H0 F0 A0 s σ T H F A) (p : PVOk K F A v u) (e : dat s v = some (.tuple xs)) :
    ∃ a vs, u = .ref a ∧ SqT K H a vs ∧ DqAll K F vs xs := by
  cases v with
  | d y =>
    cases e
    cases p with
    | tup h t => exact ⟨_, _, rfl, same_t w.fz.g h, t⟩
  | scr ns => cases e
  | tp ps => cases e
  | gl g => cases e
  | exc y => cases e
  | xd y => cases e
  | dk y => cases e
  | own n =>
    have e : ocD s.o[n]? = some (.tuple xs) := e
    cases ho : s.o[n]? with
    | none => rw [ho] at e; cases e
    | some c =>
      rw [ho] at e
      cases c <;> cases e

/-! ### freezing -/
def subO (n : Nat) (x : PV) : Option PV → Option PV
  | some (.own m) => if m = n then some x else some (.own m)
  | v => v
theorem subO_eq {n m : Nat} {x : PV} (h : m = n) : subO n x (some (.own m)) = some x := if_pos h
theorem subO_ne {n m : Nat} {x : PV} (h : ¬ m = n) : subO n x (some (.own m)) = some (.own m) := if_neg h
def PSt.frzV (s : PSt) (n : Nat) (x : PV) : PSt := ⟨s.r.map (subO n x), s.o.set n .no⟩
def PSt.frz (s : PSt) (n : Nat) (xs : List PyData) : PSt := s.frzV n (.d (.list xs))
/-- a value made data for good -/
def frz (v : PV) (s : PSt) (k : PyData → PSt → Prop) : Prop :=
  match v with
  | .d x => k x s
  | .own n => ∃ xs, s.o[n]? = some (.dl xs) ∧ k (.list xs) (s.frz n xs)
  | _ => False
section
variable {K : PySem.W.Frag} {H0 F0 : Hp} {A0 : List Addr} {s : PSt} {σ : St} {T : List (PV × V)} {H F : Hp} {A : List Addr}
theorem WdF.frzV {n : Nat} {p : Addr} {ho' : HO} {x : PV} (w : WdF K H0 F0 A0 s σ T H F A) (hp : A[n]? = some p) (ho : n < s.o.length) (fp : F p = none) (hv : H p = some ho') (dD : PVOk K (upd F p ho') A x (.ref p)) : ∃ F', WdF K H0 F0 A0 (s.frzV n x) σ ((x, .ref p) :: T) H F' A := by
  have pA := w.ad p (List.mem_of_getElem? hp)
  have sF : Same F (upd F p ho') := same_new fp
  refine ⟨upd F p ho', ⟨w.fz.f.trans sF, fun a u e => ?_, w.fz.h, fun q h1 h2 => ?_⟩, w.pre, ?_, w.nd, w.ad, fun m q c h1 h2 => ?_, ?_, fun i v e => ?_, fun t ht => ?_⟩
  · by_cases h : a = p
    · subst h; rw [upd_same] at e; rw [← e]; exact hv
    · rw [upd_ne h] at e; exact w.fz.g a u e
  · have hq : q ≠ p := fun z => h1 (z ▸ pA.1)
    rw [upd_ne hq]; exact w.fz.n q h1 h2
  · show A.length = (s.o.set n .no).length
    rw [List.length_set]; exact w.len
  · have h2 : (s.o.set n .no)[m]? = some c := h2
    by_cases hm : m = n
    · subst hm
      rw [List.getElem?_set_self ho] at h2
      cases h2
      trivial
    · rw [List.getElem?_set_ne (Ne.symm hm)] at h2
      have hne : q ≠ p := fun e => by
        subst e
        obtain ⟨l1, e1⟩ := List.getElem?_eq_some_iff.mp h1
        obtain ⟨l2, e2⟩ := List.getElem?_eq_some_iff.mp hp
        exact hm ((List.getElem_inj w.nd).mp (e1.trans e2.symm))
      exact (w.oc m q c h1 h2).mono sF (List.prefix_refl _) (fun z => (upd_ne hne).trans z) fun _ z => z
  · show (s.r.map _).length = _
    rw [List.length_map]; exact w.sl
  · have e : (s.r.map (subO n x))[i]? = some (some v) := e
    rw [List.getElem?_map] at e
    cases hr : s.r[i]? with
    | none => rw [hr] at e; cases e
    | some o =>
      rw [hr] at e
      have e : subO n x o = some v := Option.some.inj e
      cases o with
      | none => cases e
      | some y =>
        obtain ⟨u, a, b⟩ := w.pv i y hr
        cases y with
        | d z =>
          cases e
          exact ⟨u, a, b.mono sF (List.prefix_refl _)⟩
        | scr ns =>
          cases e
          exact ⟨u, a, b.mono sF (List.prefix_refl _)⟩
        | tp ps =>
          cases e
          exact ⟨u, a, b.mono sF (List.prefix_refl _)⟩
        | gl ns =>
          cases e
          exact ⟨u, a, b.mono sF (List.prefix_refl _)⟩
        | exc ns =>
          cases e
          exact ⟨u, a, b.mono sF (List.prefix_refl _)⟩
        | xd ns =>
          cases e
          exact ⟨u, a, b.mono sF (List.prefix_refl _)⟩
        | dk ns =>
          cases e
          exact ⟨u, a, b.mono sF (List.prefix_refl _)⟩
        | own m =>
          by_cases hm : m = n
          · rw [subO_eq hm] at e
            cases e
            subst hm
            obtain ⟨q, hq, rfl⟩ := b
            rw [hp] at hq
            cases hq
            exact ⟨_, a, dD⟩
          · rw [subO_ne hm] at e
            cases e
            exact ⟨u, a, b.mono sF (List.prefix_refl _)⟩
  · rcases List.mem_cons.mp ht with e | ht
    · rw [e]; exact dD
    · exact (w.tm t ht).mono sF (List.prefix_refl _)
theorem WdF.frz {n : Nat} {p : Addr} {xs : List PyData} (w : WdF K H0 F0 A0 s σ T H F A) (hp : A[n]? = some p) (ho : s.o[n]? = some (.dl xs)) : ∃ F', WdF K H0 F0 A0 (s.frz n xs) σ ((.d (.list xs), .ref p) :: T) H F' A := by
  obtain ⟨fp, vs, hv, hd⟩ := w.oc n p _ hp ho
  exact w.frzV hp (List.getElem?_eq_some_iff.mp ho).1 fp hv (show Dq K (upd F p (.lst vs)) (.ref p) (.list xs) from .lst upd_same (dqAll_same (same_new fp) hd))
theorem WdF.frzD {n : Nat} {p : Addr} {kvs : List (Key × PyData)} (w : WdF K H0 F0 A0 s σ T H F A) (hp : A[n]? = some p) (ho : s.o[n]? = some (.di kvs)) : ∃ F', WdF K H0 F0 A0 (s.frzV n (.dk kvs)) σ ((.dk kvs, .ref p) :: T) H F' A := by
  obtain ⟨fp, vs, hv, hk, hd⟩ := w.oc n p _ hp ho
  exact w.frzV hp (List.getElem?_eq_some_iff.mp ho).1 fp hv ⟨p, vs, rfl, upd_same, hk, dqAll_same (same_new fp) hd⟩
/-- the same for the value on the top of the temps -/
theorem frz_ok {v : PV} {u : V} {k : PyData → PSt → Prop} (w : Wd K H0 F0 A0 s σ ((v, u) :: T) H) (h : frz v s k) : ∃ x s', k x s' ∧ Wd K H0 F0 A0 s' σ ((.d x, u) :: T) H := by
  cases v with
  | d x => exact ⟨x, s, h, w⟩
  | scr ns => exact h.elim
  | tp ps => exact h.elim
  | gl g => exact h.elim
  | exc y => exact h.elim
  | xd y => exact h.elim
  | dk y => exact h.elim
  | own n =>
    obtain ⟨xs, ho, hk⟩ := h
    obtain ⟨F, A, w⟩ := w
    obtain ⟨p, hp, rfl⟩ := w.tm _ List.mem_cons_self
    obtain ⟨F', w'⟩ := w.frz hp ho
    refine ⟨_, _, hk, F', A, w'.sub fun t ht => ?_⟩
    rcases List.mem_cons.mp ht with e | ht
    · rw [e]; exact List.mem_cons_self
    · exact List.mem_cons_of_mem _ (List.mem_cons_of_mem _ ht)
end

/-! ### the plain machine's words -/
def wVar (i : Nat) : EW := fun _ s k => ∃ v, s.r[i]? = some (some v) ∧ k v s
def wC (x : PyData) : EW := fun _ s k => k (.d x) s
/-- a two-place operation on data that gives data -/
def wOp (R : PyData → PyData → (PyData → Prop) → Prop) (wa wb : EW) : EW := fun kx s k => wa kx s fun x s1 => wb kx s1 fun y s2 => ∃ a b, dat s2 x = some a ∧ dat s2 y = some b ∧ R a b fun z => k (.d z) s2
/-- .. that gives a new list -/
def wOpL (R : PyData → PyData → (List PyData → Prop) → Prop) (wa wb : EW) : EW := fun kx s k => wa kx s fun x s1 => wb kx s1 fun y s2 => ∃ a b, dat s2 x = some a ∧ dat s2 y = some b ∧ R a b fun zs => k (.own s2.o.length) ⟨s2.r, s2.o ++ [.dl zs]⟩
def wUn (R : PyData → (PyData → Prop) → Prop) (wa : EW) : EW := fun kx s k => wa kx s fun x s1 => ∃ a, dat s1 x = some a ∧ R a fun z => k (.d z) s1

section
variable {X : Cx} {W : WX} {a b : Expr} {wa wb : EW} {pos : Pos}
theorem e_var (i : Nat) {x : Str} (hN : X.N[i]? = some x := by rfl) (hv : Vis X.env.scope x := by first | exact Or.inl rfl | exact Or.inr (Or.inl rfl) | exact Or.inr (Or.inr rfl)) (hd : (x == ("__debug__" : Str)) = false := by decide)
    (hcd : (x == ("__classdict__" : Str)) = false := by decide) : PE X (.Name x pos) (tE X.K W (wVar i)) := by
  refine PE.imp (pe_var hN hv hd hcd) fun σ H Q ⟨H0, F0, A0, s, T, kx, k, w, xl, ⟨v, e, hk⟩, q⟩ => ?_
  obtain ⟨F, A, w⟩ := w
  obtain ⟨u, e2, p⟩ := w.pv i v e
  exact ⟨u, e2, q v s hk u H ⟨F, A, w.push p⟩⟩
theorem e_c {u : V} {x : PyData} (h : PE X a (tC u)) (d : ∀ K H, Dq K H u x) : PE X a (tE X.K W (wC x)) := by
  refine PE.imp h fun σ H Q ⟨H0, F0, A0, s, T, kx, k, w, xl, hk, q⟩ => ?_
  obtain ⟨F, A, w⟩ := w
  exact q _ s hk u H ⟨F, A, w.push (d _ _)⟩
theorem e_int {i : Int} {j : Nat} : PE X (.Constant (.int i) j pos) (tE X.K W (wC (.int i))) := e_c pe_int fun _ _ => .int i
theorem e_str {x : Str} {j : Nat} : PE X (.Constant (.str x) j pos) (tE X.K W (wC (.str x))) := e_c pe_str fun _ _ => .str x
theorem e_bl {b : Bool} {j : Nat} : PE X (.Constant (.bool b) j pos) (tE X.K W (wC (.bool b))) := e_c pe_bl fun _ _ => .bl b
theorem e_non {j : Nat} : PE X (.Constant .none j pos) (tE X.K W (wC .none)) := e_c pe_non fun _ _ => .non
/-- a constant of the module that is an int, a text -/
theorem e_gi {x : Str} {i : Int} (hg : Gl X x) (hm : ∃ t, X.mg x = some (.int i t)) (hd : (x == ("__debug__" : Str)) = false := by decide) : PE X (.Name x pos) (tE X.K W (wC (.int i))) := by
  obtain ⟨t, hm⟩ := hm
  exact e_c (u := .int i) (pe_glob hg hm ⟨t, rfl⟩ hd) fun _ _ => .int i
theorem e_gs {x : Str} {i : Str} (hg : Gl X x) (hm : ∃ t, X.mg x = some (.str i t)) (hd : (x == ("__debug__" : Str)) = false := by decide) : PE X (.Name x pos) (tE X.K W (wC (.str i))) := by
  obtain ⟨t, hm⟩ := hm
  exact e_c (u := .str i) (pe_glob hg hm ⟨t, rfl⟩ hd) fun _ _ => .str i

/-- two operands, then what the values' rule asks -/
theorem tOp_of {r : R2} {σ : St} {H : Hp} {Q : VK} {H0 F0 : Hp} {A0 : List Addr} {s : PSt} {T : List (PV × V)} {kx : KX} {R : PV → PV → PSt → Prop} (w : Wd X.K H0 F0 A0 s σ T H) (xl : XL X.K H0 F0 A0 T W kx)
    (h : wa kx s fun x s1 => wb kx s1 fun y s2 => R x y s2) (hr : ∀ x y s2 u v H2, R x y s2 → Wd X.K H0 F0 A0 s2 σ ((y, v) :: (x, u) :: T) H2 → r u v H2 Q) : tOp r (tE X.K W wa) (tE X.K W wb) σ H Q :=
  ⟨H0, F0, A0, s, T, kx, _, w, xl, h, fun x s1 h1 u H1 w1 => ⟨H0, F0, A0, s1, (x, u) :: T, kx, _, w1, xl.push, h1, fun y s2 h2 v H2 w2 => hr x y s2 u v H2 h2 w2⟩⟩
/-- data that is no object -/
def toV : PyData → Option V
  | .none => some .non
  | .bool b => some (.bl b)
  | .int i => some (.int i)
  | .str x => some (.str x)
  | _ => none
theorem toV_dp {K : PySem.W.Frag} {H : Hp} {z : PyData} {t : V} (h : toV z = some t) : Dq K H t z := by
  cases z with
  | none => cases h; exact .non
  | bool b => cases h; exact .bl b
  | int i => cases h; exact .int i
  | str x => cases h; exact .str x
  | list xs => cases h
  | tuple xs => cases h
  | dict xs => cases h
/-- by a rule on values that gives no object -/
def ROk (K : PySem.W.Frag) (r : R2) (R : PyData → PyData → (PyData → Prop) → Prop) : Prop :=
  ∀ (u v : V) (x y : PyData) (H : Hp) (Q : VK) (P : PyData → Prop), Dp K H u x → Dp K H v y → R x y P → (∀ z t, P z → toV z = some t → Q t H) → r u v H Q
theorem wOp_of {r : R2} {R : PyData → PyData → (PyData → Prop) → Prop} {σ : St} {H : Hp} {Q : VK} (ho : ROk X.K r R) (h : tE X.K W (wOp R wa wb) σ H Q) : tOp r (tE X.K W wa) (tE X.K W wb) σ H Q := by
  obtain ⟨H0, F0, A0, s, T, kx, k, w, xl, h, q⟩ := h
  refine tOp_of w xl h fun x y s2 u v H2 hR w2 => ?_
  obtain ⟨a, b, da, db, hR⟩ := hR
  obtain ⟨F, A, w2⟩ := w2
  refine ho u v a b H2 Q _ (dat_ok w2 (w2.tm _ (List.mem_cons_of_mem _ List.mem_cons_self)) da) (dat_ok w2 (w2.tm _ List.mem_cons_self) db) hR fun z t hz ht => ?_
  exact q _ _ hz t H2 ⟨F, A, (w2.sub fun t h => List.mem_cons_of_mem _ (List.mem_cons_of_mem _ h)).push (toV_dp ht)⟩
theorem e_op {op : Operator} {r : R2} {R : PyData → PyData → (PyData → Prop) → Prop} (hr : OpR X (binaryOp op) r) (ho : ROk X.K r R) (ha : PE X a (tE X.K W wa)) (hb : PE X b (tE X.K W wb)) : PE X (.BinOp a op b pos) (tE X.K W (wOp R wa wb)) :=
  PE.imp (pe_op hr ha hb) fun _ _ _ h => wOp_of ho h
theorem e_cmp {op : CmpOp} {r : R2} {R : PyData → PyData → (PyData → Prop) → Prop} (hr : OpR X (compareOp op) r) (ho : ROk X.K r R) (hm : behindInMarks op b = false) (ha : PE X a (tE X.K W wa)) (hb : PE X b (tE X.K W wb)) : PE X (.Compare a [op] [b] pos) (tE X.K W (wOp R wa wb)) :=
  PE.imp (pe_cmpR hr ha hb hm) fun _ _ _ h => wOp_of ho h

/-! ### the operations -/
def rAddD : PyData → PyData → (PyData → Prop) → Prop := fun a b q => match a, b with
  | .int i, .int j => q (.int (i + j))
  | .str x, .str y => x.length + y.length ≤ sizeLine ∧ q (.str (x ++ y))
  | _, _ => False
def rSubD : PyData → PyData → (PyData → Prop) → Prop := fun a b q => match a, b with
  | .int i, .int j => q (.int (i - j))
  | _, _ => False
def rMulD : PyData → PyData → (PyData → Prop) → Prop := fun a b q => match a, b with
  | .int i, .int j => CMul i j ∧ q (.int (i * j))
  | _, _ => False
def rModD : PyData → PyData → (PyData → Prop) → Prop := fun a b q => match a, b with
  | .int i, .int j => 0 < j ∧ q (.int (i % j))
  | _, _ => False
def rDivD : PyData → PyData → (PyData → Prop) → Prop := fun a b q => match a, b with
  | .int i, .int j => CDiv i j ∧ q (.int (i / j))
  | _, _ => False
theorem dp_int {K : PySem.W.Frag} {H : Hp} {u : V} {i : Int} (h : Dp K H u (.int i)) : u = .int i := by cases h; rfl
theorem dp_str {K : PySem.W.Frag} {H : Hp} {u : V} {i : Str} (h : Dp K H u (.str i)) : u = .str i := by cases h; rfl
theorem dp_bl {K : PySem.W.Frag} {H : Hp} {u : V} {i : Bool} (h : Dp K H u (.bool i)) : u = .bl i := by cases h; rfl
theorem dp_non {K : PySem.W.Frag} {H : Hp} {u : V} (h : Dp K H u .none) : u = .non := by cases h; rfl
theorem op_addD : OpR X (binaryOp .Add) (fun x y H Q => (rI0 fun i j => .int (i + j)) x y H Q ∨ ∃ i j, x = .str i ∧ y = .str j ∧ i.length + j.length ≤ sizeLine ∧ Q (.str (i ++ j)) H) := op_add.or op_add_str
theorem ok_addD {K : PySem.W.Frag} : ROk K (fun x y H Q => (rI0 fun i j => .int (i + j)) x y H Q ∨ ∃ i j, x = .str i ∧ y = .str j ∧ i.length + j.length ≤ sizeLine ∧ Q (.str (i ++ j)) H) rAddD := by
  intro u v x y H Q P hx hy h q
  cases x <;> cases y <;> try exact h.elim
  · cases dp_int hx; cases dp_int hy
    exact .inl ⟨_, _, rfl, rfl, q _ _ h rfl⟩
  · cases dp_str hx; cases dp_str hy
    exact .inr ⟨_, _, rfl, rfl, h.1, q _ _ h.2 rfl⟩
theorem ok_subD {K : PySem.W.Frag} : ROk K (rI0 fun i j => .int (i - j)) rSubD := by
  intro u v x y H Q P hx hy h q
  cases x <;> cases y <;> try exact h.elim
  cases dp_int hx; cases dp_int hy
  exact ⟨_, _, rfl, rfl, q _ _ h rfl⟩
theorem ok_mulD {K : PySem.W.Frag} : ROk K (rI CMul fun i j => .int (i * j)) rMulD := by
  intro u v x y H Q P hx hy h q
  cases x <;> cases y <;> try exact h.elim
  cases dp_int hx; cases dp_int hy
  exact ⟨_, _, rfl, rfl, h.1, q _ _ h.2 rfl⟩
theorem ok_modD {K : PySem.W.Frag} : ROk K (rI (fun _ j => 0 < j) fun i j => .int (i % j)) rModD := by
  intro u v x y H Q P hx hy h q
  cases x <;> cases y <;> try exact h.elim
  cases dp_int hx; cases dp_int hy
  exact ⟨_, _, rfl, rfl, h.1, q _ _ h.2 rfl⟩
theorem ok_divD {K : PySem.W.Frag} : ROk K (rI CDiv fun i j => .int (i / j)) rDivD := by
  intro u v x y H Q P hx hy h q
  cases x <;> cases y <;> try exact h.elim
  cases dp_int hx; cases dp_int hy
  exact ⟨_, _, rfl, rfl, h.1, q _ _ h.2 rfl⟩
abbrev wAdd := wOp rAddD
abbrev wSub := wOp rSubD
abbrev wMul := wOp rMulD
abbrev wMod := wOp rModD
abbrev wDiv := wOp rDivD
theorem e_add (ha : PE X a (tE X.K W wa)) (hb : PE X b (tE X.K W wb)) : PE X (.BinOp a .Add b pos) (tE X.K W (wAdd wa wb)) := e_op op_addD ok_addD ha hb
theorem e_sub (ha : PE X a (tE X.K W wa)) (hb : PE X b (tE X.K W wb)) : PE X (.BinOp a .Sub b pos) (tE X.K W (wSub wa wb)) := e_op op_sub ok_subD ha hb
theorem e_mul (ha : PE X a (tE X.K W wa)) (hb : PE X b (tE X.K W wb)) : PE X (.BinOp a .Mult b pos) (tE X.K W (wMul wa wb)) := e_op op_mul ok_mulD ha hb
theorem e_mod (ha : PE X a (tE X.K W wa)) (hb : PE X b (tE X.K W wb)) : PE X (.BinOp a .Mod b pos) (tE X.K W (wMod wa wb)) := e_op op_mod ok_modD ha hb
theorem e_div (ha : PE X a (tE X.K W wa)) (hb : PE X b (tE X.K W wb)) : PE X (.BinOp a .FloorDiv b pos) (tE X.K W (wDiv wa wb)) := e_op op_fdiv ok_divD ha hb

/-- comparisons of ints -/
def rCmpD (g : Int → Int → Bool) : PyData → PyData → (PyData → Prop) → Prop := fun a b q => match a, b with
  | .int i, .int j => q (.bool (g i j))
  | _, _ => False
theorem ok_cmpD {K : PySem.W.Frag} {g : Int → Int → Bool} : ROk K (rI0 fun i j => .bl (g i j)) (rCmpD g) := by
  intro u v x y H Q P hx hy h q
  cases x <;> cases y <;> try exact h.elim
  cases dp_int hx; cases dp_int hy
  exact ⟨_, _, rfl, rfl, q _ _ h rfl⟩
abbrev wLt := wOp (rCmpD fun i j => decide (i < j))
abbrev wLe := wOp (rCmpD fun i j => decide (i ≤ j))
abbrev wGt := wOp (rCmpD fun i j => decide (j < i))
abbrev wGe := wOp (rCmpD fun i j => decide (j ≤ i))
theorem e_lt (ha : PE X a (tE X.K W wa)) (hb : PE X b (tE X.K W wb)) : PE X (.Compare a [.Lt] [b] pos) (tE X.K W (wLt wa wb)) := e_cmp op_lt ok_cmpD (nomark _) ha hb
theorem e_le (ha : PE X a (tE X.K W wa)) (hb : PE X b (tE X.K W wb)) : PE X (.Compare a [.LtE] [b] pos) (tE X.K W (wLe wa wb)) := e_cmp op_le ok_cmpD (nomark _) ha hb
theorem e_gt (ha : PE X a (tE X.K W wa)) (hb : PE X b (tE X.K W wb)) : PE X (.Compare a [.Gt] [b] pos) (tE X.K W (wGt wa wb)) := e_cmp op_gt ok_cmpD (nomark _) ha hb
theorem e_ge (ha : PE X a (tE X.K W wa)) (hb : PE X b (tE X.K W wb)) : PE X (.Compare a [.GtE] [b] pos) (tE X.K W (wGe wa wb)) := e_cmp op_ge ok_cmpD (nomark _) ha hb

/-- == of data: flat ones, or any whose shape is known -/
def flatD : PyData → Bool
  | .none | .int _ | .str _ | .bool _ => true
  | _ => false
def eqOk (a b : PyData) : Bool := (match a, b with
  | .none, .none | .none, .int _ | .int _, .none | .none, .bool _ | .bool _, .none | .none, .str _ | .str _, .none
  | .int _, .int _ | .bool _, .bool _ | .str _, .str _ | .int _, .str _ | .str _, .int _ | .bool _, .str _ | .str _, .bool _ => true
  | _, _ => false) || (SeqAt.shaped a && SeqAt.shaped b)
def rEqP (n : Bool) : PyData → PyData → (PyData → Prop) → Prop := fun a b q => eqOk a b = true ∧ q (.bool (if n then !PyData.eqv a b else PyData.eqv a b))
theorem op_eqB (hu : X.A.units + 64 < cLine) : OpR X (compareOp .Eq) (fun x y H Q => rEq x y H Q ∨ rEqD X.K x y H Q) := op_eq.or (op_eqD hu)
theorem op_neB (hu : X.A.units + 64 < cLine) : OpR X (compareOp .NotEq) (fun x y H Q => rNe x y H Q ∨ rNeD X.K x y H Q) := op_ne.or (op_neD hu)
theorem eqv_flat {K : PySem.W.Frag} {H : Hp} {u v : V} {a b : PyData} (ha : Dp K H u a) (hb : Dp K H v b) (h : eqOk a b = true) (hn : ¬ (SeqAt.shaped a && SeqAt.shaped b) = true) : scal u v = true ∧ decide (u = v) = PyData.eqv a b := by
  unfold eqOk at h
  rw [Bool.or_eq_true] at h
  rcases h with h | h
  · cases a <;> cases b <;> first | cases h | skip
    all_goals (cases ha; cases hb)
    all_goals first | exact ⟨rfl, rfl⟩ | (refine ⟨rfl, ?_⟩; simp [PyData.eqv]; done) | (refine ⟨rfl, ?_⟩; simp [PyData.eqv]; rw [Bool.eq_iff_iff]; simp)
  · exact absurd h hn
theorem ok_eqP {K : PySem.W.Frag} : ROk K (fun x y H Q => rEq x y H Q ∨ rEqD K x y H Q) (rEqP false) := by
  intro u v x y H Q P hx hy h q
  by_cases hs : (SeqAt.shaped x && SeqAt.shaped y) = true
  · rw [Bool.and_eq_true] at hs
    exact .inr ⟨x, y, hx, hy, hs.1, hs.2, q _ _ h.2 rfl⟩
  · obtain ⟨h1, h2⟩ := eqv_flat hx hy h.1 hs
    exact .inl ⟨h1, by rw [h2]; exact q _ _ h.2 rfl⟩
theorem ok_neP {K : PySem.W.Frag} : ROk K (fun x y H Q => rNe x y H Q ∨ rNeD K x y H Q) (rEqP true) := by
  intro u v x y H Q P hx hy h q
  by_cases hs : (SeqAt.shaped x && SeqAt.shaped y) = true
  · rw [Bool.and_eq_true] at hs
    exact .inr ⟨x, y, hx, hy, hs.1, hs.2, q _ _ h.2 rfl⟩
  · obtain ⟨h1, h2⟩ := eqv_flat hx hy h.1 hs
    exact .inl ⟨h1, by rw [h2]; exact q _ _ h.2 rfl⟩
abbrev wEq := wOp (rEqP false)
abbrev wNe := wOp (rEqP true)
theorem e_eq (hu : X.A.units + 64 < cLine) (ha : PE X a (tE X.K W wa)) (hb : PE X b (tE X.K W wb)) : PE X (.Compare a [.Eq] [b] pos) (tE X.K W (wEq wa wb)) := e_cmp (op_eqB hu) ok_eqP (nomark _) ha hb
theorem e_ne (hu : X.A.units + 64 < cLine) (ha : PE X a (tE X.K W wa)) (hb : PE X b (tE X.K W wb)) : PE X (.Compare a [.NotEq] [b] pos) (tE X.K W (wNe wa wb)) := e_cmp (op_neB hu) ok_neP (nomark _) ha hb
end
end PW
namespace PW
open PySem L2
section
variable {X : Cx} {W : WX} {a b c : Expr} {wa wb : EW} {ta tb : TW} {pos : Pos} {rest : List Expr}
/-! ### is, in -/
def isNoneD : PyData → Bool
  | .none => true
  | _ => false
def wIsN (wa : EW) : EW := fun kx s k => wa kx s fun x s1 => ∃ d, dat s1 x = some d ∧ k (.d (.bool (isNoneD d))) s1
def wNotN (wa : EW) : EW := fun kx s k => wa kx s fun x s1 => ∃ d, dat s1 x = some d ∧ k (.d (.bool (!isNoneD d))) s1
theorem isN_dp {K : PySem.W.Frag} {H : Hp} {u : V} {d : PyData} (h : Dp K H u d) : decide (u = .non) = isNoneD d := by
  cases h <;> simp [isNoneD]
theorem notN_dp {K : PySem.W.Frag} {H : Hp} {u : V} {d : PyData} (h : Dp K H u d) : (!decide (u = .non)) = (!isNoneD d) := by
  cases h <;> simp [isNoneD]
theorem un_of {σ : St} {H : Hp} {H0 F0 : Hp} {A0 : List Addr} {s : PSt} {T : List (PV × V)} {kx : KX} {R : PV → PSt → Prop} {Q : VK} (w : Wd X.K H0 F0 A0 s σ T H) (xl : XL X.K H0 F0 A0 T W kx)
    (h : wa kx s R) (hr : ∀ x s1 u H1, R x s1 → Wd X.K H0 F0 A0 s1 σ ((x, u) :: T) H1 → Q u H1) : tE X.K W wa σ H Q := ⟨H0, F0, A0, s, T, kx, R, w, xl, h, fun x s1 h1 u H1 w1 => hr x s1 u H1 h1 w1⟩
theorem e_isN {j : Nat} {pos' : Pos} (ha : PE X a (tE X.K W wa)) : PE X (.Compare a [.Is] [.Constant .none j pos'] pos) (tE X.K W (wIsN wa)) := by
  refine PE.imp (pe_cmp (pc_isN ha)) fun σ H Q ⟨H0, F0, A0, s, T, kx, k, w, xl, h, q⟩ => un_of w xl h fun x s1 u H1 h1 w1 => ?_
  obtain ⟨d, hd, hk⟩ := h1
  obtain ⟨F, A, w1⟩ := w1
  rw [isN_dp (dat_ok w1 (w1.tm _ List.mem_cons_self) hd)]
  exact q _ _ hk _ H1 ⟨F, A, (w1.sub fun t h => List.mem_cons_of_mem _ h).push (.bl _)⟩
theorem e_notN {j : Nat} {pos' : Pos} (ha : PE X a (tE X.K W wa)) : PE X (.Compare a [.IsNot] [.Constant .none j pos'] pos) (tE X.K W (wNotN wa)) := by
  refine PE.imp (pe_cmp (pc_notN ha)) fun σ H Q ⟨H0, F0, A0, s, T, kx, k, w, xl, h, q⟩ => un_of w xl h fun x s1 u H1 h1 w1 => ?_
  obtain ⟨d, hd, hk⟩ := h1
  obtain ⟨F, A, w1⟩ := w1
  rw [notN_dp (dat_ok w1 (w1.tm _ List.mem_cons_self) hd)]
  exact q _ _ hk _ H1 ⟨F, A, (w1.sub fun t h => List.mem_cons_of_mem _ h).push (.bl _)⟩
/-- in a text, by one sign or any text; in a list or tuple -/
def inD (a : PyData) (xs : List PyData) : Bool := xs.any fun z => PyData.eqv z a
def rInP (n : Bool) : PyData → PyData → (PyData → Prop) → Prop := fun a b q => match a, b with
  | .str x, .str y => (∃ c, x = ⟨#[c]⟩ ∧ q (.bool (if n then !decide (c ∈ y.cps.toList) else decide (c ∈ y.cps.toList))))
  | a, .list ys => SeqAt.shaped a = true ∧ SeqAt.shaped (.list ys) = true ∧ q (.bool (if n then !inD a ys else inD a ys))
  | a, .tuple ys => flatD a = true ∧ ys.all flatD = true ∧ q (.bool (if n then !inD a ys else inD a ys))
  | _, _ => False
theorem flat_dp {K : PySem.W.Frag} {H : Hp} {u : V} {d : PyData} (h : Dp K H u d) (f : flatD d = true) : flatV u = true := by
  cases h <;> first | rfl | cases f
theorem flatAll_dp {K : PySem.W.Frag} {H : Hp} : ∀ {us : List V} {ds : List PyData}, DpAll K H us ds → ds.all flatD = true → us.all flatV = true
  | _, _, .nil, _ => rfl
  | _, _, .cons h t, f => by
    rw [List.all_cons, Bool.and_eq_true] at f
    rw [List.all_cons, flat_dp h f.1, flatAll_dp t f.2]
    rfl
theorem eqV_dp {K : PySem.W.Frag} {H : Hp} {u v : V} {a b : PyData} (ha : Dp K H u a) (hb : Dp K H v b) (fa : flatD a = true) (fb : flatD b = true) : eqV u v = PyData.eqv a b := by
  cases ha <;> cases hb <;> first | cases fa | cases fb | skip
  all_goals simp [eqV, PyData.eqv]
theorem inV_dp {K : PySem.W.Frag} {H : Hp} {u : V} {a : PyData} (ha : Dp K H u a) (fa : flatD a = true) : ∀ {us : List V} {ds : List PyData}, DpAll K H us ds → ds.all flatD = true → inV u us = inD a ds
  | _, _, .nil, _ => rfl
  | _, _, .cons h t, f => by
    rw [List.all_cons, Bool.and_eq_true] at f
    show (eqV _ u || inV u _) = (PyData.eqv _ a || inD a _)
    rw [eqV_dp h ha f.1 fa, inV_dp ha fa t f.2]
def rInR (K : PySem.W.Frag) : R2 := fun x y H Q => (∃ (c : Nat) (z : Str), x = .str ⟨#[c]⟩ ∧ y = .str z ∧ Q (.bl (decide (c ∈ z.cps.toList))) H) ∨ rInD K x y H Q ∨ rIn K false x y H Q
def rNotInR (K : PySem.W.Frag) : R2 := fun x y H Q => (∃ (c : Nat) (z : Str), x = .str ⟨#[c]⟩ ∧ y = .str z ∧ Q (.bl (!decide (c ∈ z.cps.toList))) H) ∨ rNotInD K x y H Q ∨ rIn K true x y H Q
theorem op_inR (hu : X.A.units + 65 < cLine) : OpR X (compareOp .In) (rInR X.K) := op_in_sign.or ((op_inD hu).or op_in_seq)
theorem op_notInR (hu : X.A.units + 65 < cLine) : OpR X (compareOp .NotIn) (rNotInR X.K) := op_notIn_sign.or ((op_notInD hu).or op_notIn_seq)
theorem ok_inP {K : PySem.W.Frag} : ROk K (rInR K) (rInP false) := by
  intro u v x y H Q P hx hy h q
  cases y with
  | str z =>
    cases x <;> try exact h.elim
    cases dp_str hx; cases dp_str hy
    obtain ⟨c, rfl, h⟩ := h
    exact .inl ⟨c, z, rfl, rfl, q _ _ h rfl⟩
  | list ys =>
    have h : SeqAt.shaped x = true ∧ SeqAt.shaped (.list ys) = true ∧ P (.bool (inD x ys)) := by
      cases x <;> exact h
    exact .inr (.inl ⟨x, ys, hx, hy, h.1, h.2.1, q _ _ h.2.2 rfl⟩)
  | tuple ys =>
    have h : flatD x = true ∧ ys.all flatD = true ∧ P (.bool (inD x ys)) := by
      cases x <;> exact h
    cases hy with
    | tup hs ht =>
      refine .inr (.inr ⟨_, _, rfl, .inr hs, flat_dp hx h.1, flatAll_dp ht h.2.1, ?_⟩)
      show Q (.bl (inV u _)) H
      rw [inV_dp hx h.1 ht h.2.1]
      exact q _ _ h.2.2 rfl
  | _ => cases x <;> exact h.elim
theorem ok_notInP {K : PySem.W.Frag} : ROk K (rNotInR K) (rInP true) := by
  intro u v x y H Q P hx hy h q
  cases y with
  | str z =>
    cases x <;> try exact h.elim
    cases dp_str hx; cases dp_str hy
    obtain ⟨c, rfl, h⟩ := h
    exact .inl ⟨c, z, rfl, rfl, q _ _ h rfl⟩
  | list ys =>
    have h : SeqAt.shaped x = true ∧ SeqAt.shaped (.list ys) = true ∧ P (.bool (!inD x ys)) := by
      cases x <;> exact h
    exact .inr (.inl ⟨x, ys, hx, hy, h.1, h.2.1, q _ _ h.2.2 rfl⟩)
  | tuple ys =>
    have h : flatD x = true ∧ ys.all flatD = true ∧ P (.bool (!inD x ys)) := by
      cases x <;> exact h
    cases hy with
    | tup hs ht =>
      refine .inr (.inr ⟨_, _, rfl, .inr hs, flat_dp hx h.1, flatAll_dp ht h.2.1, ?_⟩)
      show Q (.bl (!inV u _)) H
      rw [inV_dp hx h.1 ht h.2.1]
      exact q _ _ h.2.2 rfl
  | _ => cases x <;> exact h.elim
abbrev wIn := wOp (rInP false)
abbrev wNotIn := wOp (rInP true)
theorem e_in (hu : X.A.units + 65 < cLine) (hm : behindInMarks .In b = false) (ha : PE X a (tE X.K W wa)) (hb : PE X b (tE X.K W wb)) : PE X (.Compare a [.In] [b] pos) (tE X.K W (wIn wa wb)) := e_cmp (op_inR hu) ok_inP hm ha hb
theorem e_notIn (hu : X.A.units + 65 < cLine) (hm : behindInMarks .NotIn b = false) (ha : PE X a (tE X.K W wa)) (hb : PE X b (tE X.K W wb)) : PE X (.Compare a [.NotIn] [b] pos) (tE X.K W (wNotIn wa wb)) := e_cmp (op_notInR hu) ok_notInP hm ha hb

/-! ### tests -/
/-- an expression whose value is a bool -/
def wB (wa : EW) : TW := fun kx s k => wa kx s fun x s1 => ∃ c, x = .d (.bool c) ∧ k c s1
theorem tB_of {σ : St} {H : Hp} {Q : Bool → Hp → Prop} (h : tT X.K W (wB wa) σ H Q) : tB (tE X.K W wa) σ H Q := by
  obtain ⟨H0, F0, A0, s, T, kx, k, w, xl, h, q⟩ := h
  refine un_of w xl h fun x s1 u H1 h1 w1 => ?_
  obtain ⟨c, rfl, hk⟩ := h1
  obtain ⟨F, A, w1⟩ := w1
  exact ⟨c, dp_bl (dq_dp (w1.tm _ List.mem_cons_self)), q c s1 hk H1 ⟨F, A, w1.sub fun t h => List.mem_cons_of_mem _ h⟩⟩
/-- a comparison as a test: e_eq and its like hand on PE of the comparison -/
theorem t_op {op : CmpOp} {r : R2} {R : PyData → PyData → (PyData → Prop) → Prop} (hr : OpR X (compareOp op) r) (ho : ROk X.K r R) (hm : behindInMarks op b = false) (ha : PE X a (tE X.K W wa)) (hb : PE X b (tE X.K W wb)) : PT X (.Compare a [op] [b] pos) (tT X.K W (wB (wOp R wa wb))) := by
  refine PT.imp (pt_cmpR hr ha hb hm) fun σ H Q ⟨H0, F0, A0, s, T, kx, k, w, xl, h, q⟩ => ?_
  refine wOp_of ho ⟨H0, F0, A0, s, T, kx, _, w, xl, h, fun v s1 h1 u H1 w1 => ?_⟩
  obtain ⟨c, rfl, hk⟩ := h1
  obtain ⟨F, A, w1⟩ := w1
  exact ⟨c, dp_bl (dq_dp (w1.tm _ List.mem_cons_self)), q c s1 hk H1 ⟨F, A, w1.sub fun t h => List.mem_cons_of_mem _ h⟩⟩
theorem t_eq (hu : X.A.units + 64 < cLine) (ha : PE X a (tE X.K W wa)) (hb : PE X b (tE X.K W wb)) : PT X (.Compare a [.Eq] [b] pos) (tT X.K W (wB (wEq wa wb))) := t_op (op_eqB hu) ok_eqP (nomark _) ha hb
theorem t_ne (hu : X.A.units + 64 < cLine) (ha : PE X a (tE X.K W wa)) (hb : PE X b (tE X.K W wb)) : PT X (.Compare a [.NotEq] [b] pos) (tT X.K W (wB (wNe wa wb))) := t_op (op_neB hu) ok_neP (nomark _) ha hb
theorem t_lt (ha : PE X a (tE X.K W wa)) (hb : PE X b (tE X.K W wb)) : PT X (.Compare a [.Lt] [b] pos) (tT X.K W (wB (wLt wa wb))) := t_op op_lt ok_cmpD (nomark _) ha hb
theorem t_le (ha : PE X a (tE X.K W wa)) (hb : PE X b (tE X.K W wb)) : PT X (.Compare a [.LtE] [b] pos) (tT X.K W (wB (wLe wa wb))) := t_op op_le ok_cmpD (nomark _) ha hb
theorem t_gt (ha : PE X a (tE X.K W wa)) (hb : PE X b (tE X.K W wb)) : PT X (.Compare a [.Gt] [b] pos) (tT X.K W (wB (wGt wa wb))) := t_op op_gt ok_cmpD (nomark _) ha hb
theorem t_ge (ha : PE X a (tE X.K W wa)) (hb : PE X b (tE X.K W wb)) : PT X (.Compare a [.GtE] [b] pos) (tT X.K W (wB (wGe wa wb))) := t_op op_ge ok_cmpD (nomark _) ha hb
theorem t_in (hu : X.A.units + 65 < cLine) (hm : behindInMarks .In b = false) (ha : PE X a (tE X.K W wa)) (hb : PE X b (tE X.K W wb)) : PT X (.Compare a [.In] [b] pos) (tT X.K W (wB (wIn wa wb))) := t_op (op_inR hu) ok_inP hm ha hb
theorem t_notIn (hu : X.A.units + 65 < cLine) (hm : behindInMarks .NotIn b = false) (ha : PE X a (tE X.K W wa)) (hb : PE X b (tE X.K W wb)) : PT X (.Compare a [.NotIn] [b] pos) (tT X.K W (wB (wNotIn wa wb))) := t_op (op_notInR hu) ok_notInP hm ha hb
theorem t_isN {j : Nat} {pos' : Pos} (ha : PE X a (tE X.K W wa)) : PT X (.Compare a [.Is] [.Constant .none j pos'] pos) (tT X.K W (wB (wIsN wa))) := by
  refine PT.imp (pt_cmp (pc_isN ha)) fun σ H Q ⟨H0, F0, A0, s, T, kx, k, w, xl, h, q⟩ => un_of w xl h fun x s1 u H1 h1 w1 => ?_
  obtain ⟨d, hd, c, e, hk⟩ := h1
  obtain ⟨F, A, w1⟩ := w1
  injection e with e
  injection e with e
  exact ⟨c, by rw [isN_dp (dat_ok w1 (w1.tm _ List.mem_cons_self) hd), e], q _ _ hk H1 ⟨F, A, w1.sub fun t h => List.mem_cons_of_mem _ h⟩⟩
theorem t_notN {j : Nat} {pos' : Pos} (ha : PE X a (tE X.K W wa)) : PT X (.Compare a [.IsNot] [.Constant .none j pos'] pos) (tT X.K W (wB (wNotN wa))) := by
  refine PT.imp (pt_cmp (pc_notN ha)) fun σ H Q ⟨H0, F0, A0, s, T, kx, k, w, xl, h, q⟩ => un_of w xl h fun x s1 u H1 h1 w1 => ?_
  obtain ⟨d, hd, c, e, hk⟩ := h1
  obtain ⟨F, A, w1⟩ := w1
  injection e with e
  injection e with e
  exact ⟨c, by rw [notN_dp (dat_ok w1 (w1.tm _ List.mem_cons_self) hd), e], q _ _ hk H1 ⟨F, A, w1.sub fun t h => List.mem_cons_of_mem _ h⟩⟩
/-- any expression whose value is a bool -/
theorem t_val (h : PE X a (tE X.K W wa)) (he : ∀ whole, isTrue a X.env whole = (do let v ← whole; standAt a.pos; holding [v] (truthy v)) := by intro _; rfl) : PT X a (tT X.K W (wB wa)) := PT.imp (pt_val h he) fun _ _ _ h => tB_of h
/-- truth -/
def truD : PyData → (Bool → Prop) → Prop := fun x q => match x with
  | .none => q false
  | .bool b => q b
  | .int i => q (i != 0)
  | .str y => y.length ≤ sizeLine ∧ q ((y.length : Int) != 0)
  | .list xs => q (!xs.isEmpty)
  | .tuple xs => q (!xs.isEmpty)
  | .dict _ => False
def wTru (wa : EW) : TW := fun kx s k => wa kx s fun x s1 => ∃ d, dat s1 x = some d ∧ truD d fun c => k c s1
theorem dpAll_isEmpty {K : PySem.W.Frag} {H : Hp} : ∀ {us : List V} {ds : List PyData}, DpAll K H us ds → us.isEmpty = ds.isEmpty
  | _, _, .nil => rfl
  | _, _, .cons _ _ => rfl
theorem tru_dp {K : PySem.W.Frag} {H : Hp} {u : V} {d : PyData} {P : Bool → Prop} (h : Dp K H u d) (t : truD d P) : ∃ k, TruV K u H k ∧ P k := by
  cases h with
  | non => exact ⟨_, rfl, t⟩
  | bl b => exact ⟨_, rfl, t⟩
  | int i => exact ⟨_, rfl, t⟩
  | str x => exact ⟨_, ⟨t.1, rfl⟩, t.2⟩
  | lst h r => exact ⟨_, .inl ⟨_, h, rfl⟩, by rw [dpAll_isEmpty r]; exact t⟩
  | tup h r => exact ⟨_, .inr (.inl ⟨_, h, rfl⟩), by rw [dpAll_isEmpty r]; exact t⟩
theorem t_tru (ha : PE X a (tE X.K W wa)) (he : ∀ whole, isTrue a X.env whole = (do let v ← whole; standAt a.pos; holding [v] (truthy v)) := by intro _; rfl) : PT X a (tT X.K W (wTru wa)) := by
  refine PT.imp (pt_truth ha he) fun σ H Q ⟨H0, F0, A0, s, T, kx, k, w, xl, h, q⟩ => un_of w xl h fun x s1 u H1 h1 w1 => ?_
  obtain ⟨d, hd, t⟩ := h1
  obtain ⟨F, A, w1⟩ := w1
  obtain ⟨c, h1, h2⟩ := tru_dp (dat_ok w1 (w1.tm _ List.mem_cons_self) hd) t
  exact ⟨c, h1, q c s1 h2 H1 ⟨F, A, w1.sub fun t h => List.mem_cons_of_mem _ h⟩⟩
def wAnd (t u : TW) : TW := fun kx s k => t kx s fun c s1 => (c = true → u kx s1 k) ∧ (c = false → k false s1)
def wOr (t u : TW) : TW := fun kx s k => t kx s fun c s1 => (c = true → k true s1) ∧ (c = false → u kx s1 k)
def wNot (t : TW) : TW := fun kx s k => t kx s fun c s1 => k (!c) s1
theorem tAnd_of {σ : St} {H : Hp} {Q : Bool → Hp → Prop} (h : tT X.K W (wAnd ta tb) σ H Q) : tAnd (tT X.K W ta) (tT X.K W tb) σ H Q := by
  obtain ⟨H0, F0, A0, s, T, kx, k, w, xl, h, q⟩ := h
  refine ⟨H0, F0, A0, s, T, kx, _, w, xl, h, fun c s1 h1 H1 w1 => ?_⟩
  cases c with
  | true => exact iteT ⟨H0, F0, A0, s1, T, kx, k, w1, xl, h1.1 rfl, q⟩
  | false => exact iteF (q _ _ (h1.2 rfl) H1 w1)
theorem tOr_of {σ : St} {H : Hp} {Q : Bool → Hp → Prop} (h : tT X.K W (wOr ta tb) σ H Q) : tOr (tT X.K W ta) (tT X.K W tb) σ H Q := by
  obtain ⟨H0, F0, A0, s, T, kx, k, w, xl, h, q⟩ := h
  refine ⟨H0, F0, A0, s, T, kx, _, w, xl, h, fun c s1 h1 H1 w1 => ?_⟩
  cases c with
  | true => exact iteT (q _ _ (h1.1 rfl) H1 w1)
  | false => exact iteF ⟨H0, F0, A0, s1, T, kx, k, w1, xl, h1.2 rfl, q⟩
theorem t_and1 (ha : PT X a (tT X.K W ta)) : L2.PW X (.BoolOp .And [a] pos) (tT X.K W ta) := pw_and1 ha
theorem t_or1 (ha : PT X a (tT X.K W ta)) : L2.PW X (.BoolOp .Or [a] pos) (tT X.K W ta) := pw_or1 ha
theorem t_andC (ha : PT X a (tT X.K W ta)) (hb : L2.PW X (.BoolOp .And (b :: rest) pos) (tT X.K W tb)) : L2.PW X (.BoolOp .And (a :: b :: rest) pos) (tT X.K W (wAnd ta tb)) := PWi.imp (pw_and ha hb) fun _ _ _ h => tAnd_of h
theorem t_orC (ha : PT X a (tT X.K W ta)) (hb : L2.PW X (.BoolOp .Or (b :: rest) pos) (tT X.K W tb)) : L2.PW X (.BoolOp .Or (a :: b :: rest) pos) (tT X.K W (wOr ta tb)) := PWi.imp (pw_or ha hb) fun _ _ _ h => tOr_of h
theorem t_pw {e : Expr} (h : L2.PW X e (tT X.K W ta)) : PT X e (tT X.K W ta) := h.pt
theorem t_not (ha : PT X a (tT X.K W ta)) : PT X (.UnaryOp .Not a pos) (tT X.K W (wNot ta)) := by
  refine PT.imp (pt_not ha) fun σ H Q ⟨H0, F0, A0, s, T, kx, k, w, xl, h, q⟩ => ?_
  exact ⟨H0, F0, A0, s, T, kx, _, w, xl, h, fun c s1 h1 H1 w1 => q _ _ h1 H1 w1⟩
/-- and, or, not as values (of bools) -/
def wAndV (wa wb : EW) : EW := fun kx s k => wa kx s fun x s1 => ∃ c, x = .d (.bool c) ∧ (c = true → wb kx s1 k) ∧ (c = false → k (.d (.bool false)) s1)
def wOrV (wa wb : EW) : EW := fun kx s k => wa kx s fun x s1 => ∃ c, x = .d (.bool c) ∧ (c = true → k (.d (.bool true)) s1) ∧ (c = false → wb kx s1 k)
def wNotV (wa : EW) : EW := fun kx s k => wa kx s fun x s1 => ∃ c, x = .d (.bool c) ∧ k (.d (.bool (!c))) s1
def wIf (t : TW) (wa wb : EW) : EW := fun kx s k => t kx s fun c s1 => (c = true → wa kx s1 k) ∧ (c = false → wb kx s1 k)
theorem e_andC (ha : PE X a (tE X.K W wa)) (hb : PE X (.BoolOp .And (b :: rest) pos) (tE X.K W wb)) : PE X (.BoolOp .And (a :: b :: rest) pos) (tE X.K W (wAndV wa wb)) := by
  refine PE.imp (pe_and ha hb) fun σ H Q ⟨H0, F0, A0, s, T, kx, k, w, xl, h, q⟩ => un_of w xl h fun x s1 u H1 h1 w1 => ?_
  obtain ⟨c, rfl, h1, h2⟩ := h1
  obtain ⟨F, A, w1⟩ := w1
  refine ⟨c, dp_bl (dq_dp (w1.tm _ List.mem_cons_self)), ?_⟩
  have w2 := w1.sub (T' := T) fun t h => List.mem_cons_of_mem _ h
  cases c with
  | true => exact iteT ⟨H0, F0, A0, s1, T, kx, k, ⟨F, A, w2⟩, xl, h1 rfl, q⟩
  | false => exact iteF (q _ _ (h2 rfl) _ H1 ⟨F, A, w2.push (.bl _)⟩)
theorem e_orC (ha : PE X a (tE X.K W wa)) (hb : PE X (.BoolOp .Or (b :: rest) pos) (tE X.K W wb)) : PE X (.BoolOp .Or (a :: b :: rest) pos) (tE X.K W (wOrV wa wb)) := by
  refine PE.imp (pe_or ha hb) fun σ H Q ⟨H0, F0, A0, s, T, kx, k, w, xl, h, q⟩ => un_of w xl h fun x s1 u H1 h1 w1 => ?_
  obtain ⟨c, rfl, h1, h2⟩ := h1
  obtain ⟨F, A, w1⟩ := w1
  refine ⟨c, dp_bl (dq_dp (w1.tm _ List.mem_cons_self)), ?_⟩
  have w2 := w1.sub (T' := T) fun t h => List.mem_cons_of_mem _ h
  cases c with
  | true => exact iteT (q _ _ (h1 rfl) _ H1 ⟨F, A, w2.push (.bl _)⟩)
  | false => exact iteF ⟨H0, F0, A0, s1, T, kx, k, ⟨F, A, w2⟩, xl, h2 rfl, q⟩
theorem e_one {op : BoolOp} (ha : PE X a (tE X.K W wa)) : PE X (.BoolOp op [a] pos) (tE X.K W wa) := pe_one ha
theorem e_not (ha : PE X a (tE X.K W wa)) : PE X (.UnaryOp .Not a pos) (tE X.K W (wNotV wa)) := by
  refine PE.imp (pe_not ha) fun σ H Q ⟨H0, F0, A0, s, T, kx, k, w, xl, h, q⟩ => un_of w xl h fun x s1 u H1 h1 w1 => ?_
  obtain ⟨c, rfl, h1⟩ := h1
  obtain ⟨F, A, w1⟩ := w1
  exact ⟨c, dp_bl (dq_dp (w1.tm _ List.mem_cons_self)), q _ _ h1 _ H1 ⟨F, A, (w1.sub fun t h => List.mem_cons_of_mem _ h).push (.bl _)⟩⟩
theorem e_if (hc : PT X c (tT X.K W ta)) (ha : PE X a (tE X.K W wa)) (hb : PE X b (tE X.K W wb)) : PE X (.IfExp c a b pos) (tE X.K W (wIf ta wa wb)) := by
  refine PE.imp (pe_ifExp hc ha hb) fun σ H Q ⟨H0, F0, A0, s, T, kx, k, w, xl, h, q⟩ => ?_
  refine ⟨H0, F0, A0, s, T, kx, _, w, xl, h, fun c s1 h1 H1 w1 => ?_⟩
  cases c with
  | true => exact iteT ⟨H0, F0, A0, s1, T, kx, k, w1, xl, h1.1 rfl, q⟩
  | false => exact iteF ⟨H0, F0, A0, s1, T, kx, k, w1, xl, h1.2 rfl, q⟩
end
end PW
namespace PW
open PySem L2
/-! ### arguments, displays, items, slices -/
def frzs : List PV → PSt → (List PyData → PSt → Prop) → Prop
  | [], s, k => k [] s
  | v :: vs, s, k => frz v s fun x s1 => frzs vs s1 fun xs s2 => k (x :: xs) s2
/-- arguments of a def: the script goes as it is, owned lists are frozen -/
def prep : List PV → PSt → (List PV → PSt → Prop) → Prop
  | [], s, k => k [] s
  | .scr ns :: vs, s, k => prep vs s fun xs s2 => k (.scr ns :: xs) s2
  | .gl u :: vs, s, k => prep vs s fun xs s2 => k (.gl u :: xs) s2
  | .exc u :: vs, s, k => prep vs s fun xs s2 => k (.exc u :: xs) s2
  | .dk u :: vs, s, k => prep vs s fun xs s2 => k (.dk u :: xs) s2
  | .own n :: vs, s, k => match s.o[n]? with
    | some (.di kvs) => prep vs (s.frzV n (.dk kvs)) fun xs s2 => k (.dk kvs :: xs) s2
    | _ => frz (.own n) s fun x s1 => prep vs s1 fun xs s2 => k (.d x :: xs) s2
  | v :: vs, s, k => frz v s fun x s1 => prep vs s1 fun xs s2 => k (.d x :: xs) s2
section
variable {K : PySem.W.Frag} {H0 F0 : Hp} {A0 : List Addr} {σ : St} {H : Hp}
theorem frzs_ok : ∀ (vs : List PV) (us : List V) (s : PSt) (T : List (PV × V)) (k : List PyData → PSt → Prop), us.length = vs.length → Wd K H0 F0 A0 s σ (vs.zip us ++ T) H → frzs vs s k →
    ∃ xs s', k xs s' ∧ xs.length = us.length ∧ Wd K H0 F0 A0 s' σ ((xs.map PV.d).zip us ++ T) H
  | [], [], s, T, k, _, w, h => ⟨[], s, h, rfl, w⟩
  | v :: vs, u :: us, s, T, k, e, w, h => by
    obtain ⟨x, s1, h1, w1⟩ := frz_ok w h
    obtain ⟨xs, s2, h2, e2, w2⟩ := frzs_ok vs us s1 ((.d x, u) :: T) _ (Nat.succ.inj e) (w1.sub fun t ht => by
      rcases List.mem_append.mp ht with q | q
      · exact List.mem_cons_of_mem _ (List.mem_append_left _ q)
      · rcases List.mem_cons.mp q with q | q
        · rw [q]; exact List.mem_cons_self
        · exact List.mem_cons_of_mem _ (List.mem_append_right _ q)) h1
    refine ⟨x :: xs, s2, h2, by rw [List.length_cons, List.length_cons, e2], w2.sub fun t ht => ?_⟩
    rcases List.mem_cons.mp ht with q | q
    · rw [q]; exact List.mem_append_right _ List.mem_cons_self
    · rcases List.mem_append.mp q with q | q
      · exact List.mem_append_left _ q
      · exact List.mem_append_right _ (List.mem_cons_of_mem _ q)
  | [], _ :: _, _, _, _, e, _, _ => nomatch e
  | _ :: _, [], _, _, _, e, _, _ => nomatch e
/-- what a prepared argument is -/
def Plain : PV → Prop
  | .own _ => False
  | .tp _ => False
  | _ => True
theorem prep_cons {v : PV} {vs : List PV} {s : PSt} {k : List PV → PSt → Prop} (h : prep (v :: vs) s k) : (Plain v ∧ prep vs s fun xs s2 => k (v :: xs) s2) ∨ (frz v s fun x s1 => prep vs s1 fun xs s2 => k (.d x :: xs) s2) ∨
    ∃ n kvs, v = .own n ∧ s.o[n]? = some (.di kvs) ∧ prep vs (s.frzV n (.dk kvs)) fun xs s2 => k (.dk kvs :: xs) s2 := by
  cases v with
  | scr ns => exact .inl ⟨True.intro, h⟩
  | gl ns => exact .inl ⟨True.intro, h⟩
  | exc ns => exact .inl ⟨True.intro, h⟩
  | d x => exact .inr (.inl h)
  | own n =>
    have h : (match s.o[n]? with
      | some (.di kvs) => prep vs (s.frzV n (.dk kvs)) fun xs s2 => k (.dk kvs :: xs) s2
      | _ => frz (.own n) s fun x s1 => prep vs s1 fun xs s2 => k (.d x :: xs) s2) := h
    split at h
    · rename_i kvs e
      exact .inr (.inr ⟨n, kvs, rfl, e, h⟩)
    · exact .inr (.inl h)
  | tp ps => exact .inr (.inl h)
  | xd ps => exact .inr (.inl h)
  | dk ps => exact .inl ⟨True.intro, h⟩
theorem prep_ok : ∀ (vs : List PV) (us : List V) (s : PSt) (T : List (PV × V)) (k : List PV → PSt → Prop), us.length = vs.length → Wd K H0 F0 A0 s σ (vs.zip us ++ T) H → prep vs s k →
    ∃ xs s', k xs s' ∧ xs.length = us.length ∧ (∀ x ∈ xs, Plain x) ∧ Wd K H0 F0 A0 s' σ (xs.zip us ++ T) H
  | [], [], s, T, k, _, w, h => ⟨[], s, h, rfl, (fun _ z => nomatch z), w⟩
  | v :: vs, u :: us, s, T, k, e, w, h => by
    have go : ∃ x s1, Plain x ∧ (prep vs s1 fun xs s2 => k (x :: xs) s2) ∧ Wd K H0 F0 A0 s1 σ ((x, u) :: (vs.zip us ++ T)) H := by
      rcases prep_cons h with ⟨pl, h⟩ | h | ⟨n, kvs, rfl, ho, h⟩
      · exact ⟨v, s, pl, h, w⟩
      · obtain ⟨x, s1, h1, w1⟩ := frz_ok w h
        exact ⟨.d x, s1, True.intro, h1, w1⟩
      · obtain ⟨F, A, w⟩ := w
        obtain ⟨p, hp, rfl⟩ := w.tm _ List.mem_cons_self
        obtain ⟨F', w'⟩ := w.frzD hp ho
        refine ⟨.dk kvs, _, True.intro, h, F', A, w'.sub fun t ht => ?_⟩
        rcases List.mem_cons.mp ht with e | ht
        · rw [e]; exact List.mem_cons_self
        · exact List.mem_cons_of_mem _ (List.mem_cons_of_mem _ ht)
    obtain ⟨x, s1, px, h1, w1⟩ := go
    obtain ⟨xs, s2, h2, e2, p2, w2⟩ := prep_ok vs us s1 ((x, u) :: T) _ (Nat.succ.inj e) (w1.sub fun t ht => by
      rcases List.mem_append.mp ht with q | q
      · exact List.mem_cons_of_mem _ (List.mem_append_left _ q)
      · rcases List.mem_cons.mp q with q | q
        · rw [q]; exact List.mem_cons_self
        · exact List.mem_cons_of_mem _ (List.mem_append_right _ q)) h1
    refine ⟨x :: xs, s2, h2, by rw [List.length_cons, List.length_cons, e2], fun y hy => ?_, w2.sub fun t ht => ?_⟩
    · rcases List.mem_cons.mp hy with q | q
      · rw [q]; exact px
      · exact p2 y q
    · rcases List.mem_cons.mp ht with q | q
      · rw [q]; exact List.mem_append_right _ List.mem_cons_self
      · rcases List.mem_append.mp q with q | q
        · exact List.mem_append_left _ q
        · exact List.mem_append_right _ (List.mem_cons_of_mem _ q)
  | [], _ :: _, _, _, _, e, _, _ => nomatch e
  | _ :: _, [], _, _, _, e, _, _ => nomatch e
/-- frozen temps, read off -/
theorem temps_dq {s : PSt} {F : Hp} {A : List Addr} : ∀ (xs : List PyData) (us : List V) (T : List (PV × V)), xs.length = us.length → WdF K H0 F0 A0 s σ ((xs.map PV.d).zip us ++ T) H F A → DqAll K F us xs
  | [], [], _, _, _ => .nil
  | x :: xs, u :: us, T, e, w => .cons (w.tm (.d x, u) List.mem_cons_self) (temps_dq xs us T (Nat.succ.inj e) (w.sub fun t h => List.mem_cons_of_mem _ h))
  | [], _ :: _, _, e, _ => nomatch e
  | _ :: _, [], _, e, _ => nomatch e
end
def wNil : AW := fun _ s k => k [] s
def wCons (wa : EW) (wr : AW) : AW := fun kx s k => wa kx s fun x s1 => wr kx s1 fun xs s2 => k (x :: xs) s2
def wTup (ws : AW) : EW := fun kx s k => ws kx s fun vs s1 => frzs vs s1 fun xs s2 => xs.length ≤ sizeLine ∧ k (.d (.tuple xs)) s2
def wLst (ws : AW) : EW := fun kx s k => ws kx s fun vs s1 => frzs vs s1 fun xs s2 => xs.length ≤ sizeLine ∧ k (.own s2.o.length) ⟨s2.r, s2.o ++ [.dl xs]⟩
def ixD (a : PyData) (i : Int) : Option PyData := match a with
  | .list xs => atI xs i
  | .tuple xs => atI xs i
  | .str z => (atI z.cps.toList i).map fun c => .str ⟨#[c]⟩
  | _ => none
def strLe : PyData → Prop
  | .str z => z.length ≤ sizeLine
  | _ => True
def wIx (wa wb : EW) : EW := fun kx s k => wa kx s fun x s1 => wb kx s1 fun y s2 => ∃ a i, dat s2 x = some a ∧ dat s2 y = some (.int i) ∧ strLe a ∧ ∃ z, ixD a i = some z ∧ k (.d z) s2
def cutD {α : Type} (xs : List α) (lo hi : Option Int) : List α := (xs.drop (HT.sIx xs.length 0 lo)).take (HT.sIx xs.length xs.length hi - HT.sIx xs.length 0 lo)
def wNoPart : OW := fun _ s k => k none s
def wPart (wa : EW) : OW := fun kx s k => wa kx s fun x s1 => ∃ i, x = .d (.int i) ∧ k (some i) s1
/-- a slice: of a text, a tuple; a new list -/
def wSl (wa : EW) (wl wh : OW) : EW := fun kx s k => wa kx s fun x s1 => wl kx s1 fun lo s2 => wh kx s2 fun hi s3 => ∃ a, dat s3 x = some a ∧ match a with
  | .str z => z.length ≤ sizeLine ∧ k (.d (.str (cutS z lo hi))) s3
  | .tuple xs => k (.d (.tuple (cutD xs lo hi))) s3
  | .list xs => k (.own s3.o.length) ⟨s3.r, s3.o ++ [.dl (cutD xs lo hi)]⟩
  | _ => False
section
variable {X : Cx} {W : WX} {a b e : Expr} {es : List Expr} {wa wb we : EW} {ws : AW} {wl wh : OW} {pos : Pos}
theorem a_nil : PA X [] (tA X.K W wNil) := PA.imp pa_nil fun σ H Q ⟨H0, F0, A0, s, T, kx, k, w, xl, h, q⟩ => q [] s h [] H rfl w
theorem a_cons (ha : PE X e (tE X.K W we)) (hr : PA X es (tA X.K W ws)) (hs : starEach (e :: es) X.env = (false, eval e X.env) :: starEach es X.env := by rfl) : PA X (e :: es) (tA X.K W (wCons we ws)) := by
  refine PA.imp (pa_cons ha hr hs) fun σ H Q ⟨H0, F0, A0, s, T, kx, k, w, xl, h, q⟩ => ?_
  refine ⟨H0, F0, A0, s, T, kx, _, w, xl, h, fun x s1 h1 u H1 w1 => ?_⟩
  refine ⟨H0, F0, A0, s1, (x, u) :: T, kx, _, w1, xl.push, h1, fun xs s2 h2 us H2 e2 w2 => ?_⟩
  refine q _ _ h2 _ H2 (by rw [List.length_cons, List.length_cons, e2]) (w2.sub fun t ht => ?_)
  rcases List.mem_cons.mp ht with z | z
  · rw [z]; exact List.mem_append_right _ List.mem_cons_self
  · rcases List.mem_append.mp z with z | z
    · exact List.mem_append_left _ z
    · exact List.mem_append_right _ (List.mem_cons_of_mem _ z)
theorem ar_of {σ : St} {H : Hp} {Q : List V → Hp → Prop} {H0 F0 : Hp} {A0 : List Addr} {s : PSt} {T : List (PV × V)} {kx : KX} {R : List PV → PSt → Prop} (w : Wd X.K H0 F0 A0 s σ T H) (xl : XL X.K H0 F0 A0 T W kx)
    (h : ws kx s R) (hr : ∀ vs s1 us H1, R vs s1 → us.length = vs.length → Wd X.K H0 F0 A0 s1 σ (vs.zip us ++ T) H1 → Q us H1) : tA X.K W ws σ H Q := ⟨H0, F0, A0, s, T, kx, R, w, xl, h, fun vs s1 h1 us H1 e w1 => hr vs s1 us H1 h1 e w1⟩
theorem e_tup {x1} (h : PA X es (tA X.K W ws)) : PE X (.Tuple es x1 pos) (tE X.K W (wTup ws)) := by
  refine PE.imp (pe_tup h) fun σ H Q ⟨H0, F0, A0, s, T, kx, k, w, xl, h, q⟩ => ar_of w xl h fun vs s1 us H1 h1 e w1 => ?_
  obtain ⟨xs, s2, ⟨hz, hk⟩, e2, w2⟩ := frzs_ok vs us s1 T _ e w1 h1
  refine ⟨by rw [← e2]; exact hz, fun p hp => ?_⟩
  obtain ⟨F, A, w2⟩ := w2
  have d := temps_dq xs us T e2 w2
  have w3 := w2.newD (o := .tup us) hp
  refine q _ _ hk _ _ ⟨_, A, (w3.sub fun t h => List.mem_append_right _ h).push (.tup (SqT.of upd_same) (dqAll_same (same_new (w2.fz.g.free hp)) d))⟩
theorem e_lst (h : PA X es (tA X.K W ws)) : PE X (.List es pos) (tE X.K W (wLst ws)) := by
  refine PE.imp (pe_lst h) fun σ H Q ⟨H0, F0, A0, s, T, kx, k, w, xl, h, q⟩ => ar_of w xl h fun vs s1 us H1 h1 e w1 => ?_
  obtain ⟨xs, s2, ⟨hz, hk⟩, e2, w2⟩ := frzs_ok vs us s1 T _ e w1 h1
  refine ⟨by rw [← e2]; exact hz, fun p hp => ?_⟩
  obtain ⟨F, A, w2⟩ := w2
  have d := temps_dq xs us T e2 w2
  have w3 := (w2.sub (T' := T) fun t h => List.mem_append_right _ h).newL hp d
  refine q _ _ hk _ _ ⟨_, _, w3.push ⟨p, ?_, rfl⟩⟩
  rw [← w2.len, List.getElem?_append_right (Nat.le_refl _), Nat.sub_self]
  rfl
theorem atI_map {α β : Type} (f : α → β) (xs : List α) (i : Int) : atI (xs.map f) i = (atI xs i).map f := by
  unfold atI
  rw [List.length_map]
  cases ixN xs.length i with
  | none => rfl
  | some j => simp
theorem atI_dq {K : PySem.W.Frag} {H : Hp} {vs : List V} {ds : List PyData} {i : Int} {z : PyData} (h : DqAll K H vs ds) (e : atI ds i = some z) : ∃ v, atI vs i = some v ∧ Dq K H v z := by
  unfold atI at e ⊢
  rw [h.len]
  cases hx : ixN ds.length i with
  | none => rw [hx] at e; cases e
  | some j =>
    rw [hx] at e
    exact h.getd j z e
theorem e_ix (ha : PE X a (tE X.K W wa)) (hb : PE X b (tE X.K W wb)) (hs : PlainIx b := by exact fun _ _ => rfl) : PE X (.Subscript a b pos) (tE X.K W (wIx wa wb)) := by
  refine PE.imp (pe_ix ix_seq ha hb hs) fun σ H Q ⟨H0, F0, A0, s, T, kx, k, w, xl, h, q⟩ => tOp_of w xl h fun x y s2 u v H2 hR w2 => ?_
  obtain ⟨d, i, hd, hi, hz, z, ez, hk⟩ := hR
  obtain ⟨F, A, w2⟩ := w2
  have pu := w2.tm _ (List.mem_cons_of_mem _ List.mem_cons_self)
  have ev := dp_int (dat_ok w2 (w2.tm _ List.mem_cons_self) hi)
  have w3 := w2.sub (T' := T) fun t h => List.mem_cons_of_mem _ (List.mem_cons_of_mem _ h)
  cases d with
  | list xs =>
    obtain ⟨p, vs, e1, h1, h2⟩ := items_ok w2 pu hd
    obtain ⟨t, h3, h4⟩ := atI_dq h2 ez
    exact .inl ⟨p, vs, i, t, e1, ev, h1, h3, q _ _ hk t H2 ⟨F, A, w3.push h4⟩⟩
  | tuple xs =>
    obtain ⟨p, vs, e1, h1, h2⟩ := itemsT_ok w2 pu hd
    obtain ⟨t, h3, h4⟩ := atI_dq h2 ez
    exact .inr (.inl ⟨p, vs, i, t, e1, ev, h1, h3, q _ _ hk t H2 ⟨F, A, w3.push h4⟩⟩)
  | str zs =>
    have ez : (atI zs.cps.toList i).map (fun c => PyData.str ⟨#[c]⟩) = some z := ez
    cases hc : atI zs.cps.toList i with
    | none => rw [hc] at ez; cases ez
    | some c =>
      rw [hc] at ez
      cases ez
      exact .inr (.inr ⟨zs, i, c, dp_str (dat_ok w2 pu hd), ev, hz, hc, q _ _ hk _ H2 ⟨F, A, w3.push (.str _)⟩⟩)
  | _ => cases ez
theorem o_none : PO X none (tO X.K W wNoPart) := PO.imp po_none fun σ H Q ⟨H0, F0, A0, s, T, kx, k, w, xl, h, q⟩ => q _ _ h H w
theorem o_some (h : PE X e (tE X.K W we)) : PO X (some e) (tO X.K W (wPart we)) := by
  refine PO.imp (po_some h) fun σ H Q ⟨H0, F0, A0, s, T, kx, k, w, xl, h, q⟩ => un_of w xl h fun x s1 u H1 h1 w1 => ?_
  obtain ⟨i, rfl, hk⟩ := h1
  obtain ⟨F, A, w1⟩ := w1
  exact ⟨i, dp_int (dq_dp (w1.tm _ List.mem_cons_self)), q _ _ hk H1 ⟨F, A, w1.sub fun t h => List.mem_cons_of_mem _ h⟩⟩
theorem cut_dq {K : PySem.W.Frag} {H : Hp} {vs : List V} {ds : List PyData} (lo hi : Option Int) (h : DqAll K H vs ds) : DqAll K H (cutV vs lo hi) (cutD ds lo hi) := by
  unfold cutV cutD
  rw [h.len]
  exact (h.drop _).take _
abbrev rSlP (K : PySem.W.Frag) : V → Option Int → Option Int → Hp → VK → Prop := fun x lo hi H Q => rSlL K x lo hi H Q ∨ (rSlA K x lo hi H Q ∨ rSlS x lo hi H Q)
theorem sl_of {σ : St} {H : Hp} {Q : VK} (h : tE X.K W (wSl we wl wh) σ H Q) : tSl (rSlP X.K) (tE X.K W we) (tO X.K W wl) (tO X.K W wh) σ H Q := by
  obtain ⟨H0, F0, A0, s, T, kx, k, w, xl, h, q⟩ := h
  refine un_of w xl h fun x s1 u H1 h1 w1 => ?_
  refine ⟨H0, F0, A0, s1, (x, u) :: T, kx, _, w1, xl.push, h1, fun lo s2 h2 H2 w2 => ?_⟩
  refine ⟨H0, F0, A0, s2, (x, u) :: T, kx, _, w2, xl.push, h2, fun hi s3 h3 H3 w3 => ?_⟩
  obtain ⟨d, hd, hk⟩ := h3
  obtain ⟨F, A, w3⟩ := w3
  have pu := w3.tm _ List.mem_cons_self
  have w4 := w3.sub (T' := T) fun t h => List.mem_cons_of_mem _ h
  cases d with
  | list xs =>
    obtain ⟨p, vs, e1, i1, i2⟩ := items_ok w3 pu hd
    refine .inl ⟨p, vs, e1, i1, fun n hn => q _ _ hk _ _ ⟨F, _, (w4.newL hn (cut_dq lo hi i2)).push ⟨n, ?_, rfl⟩⟩⟩
    rw [← w3.len, List.getElem?_append_right (Nat.le_refl _), Nat.sub_self]
    rfl
  | tuple xs =>
    obtain ⟨p, vs, e1, i1, i2⟩ := itemsT_ok w3 pu hd
    refine .inr (.inl ⟨p, vs, e1, i1, fun hw => ?_, fun hw n hn => ?_⟩)
    · have el : cutV vs lo hi = vs := by
        unfold cutV
        rw [hw.1, hw.2, List.drop_zero, Nat.sub_zero, List.take_length]
      have h3 := cut_dq lo hi i2
      rw [el] at h3
      cases x with
      | d y =>
        cases hd
        cases pu with
        | tup k1 k2 =>
          refine q _ _ hk _ _ ⟨F, A, w4.push ?_⟩
          cases e1
          exact .tup k1 (by
            have el2 : cutD xs lo hi = xs := by
              unfold cutD
              rw [← i2.len, hw.1, hw.2, List.drop_zero, Nat.sub_zero, i2.len, List.take_length]
            rw [el2]; exact k2)
      | scr ns => cases hd
      | tp ps => cases hd
      | gl g => cases hd
      | exc y => cases hd
      | xd y => cases hd
      | dk y => cases hd
      | own m =>
        have hd : ocD s3.o[m]? = some (.tuple xs) := hd
        cases ho : s3.o[m]? with
        | none => rw [ho] at hd; cases hd
        | some c => rw [ho] at hd; cases c <;> cases hd
    · have w5 := w4.newD (o := .tup (cutV vs lo hi)) hn
      exact q _ _ hk _ _ ⟨_, A, w5.push (.tup (SqT.of upd_same) (dqAll_same (same_new (w3.fz.g.free hn)) (cut_dq lo hi i2)))⟩
  | str z => exact .inr (.inr ⟨z, dp_str (dat_ok w3 pu hd), hk.1, q _ _ hk.2 _ H3 ⟨F, A, w4.push (.str _)⟩⟩)
  | _ => exact hk.elim
theorem e_sl {lo hi : Option Expr} {p2 : Pos} (he : PE X e (tE X.K W we)) (hl : PO X lo (tO X.K W wl)) (hu : PO X hi (tO X.K W wh)) : PE X (.Subscript e (.Slice lo hi none p2) pos) (tE X.K W (wSl we wl wh)) :=
  PE.imp (pe_slice (sl_list.or (sl_tupA.or sl_str)) he hl hu) fun σ H Q h => sl_of h
theorem tE_mono {σ : St} {H : Hp} {Q Q' : VK} (h : tE X.K W we σ H Q) (f : ∀ v H', Q v H' → Q' v H') : tE X.K W we σ H Q' := by
  obtain ⟨H0, F0, A0, s, T, kx, k, w, xl, h, q⟩ := h
  exact ⟨H0, F0, A0, s, T, kx, k, w, xl, h, fun v s' hk u H' w' => f _ _ (q v s' hk u H' w')⟩
theorem tO_none {σ : St} {H : Hp} {Q : Option Int → Hp → Prop} (h : tO X.K W wNoPart σ H Q) : Q none H := by
  obtain ⟨H0, F0, A0, s, T, kx, k, w, xl, h, q⟩ := h
  exact q none s h H w
theorem tO_int {σ : St} {H : Hp} {Q : Option Int → Hp → Prop} {i : Int} (h : tO X.K W (wPart (wC (.int i))) σ H Q) : Q (some i) H := by
  obtain ⟨H0, F0, A0, s, T, kx, k, w, xl, ⟨i', e, h⟩, q⟩ := h
  cases e
  exact q _ s h H w
/-- list + list: a new list -/
def rCatD : PyData → PyData → (List PyData → Prop) → Prop := fun a b q => match a, b with
  | .list xs, .list ys => xs.length + ys.length ≤ sizeLine ∧ q (xs ++ ys)
  | _, _ => False
def wCat (wa wb : EW) : EW := fun kx s k => wa kx s fun x s1 => wb kx s1 fun y s2 => ∃ xs ys, datq s2 x = some (.list xs) ∧ datq s2 y = some (.list ys) ∧ xs.length + ys.length ≤ sizeLine ∧ k (.own s2.o.length) ⟨s2.r, s2.o ++ [.dl (xs ++ ys)]⟩
theorem itemsq_ok {K : PySem.W.Frag} {H0 F0 : Hp} {A0 : List Addr} {s : PSt} {σ : St} {T : List (PV × V)} {H F : Hp} {A : List Addr} {v : PV} {u : V} {xs : List PyData} (w : WdF K H0 F0 A0 s σ T H F A) (p : PVOk K F A v u) (e : datq s v = some (.list xs)) :
    ∃ a vs, u = .ref a ∧ H a = some (.lst vs) ∧ DqAll K F vs xs := by
  cases v with
  | d y =>
    cases e
    cases p with
    | lst h t => exact ⟨_, _, rfl, w.fz.g _ _ h, t⟩
  | scr ns => cases e
  | tp ps => cases e
  | gl g => cases e
  | exc y => cases e
  | xd y => cases e
  | dk y => cases e
  | own n =>
    obtain ⟨q, hq, rfl⟩ := p
    have e : ocD s.o[n]? = some (.list xs) := e
    cases ho : s.o[n]? with
    | none => rw [ho] at e; cases e
    | some c =>
      rw [ho] at e
      cases c with
      | no => cases e
      | dl ys =>
        cases e
        obtain ⟨_, vs, h1, h2⟩ := w.oc n q _ hq ho
        exact ⟨_, _, rfl, h1, h2⟩
      | di kvs => cases e
      | ml ps => cases e
      | ob _ _ => cases e
      | dm _ => cases e
      | dt _ => cases e
theorem top_at {K : PySem.W.Frag} {H0 F0 : Hp} {A0 : List Addr} {s : PSt} {σ : St} {T : List (PV × V)} {H F : Hp} {A : List Addr} (w : WdF K H0 F0 A0 s σ T H F A) (n : Addr) (F' : Hp) : PVOk K F' (A ++ [n]) (.own s.o.length) (.ref n) := by
  refine ⟨n, ?_, rfl⟩
  rw [← w.len, List.getElem?_append_right (Nat.le_refl _), Nat.sub_self]
  rfl
theorem e_cat (ha : PE X a (tE X.K W wa)) (hb : PE X b (tE X.K W wb)) : PE X (.BinOp a .Add b pos) (tE X.K W (wCat wa wb)) := by
  refine PE.imp (pe_op op_cat ha hb) fun σ H Q ⟨H0, F0, A0, s, T, kx, k, w, xl, h, q⟩ => tOp_of w xl h fun x y s2 u v H2 hR w2 => ?_
  obtain ⟨xs, ys, hx, hy, hz, hk⟩ := hR
  obtain ⟨F, A, w2⟩ := w2
  obtain ⟨p, vs, e1, h1, h2⟩ := itemsq_ok w2 (w2.tm _ (List.mem_cons_of_mem _ List.mem_cons_self)) hx
  obtain ⟨p', vs', e1', h1', h2'⟩ := itemsq_ok w2 (w2.tm _ List.mem_cons_self) hy
  have w3 := w2.sub (T' := T) fun t h => List.mem_cons_of_mem _ (List.mem_cons_of_mem _ h)
  refine ⟨p, p', vs, vs', e1, e1', h1, h1', by rw [h2.len, h2'.len]; exact hz, fun n hn => q _ _ hk _ _ ⟨F, _, (w3.newL hn (h2.app h2')).push (top_at w3 n F)⟩⟩
end
end PW
namespace PW
open PySem L2
/-! ### calls of the text's own defs -/
inductive RV where
  | d (x : PyData)
  | new (xs : List PyData)
/-- a def by its arguments, the lists lent to it, what is wanted of what it hands back, of what it raises -/
abbrev FS := List PV → List OC → (RV → List OC → Prop) → (XV → List OC → Prop) → Prop
def RetOk (K : PySem.W.Frag) (H0 F0 : Hp) (A0 : List Addr) (r : RV) (v : V) (o : List OC) (H : Hp) : Prop :=
  match r with
  | .d x => Wd K H0 F0 A0 ⟨[], o⟩ [] [(.d x, v)] H
  | .new xs => Wd K H0 F0 A0 ⟨[], o ++ [.dl xs]⟩ [] [(.own o.length, v)] H
def spOf (K : PySem.W.Frag) (S : FS) : Sp := fun vs H Q E => ∃ H0 F0 A0 args o ret exc, Wd K H0 F0 A0 ⟨args.map some, o⟩ (vs.map some) [] H ∧ A0.length = o.length ∧ S args o ret exc ∧
  (∀ r o', ret r o' → o'.length = o.length → ∀ v H', RetOk K H0 F0 A0 r v o' H' → Q v H') ∧ ∀ x o', exc x o' → o'.length = o.length → ∀ d H', Wd K H0 F0 A0 ⟨[], o'⟩ [] [(.xd x.fs, dV d)] H' → E (.ref x.C) d H'
section
variable {K : PySem.W.Frag} {H0 F0 : Hp} {A0 : List Addr} {s : PSt} {σ : St} {T : List (PV × V)} {H F H' F' : Hp} {A : List Addr}
/-- the heap behind a call that was lent nothing -/
theorem WdF.after (w : WdF K H0 F0 A0 s σ T H F A) (z : Fz H F H' F') : WdF K H0 F0 A0 s σ T H' F' A where
  fz := ⟨w.fz.f.trans z.f, z.g, w.fz.h.trans z.h, fun p h1 h2 => z.n p (fun e => h1 (w.fz.h.free e)) (w.fz.n p h1 h2)⟩
  pre := w.pre
  len := w.len
  nd := w.nd
  ad := fun q hq => ⟨(w.ad q hq).1, fun e => (w.ad q hq).2 (z.h.free e)⟩
  oc := fun n p c h1 h2 => by
    exact (w.oc n p c h1 h2).mono z.f (List.prefix_refl _) (fun a => z.n p (w.ad p (List.mem_of_getElem? h1)).2 a) fun o a => z.h _ _ a
  sl := w.sl
  pv := fun i v h => by
    obtain ⟨u, a, b⟩ := w.pv i v h
    exact ⟨u, a, b.mono z.f (List.prefix_refl _)⟩
  tm := fun t ht => (w.tm t ht).mono z.f (List.prefix_refl _)
/-- H without p -/
def lendH (H : Hp) (p : Addr) : Hp := fun b => if b = p then none else H b
theorem lendH_ne {H : Hp} {p b : Addr} (h : b ≠ p) : lendH H p b = H b := if_neg h
theorem lendH_eq {H : Hp} {p : Addr} : lendH H p p = none := if_pos rfl
/-- .. one list lent -/
theorem WdF.afterL {n : Nat} {p : Addr} {c : OC} (w : WdF K H0 F0 A0 s σ T H F A) (hn : A[n]? = some p) (z : Fz (lendH H p) F H' F') (hp : H' p ≠ none) (hc : OCOk K F' H' A p c) : WdF K H0 F0 A0 ⟨s.r, s.o.set n c⟩ σ T H' F' A where
  fz := by
    have p0 := (w.ad p (List.mem_of_getElem? hn)).1
    refine ⟨w.fz.f.trans z.f, z.g, fun a u e => ?_, fun q h1 h2 => ?_⟩
    · have ne : a ≠ p := ne_of_none e p0
      exact z.h a u (by rw [lendH_ne ne]; exact w.fz.h a u e)
    · have ne : q ≠ p := fun e => h1 (e ▸ p0)
      exact z.n q (by rw [lendH_ne ne]; exact fun e => h1 (w.fz.h.free e)) (w.fz.n q h1 h2)
  pre := w.pre
  len := by rw [List.length_set]; exact w.len
  nd := w.nd
  ad := fun q hq => ⟨(w.ad q hq).1, fun e => by
    by_cases h : q = p
    · exact hp (h ▸ e)
    · exact (w.ad q hq).2 (by rw [← lendH_ne (H := H) h]; exact z.h.free e)⟩
  oc := fun m q c' h1 h2 => by
    by_cases hm : m = n
    · subst hm
      rw [hn] at h1
      cases h1
      have hl : m < s.o.length := by rw [← w.len]; exact (List.getElem?_eq_some_iff.mp hn).1
      have h2 : (s.o.set m c)[m]? = some c' := h2
      rw [List.getElem?_set_self hl] at h2
      cases h2
      exact hc
    · have h2 : (s.o.set n c)[m]? = some c' := h2
      rw [List.getElem?_set_ne (Ne.symm hm)] at h2
      have ne := nodup_ne w.nd h1 hn hm
      exact (w.oc m q c' h1 h2).mono z.f (List.prefix_refl _) (fun a => z.n q (by rw [lendH_ne ne]; exact (w.ad q (List.mem_of_getElem? h1)).2) a) fun o a => z.h _ _ (by rw [lendH_ne ne]; exact a)
  sl := w.sl
  pv := fun i v h => by
    obtain ⟨u, a, b⟩ := w.pv i v h
    exact ⟨u, a, b.mono z.f (List.prefix_refl _)⟩
  tm := fun t ht => (w.tm t ht).mono z.f (List.prefix_refl _)
/-- one more owned list, that stands already -/
theorem WdF.addL {q : Addr} {c : OC} (w : WdF K H0 F0 A0 s σ T H F A) (hq : q ∉ A) (h0 : H0 q = none) (h1 : H q ≠ none) (hc : OCOk K F H (A ++ [q]) q c) : WdF K H0 F0 A0 ⟨s.r, s.o ++ [c]⟩ σ T H F (A ++ [q]) where
  fz := w.fz
  pre := w.pre.trans (List.prefix_append _ _)
  len := by rw [List.length_append, List.length_append, w.len]; rfl
  nd := by
    rw [List.nodup_append]
    refine ⟨w.nd, by simp, fun a ha b hb => ?_⟩
    have e : b = q := by simpa using hb
    rw [e]
    exact fun e => hq (e ▸ ha)
  ad := fun p hp => by
    rcases List.mem_append.mp hp with h | h
    · exact w.ad p h
    · have e : p = q := by simpa using h
      rw [e]; exact ⟨h0, h1⟩
  oc := fun n p c' e1 e2 => by
    rcases Nat.lt_trichotomy n A.length with hn | hn | hn
    · rw [List.getElem?_append_left hn] at e1
      have e2 : (s.o ++ [c])[n]? = some c' := e2
      rw [List.getElem?_append_left (by rw [← w.len]; exact hn)] at e2
      exact (w.oc n p c' e1 e2).mono (Same.refl _) (List.prefix_append _ _) id fun _ z => z
    · subst hn
      have e2 : (s.o ++ [c])[A.length]? = some c' := e2
      rw [List.getElem?_append_right (Nat.le_refl _), Nat.sub_self] at e1
      rw [List.getElem?_append_right (by rw [w.len]; exact Nat.le_refl _), w.len, Nat.sub_self] at e2
      cases e1
      cases e2
      exact hc
    · rw [List.getElem?_eq_none (by rw [List.length_append]; show A.length + 1 ≤ n; omega)] at e1
      cases e1
  sl := w.sl
  pv := fun i v h => by
    obtain ⟨u, a, b⟩ := w.pv i v h
    exact ⟨u, a, b.mono (Same.refl _) (List.prefix_append _ _)⟩
  tm := fun t ht => (w.tm t ht).mono (Same.refl _) (List.prefix_append _ _)
end
/-- f(a, ..): nothing lent -/
def wCall (S : FS) (ws : AW) : EW := fun kx s k => ws kx s fun vs s1 => prep vs s1 fun xs s2 => S xs [] (fun r _ => match r with | .d z => k (.d z) s2 | .new zs => k (.own s2.o.length) ⟨s2.r, s2.o ++ [.dl zs]⟩) (fun x _ => kx x s2)
/-- f(l, a, ..): the first one, an owned list, is lent -/
def wCallL (S : FS) (ws : AW) : EW := fun kx s k => ws kx s fun vs s1 => ∃ n rest, vs = .own n :: rest ∧ prep rest s1 fun xs s2 => ∃ c, s2.o[n]? = some (.dl c) ∧ S (.own 0 :: xs) [.dl c]
  (fun r o => ∃ c', o = [.dl c'] ∧ match r with | .d z => k (.d z) ⟨s2.r, s2.o.set n (.dl c')⟩ | .new zs => k (.own s2.o.length) ⟨s2.r, s2.o.set n (.dl c') ++ [.dl zs]⟩) (fun x o => ∃ c', o = [.dl c'] ∧ kx x ⟨s2.r, s2.o.set n (.dl c')⟩)
section
variable {X : Cx} {W : WX} {k : Nat} {f : Addr} {fd : FuncData} {ps : List Str} {S : FS} {x : Str} {p pos : Pos} {e : Expr} {es : List Expr} {ws : AW}
theorem args_wd {K : PySem.W.Frag} {H0 F0 : Hp} {A0 : List Addr} {s : PSt} {σ : St} {T : List (PV × V)} {H F : Hp} {A : List Addr} (w : WdF K H0 F0 A0 s σ T H F A) (xs : List PV) (us : List V) (e : xs.length = us.length) (hp : ∀ x ∈ xs, Plain x) (ht : ∀ t ∈ xs.zip us, t ∈ T) :
    ∀ (i : Nat) v, (xs.map some)[i]? = some (some v) → ∃ u, (us.map some)[i]? = some (some u) ∧ ∀ A', PVOk K F A' v u := fun i v hv => by
  rw [List.getElem?_map] at hv
  cases hx : xs[i]? with
  | none => rw [hx] at hv; cases hv
  | some y =>
    rw [hx] at hv
    have hv : some y = some v := Option.some.inj hv
    cases hv
    have hi : i < xs.length := (List.getElem?_eq_some_iff.mp hx).1
    have hu : us[i]? = some us[i] := List.getElem?_eq_getElem (by rw [← e]; exact hi)
    refine ⟨us[i], by rw [List.getElem?_map, hu]; rfl, fun A' => ?_⟩
    have hz : (xs.zip us)[i]? = some (v, us[i]) := by
      rw [List.getElem?_zip_eq_some]
      exact ⟨hx, hu⟩
    have q := w.tm _ (ht _ (List.mem_of_getElem? hz))
    cases v with
    | d z => exact q
    | scr ns => exact q
    | gl g => exact q
    | exc y => exact q
    | xd y => exact q
    | dk y => exact q
    | tp ps => exact (hp _ (List.mem_of_getElem? hx)).elim
    | own n => exact (hp _ (List.mem_of_getElem? hx)).elim
theorem e_call (F : FnOk X.prog X.w X.K X.mg X.base (L2N.CX X.prog X.w) k f fd ps (spOf X.K S)) (tk : L2N.Takes X W) (hr : Room k X.A) (hg : Gl X x) (hm : X.mg x = some (.ref f)) (hk : PySem.W.keepIn X.K (.ref f) = true) (hb : Binds X.K fd ps [])
    (ha : PA X (e :: es) (tA X.K W ws)) (hdb : (x == ("__debug__" : Str)) = false := by decide) (he : starEach (e :: es) X.env = (false, eval e X.env) :: starEach es X.env := by rfl) (hpl : (backTo pos (starEach es X.env)).any (·.1) = false := by rfl) :
    PE X (.Call (.Name x p) (e :: es) [] pos) (tE X.K W (wCall S ws)) := by
  refine PE.imp (pe_callS F hr hg hm hk hb (fun σ => L2N.passAt tk σ) ha hdb he hpl) fun σ H Q ⟨H0, F0, A0, s, T, kx, kk, w, xl, h, q⟩ => ar_of w xl h fun vs s1 us H1 h1 e1 w1 => ?_
  obtain ⟨xs, s2, hS, e2, pl, w2⟩ := prep_ok vs us s1 T _ e1 w1 h1
  obtain ⟨F1, A, w2⟩ := w2
  have w3 := w2.sub (T' := T) fun t h => List.mem_append_right _ h
  refine ⟨H1, F1, [], xs, [], _, _, ⟨F1, [], ?_⟩, rfl, hS, fun r o hr ho v H' ret => ?_, fun y o hx ho d H' w' => ?_⟩
  · refine ⟨⟨Same.refl _, w2.fz.g, Same.refl _, fun p _ h => h⟩, List.prefix_refl _, rfl, List.nodup_nil, (fun _ z => nomatch z), (fun n p c z => by simp at z), (by rw [List.length_map, List.length_map, e2]), (fun i v hv => ?_), (fun _ z => nomatch z)⟩
    obtain ⟨u, a, b⟩ := args_wd w2 xs us e2 pl (fun t h => List.mem_append_left _ h) i v hv
    exact ⟨u, a, b _⟩
  · cases List.eq_nil_of_length_eq_zero ho
    cases r with
    | d z =>
      obtain ⟨F', A', w'⟩ := ret
      have dz : Dq X.K F' v z := w'.tm (.d z, v) List.mem_cons_self
      exact q _ _ hr v H' ⟨F', A, (w3.after w'.fz).push dz⟩
    | new zs =>
      obtain ⟨F', A', w'⟩ := ret
      obtain ⟨qq, hq, rfl⟩ := w'.tm (.own 0, v) List.mem_cons_self
      have ad := w'.ad qq (List.mem_of_getElem? hq)
      have oc := w'.oc 0 qq (.dl zs) hq rfl
      have w4 := w3.after w'.fz
      have nin : qq ∉ A := fun hA => (w2.ad qq hA).2 ad.1
      refine q _ _ hr _ H' ⟨F', A ++ [qq], (w4.addL (c := .dl zs) nin (w3.fz.h.free ad.1) ad.2 oc).push ⟨qq, ?_, rfl⟩⟩
      rw [← w4.len, List.getElem?_append_right (Nat.le_refl _), Nat.sub_self]
      rfl
  · obtain ⟨F', A', w'⟩ := w'
    have px : PVOk X.K F' A (.xd y.fs) (dV d) := w'.tm (.xd y.fs, dV d) List.mem_cons_self
    exact xl y s2 hx σ H' d ⟨F', A, (w3.after w'.fz).push px⟩
theorem e_callL (F : FnOk X.prog X.w X.K X.mg X.base (L2N.CX X.prog X.w) k f fd ps (spOf X.K S)) (tk : L2N.Takes X W) (hr : Room k X.A) (hg : Gl X x) (hm : X.mg x = some (.ref f)) (hk : PySem.W.keepIn X.K (.ref f) = true) (hb : Binds X.K fd ps [])
    (ha : PA X (e :: es) (tA X.K W ws)) (hdb : (x == ("__debug__" : Str)) = false := by decide) (he : starEach (e :: es) X.env = (false, eval e X.env) :: starEach es X.env := by rfl) (hpl : (backTo pos (starEach es X.env)).any (·.1) = false := by rfl) :
    PE X (.Call (.Name x p) (e :: es) [] pos) (tE X.K W (wCallL S ws)) := by
  refine PE.imp (pe_callS F hr hg hm hk hb (fun σ => L2N.passAt tk σ) ha hdb he hpl) fun σ H Q ⟨H0, F0, A0, s, T, kx, kk, w, xl, h, q⟩ => ar_of w xl h fun vs s1 us H1 h1 e1 w1 => ?_
  obtain ⟨n, rest, rfl, h1⟩ := h1
  cases us with
  | nil => cases e1
  | cons u us =>
    obtain ⟨xs, s2, hS, e2, pl, w2⟩ := prep_ok rest us s1 ((.own n, u) :: T) _ (Nat.succ.inj e1) (w1.sub fun t ht => by
      rcases List.mem_append.mp ht with z | z
      · exact List.mem_append_left _ (List.mem_cons_of_mem _ z)
      · rcases List.mem_cons.mp z with z | z
        · rw [z]; exact List.mem_append_left _ List.mem_cons_self
        · exact List.mem_append_right _ z) h1
    obtain ⟨F1, A, w2⟩ := w2
    obtain ⟨pp, hpp, eu⟩ := w2.tm (.own n, u) (List.mem_append_right _ List.mem_cons_self)
    subst eu
    have w3 := w2.sub (T' := T) fun t h => List.mem_append_right _ (List.mem_cons_of_mem _ h)
    have adp := w3.ad pp (List.mem_of_getElem? hpp)
    obtain ⟨c, hc, hS⟩ := hS
    have ocp := w3.oc n pp (.dl c) hpp hc
    have out : ∀ {H' F' : Hp} {A' : List Addr} {o1 : List OC} {T' : List (PV × V)} {c' : List PyData}, WdF X.K (lendH H1 pp) F1 [pp] ⟨[], o1⟩ [] T' H' F' A' → o1[0]? = some (.dl c') → WdF X.K H0 F0 A0 ⟨s2.r, s2.o.set n (.dl c')⟩ σ T H' F' A := fun {H' F' A' o1 T' c'} w' ho => by
      obtain ⟨t, rfl⟩ := w'.pre
      have h0 : ([pp] ++ t)[0]? = some pp := rfl
      exact w3.afterL hpp w'.fz (w'.ad pp (List.mem_of_getElem? h0)).2 (c := .dl c') (w'.oc 0 pp (.dl c') h0 ho)
    refine ⟨lendH H1 pp, F1, [pp], .own 0 :: xs, [.dl c], _, _, ⟨F1, [pp], ?_⟩, rfl, hS, fun r o hr ho v H' ret => ?_, fun y o hx ho d H' w' => ?_⟩
    · refine ⟨⟨Same.refl _, w2.fz.g, fun a u e => ?_, fun p _ h => h⟩, List.prefix_refl _, rfl, by simp, fun a ha => ?_, fun m a c' e3 e4 => ?_, ?_, fun i v hv => ?_, fun _ z => nomatch z⟩
      · by_cases hh : a = pp
        · rw [hh, lendH_eq] at e; cases e
        · rw [lendH_ne hh] at e; exact e
      · have e : a = pp := by simpa using ha
        rw [e]
        exact ⟨lendH_eq, adp.2⟩
      · cases m with
        | zero =>
          cases e3
          cases e4
          exact ocp
        | succ m => cases e3
      · show ((PV.own 0 :: xs).map some).length = ((V.ref pp :: us).map some).length
        rw [List.length_map, List.length_map, List.length_cons, List.length_cons, e2]
      · cases i with
        | zero =>
          cases hv
          exact ⟨.ref pp, rfl, pp, rfl, rfl⟩
        | succ i =>
          obtain ⟨u, a, b⟩ := args_wd w2 xs us e2 pl (fun t h => List.mem_append_left _ h) i v hv
          exact ⟨u, a, b _⟩
    · obtain ⟨c', rfl, hr⟩ := hr
      cases r with
      | d z =>
        obtain ⟨F', A', w'⟩ := ret
        have dz : Dq X.K F' v z := w'.tm (.d z, v) List.mem_cons_self
        exact q _ _ hr v H' ⟨F', A, (out w' rfl).push dz⟩
      | new zs =>
        obtain ⟨F', A', w'⟩ := ret
        obtain ⟨qq, hq, rfl⟩ := w'.tm (.own 1, v) List.mem_cons_self
        have ad := w'.ad qq (List.mem_of_getElem? hq)
        have oc := w'.oc 1 qq (.dl zs) hq rfl
        have w4 := out (c' := c') w' rfl
        have nep : qq ≠ pp := by
          obtain ⟨t, et⟩ := w'.pre
          subst et
          exact nodup_ne w'.nd (m := 1) (n := 0) hq rfl (by decide)
        have hqn : H1 qq = none := by
          have := ad.1
          rw [lendH_ne nep] at this
          exact this
        have nin : qq ∉ A := fun hA => (w2.ad qq hA).2 hqn
        refine q _ _ hr _ H' ⟨F', A ++ [qq], (w4.addL (c := .dl zs) nin (w3.fz.h.free hqn) ad.2 oc).push ⟨qq, ?_, rfl⟩⟩
        show (A ++ [qq])[s2.o.length]? = some qq
        rw [← w3.len, List.getElem?_append_right (Nat.le_refl _), Nat.sub_self]
        rfl
    · obtain ⟨c', rfl, hx⟩ := hx
      obtain ⟨F', A', w'⟩ := w'
      have px : PVOk X.K F' A (.xd y.fs) (dV d) := w'.tm (.xd y.fs, dV d) List.mem_cons_self
      exact xl y _ hx σ H' d ⟨F', A, (out w' rfl).push px⟩
/-- f() -/
def wCall0 (S : FS) : EW := fun kx s k => S [] [] (fun r _ => match r with | .d z => k (.d z) s | .new zs => k (.own s.o.length) ⟨s.r, s.o ++ [.dl zs]⟩) (fun _ _ => False)
theorem e_call0 (F : FnOk X.prog X.w X.K X.mg X.base (L2N.CX X.prog X.w) k f fd ps (spOf X.K S)) (hr : Room k X.A) (hg : Gl X x) (hm : X.mg x = some (.ref f)) (hk : PySem.W.keepIn X.K (.ref f) = true) (hb : Binds X.K fd ps [])
    (hdb : (x == ("__debug__" : Str)) = false := by decide) : PE X (.Call (.Name x p) [] [] pos) (tE X.K W (wCall0 S)) := by
  refine PE.imp (pe_call0 F hr hg hm hk hb .nil L2N.passL hdb) fun σ H Q ⟨H0, F0, A0, s, T, kx, kk, w, xl, hS, q⟩ => ?_
  obtain ⟨F1, A, w3⟩ := w
  refine ⟨H, F1, [], [], [], _, _, ⟨F1, [], ?_⟩, rfl, hS, fun r o hr ho v H' ret => ?_, fun y o hx ho d H' w' => hx.elim⟩
  · exact ⟨⟨Same.refl _, w3.fz.g, Same.refl _, fun p _ h => h⟩, List.prefix_refl _, rfl, List.nodup_nil, (fun _ z => nomatch z), (fun n p c z => by simp at z), rfl, (fun i v hv => by simp at hv), (fun _ z => nomatch z)⟩
  · cases List.eq_nil_of_length_eq_zero ho
    cases r with
    | d z =>
      obtain ⟨F', A', w'⟩ := ret
      have dz : Dq X.K F' v z := w'.tm (.d z, v) List.mem_cons_self
      exact q _ _ hr v H' ⟨F', A, (w3.after w'.fz).push dz⟩
    | new zs =>
      obtain ⟨F', A', w'⟩ := ret
      obtain ⟨qq, hq, rfl⟩ := w'.tm (.own 0, v) List.mem_cons_self
      have ad := w'.ad qq (List.mem_of_getElem? hq)
      have oc := w'.oc 0 qq (.dl zs) hq rfl
      have w4 := w3.after w'.fz
      have nin : qq ∉ A := fun hA => (w3.ad qq hA).2 ad.1
      refine q _ _ hr _ H' ⟨F', A ++ [qq], (w4.addL (c := .dl zs) nin (w3.fz.h.free ad.1) ad.2 oc).push ⟨qq, ?_, rfl⟩⟩
      rw [← w4.len, List.getElem?_append_right (Nat.le_refl _), Nat.sub_self]
      rfl
end
end PW
namespace PW
open PySem L2
/-! ### built-in functions and methods -/
def lenD : PyData → (Int → Prop) → Prop := fun a q => match a with
  | .str z => z.length ≤ sizeLine ∧ q (z.length : Int)
  | .list xs => q (xs.length : Int)
  | .tuple xs => q (xs.length : Int)
  | _ => False
def wLen (wa : EW) : EW := fun kx s k => wa kx s fun x s1 => ∃ d, dat s1 x = some d ∧ lenD d fun n => k (.d (.int n)) s1
def wInt1 (wa : EW) : EW := fun kx s k => wa kx s fun x s1 => (∃ i, x = .d (.int i) ∧ k (.d (.int i)) s1) ∨ ∃ b, x = .d (.bool b) ∧ k (.d (.int (if b then 1 else 0))) s1
def wAbs (wa : EW) : EW := fun kx s k => wa kx s fun x s1 => ∃ i, x = .d (.int i) ∧ k (.d (.int (if i < 0 then -i else i))) s1
def wMax2 (wa wb : EW) : EW := fun kx s k => wa kx s fun x s1 => wb kx s1 fun y s2 => ∃ i j, x = .d (.int i) ∧ y = .d (.int j) ∧ k (.d (.int (if j > i then j else i))) s2
def wMin2 (wa wb : EW) : EW := fun kx s k => wa kx s fun x s1 => wb kx s1 fun y s2 => ∃ i j, x = .d (.int i) ∧ y = .d (.int j) ∧ k (.d (.int (if j < i then j else i))) s2
def tyD : PyData → String
  | .none => "NoneType"
  | .bool _ => "bool"
  | .int _ => "int"
  | .str _ => "str"
  | .list _ => "list"
  | .tuple _ => "tuple"
  | .dict _ => "dict"
/-- the type of what an owned thing holds -/
def tyOC : Option OC → Option String
  | some (.dl _) => some "list"
  | some (.ml _) => some "list"
  | some (.di _) => some "dict"
  | some (.dm _) => some "dict"
  | _ => none
def tyPV (s : PSt) : PV → Option String
  | .d x => some (tyD x)
  | .scr _ => some "list"
  | .tp _ => some "tuple"
  | .dk _ => some "dict"
  | .own n => tyOC s.o[n]?
  | _ => none
def wIsi (t : String) (wa : EW) : EW := fun kx s k => wa kx s fun x s1 => ∃ d r, tyPV s1 x = some d ∧ kitB d t = some r ∧ k (.d (.bool r)) s1
def wIsi2 (t u : String) (wa : EW) : EW := fun kx s k => wa kx s fun x s1 => ∃ d r r', tyPV s1 x = some d ∧ kitB d t = some r ∧ kitB d u = some r' ∧ k (.d (.bool (r || r'))) s1
/-- list(xs): a new one -/
def wListOf (wa : EW) : EW := fun kx s k => wa kx s fun x s1 => ∃ xs, (dat s1 x = some (.list xs) ∨ dat s1 x = some (.tuple xs)) ∧ k (.own s1.o.length) ⟨s1.r, s1.o ++ [.dl xs]⟩
def wTupOf (wa : EW) : EW := fun kx s k => wa kx s fun x s1 => ∃ xs, (dat s1 x = some (.list xs) ∨ dat s1 x = some (.tuple xs)) ∧ k (.d (.tuple xs)) s1
/-- methods of texts: o.m(e) -/
def wM1 (R : Str → PyData → (PyData → Prop) → Prop) (wo we : EW) : EW := fun kx s k => wo kx s fun x s1 => ∃ a, x = .d (.str a) ∧ we kx s1 fun y s2 => ∃ b, dat s2 y = some b ∧ R a b fun z => k (.d z) s2
def wM1L (R : Str → PyData → (List PyData → Prop) → Prop) (wo we : EW) : EW := fun kx s k => wo kx s fun x s1 => ∃ a, x = .d (.str a) ∧ we kx s1 fun y s2 => ∃ b, dat s2 y = some b ∧ R a b fun zs => k (.own s2.o.length) ⟨s2.r, s2.o ++ [.dl zs]⟩
def rFindD : Str → PyData → (PyData → Prop) → Prop := fun a b q => match b with
  | .str b => q (.int (Txt.find a b))
  | _ => False
def strsOf : List PyData → Option (List Str)
  | [] => some []
  | .str x :: r => (strsOf r).map (x :: ·)
  | _ :: _ => none
def rJoinD : Str → PyData → (PyData → Prop) → Prop := fun a b q => match b with
  | .list xs => ∃ ys, strsOf xs = some ys ∧ (ys.map (·.length)).sum + ys.length * a.length ≤ 16777216 ∧ q (.str (Txt.join a ys))
  | .tuple xs => ∃ ys, strsOf xs = some ys ∧ (ys.map (·.length)).sum + ys.length * a.length ≤ 16777216 ∧ q (.str (Txt.join a ys))
  | _ => False
def rSplitD : Str → PyData → (List PyData → Prop) → Prop := fun a b q => match b with
  | .str b => (b.length == 0) = false ∧ a.length + 2 ≤ sizeLine ∧ q ((Txt.split a b).map PyData.str)
  | _ => False
/-- methods of owned lists -/
def wApp (wo we : EW) : EW := fun kx s k => wo kx s fun x s1 => ∃ n ws, x = .own n ∧ s1.o[n]? = some (.dl ws) ∧ we kx s1 fun y s2 => frz y s2 fun d s3 => ∃ xs, s3.o[n]? = some (.dl xs) ∧ xs.length < sizeLine ∧ k (.d .none) ⟨s3.r, s3.o.set n (.dl (xs ++ [d]))⟩
def wExt (wo we : EW) : EW := fun kx s k => wo kx s fun x s1 => ∃ n ws, x = .own n ∧ s1.o[n]? = some (.dl ws) ∧ we kx s1 fun y s2 => ∃ xs ys, s2.o[n]? = some (.dl xs) ∧ datq s2 y = some (.list ys) ∧ xs.length + ys.length ≤ sizeLine ∧ k (.d .none) ⟨s2.r, s2.o.set n (.dl (xs ++ ys))⟩
def wPop (wo : EW) : EW := fun kx s k => wo kx s fun x s1 => ∃ n xs d, x = .own n ∧ s1.o[n]? = some (.dl xs) ∧ xs[xs.length - 1]? = some d ∧ k (.d d) ⟨s1.r, s1.o.set n (.dl xs.dropLast)⟩
section
variable {X : Cx} {W : WX} {a b e wo_e : Expr} {wa wb we wo : EW} {pos p : Pos}
theorem len_dp {K : PySem.W.Frag} {H : Hp} {u : V} {d : PyData} {P : Int → Prop} (h : Dp K H u d) (t : lenD d P) : ∃ n : Nat, LenV K u H n ∧ P n := by
  cases h with
  | str x => exact ⟨_, ⟨t.1, rfl⟩, t.2⟩
  | @lst a xs ds h r => exact ⟨xs.length, .inl ⟨_, h, rfl⟩, by
      have e : xs.length = ds.length := DpAll_len r
      rw [e]; exact t⟩
  | @tup a xs ds h r => exact ⟨xs.length, .inr ⟨_, h, rfl⟩, by
      have e : xs.length = ds.length := DpAll_len r
      rw [e]; exact t⟩
  | _ => exact t.elim
where DpAll_len {K : PySem.W.Frag} {H : Hp} : ∀ {vs : List V} {ds : List PyData}, DpAll K H vs ds → vs.length = ds.length
  | _, _, .nil => rfl
  | _, _, .cons _ t => by rw [List.length_cons, List.length_cons, DpAll_len t]
/-- one argument, then what the call's rule asks -/
theorem cb1_of {r : List V → Hp → VK → Prop} {σ : St} {H : Hp} {Q : VK} {H0 F0 : Hp} {A0 : List Addr} {s : PSt} {T : List (PV × V)} {kx : KX} {R : PV → PSt → Prop} (w : Wd X.K H0 F0 A0 s σ T H) (xl : XL X.K H0 F0 A0 T W kx)
    (h : wa kx s R) (hr : ∀ x s1 u H1, R x s1 → Wd X.K H0 F0 A0 s1 σ ((x, u) :: T) H1 → r [u] H1 Q) : tCB r (tCons (tE X.K W wa) tNil) σ H Q := un_of w xl h fun x s1 u H1 h1 w1 => hr x s1 u H1 h1 w1
theorem cb2_of {r : List V → Hp → VK → Prop} {σ : St} {H : Hp} {Q : VK} {H0 F0 : Hp} {A0 : List Addr} {s : PSt} {T : List (PV × V)} {kx : KX} {R : PV → PV → PSt → Prop} (w : Wd X.K H0 F0 A0 s σ T H) (xl : XL X.K H0 F0 A0 T W kx)
    (h : wa kx s fun x s1 => wb kx s1 fun y s2 => R x y s2) (hr : ∀ x y s2 u v H2, R x y s2 → Wd X.K H0 F0 A0 s2 σ ((y, v) :: (x, u) :: T) H2 → r [u, v] H2 Q) : tCB r (tCons (tE X.K W wa) (tCons (tE X.K W wb) tNil)) σ H Q :=
  ⟨H0, F0, A0, s, T, kx, _, w, xl, h, fun x s1 h1 u H1 w1 => ⟨H0, F0, A0, s1, (x, u) :: T, kx, _, w1, xl.push, h1, fun y s2 h2 v H2 w2 => hr x y s2 u v H2 h2 w2⟩⟩
theorem e_len (hm : X.mg "len" = none) (ha : PE X a (tE X.K W wa)) (hg : Gl X "len" := by rfl) (he : starEach [a] X.env = (false, eval a X.env) :: starEach [] X.env := by rfl) (hpl : (backTo pos (starEach [] X.env)).any (·.1) = false := by rfl) :
    PE X (.Call (.Name "len" p) [a] [] pos) (tE X.K W (wLen wa)) := by
  refine PE.imp (pe_callB call_len hg hm PySem.boot_len (pa_cons ha pa_nil he) (he := he) (hpl := hpl)) fun σ H Q ⟨H0, F0, A0, s, T, kx, k, w, xl, h, q⟩ => cb1_of w xl h fun x s1 u H1 h1 w1 => ?_
  obtain ⟨d, hd, t⟩ := h1
  obtain ⟨F, A, w1⟩ := w1
  obtain ⟨n, h1, h2⟩ := len_dp (dat_ok w1 (w1.tm _ List.mem_cons_self) hd) t
  exact ⟨u, n, rfl, h1, q _ _ h2 _ H1 ⟨F, A, (w1.sub fun t h => List.mem_cons_of_mem _ h).push (.int _)⟩⟩
theorem e_int1 (hm : X.mg "int" = none) (ha : PE X a (tE X.K W wa)) (hg : Gl X "int" := by rfl) (he : starEach [a] X.env = (false, eval a X.env) :: starEach [] X.env := by rfl) (hpl : (backTo pos (starEach [] X.env)).any (·.1) = false := by rfl) :
    PE X (.Call (.Name "int" p) [a] [] pos) (tE X.K W (wInt1 wa)) := by
  refine PE.imp (pe_callTy call_int1 hg hm (by decide +kernel) (pa_cons ha pa_nil he) (he := he) (hpl := hpl)) fun σ H Q ⟨H0, F0, A0, s, T, kx, k, w, xl, h, q⟩ => cb1_of w xl h fun x s1 u H1 h1 w1 => ?_
  obtain ⟨F, A, w1⟩ := w1
  have w2 := w1.sub (T' := T) fun t h => List.mem_cons_of_mem _ h
  rcases h1 with ⟨i, rfl, hk⟩ | ⟨b, rfl, hk⟩
  · cases dp_int (dq_dp (w1.tm _ List.mem_cons_self))
    exact .inl ⟨i, rfl, q _ _ hk _ H1 ⟨F, A, w2.push (.int _)⟩⟩
  · cases dp_bl (dq_dp (w1.tm _ List.mem_cons_self))
    exact .inr ⟨b, rfl, q _ _ hk _ H1 ⟨F, A, w2.push (.int _)⟩⟩
theorem e_abs (hm : X.mg "abs" = none) (ha : PE X a (tE X.K W wa)) (hg : Gl X "abs" := by rfl) (he : starEach [a] X.env = (false, eval a X.env) :: starEach [] X.env := by rfl) (hpl : (backTo pos (starEach [] X.env)).any (·.1) = false := by rfl) :
    PE X (.Call (.Name "abs" p) [a] [] pos) (tE X.K W (wAbs wa)) := by
  refine PE.imp (pe_callB call_abs hg hm (by decide +kernel) (pa_cons ha pa_nil he) (he := he) (hpl := hpl)) fun σ H Q ⟨H0, F0, A0, s, T, kx, k, w, xl, h, q⟩ => cb1_of w xl h fun x s1 u H1 h1 w1 => ?_
  obtain ⟨F, A, w1⟩ := w1
  obtain ⟨i, rfl, hk⟩ := h1
  cases dp_int (dq_dp (w1.tm _ List.mem_cons_self))
  exact ⟨i, rfl, q _ _ hk _ H1 ⟨F, A, (w1.sub fun t h => List.mem_cons_of_mem _ h).push (.int _)⟩⟩
theorem e_max2 (hc : X.calm = true) (hm : X.mg "max" = none) (ha : PE X a (tE X.K W wa)) (hb : PE X b (tE X.K W wb)) (hg : Gl X "max" := by rfl) (he : starEach [a, b] X.env = (false, eval a X.env) :: starEach [b] X.env := by rfl) (he2 : starEach [b] X.env = (false, eval b X.env) :: starEach [] X.env := by rfl) (hpl : (backTo pos (starEach [b] X.env)).any (·.1) = false := by rfl) :
    PE X (.Call (.Name "max" p) [a, b] [] pos) (tE X.K W (wMax2 wa wb)) := by
  refine PE.imp (pe_callB (call_max2 hc) hg hm (by decide +kernel) (pa_cons ha (pa_cons hb pa_nil he2) he) (he := he) (hpl := hpl)) fun σ H Q ⟨H0, F0, A0, s, T, kx, k, w, xl, h, q⟩ => cb2_of w xl h fun x y s2 u v H2 h2 w2 => ?_
  obtain ⟨F, A, w2⟩ := w2
  obtain ⟨i, j, rfl, rfl, hk⟩ := h2
  cases dp_int (dq_dp (w2.tm _ List.mem_cons_self))
  cases dp_int (dq_dp (w2.tm (.d (.int i), u) (List.mem_cons_of_mem _ List.mem_cons_self)))
  exact ⟨i, j, rfl, q _ _ hk _ H2 ⟨F, A, (w2.sub fun t h => List.mem_cons_of_mem _ (List.mem_cons_of_mem _ h)).push (.int _)⟩⟩
theorem e_min2 (hc : X.calm = true) (hm : X.mg "min" = none) (ha : PE X a (tE X.K W wa)) (hb : PE X b (tE X.K W wb)) (hg : Gl X "min" := by rfl) (he : starEach [a, b] X.env = (false, eval a X.env) :: starEach [b] X.env := by rfl) (he2 : starEach [b] X.env = (false, eval b X.env) :: starEach [] X.env := by rfl) (hpl : (backTo pos (starEach [b] X.env)).any (·.1) = false := by rfl) :
    PE X (.Call (.Name "min" p) [a, b] [] pos) (tE X.K W (wMin2 wa wb)) := by
  refine PE.imp (pe_callB (call_min2 hc) hg hm (by decide +kernel) (pa_cons ha (pa_cons hb pa_nil he2) he) (he := he) (hpl := hpl)) fun σ H Q ⟨H0, F0, A0, s, T, kx, k, w, xl, h, q⟩ => cb2_of w xl h fun x y s2 u v H2 h2 w2 => ?_
  obtain ⟨F, A, w2⟩ := w2
  obtain ⟨i, j, rfl, rfl, hk⟩ := h2
  cases dp_int (dq_dp (w2.tm _ List.mem_cons_self))
  cases dp_int (dq_dp (w2.tm (.d (.int i), u) (List.mem_cons_of_mem _ List.mem_cons_self)))
  exact ⟨i, j, rfl, q _ _ hk _ H2 ⟨F, A, (w2.sub fun t h => List.mem_cons_of_mem _ (List.mem_cons_of_mem _ h)).push (.int _)⟩⟩
theorem ty_pv {K : PySem.W.Frag} {H0 F0 : Hp} {A0 : List Addr} {s : PSt} {σ : St} {T : List (PV × V)} {H F : Hp} {A : List Addr} {v : PV} {u : V} {d : PyData} (w : WdF K H0 F0 A0 s σ T H F A) (p : PVOk K F A v u) (e : dat s v = some d) : TyX K H u (.type (tyD d)) := by
  have g : Dq K H u d → TyX K H u (.type (tyD d)) := fun h => by
    cases h with
    | non => exact .base .non
    | bl b => exact .base (.bl b)
    | int i => exact .base (.int i)
    | str x => exact .base (.str x)
    | lst h r => exact .base (.lst h)
    | tup h r =>
      rcases h with (h | ⟨o, h⟩) | ⟨o, its, n, e, c, _⟩
      · exact .base (.tup h)
      · exact .fTuple h
      · exact .kTuple e c
  cases v with
  | d x => exact g (datq_ok w p e)
  | own n => exact g (datq_ok w p e)
  | tp ps => cases e
  | gl g => cases e
  | exc y => cases e
  | xd y => cases e
  | dk y => cases e
  | scr ns =>
    cases e
    obtain ⟨a, rfl, h⟩ := p
    rcases same_l w.fz.g h with (h | ⟨o, h⟩) | ⟨o, its, n, e, c, _⟩
    · exact .base (.lst h)
    · exact .base (.frz h)
    · exact .kList e c
theorem tyx_tup {K : PySem.W.Frag} {H : Hp} {a : Addr} {us : List V} (h : SqT K H a us) : TyX K H (.ref a) (.type "tuple") := by
  rcases h with (h | ⟨o, h⟩) | ⟨o, its, n, e, c, _⟩
  · exact .base (.tup h)
  · exact .fTuple h
  · exact .kTuple e c
theorem tyx_pv {K : PySem.W.Frag} {H0 F0 : Hp} {A0 : List Addr} {s : PSt} {σ : St} {T : List (PV × V)} {H F : Hp} {A : List Addr} {v : PV} {u : V} {t : String} (w : WdF K H0 F0 A0 s σ T H F A) (p : PVOk K F A v u) (e : tyPV s v = some t) : TyX K H u (.type t) := by
  cases v with
  | d x => cases e; exact ty_pv w p rfl
  | scr ns => cases e; exact ty_pv w p rfl
  | tp ps =>
    cases e
    obtain ⟨a, us, rfl, h, _⟩ := p
    exact tyx_tup (same_t w.fz.g h)
  | dk kvs =>
    cases e
    obtain ⟨a, vs, rfl, h, _⟩ := p
    exact .base (.dK (w.fz.g _ _ h))
  | own n =>
    obtain ⟨q, hq, rfl⟩ := p
    have e : tyOC s.o[n]? = some t := e
    cases ho : s.o[n]? with
    | none => rw [ho] at e; cases e
    | some c =>
      rw [ho] at e
      have oc := w.oc n q c hq ho
      cases c with
      | dl xs => cases e; obtain ⟨_, vs, h, _⟩ := oc; exact .base (.lst h)
      | ml xs => cases e; obtain ⟨_, vs, h, _⟩ := oc; exact .base (.lst h)
      | di xs => cases e; obtain ⟨_, vs, h, _⟩ := oc; exact .base (.dK h)
      | dm xs => cases e; obtain ⟨_, vs, h, _⟩ := oc; exact .base (.dK h)
      | _ => cases e
  | _ => cases e
/-- isinstance(x, T), T a built-in class -/
theorem e_isi {x : Str} {T : String} {q1 : Pos} (hm : X.mg "isinstance" = none) (hT : X.mg x = none) (hb : bootBuiltins x = some (.type T)) (ha : PE X a (tE X.K W wa)) (hgT : Gl X x := by rfl) (hg : Gl X "isinstance" := by rfl)
    (hn : x ≠ "__name__" := by decide) (hd : (x == ("__debug__" : Str)) = false := by decide)
    (he : starEach [a, .Name x q1] X.env = (false, eval a X.env) :: starEach [.Name x q1] X.env := by rfl) (he2 : starEach [.Name x q1] X.env = (false, eval (.Name x q1) X.env) :: starEach [] X.env := by rfl) (hpl : (backTo pos (starEach [.Name x q1] X.env)).any (·.1) = false := by rfl) :
    PE X (.Call (.Name "isinstance" p) [a, .Name x q1] [] pos) (tE X.K W (wIsi T wa)) := by
  have pt : PE X (.Name x q1) (tC (.ty T)) := pe_bltn hgT hT hb rfl hn hd
  refine PE.imp (pe_callB call_isi hg hm (by decide +kernel) (pa_cons ha (pa_cons pt pa_nil he2) he) (he := he) (hpl := hpl)) fun σ H Q ⟨H0, F0, A0, s, T', kx, k, w, xl, h, q⟩ => ?_
  refine un_of w xl h fun x s1 u H1 h1 w1 => ?_
  obtain ⟨d, r, hd, hk, hq⟩ := h1
  obtain ⟨F, A, w1⟩ := w1
  exact ⟨u, .ty T, _, _, r, rfl, .ty T, tyx_pv w1 (w1.tm _ List.mem_cons_self) hd, kit_ty hk, q _ _ hq _ H1 ⟨F, A, (w1.sub fun t h => List.mem_cons_of_mem _ h).push (.bl _)⟩⟩
theorem e_listOf (hm : X.mg "list" = none) (ha : PE X a (tE X.K W wa)) (hg : Gl X "list" := by rfl) (he : starEach [a] X.env = (false, eval a X.env) :: starEach [] X.env := by rfl) (hpl : (backTo pos (starEach [] X.env)).any (·.1) = false := by rfl) :
    PE X (.Call (.Name "list" p) [a] [] pos) (tE X.K W (wListOf wa)) := by
  refine PE.imp (pe_callTy call_list_of hg hm (by decide +kernel) (pa_cons ha pa_nil he) (he := he) (hpl := hpl)) fun σ H Q ⟨H0, F0, A0, s, T, kx, k, w, xl, h, q⟩ => cb1_of w xl h fun x s1 u H1 h1 w1 => ?_
  obtain ⟨xs, hd, hk⟩ := h1
  obtain ⟨F, A, w1⟩ := w1
  have w2 := w1.sub (T' := T) fun t h => List.mem_cons_of_mem _ h
  rcases hd with hd | hd
  · obtain ⟨pp, vs, rfl, h1, h2⟩ := items_ok w1 (w1.tm _ List.mem_cons_self) hd
    exact ⟨pp, vs, rfl, .inl h1, fun n hn => q _ _ hk _ _ ⟨F, _, (w2.newL hn h2).push (top_at w2 n F)⟩⟩
  · obtain ⟨pp, vs, rfl, h1, h2⟩ := itemsT_ok w1 (w1.tm _ List.mem_cons_self) hd
    exact ⟨pp, vs, rfl, .inr h1, fun n hn => q _ _ hk _ _ ⟨F, _, (w2.newL hn h2).push (top_at w2 n F)⟩⟩
theorem e_tupOf (hm : X.mg "tuple" = none) (ha : PE X a (tE X.K W wa)) (hg : Gl X "tuple" := by rfl) (he : starEach [a] X.env = (false, eval a X.env) :: starEach [] X.env := by rfl) (hpl : (backTo pos (starEach [] X.env)).any (·.1) = false := by rfl) :
    PE X (.Call (.Name "tuple" p) [a] [] pos) (tE X.K W (wTupOf wa)) := by
  refine PE.imp (pe_callTy call_tuple_of hg hm (by decide +kernel) (pa_cons ha pa_nil he) (he := he) (hpl := hpl)) fun σ H Q ⟨H0, F0, A0, s, T, kx, k, w, xl, h, q⟩ => cb1_of w xl h fun x s1 u H1 h1 w1 => ?_
  obtain ⟨xs, hd, hk⟩ := h1
  obtain ⟨F, A, w1⟩ := w1
  have w2 := w1.sub (T' := T) fun t h => List.mem_cons_of_mem _ h
  rcases hd with hd | hd
  · obtain ⟨pp, vs, rfl, h1, h2⟩ := items_ok w1 (w1.tm _ List.mem_cons_self) hd
    exact ⟨pp, vs, rfl, .inl ⟨h1, fun n hn => q _ _ hk _ _ ⟨_, A, (w2.newD (o := .tup vs) hn).push (.tup (SqT.of upd_same) (dqAll_same (same_new (w2.fz.g.free hn)) h2))⟩⟩⟩
  · cases x with
    | d y =>
      cases hd
      have pd : Dq X.K F u (.tuple xs) := w1.tm (.d (.tuple xs), u) List.mem_cons_self
      obtain ⟨pp, vs, rfl, h1, h2⟩ := itemsT_ok w1 (v := .d (.tuple xs)) pd rfl
      exact ⟨pp, vs, rfl, .inr ⟨h1, q _ _ hk _ _ ⟨F, A, w2.push pd⟩⟩⟩
    | scr ns => cases hd
    | tp ps => cases hd
    | gl g => cases hd
    | exc y => cases hd
    | xd y => cases hd
    | dk y => cases hd
    | own m =>
      have hd : ocD s1.o[m]? = some (.tuple xs) := hd
      cases ho : s1.o[m]? with
      | none => rw [ho] at hd; cases hd
      | some c => rw [ho] at hd; cases c <;> cases hd
/-! methods -/
theorem str_at {K : PySem.W.Frag} {H0 F0 : Hp} {A0 : List Addr} {s : PSt} {σ : St} {T : List (PV × V)} {H : Hp} {u : V} {z : Str} (w : Wd K H0 F0 A0 s σ T H) (h : (PV.d (.str z), u) ∈ T) : u = .str z := by
  obtain ⟨F, A, w⟩ := w
  exact dp_str (dq_dp (w.tm _ h))
/-- o.m(e), m a method of texts that gives data -/
theorem e_m1 {name : Str} {id : String} {r : V → List V → Hp → VK → Prop} {R : Str → PyData → (PyData → Prop) → Prop} {apos : Pos} (slot : Slot "str" name id) (hty : typeOf (.builtin id) = pure (.type "method_descriptor")) (hm : MtR X id r)
    (hR : ∀ (z : Str) (v : V) (b : PyData) (H : Hp) (Q : VK) (P : PyData → Prop), Dp X.K H v b → R z b P → (∀ y t, P y → toV y = some t → Q t H) → r (.str z) [v] H Q) (ho : PE X wo_e (tE X.K W wo)) (ha : PE X a (tE X.K W wa))
    (hbase : attributeBase wo_e name X.env (eval wo_e X.env) = eval wo_e X.env := by rfl)
    (hfew : ((backTo pos (starEach [a] X.env)).all (fun x => !x.1) && (backToKw pos (keywordEach [] X.env)).all (fun x => x.1.isSome)
      && decide ([a].length + ([] : List Keyword).length + (if ([] : List Keyword).isEmpty then 0 else 1) < 30)) = true := by rfl)
    (hline : (apos.endLine == pos.line) = true := by rfl) (hs : starEach [a] X.env = (false, eval a X.env) :: starEach [] X.env := by rfl) (hplain : (backTo pos (starEach [] X.env)).any (·.1) = false := by rfl) :
    PE X (.Call (.Attribute wo_e name apos) [a] [] pos) (tE X.K W (wM1 R wo wa)) := by
  refine PE.imp (pe_bm PySem.F.plainAttrs_str slot hty hm ho (pa_cons ha pa_nil hs) hbase hfew hline hs hplain) fun σ H Q ⟨H0, F0, A0, s, T, kx, k, w, xl, h, q⟩ => ?_
  refine ⟨H0, F0, A0, s, T, kx, _, w, xl, h, fun x s1 h1 u H1 w1 => ?_⟩
  obtain ⟨z, rfl, h1⟩ := h1
  cases str_at w1 List.mem_cons_self
  refine ⟨rfl, H0, F0, A0, s1, _, kx, _, w1, xl.push, h1, fun y s2 h2 v H2 w2 => ?_⟩
  obtain ⟨b, hb, h2⟩ := h2
  obtain ⟨F, A, w2⟩ := w2
  exact hR z v b H2 Q _ (dat_ok w2 (w2.tm _ List.mem_cons_self) hb) h2 fun y t hy ht => q _ _ hy t H2 ⟨F, A, (w2.sub fun t h => List.mem_cons_of_mem _ (List.mem_cons_of_mem _ h)).push (toV_dp ht)⟩
/-- .. that gives a new list of texts -/
theorem e_m1L {name : Str} {id : String} {r : V → List V → Hp → VK → Prop} {R : Str → PyData → (List PyData → Prop) → Prop} {apos : Pos} (slot : Slot "str" name id) (hty : typeOf (.builtin id) = pure (.type "method_descriptor")) (hm : MtR X id r)
    (hR : ∀ (z : Str) (v : V) (b : PyData) (H : Hp) (Q : VK) (P : List PyData → Prop), Dp X.K H v b → R z b P → (∀ ys, P ys → ∀ p vs, H p = none → (∀ F, DqAll X.K F vs ys) → Q (.ref p) (upd H p (.lst vs))) → r (.str z) [v] H Q) (ho : PE X wo_e (tE X.K W wo)) (ha : PE X a (tE X.K W wa))
    (hbase : attributeBase wo_e name X.env (eval wo_e X.env) = eval wo_e X.env := by rfl)
    (hfew : ((backTo pos (starEach [a] X.env)).all (fun x => !x.1) && (backToKw pos (keywordEach [] X.env)).all (fun x => x.1.isSome)
      && decide ([a].length + ([] : List Keyword).length + (if ([] : List Keyword).isEmpty then 0 else 1) < 30)) = true := by rfl)
    (hline : (apos.endLine == pos.line) = true := by rfl) (hs : starEach [a] X.env = (false, eval a X.env) :: starEach [] X.env := by rfl) (hplain : (backTo pos (starEach [] X.env)).any (·.1) = false := by rfl) :
    PE X (.Call (.Attribute wo_e name apos) [a] [] pos) (tE X.K W (wM1L R wo wa)) := by
  refine PE.imp (pe_bm PySem.F.plainAttrs_str slot hty hm ho (pa_cons ha pa_nil hs) hbase hfew hline hs hplain) fun σ H Q ⟨H0, F0, A0, s, T, kx, k, w, xl, h, q⟩ => ?_
  refine ⟨H0, F0, A0, s, T, kx, _, w, xl, h, fun x s1 h1 u H1 w1 => ?_⟩
  obtain ⟨z, rfl, h1⟩ := h1
  cases str_at w1 List.mem_cons_self
  refine ⟨rfl, H0, F0, A0, s1, _, kx, _, w1, xl.push, h1, fun y s2 h2 v H2 w2 => ?_⟩
  obtain ⟨b, hb, h2⟩ := h2
  obtain ⟨F, A, w2⟩ := w2
  have w3 := w2.sub (T' := T) fun t h => List.mem_cons_of_mem _ (List.mem_cons_of_mem _ h)
  exact hR z v b H2 Q _ (dat_ok w2 (w2.tm _ List.mem_cons_self) hb) h2 fun ys hy n vs hn hd => q _ _ hy _ _ ⟨F, _, (w3.newL hn (hd F)).push (top_at w3 n F)⟩
theorem strs_dp {K : PySem.W.Frag} {H : Hp} : ∀ {xs : List PyData} {ys : List Str} {vs : List V}, strsOf xs = some ys → DpAll K H vs xs → vs = ys.map V.str
  | [], ys, _, e, .nil => by cases e; rfl
  | .str x :: r, ys, _, e, .cons h t => by
    have e : (strsOf r).map (x :: ·) = some ys := e
    cases hr : strsOf r with
    | none => rw [hr] at e; cases e
    | some zs =>
      rw [hr] at e
      cases e
      rw [strs_dp hr t, dp_str h]
      rfl
  | .none :: _, _, _, e, _ => nomatch e
  | .bool _ :: _, _, _, e, _ => nomatch e
  | .int _ :: _, _, _, e, _ => nomatch e
  | .list _ :: _, _, _, e, _ => nomatch e
  | .tuple _ :: _, _, _, e, _ => nomatch e
  | .dict _ :: _, _, _, e, _ => nomatch e
theorem strs_dq {K : PySem.W.Frag} {H : Hp} : ∀ (ys : List Str), DqAll K H (ys.map V.str) (ys.map PyData.str)
  | [] => .nil
  | y :: r => .cons (.str y) (strs_dq r)
theorem e_find {apos : Pos} (ho : PE X wo_e (tE X.K W wo)) (ha : PE X a (tE X.K W wa))
    (hbase : attributeBase wo_e "find" X.env (eval wo_e X.env) = eval wo_e X.env := by rfl)
    (hfew : ((backTo pos (starEach [a] X.env)).all (fun x => !x.1) && (backToKw pos (keywordEach [] X.env)).all (fun x => x.1.isSome)
      && decide ([a].length + ([] : List Keyword).length + (if ([] : List Keyword).isEmpty then 0 else 1) < 30)) = true := by rfl)
    (hline : (apos.endLine == pos.line) = true := by rfl) (hs : starEach [a] X.env = (false, eval a X.env) :: starEach [] X.env := by rfl) (hplain : (backTo pos (starEach [] X.env)).any (·.1) = false := by rfl) :
    PE X (.Call (.Attribute wo_e "find" apos) [a] [] pos) (tE X.K W (wM1 rFindD wo wa)) :=
  e_m1 PySem.F.slot_str_find PySem.F.type_str_find mt_find (fun z v b H Q P hb h q => by
    cases b <;> try exact h.elim
    cases dp_str hb
    exact ⟨_, _, rfl, rfl, q _ _ h rfl⟩) ho ha hbase hfew hline hs hplain
theorem e_split {apos : Pos} (ho : PE X wo_e (tE X.K W wo)) (ha : PE X a (tE X.K W wa))
    (hbase : attributeBase wo_e "split" X.env (eval wo_e X.env) = eval wo_e X.env := by rfl)
    (hfew : ((backTo pos (starEach [a] X.env)).all (fun x => !x.1) && (backToKw pos (keywordEach [] X.env)).all (fun x => x.1.isSome)
      && decide ([a].length + ([] : List Keyword).length + (if ([] : List Keyword).isEmpty then 0 else 1) < 30)) = true := by rfl)
    (hline : (apos.endLine == pos.line) = true := by rfl) (hs : starEach [a] X.env = (false, eval a X.env) :: starEach [] X.env := by rfl) (hplain : (backTo pos (starEach [] X.env)).any (·.1) = false := by rfl) :
    PE X (.Call (.Attribute wo_e "split" apos) [a] [] pos) (tE X.K W (wM1L rSplitD wo wa)) :=
  e_m1L PySem.F.slot_str_split PySem.F.type_str_split mt_split (fun z v b H Q P hb h q => by
    cases b <;> try exact h.elim
    cases dp_str hb
    exact ⟨_, _, rfl, rfl, h.1, h.2.1, fun p hp => q _ h.2.2 p _ hp fun F => strs_dq _⟩) ho ha hbase hfew hline hs hplain
theorem e_join {apos : Pos} (ho : PE X wo_e (tE X.K W wo)) (ha : PE X a (tE X.K W wa))
    (hbase : attributeBase wo_e "join" X.env (eval wo_e X.env) = eval wo_e X.env := by rfl)
    (hfew : ((backTo pos (starEach [a] X.env)).all (fun x => !x.1) && (backToKw pos (keywordEach [] X.env)).all (fun x => x.1.isSome)
      && decide ([a].length + ([] : List Keyword).length + (if ([] : List Keyword).isEmpty then 0 else 1) < 30)) = true := by rfl)
    (hline : (apos.endLine == pos.line) = true := by rfl) (hs : starEach [a] X.env = (false, eval a X.env) :: starEach [] X.env := by rfl) (hplain : (backTo pos (starEach [] X.env)).any (·.1) = false := by rfl) :
    PE X (.Call (.Attribute wo_e "join" apos) [a] [] pos) (tE X.K W (wM1 rJoinD wo wa)) :=
  e_m1 PySem.F.slot_str_join PySem.F.type_str_join mt_join (fun z v b H Q P hb h q => by
    cases b with
    | list xs =>
      obtain ⟨ys, e, hz, h⟩ := h
      cases hb with
      | lst h1 h2 =>
        rw [strs_dp e h2] at h1
        exact ⟨_, _, ys, rfl, rfl, .inl h1, hz, q _ _ h rfl⟩
    | tuple xs =>
      obtain ⟨ys, e, hz, h⟩ := h
      cases hb with
      | tup h1 h2 =>
        rw [strs_dp e h2] at h1
        exact ⟨_, _, ys, rfl, rfl, .inr h1, hz, q _ _ h rfl⟩
    | _ => exact h.elim) ho ha hbase hfew hline hs hplain
theorem own_at {K : PySem.W.Frag} {H0 F0 : Hp} {A0 : List Addr} {s : PSt} {σ : St} {T : List (PV × V)} {H F : Hp} {A : List Addr} {u : V} {n : Nat} {xs : List PyData} (w : WdF K H0 F0 A0 s σ T H F A) (h : (PV.own n, u) ∈ T) (ho : s.o[n]? = some (.dl xs)) :
    ∃ p vs, A[n]? = some p ∧ u = .ref p ∧ H p = some (.lst vs) ∧ DqAll K F vs xs := by
  obtain ⟨p, hp, e⟩ := w.tm _ h
  obtain ⟨_, vs, h1, h2⟩ := w.oc n p _ hp ho
  exact ⟨p, vs, hp, e, h1, h2⟩
theorem e_app {apos : Pos} (ho : PE X wo_e (tE X.K W wo)) (ha : PE X a (tE X.K W wa))
    (hbase : attributeBase wo_e "append" X.env (eval wo_e X.env) = eval wo_e X.env := by rfl)
    (hfew : ((backTo pos (starEach [a] X.env)).all (fun x => !x.1) && (backToKw pos (keywordEach [] X.env)).all (fun x => x.1.isSome)
      && decide ([a].length + ([] : List Keyword).length + (if ([] : List Keyword).isEmpty then 0 else 1) < 30)) = true := by rfl)
    (hline : (apos.endLine == pos.line) = true := by rfl) (hs : starEach [a] X.env = (false, eval a X.env) :: starEach [] X.env := by rfl) (hplain : (backTo pos (starEach [] X.env)).any (·.1) = false := by rfl) :
    PE X (.Call (.Attribute wo_e "append" apos) [a] [] pos) (tE X.K W (wApp wo wa)) := by
  refine PE.imp (pe_bm PySem.F.plainAttrs_list PySem.F.slot_list_append PySem.F.type_list_append mt_append ho (pa_cons ha pa_nil hs) hbase hfew hline hs hplain) fun σ H Q ⟨H0, F0, A0, s, T, kx, k, w, xl, h, q⟩ => ?_
  refine ⟨H0, F0, A0, s, T, kx, _, w, xl, h, fun x s1 h1 u H1 w1 => ?_⟩
  obtain ⟨n, ws, rfl, ow, h1⟩ := h1
  have ty : tyV X.K "list" u H1 := by
    obtain ⟨F, A, w1⟩ := w1
    obtain ⟨p, vs, hp, rfl, hv, _⟩ := own_at w1 List.mem_cons_self ow
    exact .inl ⟨rfl, vs, SqL.of hv⟩
  refine ⟨ty, H0, F0, A0, s1, _, kx, _, w1, xl.push, h1, fun y s2 h2 v H2 w2 => ?_⟩
  obtain ⟨d, s3, h3, w3⟩ := frz_ok w2 h2
  obtain ⟨xs, ox, hz, hk⟩ := h3
  obtain ⟨F, A, w3⟩ := w3
  obtain ⟨p, vs, hp, rfl, hv, hd⟩ := own_at w3 (List.mem_cons_of_mem _ List.mem_cons_self) ox
  have dv : Dq X.K F v d := w3.tm (.d d, v) List.mem_cons_self
  refine ⟨p, vs, v, rfl, rfl, hv, by rw [hd.len]; exact hz, q _ _ hk _ _ ⟨F, A, ((w3.sub (T' := T) fun t h => List.mem_cons_of_mem _ (List.mem_cons_of_mem _ h)).wr hp ox (hd.app (.cons dv .nil))).push .non⟩⟩
theorem e_ext {apos : Pos} (ho : PE X wo_e (tE X.K W wo)) (ha : PE X a (tE X.K W wa))
    (hbase : attributeBase wo_e "extend" X.env (eval wo_e X.env) = eval wo_e X.env := by rfl)
    (hfew : ((backTo pos (starEach [a] X.env)).all (fun x => !x.1) && (backToKw pos (keywordEach [] X.env)).all (fun x => x.1.isSome)
      && decide ([a].length + ([] : List Keyword).length + (if ([] : List Keyword).isEmpty then 0 else 1) < 30)) = true := by rfl)
    (hline : (apos.endLine == pos.line) = true := by rfl) (hs : starEach [a] X.env = (false, eval a X.env) :: starEach [] X.env := by rfl) (hplain : (backTo pos (starEach [] X.env)).any (·.1) = false := by rfl) :
    PE X (.Call (.Attribute wo_e "extend" apos) [a] [] pos) (tE X.K W (wExt wo wa)) := by
  refine PE.imp (pe_bm PySem.F.plainAttrs_list PySem.F.slot_list_extend PySem.F.type_list_extend mt_extend ho (pa_cons ha pa_nil hs) hbase hfew hline hs hplain) fun σ H Q ⟨H0, F0, A0, s, T, kx, k, w, xl, h, q⟩ => ?_
  refine ⟨H0, F0, A0, s, T, kx, _, w, xl, h, fun x s1 h1 u H1 w1 => ?_⟩
  obtain ⟨n, ws, rfl, ow, h1⟩ := h1
  have ty : tyV X.K "list" u H1 := by
    obtain ⟨F, A, w1⟩ := w1
    obtain ⟨p, vs, hp, rfl, hv, _⟩ := own_at w1 List.mem_cons_self ow
    exact .inl ⟨rfl, vs, SqL.of hv⟩
  refine ⟨ty, H0, F0, A0, s1, _, kx, _, w1, xl.push, h1, fun y s2 h2 v H2 w2 => ?_⟩
  obtain ⟨xs, ys, ox, oy, hz, hk⟩ := h2
  obtain ⟨F, A, w3⟩ := w2
  obtain ⟨p, vs, hp, rfl, hv, hd⟩ := own_at w3 (List.mem_cons_of_mem _ List.mem_cons_self) ox
  obtain ⟨b, zs, rfl, hb, hy⟩ := itemsq_ok w3 (w3.tm _ List.mem_cons_self) oy
  refine ⟨p, b, vs, zs, rfl, rfl, hv, hb, by rw [hd.len, hy.len]; exact hz, q _ _ hk _ _ ⟨F, A, ((w3.sub (T' := T) fun t h => List.mem_cons_of_mem _ (List.mem_cons_of_mem _ h)).wr hp ox (hd.app hy)).push .non⟩⟩
theorem DqAll.init {K : PySem.W.Frag} {H : Hp} {vs : List V} {ds : List PyData} (h : DqAll K H vs ds) : DqAll K H vs.dropLast ds.dropLast := by
  rw [List.dropLast_eq_take, List.dropLast_eq_take, h.len]
  exact h.take _
theorem e_pop {apos : Pos} (ho : PE X wo_e (tE X.K W wo)) (hbase : attributeBase wo_e "pop" X.env (eval wo_e X.env) = eval wo_e X.env := by rfl) (hline : (apos.endLine == pos.line) = true := by rfl) :
    PE X (.Call (.Attribute wo_e "pop" apos) [] [] pos) (tE X.K W (wPop wo)) := by
  refine PE.imp (pe_bm0 PySem.F.plainAttrs_list PySem.F.slot_list_pop PySem.F.type_list_pop mt_pop ho hbase hline) fun σ H Q ⟨H0, F0, A0, s, T, kx, k, w, xl, h, q⟩ => ?_
  refine ⟨H0, F0, A0, s, T, kx, _, w, xl, h, fun x s1 h1 u H1 w1 => ?_⟩
  obtain ⟨n, xs, d, rfl, ox, hl, hk⟩ := h1
  obtain ⟨F, A, w1⟩ := w1
  obtain ⟨p, vs, hp, rfl, hv, hd⟩ := own_at w1 List.mem_cons_self ox
  obtain ⟨v, e1, e2⟩ := hd.getd _ _ hl
  refine ⟨.inl ⟨rfl, vs, SqL.of hv⟩, p, vs, v, rfl, rfl, hv, by rw [hd.len]; exact e1, q _ _ hk _ _ ⟨F, A, ((w1.sub (T' := T) fun t h => List.mem_cons_of_mem _ h).wr hp ox hd.init).push e2⟩⟩
end
end PW
namespace PW
open PySem L2
/-! ### statements -/
def PSt.st (s : PSt) (i : Nat) (v : PV) : PSt := ⟨s.r.set i (some v), s.o⟩
mutual
/-- all owned things in it stand ahead of the m-th -/
def PV.lt (m : Nat) : PV → Bool
  | .own n => decide (n < m)
  | .tp ps => PV.ltAll m ps
  | _ => true
def PV.ltAll (m : Nat) : List PV → Bool
  | [] => true
  | p :: ps => PV.lt m p && PV.ltAll m ps
end
/-- owned things from the m-th on are forgotten -/
def cutP (m : Nat) : Option PV → Option PV
  | some (.own n) => if n < m then some (.own n) else none
  | some (.tp ps) => if PV.ltAll m ps = true then some (.tp ps) else none
  | v => v
/-- what is in an owned thing -/
def OC.pvs : OC → List PV
  | .ml ps => ps
  | .ob _ fs => fs.map (·.2)
  | .dm kvs => kvs.map (·.2)
  | .dt kvs => kvs.map (·.2)
  | _ => []
def OC.cut (m : Nat) : OC → OC
  | .dl xs => .dl xs
  | .di kvs => .di kvs
  | .no => .no
  | c => if PV.ltAll m c.pvs = true then c else .no
def cutL (m : Nat) (o : List OC) : List OC := (o.take m).map (OC.cut m)
def PSt.trim (s : PSt) (m : Nat) : PSt := ⟨s.r.map (cutP m), cutL m s.o⟩
/-- slots are forgotten -/
def PSt.wipe (s : PSt) : List Nat → PSt
  | [] => s
  | v :: vs => ⟨(s.wipe vs).r.set v none, s.o⟩
def wSeq (a b : SW) : SW := fun kx s k => a kx s { k with nx := fun s1 => b kx s1 k }
def wNext : SW := fun _ s k => k.nx s
def wBrk : SW := fun _ s k => k.bk s
def wCnt : SW := fun _ s k => k.ct s
def wAsg (we : EW) (i : Nat) : SW := fun kx s k => we kx s fun v s1 => k.nx (s1.st i v)
def wDrop (we : EW) : SW := fun kx s k => we kx s fun _ s1 => k.nx s1
def wRet (we : EW) : SW := fun kx s k => we kx s fun v s1 => k.rt v s1
def wRetN : SW := fun _ s k => k.rt (.d .none) s
def wIfS (t : TW) (a b : SW) : SW := fun kx s k => t kx s fun c s1 => (c = true → a kx s1 k) ∧ (c = false → b kx s1 k)
/-- a target by data -/
def gN (i : Nat) : GW := fun x s k => k (s.st i (.d x))
abbrev GWs := List PyData → PSt → (PSt → Prop) → Prop
def gT (n : Nat) (gs : GWs) : GW := fun x s k => ∃ xs, x = .tuple xs ∧ xs.length = n ∧ gs xs s k
def gsNil : GWs := fun xs s k => xs = [] ∧ k s
def gsCons (g : GW) (gs : GWs) : GWs := fun xs s k => ∃ x r, xs = x :: r ∧ g x s fun s1 => gs r s1 k
def wUnp (we : EW) (g : GW) : SW := fun kx s k => we kx s fun v s1 => frz v s1 fun x s2 => g x s2 k.nx
def wSetIx (wv wo wi : EW) : SW := fun kx s k => wv kx s fun v s1 => wo kx s1 fun x s2 => wi kx s2 fun y s3 => frz v s3 fun d s4 => ∃ n xs i j, x = .own n ∧ y = .d (.int i) ∧ s4.o[n]? = some (.dl xs) ∧ ixN xs.length i = some j ∧ k.nx ⟨s4.r, s4.o.set n (.dl (xs.set j d))⟩
def wAug (R : PyData → PyData → (PyData → Prop) → Prop) (i : Nat) (we : EW) : SW := fun kx s k => ∃ x, s.r[i]? = some (some (.d x)) ∧ we kx s fun y s1 => ∃ b, dat s1 y = some b ∧ R x b fun z => k.nx (s1.st i (.d z))
def wWh (t : TW) (b : SW) : SW := fun kx s k => ∃ I : Nat → PSt → Prop, (∃ m, I m s) ∧ ∀ m s1, I m s1 → t kx s1 fun c s2 =>
  (c = true → b kx s2 { k with nx := fun s3 => ∃ m', m' < m ∧ (I m' s3 ∨ I m' (s3.trim s.o.length)), ct := fun s3 => ∃ m', m' < m ∧ (I m' s3 ∨ I m' (s3.trim s.o.length)), bk := k.nx }) ∧ (c = false → k.nx s2)
def wFor (wi : IW) (g : GW) (b : SW) : SW := fun kx s k => wi kx s fun xs c s0 => ∃ I : Nat → PSt → Prop, I 0 s0 ∧ (∀ j s1, j ≤ xs.length → I j s1 → Src c s1) ∧ (∀ j x s1, xs[j]? = some x → I j s1 → g x s1 fun s2 =>
  b kx s2 { k with nx := fun s3 => I (j + 1) s3 ∨ I (j + 1) (s3.trim s0.o.length), ct := fun s3 => I (j + 1) s3 ∨ I (j + 1) (s3.trim s0.o.length), bk := k.nx }) ∧ ∀ s1, I xs.length s1 → k.nx s1
def wRaise (C : Addr) : SW := fun kx s _ => kx ⟨C, none⟩ s
section
variable {K : PySem.W.Frag} {H0 F0 : Hp} {A0 : List Addr} {s : PSt} {σ : St} {T : List (PV × V)} {H F : Hp} {A : List Addr}
theorem cutP_is {m : Nat} {v : PV} : ∀ {o : Option PV}, cutP m o = some v → o = some v ∧ v.lt m = true
  | none, h => nomatch h
  | some (.own n), h => by
    by_cases hn : n < m
    · have e : cutP m (some (.own n)) = some (.own n) := if_pos hn
      rw [e] at h
      cases h
      exact ⟨rfl, decide_eq_true hn⟩
    · have e : cutP m (some (.own n)) = none := if_neg hn
      rw [e] at h
      cases h
  | some (.tp ps), h => by
    by_cases hn : PV.ltAll m ps = true
    · have e : cutP m (some (.tp ps)) = some (.tp ps) := if_pos hn
      rw [e] at h
      cases h
      exact ⟨rfl, hn⟩
    · have e : cutP m (some (.tp ps)) = none := if_neg hn
      rw [e] at h
      cases h
  | some (.d x), h => by cases h; exact ⟨rfl, rfl⟩
  | some (.scr x), h => by cases h; exact ⟨rfl, rfl⟩
  | some (.gl x), h => by cases h; exact ⟨rfl, rfl⟩
  | some (.exc x), h => by cases h; exact ⟨rfl, rfl⟩
  | some (.xd x), h => by cases h; exact ⟨rfl, rfl⟩
  | some (.dk x), h => by cases h; exact ⟨rfl, rfl⟩
theorem cutP_of {m : Nat} {v : PV} (h : v.lt m = true) : cutP m (some v) = some v := by
  cases v with
  | own n => exact if_pos (of_decide_eq_true h)
  | tp ps => exact if_pos h
  | _ => rfl
theorem ocut_if {m : Nat} : ∀ c : OC, OC.cut m c = if PV.ltAll m c.pvs = true then c else .no
  | .ml ps => rfl
  | .ob _ _ => rfl
  | .dm _ => rfl
  | .dt _ => rfl
  | .no => rfl
  | .dl _ => rfl
  | .di _ => rfl
theorem ocut_is {m : Nat} (c : OC) : OC.cut m c = .no ∨ OC.cut m c = c := by
  rw [ocut_if]
  split
  · exact .inr rfl
  · exact .inl rfl
mutual
theorem lt_mono {m n : Nat} (h : m ≤ n) : ∀ {v : PV}, v.lt m = true → v.lt n = true
  | .own k, e => decide_eq_true (Nat.lt_of_lt_of_le (of_decide_eq_true e) h)
  | .tp ps, e => ltAll_mono h (ps := ps) e
  | .d _, _ => rfl
  | .scr _, _ => rfl
  | .gl _, _ => rfl
  | .exc _, _ => rfl
  | .xd _, _ => rfl
  | .dk _, _ => rfl
theorem ltAll_mono {m n : Nat} (h : m ≤ n) : ∀ {ps : List PV}, PV.ltAll m ps = true → PV.ltAll n ps = true
  | [], _ => rfl
  | p :: ps, e => by
    have e : (PV.lt m p && PV.ltAll m ps) = true := e
    rw [Bool.and_eq_true] at e
    show (PV.lt n p && PV.ltAll n ps) = true
    rw [lt_mono h e.1, ltAll_mono h e.2]
    rfl
end
mutual
theorem PVOk.lt {K : PySem.W.Frag} {F : Hp} {A : List Addr} : ∀ {v : PV} {u : V}, PVOk K F A v u → v.lt A.length = true
  | .own n, _, ⟨_, hp, _⟩ => decide_eq_true (List.getElem?_eq_some_iff.mp hp).1
  | .tp ps, _, ⟨_, us, _, _, r⟩ => PVAll.lt r
  | .d _, _, _ => rfl
  | .scr _, _, _ => rfl
  | .gl _, _, _ => rfl
  | .exc _, _, _ => rfl
  | .xd _, _, _ => rfl
  | .dk _, _, _ => rfl
theorem PVAll.lt {K : PySem.W.Frag} {F : Hp} {A : List Addr} : ∀ {ps : List PV} {us : List V}, PVAll K F A ps us → PV.ltAll A.length ps = true
  | [], [], _ => rfl
  | p :: ps, u :: us, ⟨h, r⟩ => by
    show (PV.lt _ p && PV.ltAll _ ps) = true
    rw [PVOk.lt h, PVAll.lt r]
    rfl
  | [], _ :: _, h => h.elim
  | _ :: _, [], h => h.elim
end
mutual
theorem PVOk.take {K : PySem.W.Frag} {F : Hp} {A : List Addr} {m : Nat} : ∀ {v : PV} {u : V}, PVOk K F A v u → v.lt m = true → PVOk K F (A.take m) v u
  | .own n, _, ⟨p, hp, e⟩, h => ⟨p, by rw [List.getElem?_take, if_pos (of_decide_eq_true h)]; exact hp, e⟩
  | .tp ps, _, ⟨a, us, e, q, r⟩, h => ⟨a, us, e, q, PVAll.take r h⟩
  | .d _, _, h, _ => h
  | .scr _, _, h, _ => h
  | .gl _, _, h, _ => h
  | .exc _, _, h, _ => h
  | .xd _, _, h, _ => h
  | .dk _, _, h, _ => h
theorem PVAll.take {K : PySem.W.Frag} {F : Hp} {A : List Addr} {m : Nat} : ∀ {ps : List PV} {us : List V}, PVAll K F A ps us → PV.ltAll m ps = true → PVAll K F (A.take m) ps us
  | [], [], _, _ => True.intro
  | p :: ps, u :: us, ⟨h, r⟩, e => by
    have e : (PV.lt m p && PV.ltAll m ps) = true := e
    rw [Bool.and_eq_true] at e
    exact ⟨PVOk.take h e.1, PVAll.take r e.2⟩
  | [], _ :: _, h, _ => h.elim
  | _ :: _, [], h, _ => h.elim
end
theorem OCOk.tk {m : Nat} {p : Addr} : ∀ {c : OC}, OCOk K F H A p c → PV.ltAll m c.pvs = true → OCOk K F H (A.take m) p c
  | .ml ps, ⟨a, vs, b, r⟩, h => ⟨a, vs, b, PVAll.take r h⟩
  | .ob _ _, ⟨a, dx, vs, b, k, r⟩, h => ⟨a, dx, vs, b, k, PVAll.take r h⟩
  | .dm _, ⟨a, vs, b, k, r⟩, h => ⟨a, vs, b, k, PVAll.take r h⟩
  | .dt _, ⟨a, vs, b, k, r⟩, h => ⟨a, vs, b, k, PVAll.take r h⟩
  | .no, h, _ => h
  | .dl _, h, _ => h
  | .di _, h, _ => h
theorem OCOk.cut {m : Nat} {p : Addr} {c : OC} (h : OCOk K F H A p c) : OCOk K F H (A.take m) p (OC.cut m c) := by
  rw [ocut_if]
  split
  · rename_i e
    exact h.tk e
  · trivial
theorem ocut_up {m n : Nat} (h : m ≤ n) {c : OC} (e : OC.cut m c = c) : OC.cut n c = c ∨ c = .no := by
  rw [ocut_if] at e ⊢
  split at e
  · rename_i z
    rw [if_pos (ltAll_mono h z)]
    exact .inl rfl
  · exact .inr e.symm
theorem cutL_at {m n : Nat} {o : List OC} {c : OC} (h : (cutL m o)[n]? = some c) : n < m ∧ ∃ c0, o[n]? = some c0 ∧ c = OC.cut m c0 := by
  unfold cutL at h
  rw [List.getElem?_map, List.getElem?_take] at h
  by_cases hn : n < m
  · rw [if_pos hn] at h
    cases ho : o[n]? with
    | none => rw [ho] at h; cases h
    | some c0 =>
      rw [ho] at h
      exact ⟨hn, c0, rfl, (Option.some.inj h).symm⟩
  · rw [if_neg hn] at h
    cases h
theorem cutL_len (m : Nat) (o : List OC) : (cutL m o).length = min m o.length := by
  unfold cutL
  rw [List.length_map, List.length_take]
theorem WdF.trim {m : Nat} (w : WdF K H0 F0 A0 s σ T H F A) (hm : A0.length ≤ m) (hT : ∀ t ∈ T, t.1.lt m = true) : WdF K H0 F0 A0 (s.trim m) σ T H F (A.take m) where
  fz := w.fz
  pre := by
    obtain ⟨t, e⟩ := w.pre
    subst e
    rw [List.take_append, List.take_of_length_le hm]
    exact List.prefix_append _ _
  len := by
    show (A.take m).length = (cutL m s.o).length
    rw [List.length_take, cutL_len, w.len]
  nd := w.nd.sublist (List.take_sublist _ _)
  ad := fun p hp => w.ad p (List.mem_of_mem_take hp)
  oc := fun n p c h1 h2 => by
    obtain ⟨hn, c0, h3, rfl⟩ := cutL_at (o := s.o) h2
    rw [List.getElem?_take, if_pos hn] at h1
    exact (w.oc n p c0 h1 h3).cut
  sl := by
    show (s.r.map _).length = _
    rw [List.length_map]; exact w.sl
  pv := fun i v h => by
    have h : (s.r.map (cutP m))[i]? = some (some v) := h
    rw [List.getElem?_map] at h
    cases hr : s.r[i]? with
    | none => rw [hr] at h; cases h
    | some o =>
      rw [hr] at h
      obtain ⟨h, hl⟩ := cutP_is (Option.some.inj h)
      subst h
      obtain ⟨u, a, b⟩ := w.pv i v hr
      exact ⟨u, a, b.take hl⟩
  tm := fun t ht => (w.tm t ht).take (hT t ht)
theorem WdF.own_lt (w : WdF K H0 F0 A0 s σ T H F A) : A0.length ≤ s.o.length ∧ ∀ t ∈ T, t.1.lt s.o.length = true := by
  refine ⟨by rw [← w.len]; exact w.pre.length_le, fun t ht => ?_⟩
  rw [← w.len]
  exact (w.tm t ht).lt
theorem Wd.trim {m : Nat} (w : Wd K H0 F0 A0 s σ T H) (hm : A0.length ≤ m) (hT : ∀ t ∈ T, t.1.lt m = true) : Wd K H0 F0 A0 (s.trim m) σ T H := by
  obtain ⟨F, A, w⟩ := w
  exact ⟨F, _, w.trim hm hT⟩
theorem Wd.own_lt (w : Wd K H0 F0 A0 s σ T H) : A0.length ≤ s.o.length ∧ ∀ t ∈ T, t.1.lt s.o.length = true := by
  obtain ⟨F, A, w⟩ := w
  exact w.own_lt
theorem mem_skip {α : Type} {a t : α} {l : List α} (h : t ∈ l) : t ∈ a :: l := List.mem_cons_of_mem _ h
theorem mem_keep {α : Type} {a t : α} {l m : List α} (f : ∀ t ∈ l, t ∈ m) (h : t ∈ a :: l) : t ∈ a :: m := by
  rcases List.mem_cons.mp h with e | h
  · rw [e]; exact List.mem_cons_self
  · exact List.mem_cons_of_mem _ (f t h)
end
section
variable {X : Cx} {W : WX} {st : Stmt} {rest body orelse : List Stmt} {wa wb : SW} {we wo wi : EW} {wt : TW} {e o a : Expr} {pos : Pos} {g : GW}
theorem s_cons (h1 : PS X st (tS X.K W wa)) (h2 : PSs X rest (tS X.K W wb)) : PSs X (st :: rest) (tS X.K W (wSeq wa wb)) := by
  refine PSs.imp (pss_cons h1 h2) fun D σ H ⟨H0, F0, A0, s, T, kx, k, w, xl, h, q1, q2, q3, q4⟩ => ?_
  exact ⟨H0, F0, A0, s, T, kx, _, w, xl, h, fun s' h' σ' H' w' => ⟨H0, F0, A0, s', T, kx, k, w', xl, h', q1, q2, q3, q4⟩, q2, q3, q4⟩
theorem s_one (h1 : PS X st (tS X.K W wa)) : PSs X [st] (tS X.K W wa) := pss_one h1
theorem s_nil : PSs X [] (tS X.K W wNext) := PSs.imp pss_nil fun D σ H ⟨H0, F0, A0, s, T, kx, k, w, xl, h, q1, q2, q3, q4⟩ => q1 s h σ H w
theorem s_pass : PS X (.Pass pos) (tS X.K W wNext) := PS.imp ps_pass fun D σ H ⟨H0, F0, A0, s, T, kx, k, w, xl, h, q1, q2, q3, q4⟩ => q1 s h σ H w
theorem s_brk : PS X (.Break pos) (tS X.K W wBrk) := PS.imp ps_break fun D σ H ⟨H0, F0, A0, s, T, kx, k, w, xl, h, q1, q2, q3, q4⟩ => q3 s h σ H w
theorem s_cnt : PS X (.Continue pos) (tS X.K W wCnt) := PS.imp ps_continue fun D σ H ⟨H0, F0, A0, s, T, kx, k, w, xl, h, q1, q2, q3, q4⟩ => q4 s h σ H w
theorem s_expr (he : PE X e (tE X.K W we)) (hs : swapsWith e none pos.line X.env = pure false := by rfl) : PS X (.Expr e pos) (tS X.K W (wDrop we)) := by
  refine PS.imp (ps_expr he hs) fun D σ H ⟨H0, F0, A0, s, T, kx, k, w, xl, h, q1, q2, q3, q4⟩ => ?_
  exact ⟨H0, F0, A0, s, T, kx, _, w, xl, h, fun v s' h' u H' w' => q1 s' h' σ H' w'.pop⟩
theorem s_ret (he : PE X e (tE X.K W we)) : PS X (.Return (some e) pos) (tS X.K W (wRet we)) := by
  refine PS.imp (ps_ret he) fun D σ H ⟨H0, F0, A0, s, T, kx, k, w, xl, h, q1, q2, q3, q4⟩ => ?_
  exact ⟨H0, F0, A0, s, T, kx, _, w, xl, h, fun v s' h' u H' w' => q2 v s' h' u σ H' w'⟩
theorem s_retN : PS X (.Return none pos) (tS X.K W wRetN) := by
  refine PS.imp ps_retN fun D σ H ⟨H0, F0, A0, s, T, kx, k, w, xl, h, q1, q2, q3, q4⟩ => ?_
  obtain ⟨F, A, w⟩ := w
  exact q2 _ s h _ σ H ⟨F, A, w.push .non⟩
theorem s_if (hc : PT X e (tT X.K W wt)) (ha : PSs X body (tS X.K W wa)) (hb : PSs X orelse (tS X.K W wb)) : PS X (.If e body orelse pos) (tS X.K W (wIfS wt wa wb)) := by
  refine PS.imp (ps_if hc ha hb) fun D σ H ⟨H0, F0, A0, s, T, kx, k, w, xl, h, q1, q2, q3, q4⟩ => ?_
  refine ⟨H0, F0, A0, s, T, kx, _, w, xl, h, fun c s' h' H' w' => ?_⟩
  cases c with
  | true => exact iteT ⟨H0, F0, A0, s', T, kx, k, w', xl, h'.1 rfl, q1, q2, q3, q4⟩
  | false => exact iteF ⟨H0, F0, A0, s', T, kx, k, w', xl, h'.2 rfl, q1, q2, q3, q4⟩
theorem s_set {i : Nat} {x : Str} {pos' : Pos} (hN : X.N.Nodup) (hi : X.N[i]? = some x) (hx : Loc X.env.scope x) (he : PE X e (tE X.K W we)) (hs : swapsWith e (some (.Name x pos')) pos.line X.env = pure false := by rfl) (hf : X.fn x = true ∨ X.env.scope.names.lookup x = some .local := by first | exact .inl rfl | exact .inr rfl | assumption) :
    PS X (.Assign [.Name x pos'] e pos) (tS X.K W (wAsg we i)) := by
  refine PS.imp (ps_set hN hi hx he hs hf) fun D σ H ⟨H0, F0, A0, s, T, kx, k, w, xl, h, q1, q2, q3, q4⟩ => ?_
  refine ⟨H0, F0, A0, s, T, kx, _, w, xl, h, fun v s' h' u H' w' => ?_⟩
  obtain ⟨F, A, w'⟩ := w'
  exact q1 _ h' _ H' ⟨F, A, (w'.sub fun t h => List.mem_cons_of_mem _ h).st (w'.tm _ List.mem_cons_self)⟩
/-! targets -/
theorem g_name {i : Nat} {x : Str} (hN : X.N.Nodup) (hi : X.N[i]? = some x) (hx : Loc X.env.scope x) (hf : X.fn x = true ∨ X.env.scope.names.lookup x = some .local := by first | exact .inl rfl | exact .inr rfl | assumption) : PG X (.Name x pos) (tG X.K [i] (gN i)) := by
  refine PG.imp (pg_name hN hi hx hf) fun v σ H Q ⟨H0, F0, A0, s, T, x, k, w, m, h, q⟩ => ?_
  obtain ⟨F, A, w⟩ := w
  exact q _ h _ H ⟨by rw [List.length_set], fun j hj => List.getElem?_set_ne (fun e => hj (by rw [e]; exact List.mem_cons_self))⟩ ⟨F, A, w.st (w.tm _ m)⟩
def tGs (K : PySem.W.Frag) (L : List Nat) (g : GWs) : TGs := fun vs σ H Q => ∃ H0 F0 A0 s T xs k, Wd K H0 F0 A0 s σ T H ∧ vs.length = xs.length ∧ (∀ t ∈ (xs.map PV.d).zip vs, t ∈ T) ∧ g xs s k ∧ ∀ s', k s' → ∀ σ' H', OutL L σ σ' → Wd K H0 F0 A0 s' σ' T H' → Q σ' H'
theorem PGs.imp {es : List Expr} {t t' : TGs} (h : PGs X es t) (i : ∀ v σ H Q, t' v σ H Q → t v σ H Q) : PGs X es t' := ⟨fun pins s σ H v u Q I r q => h.run pins s σ H v u Q I r (i v σ H Q q)⟩
theorem gs_nil : PGs X [] (tGs X.K [] gsNil) := by
  refine PGs.imp pgs_nil fun vs σ H Q ⟨H0, F0, A0, s, T, xs, k, w, e, m, ⟨hx, h⟩, q⟩ => ?_
  subst hx
  exact ⟨List.eq_nil_of_length_eq_zero e, q s h σ H ⟨rfl, fun _ _ => rfl⟩ w⟩
theorem gs_cons {es : List Expr} {g1 : GW} {g2 : GWs} {L1 L2 : List Nat} (h1 : PG X e (tG X.K L1 g1)) (h2 : PGs X es (tGs X.K L2 g2)) (hs : (assignEach (e :: es) X.env).map (·.2) = assign e X.env :: (assignEach es X.env).map (·.2) := by rfl) : PGs X (e :: es) (tGs X.K (L1 ++ L2) (gsCons g1 g2)) := by
  refine PGs.imp (pgs_cons h1 h2 hs) fun vs σ H Q ⟨H0, F0, A0, s, T, xs, k, w, e, m, ⟨x, r, hx, h⟩, q⟩ => ?_
  subst hx
  cases vs with
  | nil => cases e
  | cons v vs =>
    refine ⟨v, vs, rfl, H0, F0, A0, s, T, x, _, w, m _ List.mem_cons_self, h, fun s' h' σ' H' l' w' => ?_⟩
    exact ⟨H0, F0, A0, s', T, r, k, w', Nat.succ.inj e, fun t ht => m t (List.mem_cons_of_mem _ ht), h', fun s2 h2 σ2 H2 l2 w2 => q s2 h2 σ2 H2 ⟨l2.1.trans l'.1, fun j hj => (l2.2 j fun z => hj (List.mem_append_right _ z)).trans (l'.2 j fun z => hj (List.mem_append_left _ z))⟩ w2⟩
theorem g_tup {es : List Expr} {kk n : Nat} {gs : GWs} {L : List Nat} (hc : X.calm = true) (h : PGs X es (tGs X.K L gs)) (hn : (assignEach es X.env).length = n := by rfl) (hst : (assignEach es X.env).findIdx? (·.1) = none := by rfl) : PG X (.Tuple es kk pos) (tG X.K L (gT n gs)) := by
  refine PG.imp (pg_tup hc h hn hst) fun v σ H Q ⟨H0, F0, A0, s, T, x, k, w, m, ⟨xs, hx, hl, h⟩, q⟩ => ?_
  subst hx
  obtain ⟨F, A, w⟩ := w
  have pv : PVOk X.K F A (.d (.tuple xs)) v := w.tm _ m
  obtain ⟨p, vs, e1, h1, h2⟩ := itemsT_ok w pv rfl
  refine ⟨p, vs, e1, h1, h2.len.trans hl, H0, F0, A0, s, (xs.map PV.d).zip vs ++ T, xs, k, ⟨F, A, w.tms fun t ht => ?_⟩, h2.len, fun t ht => List.mem_append_left _ ht, h, fun s' h' σ' H' l' w' => q s' h' σ' H' l' (w'.sub fun t ht => List.mem_append_right _ ht)⟩
  rcases List.mem_append.mp ht with z | z
  · have zip_ok : ∀ {vs : List V} {xs : List PyData}, DqAll X.K F vs xs → ∀ t ∈ (xs.map PV.d).zip vs, PVOk X.K F A t.1 t.2 := by
      intro vs xs hd
      induction vs generalizing xs with
      | nil => cases hd; exact fun t ht => by simp at ht
      | cons v vs ih =>
        cases hd with
        | cons d r =>
          intro t ht
          rcases List.mem_cons.mp ht with e | ht
          · rw [e]; exact d
          · exact ih r t ht
    exact zip_ok h2 t z
  · exact w.tm t z
/-- a, b = e -/
theorem s_unp {tg : Expr} {L : List Nat} (he : PE X e (tE X.K W we)) (hg : PG X tg (tG X.K L g)) (hs : swapsWithSole [tg] e pos.line X.env = pure false := by rfl) (hw : swappedStores [tg] e X.env = pure none := by rfl)
    (h1 : (assignEach [tg] X.env).map (·.2) = [assign tg X.env] := by rfl) : PS X (.Assign [tg] e pos) (tS X.K W (wUnp we g)) := by
  refine PS.imp (ps_asg he hg hs hw h1) fun D σ H ⟨H0, F0, A0, s, T, kx, k, w, xl, h, q1, q2, q3, q4⟩ => ?_
  refine ⟨H0, F0, A0, s, T, kx, _, w, xl, h, fun v s' h' u H' w' => ?_⟩
  obtain ⟨d, s2, h2, w2⟩ := frz_ok w' h'
  exact ⟨H0, F0, A0, s2, _, d, k.nx, w2, List.mem_cons_self, h2, fun s3 h3 σ3 H3 _ w3 => q1 s3 h3 σ3 H3 w3.pop⟩
theorem dqAll_set {K : PySem.W.Frag} {F : Hp} {vs : List V} {ds : List PyData} {v : V} {d : PyData} (j : Nat) (h : DqAll K F vs ds) (q : Dq K F v d) : DqAll K F (vs.set j v) (ds.set j d) := h.set j q
/-- o[i] = e, o an owned list -/
theorem s_setIx {i : Expr} {wv : EW} {p2 : Pos} (he : PE X e (tE X.K W wv)) (ho : PE X o (tE X.K W wo)) (hi : PE X i (tE X.K W wi))
    (ha : ∀ v, assign (.Subscript o i p2) X.env v = (do
      let ov ← holding [v] (eval o X.env)
      let iv ← holding [v, ov] (eval i X.env)
      standAt p2
      holding [v, ov, iv] (setItem ov iv v)
      release [v, ov, iv] []) := by intro _; rfl)
    (hs : swapsWithSole [.Subscript o i p2] e pos.line X.env = pure false := by rfl) (hw : swappedStores [.Subscript o i p2] e X.env = pure none := by rfl)
    (h1 : (assignEach [.Subscript o i p2] X.env).map (·.2) = [assign (.Subscript o i p2) X.env] := by rfl) : PS X (.Assign [.Subscript o i p2] e pos) (tS X.K W (wSetIx wv wo wi)) := by
  refine PS.imp (ps_asg he (pg_sub ho hi set_list ha) hs hw h1) fun D σ H ⟨H0, F0, A0, s, T, kx, k, w, xl, h, q1, q2, q3, q4⟩ => ?_
  refine ⟨H0, F0, A0, s, T, kx, _, w, xl, h, fun v s1 h1 u H1 w1 => ?_⟩
  refine ⟨H0, F0, A0, s1, _, kx, _, w1, xl.push, h1, fun x s2 h2 ux H2 w2 => ?_⟩
  refine ⟨H0, F0, A0, s2, _, kx, _, w2, xl.push.push, h2, fun y s3 h3 uy H3 w3 => ?_⟩
  obtain ⟨d, s4, h4, w4⟩ := frz_ok (T := (y, uy) :: (x, ux) :: T) (w3.sub fun t ht => by
    rcases List.mem_cons.mp ht with e | ht
    · rw [e]; exact List.mem_cons_of_mem _ (List.mem_cons_of_mem _ List.mem_cons_self)
    · rcases List.mem_cons.mp ht with e | ht
      · rw [e]; exact List.mem_cons_self
      · rcases List.mem_cons.mp ht with e | ht
        · rw [e]; exact List.mem_cons_of_mem _ List.mem_cons_self
        · exact List.mem_cons_of_mem _ (List.mem_cons_of_mem _ (List.mem_cons_of_mem _ ht))) h3
  obtain ⟨n, xs, i, j, rfl, rfl, ox, hj, hk⟩ := h4
  obtain ⟨F, A, w4⟩ := w4
  obtain ⟨p, vs, hp, rfl, hv, hd⟩ := own_at w4 (List.mem_cons_of_mem _ (List.mem_cons_of_mem _ List.mem_cons_self)) ox
  have dv : Dq X.K F u d := w4.tm (.d d, u) List.mem_cons_self
  have di : Dq X.K F uy (.int i) := w4.tm (.d (.int i), uy) (List.mem_cons_of_mem _ List.mem_cons_self)
  cases dp_int (dq_dp di)
  refine ⟨p, vs, i, j, rfl, rfl, hv, by rw [hd.len]; exact hj, q1 _ hk σ _ ⟨F, A, (w4.sub (T' := T) fun t h => List.mem_cons_of_mem _ (List.mem_cons_of_mem _ (List.mem_cons_of_mem _ h))).wr hp ox (hd.set j dv)⟩⟩
/-- x += e -/
theorem s_aug {i : Nat} {x : Str} {op : Operator} {r : R2} {R : PyData → PyData → (PyData → Prop) → Prop} {pos' : Pos} (hN : X.N.Nodup) (hi : X.N[i]? = some x) (hx : Loc X.env.scope x) (hr : OpR X (inplaceOp op) r) (hR : ROk X.K r R) (he : PE X e (tE X.K W we))
    (hf : X.fn x = true ∨ X.env.scope.names.lookup x = some .local := by first | exact .inl rfl | exact .inr rfl | assumption) : PS X (.AugAssign (.Name x pos') op e pos) (tS X.K W (wAug R i we)) := by
  have hp : PIp X op r := hr
  refine PS.imp (ps_aug hN hi hx he hp hf) fun D σ H ⟨H0, F0, A0, s, T, kx, k, w, xl, h, q1, q2, q3, q4⟩ => ?_
  obtain ⟨z, hz, h⟩ := h
  obtain ⟨F, A, w⟩ := w
  obtain ⟨u, hu, pu⟩ := w.pv i _ hz
  refine ⟨u, hu, H0, F0, A0, s, (.d z, u) :: T, kx, _, ⟨F, A, w.push pu⟩, xl.push, h, fun y s1 h1 v H1 w1 => ?_⟩
  obtain ⟨b, hb, h1⟩ := h1
  obtain ⟨F1, A1, w1⟩ := w1
  have pz : PVOk X.K F1 A1 (.d z) u := w1.tm _ (List.mem_cons_of_mem _ List.mem_cons_self)
  refine hR u v z b H1 _ _ (dat_ok w1 pz rfl) (dat_ok w1 (w1.tm _ List.mem_cons_self) hb) h1 fun c t hc ht => ?_
  exact q1 _ hc _ H1 ⟨F1, A1, (w1.sub fun t h => List.mem_cons_of_mem _ (List.mem_cons_of_mem _ h)).st (toV_dp ht)⟩
theorem iop_addD : OpR X (inplaceOp .Add) (fun x y H Q => (rI0 fun i j => .int (i + j)) x y H Q ∨ ∃ i j, x = .str i ∧ y = .str j ∧ i.length + j.length ≤ sizeLine ∧ Q (.str (i ++ j)) H) := iop_add.or iop_add_str
theorem s_augAdd {i : Nat} {x : Str} {pos' : Pos} (hN : X.N.Nodup) (hi : X.N[i]? = some x) (hx : Loc X.env.scope x) (he : PE X e (tE X.K W we))
    (hf : X.fn x = true ∨ X.env.scope.names.lookup x = some .local := by first | exact .inl rfl | exact .inr rfl | assumption) : PS X (.AugAssign (.Name x pos') .Add e pos) (tS X.K W (wAug rAddD i we)) := s_aug hN hi hx iop_addD ok_addD he hf
/-! loops -/
theorem s_while (hp : PassesOwn (model X.prog X.w) X.A X.env X.xe) (hc : PT X e (tT X.K W wt)) (hb : PSs X body (tS X.K W wb)) : PS X (.While e body [] pos) (tS X.K W (wWh wt wb)) := by
  refine PS.imp (ps_while hp hc hb) fun D σ H ⟨H0, F0, A0, s, T, kx, k, w, xl, ⟨I, ⟨m0, i0⟩, h⟩, q1, q2, q3, q4⟩ => ?_
  have lt := w.own_lt
  refine ⟨fun m σ' H' => ∃ s', Wd X.K H0 F0 A0 s' σ' T H' ∧ I m s', ⟨m0, s, w, i0⟩, fun m σ1 H1 ⟨s1, w1, i1⟩ => ?_⟩
  refine ⟨H0, F0, A0, s1, T, kx, _, w1, xl, h m s1 i1, fun c s2 h2 H2 w2 => ?_⟩
  cases c with
  | false => exact iteF (q1 _ (h2.2 rfl) σ1 H2 w2)
  | true =>
    have nx : ∀ s3, (∃ m', m' < m ∧ (I m' s3 ∨ I m' (s3.trim s.o.length))) → ∀ σ' H', Wd X.K H0 F0 A0 s3 σ' T H' → ∃ m', m' < m ∧ ∃ s', Wd X.K H0 F0 A0 s' σ' T H' ∧ I m' s' := fun s3 ⟨m', hm, h3⟩ σ' H' w3 => by
      rcases h3 with h3 | h3
      · exact ⟨m', hm, s3, w3, h3⟩
      · exact ⟨m', hm, _, w3.trim lt.1 lt.2, h3⟩
    refine iteT ⟨fun σ' H' => ∃ m', m' < m ∧ ∃ s', Wd X.K H0 F0 A0 s' σ' T H' ∧ I m' s', fun _ _ z => z, H0, F0, A0, s2, T, kx, _, w2, xl, h2.1 rfl, nx, q2, ?_, nx⟩
    exact fun s' h' σ' H' w' => q1 s' h' σ' H' w'
theorem s_for {tg iter : Expr} {iw : IW} {L : List Nat} (hp : PassesOwn (model X.prog X.w) X.A X.env X.xe) (hc : X.calm = true) (hi : PI X tg iter (tI X.K W iw)) (hg : PG X tg (tG X.K L g)) (hb : PSs X body (tS X.K W wb))
    (hs : ∀ v, foldedSetIterable iter X.env v = pure v := by intro _; rfl) : PS X (.For tg iter body [] pos) (tS X.K W (wFor iw g wb)) := by
  refine PS.imp (ps_for hp hc hi hg hb hs) fun D σ H ⟨H0, F0, A0, s, T, kx, k, w, xl, h, q1, q2, q3, q4⟩ => ?_
  refine ⟨H0, F0, A0, s, T, kx, _, w, xl, h, fun xs c s0 h0 J T1 H1 w1 hJ => ?_⟩
  obtain ⟨I, i0, hC, turn, fin⟩ := h0
  have lt := w1.own_lt
  refine ⟨fun i m σ' H' => m = xs.length - i ∧ i ≤ xs.length ∧ ∃ s', Wd X.K H0 F0 A0 s' σ' (T1 ++ T) H' ∧ I i s', ⟨_, rfl, Nat.zero_le _, s0, w1, i0⟩, ?_⟩
  rintro i m σ2 H2 ⟨rfl, hi, s2, ⟨F, A, w2⟩, i2⟩
  obtain ⟨j1, j2, j3⟩ := hJ H0 F0 A0 s2 σ2 (T1 ++ T) H2 F A w2 (fun t ht => List.mem_append_left _ ht) (hC i s2 hi i2) i
  by_cases hlt : i < xs.length
  · refine .inr ⟨j1 hlt, fun σ' H' => ∃ s', Wd X.K H0 F0 A0 s' σ' (T1 ++ T) H' ∧ I (i + 1) s', fun σ' H' ⟨s', w', i'⟩ => ⟨xs.length - (i + 1), by omega, rfl, hlt, s', w', i'⟩, fun x H' hy => ?_⟩
    obtain ⟨d, hd, F', w3⟩ := j3 hlt x H' hy
    refine ⟨H0, F0, A0, s2, _, d, _, ⟨F', A, w3⟩, List.mem_cons_self, turn i d s2 hd i2, fun s4 h4 σ4 H4 _ w4 => ?_⟩
    have nx : ∀ s3, (I (i + 1) s3 ∨ I (i + 1) (s3.trim s0.o.length)) → ∀ σ' H', Wd X.K H0 F0 A0 s3 σ' ((.d d, x) :: (T1 ++ T)) H' → ∃ s', Wd X.K H0 F0 A0 s' σ' (T1 ++ T) H' ∧ I (i + 1) s' := fun s3 h3 σ' H' w3 => by
      rcases h3 with h3 | h3
      · exact ⟨s3, w3.pop, h3⟩
      · exact ⟨_, w3.pop.trim lt.1 lt.2, h3⟩
    refine ⟨H0, F0, A0, s4, _, kx, _, w4, xl.more fun t ht => List.mem_cons_of_mem _ (List.mem_append_right _ ht), h4, nx, fun v s' h' u σ' H' w' => q2 v s' h' u σ' H' (w'.sub fun t ht => ?_), fun s' h' σ' H' w' => q1 s' h' σ' H' (w'.sub fun t ht => List.mem_cons_of_mem _ (List.mem_append_right _ ht)), nx⟩
    rcases List.mem_cons.mp ht with e | ht
    · rw [e]; exact List.mem_cons_self
    · exact List.mem_cons_of_mem _ (List.mem_cons_of_mem _ (List.mem_append_right _ ht))
  · have e : i = xs.length := by omega
    subst e
    exact .inl ⟨j2 (Nat.le_refl _), q1 s2 (fin s2 i2) σ2 H2 ⟨F, A, w2.sub fun t ht => List.mem_append_right _ ht⟩⟩
theorem s_raise {C : Addr} {c : Expr} (hc : X.calm = true) (tk : L2N.Takes X W) (hm : L2N.PMk X c (fun _ H Q => Q (.ref C) none H)) : PS X (.Raise (some c) none pos) (tS X.K W (wRaise C)) :=
  PS.imp (L2N.ps_raise hc tk hm) fun D σ H ⟨H0, F0, A0, s, T, kx, k, ⟨F, A, w⟩, xl, h, q1, q2, q3, q4⟩ => xl ⟨C, none⟩ s h σ H none ⟨F, A, w.push ⟨none, rfl, rfl⟩⟩
end
end PW

namespace PW
open PySem L2
/-! ### what a for or a comprehension walks -/
/-- the items of a list: the script's ints, or data, frozen -/
def lst (v : PV) (s : PSt) (k : List PyData → PSt → Prop) : Prop :=
  match v with
  | .scr ns => k (ns.map PyData.int) s
  | v => frz v s fun x s1 => ∃ xs, x = .list xs ∧ k xs s1
def wL (we : EW) : IW := fun kx s k => we kx s fun v s1 => lst v s1 fun xs s2 => k xs none s2
/-- an owned list, walked as it is -/
def wLO (we : EW) : IW := fun kx s k => we kx s fun v s1 => ∃ n xs, v = .own n ∧ s1.o[n]? = some (.dl xs) ∧ k xs (some (n, xs)) s1
def wTp (we : EW) : IW := fun kx s k => we kx s fun v s1 => ∃ xs, v = .d (.tuple xs) ∧ k xs none s1
def charsD (z : Str) : List PyData := z.cps.toList.map fun c => .str ⟨#[c]⟩
def wSt (we : EW) : IW := fun kx s k => we kx s fun v s1 => ∃ z, v = .d (.str z) ∧ k (charsD z) none s1
def intsD (lo : Int) (n : Nat) : List PyData := (List.range n).map fun i => PyData.int (lo + (i : Nat))
def wRg1 (we : EW) : IW := fun kx s k => we kx s fun v s1 => ∃ j, v = .d (.int j) ∧ -(2 ^ 62) ≤ j ∧ j < 2 ^ 62 ∧ k (intsD 0 j.toNat) none s1
def wRg2 (wa wb : EW) : IW := fun kx s k => wa kx s fun v s1 => wb kx s1 fun u s2 => ∃ i j, v = .d (.int i) ∧ u = .d (.int j) ∧ (-(2 ^ 62) ≤ i ∧ i < 2 ^ 62 ∧ -(2 ^ 62) ≤ j ∧ j < 2 ^ 62) ∧ k (intsD i (j - i).toNat) none s2
def enumD : Nat → List PyData → List PyData
  | _, [] => []
  | i, x :: r => .tuple [.int (i : Nat), x] :: enumD (i + 1) r
def zipD : List PyData → List PyData → List PyData
  | x :: r, y :: t => .tuple [x, y] :: zipD r t
  | _, _ => []
def wEn (we : EW) : IW := fun kx s k => we kx s fun v s1 => lst v s1 fun xs s2 => k (enumD 0 xs) none s2
def wZp (wa wb : EW) : IW := fun kx s k => wa kx s fun v s1 => wb kx s1 fun u s2 => lst v s2 fun xs s3 => lst u s3 fun ys s4 => k (zipD xs ys) none s4
theorem enumD_get : ∀ (xs : List PyData) (n i : Nat), (enumD n xs)[i]? = (xs[i]?).map fun x => .tuple [.int ((n + i : Nat) : Int), x]
  | [], _, _ => by simp [enumD]
  | x :: r, n, 0 => rfl
  | x :: r, n, i + 1 => by
    rw [enumD, List.getElem?_cons_succ, List.getElem?_cons_succ, enumD_get r (n + 1) i]
    rw [show n + 1 + i = n + (i + 1) by omega]
theorem enumD_len : ∀ (xs : List PyData) (n : Nat), (enumD n xs).length = xs.length
  | [], _ => rfl
  | x :: r, n => by rw [enumD, List.length_cons, List.length_cons, enumD_len r]
theorem zipD_get : ∀ (xs ys : List PyData) (i : Nat) x y, xs[i]? = some x → ys[i]? = some y → (zipD xs ys)[i]? = some (.tuple [x, y])
  | [], _, _, _, _, h, _ => by simp at h
  | _ :: _, [], _, _, _, _, h => by simp at h
  | x :: r, y :: t, 0, _, _, h1, h2 => by cases h1; cases h2; rfl
  | x :: r, y :: t, i + 1, _, _, h1, h2 => zipD_get r t i _ _ h1 h2
theorem zipD_len : ∀ (xs ys : List PyData), (zipD xs ys).length = min xs.length ys.length
  | [], _ => by simp [zipD]
  | _ :: _, [] => by simp [zipD]
  | x :: r, y :: t => by rw [zipD, List.length_cons, zipD_len r t, List.length_cons, List.length_cons]; omega
/-- a source: a list that is the script or frozen data -/
def LSrc : PV → List PyData → Prop
  | .scr ns, xs => xs = ns.map PyData.int
  | .d x, xs => x = .list xs
  | _, _ => False
theorem lsrc_ok {K : PySem.W.Frag} {H0 F0 : Hp} {A0 : List Addr} {s : PSt} {σ : St} {T : List (PV × V)} {H F : Hp} {A : List Addr} {v : PV} {u : V} {xs : List PyData} (w : WdF K H0 F0 A0 s σ T H F A) (h : LSrc v xs) (m : (v, u) ∈ T) : ∃ a vs, u = .ref a ∧ SqL K H a vs ∧ DqAll K F vs xs := by
  have p := w.tm _ m
  cases v with
  | scr ns => cases h; exact items_ok w p rfl
  | d x => cases h; exact items_ok w p rfl
  | own n => exact h.elim
  | tp n => exact h.elim
  | gl n => exact h.elim
  | exc n => exact h.elim
  | xd n => exact h.elim
  | dk n => exact h.elim
theorem lst_ok {K : PySem.W.Frag} {H0 F0 : Hp} {A0 : List Addr} {s : PSt} {σ : St} {T : List (PV × V)} {H : Hp} {v : PV} {u : V} {k : List PyData → PSt → Prop} (w : Wd K H0 F0 A0 s σ ((v, u) :: T) H) (h : lst v s k) :
    ∃ v' xs s', k xs s' ∧ LSrc v' xs ∧ Wd K H0 F0 A0 s' σ ((v', u) :: T) H := by
  cases v with
  | scr ns => exact ⟨.scr ns, _, s, h, rfl, w⟩
  | d x =>
    obtain ⟨xs, rfl, h⟩ := h
    exact ⟨.d (.list xs), _, s, h, rfl, w⟩
  | own n =>
    have h : frz (.own n) s fun x s1 => ∃ xs, x = .list xs ∧ k xs s1 := h
    obtain ⟨x, s1, h1, w1⟩ := frz_ok w h
    obtain ⟨xs, rfl, h1⟩ := h1
    exact ⟨.d (.list xs), _, s1, h1, rfl, w1⟩
  | tp n => exact h.elim
  | gl n => exact h.elim
  | exc n => exact h.elim
  | xd n => exact h.elim
  | dk n => exact h.elim
theorem it_list {K : PySem.W.Frag} {v : PV} {a : Addr} {xs : List PyData} (h : LSrc v xs) : ItOk K (Itl K a) [(v, .ref a)] none xs := by
  intro H0 F0 A0 s σ T H F A w ht _ i
  obtain ⟨a', vs, e, h1, h2⟩ := lsrc_ok w h (ht _ List.mem_cons_self)
  cases e
  have hl := h2.len
  refine ⟨fun hi => ⟨vs, vs[i]'(by omega), h1, List.getElem?_eq_getElem (by omega)⟩, fun hi => ⟨vs, h1, by omega⟩, fun _ x H' hy => ?_⟩
  obtain ⟨rfl, hx⟩ := hy
  obtain ⟨d, hd, dq⟩ := h2.get i x (hx vs h1)
  exact ⟨d, hd, F, w.push dq⟩
theorem it_tup {K : PySem.W.Frag} {a : Addr} {xs : List PyData} : ItOk K (Itt K a) [(.d (.tuple xs), .ref a)] none xs := by
  intro H0 F0 A0 s σ T H F A w ht _ i
  have p : PVOk K F A (.d (.tuple xs)) (.ref a) := w.tm _ (ht _ List.mem_cons_self)
  obtain ⟨a', vs, e, h1, h2⟩ := itemsT_ok w p rfl
  cases e
  have hl := h2.len
  refine ⟨fun hi => ⟨vs, vs[i]'(by omega), h1, List.getElem?_eq_getElem (by omega)⟩, fun hi => ⟨vs, h1, by omega⟩, fun _ x H' hy => ?_⟩
  obtain ⟨rfl, hx⟩ := hy
  obtain ⟨d, hd, dq⟩ := h2.get i x (hx vs h1)
  exact ⟨d, hd, F, w.push dq⟩
theorem it_str {K : PySem.W.Frag} {z : Str} : ItOk K (Its z) [] none (charsD z) := by
  intro H0 F0 A0 s σ T H F A w ht _ i
  have hl : (charsD z).length = z.cps.size := by unfold charsD; rw [List.length_map]; simp
  refine ⟨fun hi => by rw [hl] at hi; exact hi, fun hi => by rw [hl] at hi; exact hi, fun _ x H' hy => ?_⟩
  obtain ⟨rfl, c, hc, rfl⟩ := hy
  refine ⟨.str ⟨#[c]⟩, ?_, F, w.push (.str _)⟩
  unfold charsD
  rw [List.getElem?_map, Array.getElem?_toList, hc]
  rfl
theorem it_range {K : PySem.W.Frag} {lo : Int} {n : Nat} : ItOk K (Itr lo n) [] none (intsD lo n) := by
  intro H0 F0 A0 s σ T H F A w ht _ i
  have hl : (intsD lo n).length = n := by unfold intsD; rw [List.length_map, List.length_range]
  refine ⟨fun hi => by rw [hl] at hi; exact hi, fun hi => by rw [hl] at hi; exact hi, fun hi x H' hy => ?_⟩
  rw [hl] at hi
  obtain ⟨rfl, rfl⟩ := hy
  refine ⟨.int (lo + (i : Nat)), ?_, F, w.push (.int _)⟩
  unfold intsD
  rw [List.getElem?_map, List.getElem?_range hi]
  rfl
theorem it_enum {K : PySem.W.Frag} {v : PV} {a : Addr} {xs : List PyData} (h : LSrc v xs) : ItOk K (Ite K a) [(v, .ref a)] none (enumD 0 xs) := by
  intro H0 F0 A0 s σ T H F A w ht _ i
  obtain ⟨a', vs, e, h1, h2⟩ := lsrc_ok w h (ht _ List.mem_cons_self)
  cases e
  have hl := h2.len
  rw [enumD_len]
  refine ⟨fun hi => ⟨vs, vs[i]'(by omega), h1, List.getElem?_eq_getElem (by omega)⟩, fun hi => ⟨vs, h1, by omega⟩, fun _ x H' hy => ?_⟩
  obtain ⟨t, y, rfl, ht, rfl, hx⟩ := hy
  obtain ⟨d, hd, dq⟩ := h2.get i y (hx vs h1)
  refine ⟨.tuple [.int (i : Nat), d], by rw [enumD_get, hd, Nat.zero_add]; rfl, _, (w.newD (o := .tup [.int (i : Nat), y]) ht).push (.tup (SqT.of upd_same) (.cons (.int _) (.cons (dq_same (same_new (w.fz.g.free ht)) dq) .nil)))⟩
theorem it_zip {K : PySem.W.Frag} {v v' : PV} {a b : Addr} {xs ys : List PyData} (h : LSrc v xs) (h' : LSrc v' ys) : ItOk K (Itz K a b) [(v, .ref a), (v', .ref b)] none (zipD xs ys) := by
  intro H0 F0 A0 s σ T H F A w ht _ i
  obtain ⟨a', vs, e, h1, h2⟩ := lsrc_ok w h (ht _ List.mem_cons_self)
  obtain ⟨b', ws, e', h1', h2'⟩ := lsrc_ok w h' (ht _ (List.mem_cons_of_mem _ List.mem_cons_self))
  cases e
  cases e'
  have hl := h2.len
  have hl' := h2'.len
  rw [zipD_len]
  refine ⟨fun hi => ⟨vs, ws, vs[i]'(by omega), ws[i]'(by omega), h1, h1', List.getElem?_eq_getElem (by omega), List.getElem?_eq_getElem (by omega)⟩, fun hi => ⟨vs, ws, h1, h1', by omega⟩, fun _ x H' hy => ?_⟩
  obtain ⟨t, y, z, rfl, ht, rfl, hx, hz⟩ := hy
  obtain ⟨d, hd, dq⟩ := h2.get i y (hx vs h1)
  obtain ⟨d', hd', dq'⟩ := h2'.get i z (hz ws h1')
  have sn := same_new (o := .tup [y, z]) (w.fz.g.free ht)
  refine ⟨.tuple [d, d'], zipD_get _ _ _ _ _ hd hd', _, (w.newD (o := .tup [y, z]) ht).push (.tup (SqT.of upd_same) (.cons (dq_same sn dq) (.cons (dq_same sn dq') .nil)))⟩
section
variable {X : Cx} {W : WX} {e a b tg : Expr} {we wa wb : EW} {pos p : Pos}
theorem i_list (he : PE X e (tE X.K W we)) : PI X tg e (tI X.K W (wL we)) := by
  refine PI.imp (pi_list he) fun σ H R ⟨H0, F0, A0, s, T, kx, k, w, xl, h, q⟩ => un_of w xl h fun v s1 u H1 h1 w1 => ?_
  obtain ⟨v', xs, s2, h2, hs, w2⟩ := lst_ok w1 h1
  obtain ⟨F, A, w3⟩ := id w2
  obtain ⟨a, vs, rfl, h3, h4⟩ := lsrc_ok w3 hs List.mem_cons_self
  exact ⟨a, rfl, ⟨vs, h3⟩, q _ _ _ h2 _ [(v', .ref a)] H1 w2 (it_list hs)⟩
theorem it_own {K : PySem.W.Frag} {n : Nat} {a : Addr} {xs : List PyData} : ItOk K (Itl K a) [(.own n, .ref a)] (some (n, xs)) xs := by
  intro H0 F0 A0 s σ T H F A w ht hs i
  obtain ⟨p, vs, hp, e, h1, h2⟩ := own_at w (ht _ List.mem_cons_self) hs
  cases e
  have hl := h2.len
  refine ⟨fun hi => ⟨vs, vs[i]'(by omega), SqL.of h1, List.getElem?_eq_getElem (by omega)⟩, fun hi => ⟨vs, SqL.of h1, by omega⟩, fun _ x H' hy => ?_⟩
  obtain ⟨rfl, hx⟩ := hy
  obtain ⟨d, hd, dq⟩ := h2.get i x (hx vs (SqL.of h1))
  exact ⟨d, hd, F, w.push dq⟩
theorem i_listO (he : PE X e (tE X.K W we)) : PI X tg e (tI X.K W (wLO we)) := by
  refine PI.imp (pi_list he) fun σ H R ⟨H0, F0, A0, s, T, kx, k, w, xl, h, q⟩ => un_of w xl h fun v s1 u H1 h1 w1 => ?_
  obtain ⟨n, xs, rfl, ho, h1⟩ := h1
  obtain ⟨F, A, w3⟩ := id w1
  obtain ⟨p, vs, hp, rfl, h3, h4⟩ := own_at w3 List.mem_cons_self ho
  exact ⟨p, rfl, ⟨vs, SqL.of h3⟩, q _ _ _ h1 _ [(.own n, .ref p)] H1 w1 it_own⟩
theorem i_tup (he : PE X e (tE X.K W we)) : PI X tg e (tI X.K W (wTp we)) := by
  refine PI.imp (pi_tup he) fun σ H R ⟨H0, F0, A0, s, T, kx, k, w, xl, h, q⟩ => un_of w xl h fun v s1 u H1 h1 w1 => ?_
  obtain ⟨xs, rfl, h1⟩ := h1
  obtain ⟨F, A, w3⟩ := id w1
  have pv : PVOk X.K F A (.d (.tuple xs)) u := w3.tm _ List.mem_cons_self
  obtain ⟨a, vs, rfl, h3, h4⟩ := itemsT_ok w3 pv rfl
  exact ⟨a, rfl, ⟨vs, h3⟩, q _ _ _ h1 _ [(.d (.tuple xs), .ref a)] H1 w1 it_tup⟩
theorem i_str (he : PE X e (tE X.K W we)) : PI X tg e (tI X.K W (wSt we)) := by
  refine PI.imp (pi_str he) fun σ H R ⟨H0, F0, A0, s, T, kx, k, w, xl, h, q⟩ => un_of w xl h fun v s1 u H1 h1 w1 => ?_
  obtain ⟨z, rfl, h1⟩ := h1
  cases str_at w1 List.mem_cons_self
  exact ⟨z, rfl, q _ _ _ h1 _ [] H1 w1.pop it_str⟩
theorem i_rg1 (hm : X.mg "range" = none) (he : PE X e (tE X.K W we)) (hg : Gl X "range" := by rfl) (hs : starEach [e] X.env = [(false, eval e X.env)] := by rfl) : PI X tg (.Call (.Name "range" p) [e] [] pos) (tI X.K W (wRg1 we)) := by
  refine PI.imp (pi_range1 hg hm (pa_cons he pa_nil hs) hs) fun σ H R ⟨H0, F0, A0, s, T, kx, k, w, xl, h, q⟩ => un_of w xl h fun v s1 u H1 h1 w1 => ?_
  obtain ⟨j, rfl, l1, l2, h1⟩ := h1
  obtain ⟨F, A, w2⟩ := id w1
  cases dp_int (dq_dp (w2.tm _ List.mem_cons_self))
  exact ⟨j, rfl, l1, l2, q _ _ _ h1 _ [] H1 w1.pop it_range⟩
theorem i_rg2 (hm : X.mg "range" = none) (ha : PE X a (tE X.K W wa)) (hb : PE X b (tE X.K W wb)) (hg : Gl X "range" := by rfl) (hs : starEach [a, b] X.env = [(false, eval a X.env), (false, eval b X.env)] := by rfl) (hs2 : starEach [b] X.env = [(false, eval b X.env)] := by rfl) :
    PI X tg (.Call (.Name "range" p) [a, b] [] pos) (tI X.K W (wRg2 wa wb)) := by
  refine PI.imp (pi_range2 hg hm (pa_cons ha (pa_cons hb pa_nil hs2) (by rw [hs, hs2])) hs hs2) fun σ H R ⟨H0, F0, A0, s, T, kx, k, w, xl, h, q⟩ => un_of w xl h fun v s1 u H1 h1 w1 => ?_
  refine ⟨H0, F0, A0, s1, _, kx, _, w1, xl.push, h1, fun v2 s2 h2 u2 H2 w2 => ?_⟩
  obtain ⟨i, j, rfl, rfl, l, h2⟩ := h2
  obtain ⟨F, A, w3⟩ := id w2
  cases dp_int (dq_dp (w3.tm _ List.mem_cons_self))
  cases dp_int (dq_dp (w3.tm (.d (.int i), u) (List.mem_cons_of_mem _ List.mem_cons_self)))
  exact ⟨i, j, rfl, l, q _ _ _ h2 _ [] H2 w2.pop.pop it_range⟩
theorem i_enum {elts : List Expr} {kk : Nat} {tpos : Pos} (hm : X.mg "enumerate" = none) (he : PE X e (tE X.K W we)) (hg : Gl X "enumerate" := by rfl) (hs : starEach [e] X.env = [(false, eval e X.env)] := by rfl) : PI X (.Tuple elts kk tpos) (.Call (.Name "enumerate" p) [e] [] pos) (tI X.K W (wEn we)) := by
  refine PI.imp (pi_enum hg hm (pa_cons he pa_nil hs) hs) fun σ H R ⟨H0, F0, A0, s, T, kx, k, w, xl, h, q⟩ => un_of w xl h fun v s1 u H1 h1 w1 => ?_
  obtain ⟨v', xs, s2, h2, hs, w2⟩ := lst_ok w1 h1
  obtain ⟨F, A, w3⟩ := id w2
  obtain ⟨a, vs, rfl, h3, h4⟩ := lsrc_ok w3 hs List.mem_cons_self
  exact ⟨a, vs, rfl, h3, q _ _ _ h2 _ [(v', .ref a)] H1 w2 (it_enum hs)⟩
theorem i_zip {elts : List Expr} {kk : Nat} {tpos : Pos} (hm : X.mg "zip" = none) (ha : PE X a (tE X.K W wa)) (hb : PE X b (tE X.K W wb)) (hg : Gl X "zip" := by rfl) (hs : starEach [a, b] X.env = (false, eval a X.env) :: starEach [b] X.env := by rfl) (hs2 : starEach [b] X.env = (false, eval b X.env) :: starEach [] X.env := by rfl) (hpl : (backTo pos (starEach [b] X.env)).any (·.1) = false := by rfl) :
    PI X (.Tuple elts kk tpos) (.Call (.Name "zip" p) [a, b] [] pos) (tI X.K W (wZp wa wb)) := by
  refine PI.imp (pi_zip hg hm (pa_cons ha (pa_cons hb pa_nil hs2) hs) hs hpl) fun σ H R ⟨H0, F0, A0, s, T, kx, k, w, xl, h, q⟩ => un_of w xl h fun v s1 u H1 h1 w1 => ?_
  refine ⟨H0, F0, A0, s1, _, kx, _, w1, xl.push, h1, fun v2 s2 h2 u2 H2 w2 => ?_⟩
  obtain ⟨v1, xs, s3, h3, hs3, w3⟩ := lst_ok (T := (v2, u2) :: T) (w2.sub fun t ht => by
    rcases List.mem_cons.mp ht with e | ht
    · rw [e]; exact List.mem_cons_of_mem _ List.mem_cons_self
    · rcases List.mem_cons.mp ht with e | ht
      · rw [e]; exact List.mem_cons_self
      · exact List.mem_cons_of_mem _ (List.mem_cons_of_mem _ ht)) h2
  obtain ⟨v3, ys, s4, h4, hs4, w4⟩ := lst_ok (T := (v1, u) :: T) (w3.sub fun t ht => by
    rcases List.mem_cons.mp ht with e | ht
    · rw [e]; exact List.mem_cons_of_mem _ List.mem_cons_self
    · rcases List.mem_cons.mp ht with e | ht
      · rw [e]; exact List.mem_cons_self
      · exact List.mem_cons_of_mem _ (List.mem_cons_of_mem _ ht)) h3
  obtain ⟨F, A, w5⟩ := id w4
  obtain ⟨a, vs, rfl, i3, i4⟩ := lsrc_ok w5 hs3 (List.mem_cons_of_mem _ List.mem_cons_self)
  obtain ⟨b, ws, rfl, j3, j4⟩ := lsrc_ok w5 hs4 List.mem_cons_self
  refine ⟨a, b, vs, ws, rfl, i3, j3, q _ _ _ h4 _ [(v1, .ref a), (v3, .ref b)] H2 (w4.sub fun t ht => ?_) (it_zip hs3 hs4)⟩
  rcases List.mem_cons.mp ht with e | ht
  · rw [e]; exact List.mem_cons_of_mem _ List.mem_cons_self
  · rcases List.mem_cons.mp ht with e | ht
    · rw [e]; exact List.mem_cons_self
    · exact List.mem_cons_of_mem _ (List.mem_cons_of_mem _ ht)
end
end PW
namespace PW
open PySem L2
/-! ### comprehensions -/
def wYes : TW := fun _ s k => k true s
def wLc (wi : IW) (g : GW) (tt : TW) (we : EW) (vs : List Nat) : EW := fun kx s k => wi kx s fun xs c s1 => ∃ I : Nat → List PyData → PSt → Prop, I 0 [] (s1.wipe vs) ∧ (∀ j acc s2, j ≤ xs.length → I j acc s2 → Src c s2) ∧
  (∀ j x acc s2, xs[j]? = some x → s2.o.length = s1.o.length → I j acc s2 → g x ⟨s2.r, s2.o ++ [.dl acc]⟩ fun s3 => tt (fun _ _ => False) s3 fun b s4 =>
    (b = true → we (fun _ _ => False) s4 fun y s5 => frz y s5 fun d s6 => s6.o[s1.o.length]? = some (.dl acc) ∧ acc.length < sizeLine ∧ I (j + 1) (acc ++ [d]) ((s6.trim s1.o.length).wipe vs)) ∧
    (b = false → s4.o[s1.o.length]? = some (.dl acc) ∧ I (j + 1) acc ((s4.trim s1.o.length).wipe vs))) ∧
  ∀ acc s2, s2.o.length = s1.o.length → I xs.length acc s2 → k (.own s1.o.length) ⟨s2.r, s2.o ++ [.dl acc]⟩
section
variable {K : PySem.W.Frag} {H0 F0 : Hp} {A0 : List Addr} {s : PSt} {σ : St} {T : List (PV × V)} {H F : Hp} {A : List Addr}
theorem wipe_r (s : PSt) : ∀ vs : List Nat, (s.wipe vs).o = s.o ∧ (s.wipe vs).r.length = s.r.length ∧ ∀ (i : Nat) v, (s.wipe vs).r[i]? = some (some v) → s.r[i]? = some (some v) ∧ i ∉ vs
  | [] => ⟨rfl, rfl, fun i v h => ⟨h, List.not_mem_nil⟩⟩
  | w :: vs => by
    obtain ⟨h1, h2, h3⟩ := wipe_r s vs
    refine ⟨rfl, ?_, fun i v h => ?_⟩
    · show ((s.wipe vs).r.set w none).length = _
      rw [List.length_set]; exact h2
    · have h : ((s.wipe vs).r.set w none)[i]? = some (some v) := h
      by_cases e : i = w
      · subst e
        by_cases hl : i < (s.wipe vs).r.length
        · rw [List.getElem?_set_self hl] at h; cases h
        · rw [List.getElem?_eq_none (by rw [List.length_set]; omega)] at h; cases h
      · rw [List.getElem?_set_ne (Ne.symm e)] at h
        obtain ⟨a, b⟩ := h3 i v h
        exact ⟨a, fun z => (List.mem_cons.mp z).elim e b⟩
theorem WdF.relO {s' : PSt} {σ' : St} (w : WdF K H0 F0 A0 s σ T H F A) (hn : s'.o.length = s.o.length) (ho : ∀ (n : Nat) c, s'.o[n]? = some c → c = .no ∨ s.o[n]? = some c) (hl : s'.r.length = σ'.length) (h : ∀ (i : Nat) v, s'.r[i]? = some (some v) → s.r[i]? = some (some v) ∧ ∀ u, σ[i]? = some (some u) → σ'[i]? = some (some u)) : WdF K H0 F0 A0 s' σ' T H F A :=
  { fz := w.fz, pre := w.pre, len := by rw [hn]; exact w.len, nd := w.nd, ad := w.ad, sl := hl, tm := w.tm,
    oc := fun n p c h1 h2 => by
      rcases ho n c h2 with e | e
      · rw [e]; trivial
      · exact w.oc n p c h1 e
    pv := fun i v e => by
      obtain ⟨a, b⟩ := h i v e
      obtain ⟨u, c, d⟩ := w.pv i v a
      exact ⟨u, b u c, d⟩ }
theorem WdF.rel {s' : PSt} {σ' : St} (w : WdF K H0 F0 A0 s σ T H F A) (ho : s'.o = s.o) (hl : s'.r.length = σ'.length) (h : ∀ (i : Nat) v, s'.r[i]? = some (some v) → s.r[i]? = some (some v) ∧ ∀ u, σ[i]? = some (some u) → σ'[i]? = some (some u)) : WdF K H0 F0 A0 s' σ' T H F A :=
  w.relO (by rw [ho]) (fun n c e => .inr (by rw [← ho]; exact e)) hl h
theorem wipe_len (σ : St) (vs : List Nat) : (wipe σ vs).length = σ.length := wipe_length σ vs
theorem wipe_eq {σ σ' : St} {vs L : List Nat} (h : OutL L (wipe σ vs) σ') (hl : ∀ i ∈ L, i ∈ vs) : wipe σ' vs = wipe σ vs := by
  apply List.ext_getElem?
  intro i
  by_cases hi : i ∈ vs
  · have z : ∀ σ : St, i < σ.length → (wipe σ vs)[i]? = some none := by
      intro σ hs
      have : ∀ vs : List Nat, i ∈ vs → (wipe σ vs)[i]? = some none := by
        intro vs
        induction vs with
        | nil => intro h; cases h
        | cons v vs ih =>
          intro h
          show ((wipe σ vs).set v none)[i]? = some none
          by_cases e : i = v
          · subst e
            rw [List.getElem?_set_self (by rw [wipe_len]; exact hs)]
          · rw [List.getElem?_set_ne (Ne.symm e)]
            exact ih ((List.mem_cons.mp h).resolve_left e)
      exact this vs hi
    by_cases hs : i < σ.length
    · rw [z σ' (by rw [h.1, wipe_len]; exact hs), z σ hs]
    · rw [List.getElem?_eq_none (by rw [wipe_len, h.1, wipe_len]; omega), List.getElem?_eq_none (by rw [wipe_len]; omega)]
  · rw [wipe_out hi, h.2 i fun z => hi (hl i z)]
end
theorem src_app {c : SrcO} {s : PSt} {x : List OC} (h : Src c s) : Src c ⟨s.r, s.o ++ x⟩ := by
  cases c with
  | none => trivial
  | some p =>
    obtain ⟨n, xs⟩ := p
    have h : s.o[n]? = some (.dl xs) := h
    show (s.o ++ x)[n]? = some (.dl xs)
    rw [List.getElem?_append_left (List.getElem?_eq_some_iff.mp h).1]
    exact h
section
variable {X : Cx} {W : WX} {elt tg iter c : Expr} {ifs : List Expr} {scope : Scope} {own : List (Str × Nat)} {pos : Pos} {iw : IW} {g : GW} {tt : TW} {we : EW} {L : List Nat}
abbrev W0 : WX := fun _ _ _ _ => False
theorem ts_nil : PTs X [] (tT X.K W wYes) := PTs.imp pts_nil fun σ H Q ⟨H0, F0, A0, s, T, kx, k, w, xl, h, q⟩ => q _ _ h H w
theorem ts_one {t : TW} (h : PT X c (tT X.K W t)) : PTs X [c] (tT X.K W t) := pts_one h
theorem XL.none {K : PySem.W.Frag} {H0 F0 : Hp} {A0 : List Addr} {T : List (PV × V)} {W : WX} : XL K H0 F0 A0 T W (fun _ _ => False) := fun _ _ h => h.elim
theorem lc_of (hL : ∀ i ∈ L, i ∈ own.map (·.2)) {σ : St} {H : Hp} {Q : VK} (h : tE X.K W (wLc iw g tt we (own.map (·.2))) σ H Q) : tLc (tI X.K W iw) (tG X.K L g) (tT X.K W0 tt) (tE X.K W0 we) (own.map (·.2)) σ H Q := by
  obtain ⟨H0, F0, A0, s, T, kx, k, w, xl, h, q⟩ := h
  generalize own.map (·.2) = vs at *
  refine ⟨H0, F0, A0, s, T, kx, _, w, xl, h, fun xs c s1 h1 J T1 H1 w1 hJ D hD => ?_⟩
  obtain ⟨I, i0, hC, turn, fin⟩ := h1
  have lt := w1.own_lt
  have n : Nat := s1.o.length
  -- the word between the turns
  refine ⟨fun i m H' => m = xs.length - i ∧ i ≤ xs.length ∧ ∃ s2 acc, s2.o.length = s1.o.length ∧ I i acc s2 ∧ Wd X.K H0 F0 A0 ⟨s2.r, s2.o ++ [.dl acc]⟩ (wipe σ vs) ((.own s1.o.length, .ref D) :: (T1 ++ T)) H', ⟨_, rfl, Nat.zero_le _, s1.wipe vs, [], by rw [(wipe_r s1 vs).1], i0, ?_⟩, ?_⟩
  · obtain ⟨F, A, w1⟩ := w1
    have w2 := w1.newL hD .nil
    have w3 := w2.push (top_at w1 D F)
    obtain ⟨e1, e2, e3⟩ := wipe_r s1 vs
    refine ⟨F, _, w3.rel (s' := ⟨(s1.wipe vs).r, (s1.wipe vs).o ++ [.dl []]⟩) (by rw [e1]) ?_ fun i v e => ?_⟩
    · show (s1.wipe vs).r.length = _
      rw [e2, wipe_len]; exact w1.sl
    · obtain ⟨a, b⟩ := e3 i v e
      exact ⟨a, fun u hu => by rw [wipe_out b]; exact hu⟩
  · rintro i m H2 ⟨rfl, hi, s2, acc, hn, i2, ⟨F, A, w2⟩⟩
    obtain ⟨j1, j2, j3⟩ := hJ H0 F0 A0 _ _ _ H2 F A w2 (fun t ht => List.mem_cons_of_mem _ (List.mem_append_left _ ht)) (src_app (hC i acc s2 hi i2)) i
    by_cases hlt : i < xs.length
    · refine .inr ⟨j1 hlt, fun H' => ∃ s2 acc, s2.o.length = s1.o.length ∧ I (i + 1) acc s2 ∧ Wd X.K H0 F0 A0 ⟨s2.r, s2.o ++ [.dl acc]⟩ (wipe σ vs) ((.own s1.o.length, .ref D) :: (T1 ++ T)) H', fun H' ⟨s', a', e', i', w'⟩ => ⟨xs.length - (i + 1), by omega, rfl, hlt, s', a', e', i', w'⟩, fun x H' hy => ?_⟩
      obtain ⟨d, hd, F', w3⟩ := j3 hlt x H' hy
      have lT : ∀ t ∈ (PV.own s1.o.length, V.ref D) :: (T1 ++ T), t.1.lt (s1.o.length + 1) = true := fun t ht => by
        rcases List.mem_cons.mp ht with z | z
        · subst z; exact decide_eq_true (Nat.lt_succ_self _)
        · exact lt_mono (Nat.le_succ _) (lt.2 t z)
      -- a state behind the turn, cut to the length
      have back : ∀ (s6 : PSt) (σ2 : St) (H4 : Hp) (a' : List PyData), wipe σ2 vs = wipe σ vs → s6.o[s1.o.length]? = some (.dl a') → Wd X.K H0 F0 A0 s6 σ2 ((.own s1.o.length, .ref D) :: (T1 ++ T)) H4 →
          Wd X.K H0 F0 A0 ⟨((s6.trim s1.o.length).wipe vs).r, ((s6.trim s1.o.length).wipe vs).o ++ [.dl a']⟩ (wipe σ vs) ((.own s1.o.length, .ref D) :: (T1 ++ T)) H4 := fun s6 σ2 H4 a' hw ho w6 => by
        have w7 := w6.trim (m := s1.o.length + 1) (by have := lt.1; omega) lT
        obtain ⟨F7, A7, w7⟩ := w7
        obtain ⟨e1, e2, e3⟩ := wipe_r (s6.trim s1.o.length) vs
        refine ⟨F7, A7, w7.relO ?_ (fun n c hc => ?_) ?_ fun j v e => ?_⟩
        · show (((s6.trim s1.o.length).wipe vs).o ++ [OC.dl a']).length = (cutL (s1.o.length + 1) s6.o).length
          rw [e1, List.length_append, cutL_len]
          show (cutL s1.o.length s6.o).length + 1 = _
          rw [cutL_len]
          have := (List.getElem?_eq_some_iff.mp ho).1
          omega
        · have hc : (((s6.trim s1.o.length).wipe vs).o ++ [OC.dl a'])[n]? = some c := hc
          show c = .no ∨ (cutL (s1.o.length + 1) s6.o)[n]? = some c
          have hlen : (cutL s1.o.length s6.o).length = s1.o.length := by
            rw [cutL_len]
            have := (List.getElem?_eq_some_iff.mp ho).1
            omega
          rw [e1] at hc
          have hc : (cutL s1.o.length s6.o ++ [OC.dl a'])[n]? = some c := hc
          rcases Nat.lt_or_ge n s1.o.length with hn | hn
          · rw [List.getElem?_append_left (by rw [hlen]; exact hn)] at hc
            obtain ⟨_, c0, h3, rfl⟩ := cutL_at hc
            rcases ocut_is (m := s1.o.length) c0 with z | z
            · exact .inl z
            · refine .inr ?_
              unfold cutL
              rw [List.getElem?_map, List.getElem?_take, if_pos (Nat.lt_succ_of_lt hn), h3, z]
              show some (OC.cut (s1.o.length + 1) c0) = some c0
              rcases ocut_up (Nat.le_succ s1.o.length) z with y | y
              · exact congrArg some y
              · subst y; rfl
          · rw [List.getElem?_append_right (by rw [hlen]; exact hn), hlen] at hc
            have e : n = s1.o.length := by
              cases hk : n - s1.o.length with
              | zero => omega
              | succ k => rw [hk] at hc; cases hc
            subst e
            rw [Nat.sub_self] at hc
            cases hc
            refine .inr ?_
            unfold cutL
            rw [List.getElem?_map, List.getElem?_take, if_pos (Nat.lt_succ_self _), ho]
            rfl
        · show ((s6.trim s1.o.length).wipe vs).r.length = _
          rw [e2, ← hw, wipe_len, ← w7.sl]
          show (s6.r.map _).length = (s6.r.map _).length
          rw [List.length_map, List.length_map]
        · obtain ⟨a, b⟩ := e3 j v e
          refine ⟨?_, fun u hu => by rw [← hw, wipe_out b]; exact hu⟩
          have a : (s6.r.map (cutP s1.o.length))[j]? = some (some v) := a
          show (s6.r.map (cutP (s1.o.length + 1)))[j]? = some (some v)
          rw [List.getElem?_map] at a ⊢
          cases hr : s6.r[j]? with
          | none => rw [hr] at a; cases a
          | some o =>
            rw [hr] at a
            obtain ⟨rfl, hl⟩ := cutP_is (Option.some.inj a)
            exact congrArg some (cutP_of (lt_mono (Nat.le_succ _) hl))
      refine ⟨H0, F0, A0, _, _, d, _, ⟨F', A, w3⟩, List.mem_cons_self, turn i d acc s2 hd hn i2, fun s3 h3 σ2 H3 l3 w4 => ?_⟩
      have hw := wipe_eq l3 hL
      refine ⟨hw, H0, F0, A0, s3, _, _, _, w4, XL.none, h3, fun b s4 h4 H4 w5 => ?_⟩
      cases b with
      | false =>
        obtain ⟨ho, hI⟩ := h4.2 rfl
        refine iteF ⟨_, acc, ?_, hI, back s4 σ2 H4 acc hw ho w5.pop⟩
        rw [(wipe_r _ vs).1]
        show (cutL s1.o.length s4.o).length = _
        rw [cutL_len]
        have := (List.getElem?_eq_some_iff.mp ho).1
        omega
      | true =>
        refine iteT ⟨H0, F0, A0, s4, _, _, _, w5, XL.none, h4.1 rfl, fun y s5 h5 u H5 w6 => ?_⟩
        obtain ⟨dd, s6, h6, w7⟩ := frz_ok w6 h5
        obtain ⟨ho, hz, hI⟩ := h6
        obtain ⟨F8, A8, w8⟩ := w7
        obtain ⟨p, vs', hp, ep, hv, hdq⟩ := own_at w8 (List.mem_cons_of_mem _ (List.mem_cons_of_mem _ List.mem_cons_self)) ho
        cases ep
        have du : Dq X.K F8 u dd := w8.tm (.d dd, u) List.mem_cons_self
        refine ⟨vs', hv, by rw [hdq.len]; exact hz, _, acc ++ [dd], ?_, hI, ?_⟩
        · rw [(wipe_r _ vs).1]
          show (cutL s1.o.length s6.o).length = _
          rw [cutL_len]
          have := (List.getElem?_eq_some_iff.mp ho).1
          omega
        · have w9 := (w8.sub (T' := (.own s1.o.length, .ref D) :: (T1 ++ T)) fun t h => List.mem_cons_of_mem _ (List.mem_cons_of_mem _ h)).wr hp ho (hdq.app (.cons du .nil))
          have b := back ⟨s6.r, s6.o.set s1.o.length (.dl (acc ++ [dd]))⟩ σ2 _ (acc ++ [dd]) hw (by
            show (s6.o.set s1.o.length _)[s1.o.length]? = _
            rw [List.getElem?_set_self (List.getElem?_eq_some_iff.mp ho).1]) ⟨F8, A8, w9⟩
          have e : (((⟨s6.r, s6.o.set s1.o.length (.dl (acc ++ [dd]))⟩ : PSt).trim s1.o.length).wipe vs) = ((s6.trim s1.o.length).wipe vs) := by
            have : (⟨s6.r, s6.o.set s1.o.length (.dl (acc ++ [dd]))⟩ : PSt).trim s1.o.length = s6.trim s1.o.length := by
              unfold PSt.trim cutL
              show (⟨s6.r.map _, ((s6.o.set s1.o.length _).take s1.o.length).map _⟩ : PSt) = ⟨s6.r.map _, (s6.o.take s1.o.length).map _⟩
              rw [List.take_set_of_le (Nat.le_refl _)]
            rw [this]
          rw [e] at b
          exact b
    · have e : i = xs.length := by omega
      subst e
      refine .inl ⟨j2 (Nat.le_refl _), q _ _ (fin acc s2 hn i2) (.ref D) H2 ⟨F, A, (w2.rel rfl ?_ fun i v e => ⟨e, fun u hu => (wipe_some hu).1⟩).sub fun t ht => ?_⟩⟩
      · have := w2.sl
        rw [wipe_len] at this
        exact this
      · rcases List.mem_cons.mp ht with e | ht
        · rw [e]; exact List.mem_cons_self
        · exact List.mem_cons_of_mem _ (List.mem_append_right _ ht)
theorem e_lc (hc : X.calm = true) (hN : X.N.Nodup) (hi : PI X tg iter (tI X.K W iw)) (ok : BlkOk X.N X.env.scope scope own) (hL : ∀ i ∈ L, i ∈ own.map (·.2))
    (hg : ∀ (s : Shared) (H : Hp) (C : Addr) (cl : List (Str × Addr)) (fp : List Addr), PG (X.blk s H scope (compEnvC scope cl C X.env) fp) tg (tG X.K L g)) (ht : ∀ (s : Shared) (H : Hp) (C : Addr) (cl : List (Str × Addr)) (fp : List Addr), PTs (X.blk s H scope (compEnvC scope cl C X.env) fp) ifs (tT X.K W0 tt))
    (he : ∀ (s : Shared) (H : Hp) (C : Addr) (cl : List (Str × Addr)) (fp : List Addr), PE (X.blk s H scope (compEnvC scope cl C X.env) fp) elt (tE X.K W0 we)) (hs : ∀ x, foldedSetIterable iter X.env x = pure x := by intro _; rfl) :
    PE X (.ListComp elt [⟨tg, iter, ifs, 0⟩] scope pos) (tE X.K W (wLc iw g tt we (own.map (·.2)))) :=
  PE.imp (pe_lc hc hN hi ok hg ht he hs) fun σ H Q h => lc_of hL h
/-- name = [..] on one line -/
theorem s_setLc {i : Nat} {y : Str} {py spos : Pos} (hc : X.calm = true) (hN : X.N.Nodup) (hy : X.N[i]? = some y) (hyl : X.env.scope.names.lookup y = some .local)
    (hsw : swapsWith (.ListComp elt [⟨tg, iter, ifs, 0⟩] scope pos) (some (.Name y py)) spos.line X.env = pure true) (hi : PI X tg iter (tI X.K W iw)) (ok : BlkOk X.N X.env.scope scope own) (hL : ∀ i ∈ L, i ∈ own.map (·.2))
    (hg : ∀ (s : Shared) (H : Hp) (C : Addr) (cl : List (Str × Addr)) (fp : List Addr), PG (X.blk s H scope (compEnvC scope cl C X.env) fp) tg (tG X.K L g)) (ht : ∀ (s : Shared) (H : Hp) (C : Addr) (cl : List (Str × Addr)) (fp : List Addr), PTs (X.blk s H scope (compEnvC scope cl C X.env) fp) ifs (tT X.K W0 tt))
    (he : ∀ (s : Shared) (H : Hp) (C : Addr) (cl : List (Str × Addr)) (fp : List Addr), PE (X.blk s H scope (compEnvC scope cl C X.env) fp) elt (tE X.K W0 we)) (hs : ∀ x, foldedSetIterable iter X.env x = pure x := by intro _; rfl) :
    PS X (.Assign [.Name y py] (.ListComp elt [⟨tg, iter, ifs, 0⟩] scope pos) spos) (tS X.K W (wAsg (wLc iw g tt we (own.map (·.2))) i)) := by
  refine PS.imp (ps_setLc hc hN hy hyl hsw hi ok hg ht he hs) fun D σ H ⟨H0, F0, A0, s, T, kx, k, w, xl, h, q1, q2, q3, q4⟩ => ?_
  refine lc_of hL ⟨H0, F0, A0, s, T, kx, _, w, xl, h, fun v s' h' u H' w' => ?_⟩
  obtain ⟨F, A, w'⟩ := w'
  exact q1 _ h' _ H' ⟨F, A, (w'.sub fun t h => List.mem_cons_of_mem _ h).st (w'.tm _ List.mem_cons_self)⟩
end
end PW
namespace PW
open PySem L2 PySem.Spec PyProof.Rows
/-! ### a def by its body -/
def retK (n : Nat) (ret : RV → List OC → Prop) : PV → PSt → Prop := fun v s => match v with
  | .d x => ret (.d x) (cutL n s.o)
  | .own m => n ≤ m ∧ ∃ xs, s.o[m]? = some (.dl xs) ∧ ret (.new xs) (cutL n s.o)
  | _ => False
def bodyE (n : Nat) (ret : RV → List OC → Prop) : PEnds := { nx := fun s => ret (.d .none) (cutL n s.o), rt := retK n ret }
def pst0 (args : List PV) (o : List OC) (N : Nat) : PSt := ⟨args.map some ++ List.replicate (N - args.length) none, o⟩
section
variable {K : PySem.W.Frag} {H0 F0 : Hp} {A0 : List Addr} {s : PSt} {σ : L2.St} {T : List (PV × V)} {H F : Hp} {A : List Addr}
/-- only the lent lists are looked at -/
theorem Wd.lent {x : List (PV × V)} (w : Wd K H0 F0 A0 s σ T H) (hx : ∀ t ∈ x, t ∈ T ∧ t.1.lt A0.length = true) : Wd K H0 F0 A0 ⟨[], cutL A0.length s.o⟩ [] x H := by
  obtain ⟨F, A, w⟩ := w.sub (T' := x) fun t ht => (hx t ht).1
  have w2 := w.trim (m := A0.length) (Nat.le_refl _) fun t ht => (hx t ht).2
  exact ⟨F, _, w2.rel rfl rfl fun i v e => by simp at e⟩
theorem Wd.ret {n : Nat} {ret : RV → List OC → Prop} {v : PV} {u : V} {R : Prop} (w : Wd K H0 F0 A0 s σ ((v, u) :: T) H) (hn : n = A0.length) (h : retK n ret v s) (q : ∀ r o', ret r o' → o'.length = n → ∀ v H', RetOk K H0 F0 A0 r v o' H' → (v = u → H' = H → R)) : R := by
  subst hn
  have hl : (cutL A0.length s.o).length = A0.length := by
    rw [cutL_len]
    have := w.own_lt.1
    omega
  cases v with
  | d x => exact q _ _ h hl u H (w.lent fun t ht => by
      have e : t = (.d x, u) := by simpa using ht
      rw [e]; exact ⟨List.mem_cons_self, rfl⟩) rfl rfl
  | scr ns => exact h.elim
  | tp ns => exact h.elim
  | gl ns => exact h.elim
  | exc ns => exact h.elim
  | xd ns => exact h.elim
  | dk ns => exact h.elim
  | own m =>
    obtain ⟨hm, xs, ho, h⟩ := h
    refine q _ _ h hl u H ?_ rfl rfl
    obtain ⟨F, A, w⟩ := w
    obtain ⟨p, vs, hp, rfl, hv, hd⟩ := own_at w List.mem_cons_self ho
    have ad := w.ad p (List.mem_of_getElem? hp)
    have oc := w.oc m p _ hp ho
    have w2 := (w.sub (T' := []) (fun _ z => nomatch z)).trim (m := A0.length) (Nat.le_refl _) (fun _ z => nomatch z)
    have w3 := w2.rel (s' := ⟨[], cutL A0.length s.o⟩) (σ' := []) rfl rfl fun i v e => by simp at e
    have nin : p ∉ A.take A0.length := fun hA => by
      obtain ⟨j, hj⟩ := List.getElem?_of_mem hA
      rw [List.getElem?_take] at hj
      split at hj
      · rename_i h1
        exact nodup_ne w.nd hj hp (by omega) rfl
      · cases hj
    refine ⟨F, _, (w3.addL (c := .dl xs) nin ad.1 ad.2 oc).push ⟨p, ?_, rfl⟩⟩
    show (A.take A0.length ++ [p])[(cutL A0.length s.o).length]? = some p
    rw [← w3.len, List.getElem?_append_right (Nat.le_refl _), Nat.sub_self]
    rfl
end
section
variable {P : Program} {w : World} {K : PySem.W.Frag} {mg : Str → Option Value} {base : Heap}
theorem fn_len {ps : List Str} {S : FS} (len : ∀ args o r e, S args o r e → args.length = ps.length) (vs : List V) (H : Hp) (Q : VK) (E : XK) (h : spOf K S vs H Q E) : vs.length = ps.length := by
  obtain ⟨H0, F0, A0, args, o, ret, exc, ⟨F, A, w⟩, _, h, _⟩ := h
  have := w.sl
  rw [List.length_map, List.length_map] at this
  rw [← this]
  exact len _ _ _ _ h
/-- the body's reading from the promise -/
theorem fn_core {N : List Str} {S : FS} {wb : SW} (pure : ∀ args o ret exc, S args o ret exc → wb (fun x s => exc x (cutL o.length s.o)) (pst0 args o N.length) (bodyE o.length ret)) (vs : List V) (H : Hp) (Q : VK) (E : XK) (h : spOf K S vs H Q E) :
    tS K (fun cls d _ H => E cls d H) wb { nx := fun _ H' => Q .non H', rt := Q } (L2.start N vs) H := by
  obtain ⟨H0, F0, A0, args, o, ret, exc, wd, ho, h, q1, q2⟩ := h
  refine ⟨H0, F0, A0, pst0 args o N.length, [], _, _, ?_, fun y s' hy σ' H' d w' => ?_, pure args o ret exc h, fun s' hs σ' H' w' => ?_, fun v s' hv u σ' H' w' => ?_, fun _ z => z.elim, fun _ z => z.elim⟩
  · obtain ⟨F, A, wd⟩ := wd
    have e := wd.sl
    rw [List.length_map, List.length_map] at e
    refine ⟨F, A, wd.rel rfl ?_ fun i v hv => ?_⟩
    · show (args.map some ++ List.replicate (N.length - args.length) none).length = (vs.map some ++ List.replicate (N.length - vs.length) none).length
      rw [e]
      simp [e]
    · have hv : (args.map some ++ List.replicate (N.length - args.length) none)[i]? = some (some v) := hv
      show (args.map some)[i]? = some (some v) ∧ ∀ u, (vs.map some)[i]? = some (some u) → (vs.map some ++ List.replicate (N.length - vs.length) none)[i]? = some (some u)
      by_cases hi : i < args.length
      · rw [List.getElem?_append_left (by rw [List.length_map]; exact hi)] at hv
        refine ⟨hv, fun u hu => ?_⟩
        rw [List.getElem?_append_left (by rw [List.length_map, ← e]; exact hi)]
        exact hu
      · rw [List.getElem?_append_right (by rw [List.length_map]; omega)] at hv
        have := List.mem_of_getElem? hv
        have := List.eq_of_mem_replicate this
        cases this
  · have hl : (cutL o.length s'.o).length = o.length := by
      rw [cutL_len, ← ho]
      have := w'.own_lt.1
      omega
    refine q2 y _ hy hl d H' ?_
    have := w'.lent (x := [(.xd y.fs, dV d)]) (fun t ht => by
      have e : t = (.xd y.fs, dV d) := by simpa using ht
      rw [e]; exact ⟨List.mem_cons_self, rfl⟩)
    rw [ho] at this
    exact this
  · have hl : (cutL o.length s'.o).length = o.length := by
      rw [cutL_len, ← ho]
      have := w'.own_lt.1
      omega
    refine q1 _ _ hs hl .non H' ?_
    obtain ⟨F, A, w'⟩ := w'
    have w2 : Wd K H0 F0 A0 s' σ' [(.d .none, .non)] H' := ⟨F, A, w'.push (v := .d .none) (u := .non) .non⟩
    have := w2.lent (x := [(.d .none, .non)]) (fun t ht => by
      have e : t = (.d .none, .non) := by simpa using ht
      rw [e]; exact ⟨List.mem_cons_self, rfl⟩)
    rw [ho] at this
    exact this
  · refine w'.ret ho.symm hv fun r o' hr hl v H'' hret e1 e2 => ?_
    subst e1
    subst e2
    exact q1 r o' hr hl v H'' hret
theorem fn_ok {x qual : Str} {st : Stmt} {f : Addr} {fd : FuncData} {N ps : List Str} {k : Nat} {S : FS} {wb : SW} (F : Fun K x qual st f fd) (Sc : FnScope N ps (defScope st)) (len : ∀ args o r e, S args o r e → args.length = ps.length)
    (body : ∀ (cdv : Value) (A : Around) (outer : List Env) (s : Shared) (H : Hp) (E : XK), Room k (A.deeper (envOfC qual (defScope st) s.heap.objs.size f cdv)) →
      PSs (cxOf (L2N.CX P w) P w K mg base N qual (defScope st) f cdv A outer s H E) (defBody st) (tS K (fun cls d _ H => E cls d H) wb))
    (pure : ∀ args o ret exc, S args o ret exc → wb (fun x s => exc x (cutL o.length s.o)) (pst0 args o N.length) (bodyE o.length ret)) : FnOk P w K mg base (L2N.CX P w) (k + 1) f fd ps (spOf K S) := by
  obtain ⟨oc, od, kV, doc, pm, an, cdv, ct, osl, rfl, lk, hcd⟩ := F.ex
  exact fn_of lk hcd Sc (fn_len len) fun A outer s H vs Q E hr h => ⟨_, body cdv A outer s H E hr, fn_core pure vs H Q E h⟩
/-- a def that may be called -/
structure Cal (P : Program) (w : World) (K : PySem.W.Frag) (mg : Str → Option Value) (base : Heap) (k : Nat) (x : Str) (ps : List Str) (S : FS) : Prop where
  ex : ∃ f fd, FnOk P w K mg base (L2N.CX P w) k f fd ps (spOf K S) ∧ mg x = some (.ref f) ∧ PySem.W.keepIn K (.ref f) = true ∧ Binds K fd ps []
/-- a def of the text, as the top leaves it -/
structure Dfd (K : PySem.W.Frag) (mg : Str → Option Value) (x : Str) (ps : List Str) (st : Stmt) : Prop where
  ex : ∃ f fd, Fun K x x st f fd ∧ mg x = some (.ref f) ∧ Binds K fd ps []
theorem Dfd.cal {x : Str} {ps N : List Str} {st : Stmt} {k : Nat} {S : FS} {wb : SW} (D : Dfd K mg x ps st) (Sc : FnScope N ps (defScope st)) (len : ∀ args o r e, S args o r e → args.length = ps.length)
    (body : ∀ (f : Addr) (cdv : Value) (A : Around) (outer : List Env) (s : Shared) (H : Hp) (E : XK), Room k (A.deeper (envOfC x (defScope st) s.heap.objs.size f cdv)) →
      PSs (cxOf (L2N.CX P w) P w K mg base N x (defScope st) f cdv A outer s H E) (defBody st) (tS K (fun cls d _ H => E cls d H) wb))
    (pure : ∀ args o ret exc, S args o ret exc → wb (fun x s => exc x (cutL o.length s.o)) (pst0 args o N.length) (bodyE o.length ret)) : Cal P w K mg base (k + 1) x ps S := by
  obtain ⟨f, fd, F, m, b⟩ := D.ex
  exact ⟨f, fd, fn_ok F Sc len (body f) pure, m, F.kp, b⟩
theorem Cal.mono {k j : Nat} {x : Str} {ps : List Str} {S : FS} (C : Cal P w K mg base j x ps S) (h : j ≤ k) : Cal P w K mg base k x ps S := by
  obtain ⟨f, fd, F, m, kp, b⟩ := C.ex
  exact ⟨f, fd, F.mono h, m, kp, b⟩
/-- a weaker promise -/
theorem Cal.imp {k : Nat} {x : Str} {ps : List Str} {S S' : FS} (C : Cal P w K mg base k x ps S) (h : ∀ args o r e, S' args o r e → S args o r e) : Cal P w K mg base k x ps S' := by
  obtain ⟨f, fd, F, m, kp, b⟩ := C.ex
  exact ⟨f, fd, F.imp fun vs H Q E ⟨H0, F0, A0, args, o, ret, exc, wd, ho, hS, q⟩ => ⟨H0, F0, A0, args, o, ret, exc, wd, ho, h _ _ _ _ hS, q⟩, m, kp, b⟩
theorem dfd_mk {x : Str} {ps : List Str} {st : Stmt} {f : Addr} {h : Heap} {oc : Value} {od an : Option Addr} {osl : Array (Option Value)} {kV doc pm cdv ct : Value} (X : K.In h) (G : h.Ns mainGlobals mg)
    (a : PySem.W.nsIn K mainGlobals x = some (some (.ref f))) (l : K.lookup f = some ⟨oc, od, .func (PySem.W.fnOf x x (defArgs st) (defBody st) (defScope st) .none kV doc pm an cdv ct), osl⟩) (c : PySem.W.codeIn K cdv x = true) (k : PySem.W.keepIn K (.ref f) = true)
    (hb : ∀ (kV doc pm : Value) (an : Option Addr) (cdv ct : Value) (us : List Value), us.length = ps.length → bindArgs (PySem.W.fnOf x x (defArgs st) (defBody st) (defScope st) .none kV doc pm an cdv ct) ⟨us, []⟩ = pure (ps.zip us)) : Dfd K mg x ps st := by
  have F := fun_mk (st := st) l c k
  exact ⟨f, _, F, PySem.W.mg_of X G a, F.binds hb⟩
end
section
variable {X : Cx} {W : WX} {k j : Nat} {ps : List Str} {S : FS} {x : Str} {p pos : Pos} {e : Expr} {es : List Expr} {ws : AW}
theorem c_call (C : Cal X.prog X.w X.K X.mg X.base k x ps S) (tk : L2N.Takes X W) (hr : Room j X.A) (ha : PA X (e :: es) (tA X.K W ws)) (hk : k ≤ j := by decide) (hg : Gl X x := by rfl)
    (hdb : (x == ("__debug__" : Str)) = false := by decide) (he : starEach (e :: es) X.env = (false, eval e X.env) :: starEach es X.env := by rfl) (hpl : (backTo pos (starEach es X.env)).any (·.1) = false := by rfl) :
    PE X (.Call (.Name x p) (e :: es) [] pos) (tE X.K W (wCall S ws)) := by
  obtain ⟨f, fd, F, m, kp, b⟩ := C.ex
  exact e_call F tk (hr.mono hk) hg m kp b ha hdb he hpl
theorem c_callL (C : Cal X.prog X.w X.K X.mg X.base k x ps S) (tk : L2N.Takes X W) (hr : Room j X.A) (ha : PA X (e :: es) (tA X.K W ws)) (hk : k ≤ j := by decide) (hg : Gl X x := by rfl)
    (hdb : (x == ("__debug__" : Str)) = false := by decide) (he : starEach (e :: es) X.env = (false, eval e X.env) :: starEach es X.env := by rfl) (hpl : (backTo pos (starEach es X.env)).any (·.1) = false := by rfl) :
    PE X (.Call (.Name x p) (e :: es) [] pos) (tE X.K W (wCallL S ws)) := by
  obtain ⟨f, fd, F, m, kp, b⟩ := C.ex
  exact e_callL F tk (hr.mono hk) hg m kp b ha hdb he hpl
theorem c_call0 (C : Cal X.prog X.w X.K X.mg X.base k x [] S) (hr : Room j X.A) (hk : k ≤ j := by decide) (hg : Gl X x := by rfl) (hdb : (x == ("__debug__" : Str)) = false := by decide) : PE X (.Call (.Name x p) [] [] pos) (tE X.K W (wCall0 S)) := by
  obtain ⟨f, fd, F, m, kp, b⟩ := C.ex
  exact e_call0 F (hr.mono hk) hg m kp b hdb
end
/-! ### the law -/
def lawS : FS := fun args o ret _ => ∃ ns, args = [.scr ns] ∧ o = [] ∧ ns.length ≤ 63 ∧ ret (.d (.bool true)) []
theorem law_of {l : PySem.W.OpenLaw} {k : Nat} {q : Program} {loose : List Str} {XP : (Str → Option Value) → Heap → Prop} {YP : World → Heap → Prop} {d : DefRec} {K : Params → PySem.W.Frag} {x : Str}
    (hn : l.most = some 63) (hdf : d.params.defaults = []) (hr : Room k callerA) (hY : ∀ (w : World) (h : Heap), YP w h → (K w.params).In h)
    (F : ∀ (w : World) (mg : Str → Option Value) (fa : Addr) (h : Heap), (K w.params).In h → h.Ns mainGlobals mg → mg d.name = some (.ref fa) →
      ∃ fd : FuncData, (∀ (s : Shared) (u : Value), BindsTo s fd ⟨[u], []⟩ [(x, u)]) ∧
        ∀ base : Heap, (K w.params).In base → base.Ns mainGlobals mg → FnOk l.prog w (K w.params) mg base (L2N.CX l.prog w) k fa fd [x] (spOf (K w.params) lawS)) :
    PySem.W.WalkO q loose XP YP l.row.toRowW d [] (fun f vs => PySem.call f vs) := by
  refine L2.walk_of (n := 63) (CX := fun w => L2N.CX l.prog w) (sp := fun w => spOf (K w.params) lawS) hn (by decide) hdf hr hY F (fun w H a ns hl _ hS => ?_) (fun w H s e s' z => ?_)
  · refine ⟨H, H, [], [.scr ns], [], fun r _ => r = .d (.bool true), fun _ _ => False, ⟨H, [], ?_⟩, rfl, ⟨ns, rfl, rfl, hl, rfl⟩, fun r o' hr ho v H' hret => ?_, fun _ _ z => z.elim⟩
    · refine ⟨⟨Same.refl _, Same.refl _, Same.refl _, fun _ _ h => h⟩, List.prefix_refl _, rfl, List.nodup_nil, (fun _ z => nomatch z), (fun n p c z => by simp at z), rfl, fun i v hv => ?_, (fun _ z => nomatch z)⟩
      cases i with
      | zero => cases hv; exact ⟨.ref a, rfl, a, rfl, hS⟩
      | succ i => simp at hv
    · subst hr
      obtain ⟨F', A', w'⟩ := hret
      have dz : Dq (K w.params) F' v (.bool true) := w'.tm (.d (.bool true), v) List.mem_cons_self
      exact dp_bl (dq_dp dz)
  · obtain ⟨_, _, _, _, _, _, _, _, _, _, _, _, z⟩ := z
    exact z.elim
end PW
namespace PW
open PySem L2 PySem.Spec PyProof.Rows
theorem hu64 {k : Nat} {A : Around} (hr : Room k A) : A.units + 64 < cLine := by have := hr.un; omega
theorem hu65 {k : Nat} {A : Around} (hr : Room k A) : A.units + 65 < cLine := by have := hr.un; omega
def wNeg (wa : EW) : EW := fun kx s k => wa kx s fun x s1 => ∃ i, x = .d (.int i) ∧ k (.d (.int (-i))) s1
/-- a constant of the module that is a tuple -/
structure GTup (K : PySem.W.Frag) (mg : Str → Option Value) (x : Str) (ds : List PyData) : Prop where
  ex : ∃ p, mg x = some (.ref p) ∧ ∀ H, Dq K H (.ref p) (.tuple ds)
/-- what a written Value is as data -/
def vD : Value → Option PyData
  | .none => some .none
  | .bool b => some (.bool b)
  | .int i _ => some (.int i)
  | .str x _ => some (.str x)
  | _ => none
def vDs : List Value → Option (List PyData)
  | [] => some []
  | v :: r => match vD v, vDs r with
    | some d, some ds => some (d :: ds)
    | _, _ => none
theorem vDs_ok {K : PySem.W.Frag} {H : Hp} : ∀ (vs : List Value) (ds : List PyData), vDs vs = some ds → ∃ us, Vals us vs ∧ DqAll K H us ds
  | [], ds, e => by cases e; exact ⟨[], .nil, .nil⟩
  | v :: r, ds, e => by
    cases hv : vD v with
    | none => simp [vDs, hv] at e
    | some d =>
      cases hr : vDs r with
      | none => simp [vDs, hv, hr] at e
      | some es =>
        simp only [vDs, hv, hr, Option.some.injEq] at e
        subst e
        obtain ⟨us, h1, h2⟩ := vDs_ok (K := K) (H := H) r es hr
        cases v with
        | none => cases hv; exact ⟨.non :: us, .cons rfl h1, .cons .non h2⟩
        | bool b => cases hv; exact ⟨.bl b :: us, .cons rfl h1, .cons (.bl b) h2⟩
        | int i t => cases hv; exact ⟨.int i :: us, .cons ⟨t, rfl⟩ h1, .cons (.int i) h2⟩
        | str x t => cases hv; exact ⟨.str x :: us, .cons ⟨t, rfl⟩ h1, .cons (.str x) h2⟩
        | _ => cases hv
theorem gtup_mk {K : PySem.W.Frag} {mg : Str → Option Value} {x : Str} {ds : List PyData} {p : Addr} {dd : Option Addr} {its : Array Value} {n : Nat} {sl : Array (Option Value)} {h : Heap} (X : K.In h) (G : h.Ns mainGlobals mg)
    (a : PySem.W.nsIn K mainGlobals x = some (some (.ref p))) (l : K.lookup p = some ⟨.type "tuple", dd, .seq its n, sl⟩) (hv : vDs its.toList = some ds) (hz : its.size ≤ sizeLine) : GTup K mg x ds := by
  refine ⟨p, PySem.W.mg_of X G a, fun H => ?_⟩
  obtain ⟨us, h1, h2⟩ := vDs_ok (K := K) (H := H) _ _ hv
  exact .tup (.inr ⟨_, its, n, l, rfl, rfl, hz, h1⟩) h2
/-- an error class of the text without an __init__ of its own -/
structure Exc1 (K : PySem.W.Frag) (mg : Str → Option Value) (x : Str) (C : Addr) : Prop where
  g : mg x = some (.ref C)
  q : PySem.W.excIn K C [.type "ValueError", .type "Exception", .type "BaseException", .type "object"] "ValueError.__new__" = true
  k : PySem.W.keepIn K (.ref C) = true
  b : PySem.W.subIn K (.ref C) (.type "BaseException") = some true
  t : PySem.W.typeIn K (.ref C) = some (.type "type")
theorem Exc1.mk1 {X : Cx} {x : Str} {C : Addr} {m : Str} {j : Nat} {p p2 pos : Pos} (E : Exc1 X.K X.mg x C) (hg : Gl X x := by rfl) (hdb : (x == ("__debug__" : Str)) = false := by decide) : L2N.PMk X (.Call (.Name x p) [.Constant (.str m) j p2] [] pos) (fun _ H Q => Q (.ref C) none H) :=
  L2N.pmk_own PySem.F.excBase_ValueError E.q E.g E.k (raises_own E.b E.t) hg hdb
section
variable {X : Cx} {W : WX} {a b c e : Expr} {wa wb wc we : EW} {pos p : Pos}
theorem e_neg (ha : PE X a (tE X.K W wa)) : PE X (.UnaryOp .USub a pos) (tE X.K W (wNeg wa)) := by
  refine PE.imp (pe_un un_neg ha) fun σ H Q ⟨H0, F0, A0, s, T, kx, k, w, xl, h, q⟩ => un_of w xl h fun x s1 u H1 h1 w1 => ?_
  obtain ⟨i, rfl, hk⟩ := h1
  obtain ⟨F, A, w1⟩ := w1
  exact ⟨i, dp_int (dq_dp (w1.tm _ List.mem_cons_self)), q _ _ hk _ H1 ⟨F, A, (w1.sub fun t h => List.mem_cons_of_mem _ h).push (.int _)⟩⟩
theorem e_gtup {x : Str} {ds : List PyData} (hg : Gl X x) (G : GTup X.K X.mg x ds) (hd : (x == ("__debug__" : Str)) = false := by decide) : PE X (.Name x pos) (tE X.K W (wC (.tuple ds))) := by
  obtain ⟨p, hm, hq⟩ := G.ex
  refine PE.imp (pe_glob (v := .ref p) hg hm rfl hd) fun σ H Q ⟨H0, F0, A0, s, T, kx, k, w, xl, h, q⟩ => ?_
  obtain ⟨F, A, w⟩ := w
  exact q _ s h _ H ⟨F, A, w.push (hq _)⟩
/-- t + u of tuples -/
def wCatT (wa wb : EW) : EW := fun kx s k => wa kx s fun x s1 => wb kx s1 fun y s2 => ∃ xs ys, x = .d (.tuple xs) ∧ y = .d (.tuple ys) ∧ xs.length + ys.length ≤ sizeLine ∧ k (.d (.tuple (xs ++ ys))) s2
theorem e_catT (ha : PE X a (tE X.K W wa)) (hb : PE X b (tE X.K W wb)) : PE X (.BinOp a .Add b pos) (tE X.K W (wCatT wa wb)) := by
  refine PE.imp (pe_op op_catA ha hb) fun σ H Q ⟨H0, F0, A0, s, T, kx, k, w, xl, h, q⟩ => tOp_of w xl h fun x y s2 u v H2 hR w2 => ?_
  obtain ⟨xs, ys, rfl, rfl, hz, hk⟩ := hR
  obtain ⟨F, A, w2⟩ := w2
  have d1 : Dq X.K F u (.tuple xs) := w2.tm (.d (.tuple xs), u) (List.mem_cons_of_mem _ List.mem_cons_self)
  have d2 : Dq X.K F v (.tuple ys) := w2.tm (.d (.tuple ys), v) List.mem_cons_self
  have w3 := w2.sub (T' := T) fun t h => List.mem_cons_of_mem _ (List.mem_cons_of_mem _ h)
  cases d1 with
  | @tup p vs _ h1 h2 =>
    cases d2 with
    | @tup p' vs' _ h1' h2' =>
      have hl := h2.len
      have hl' := h2'.len
      refine ⟨p, p', vs, vs', rfl, rfl, same_t w2.fz.g h1, same_t w2.fz.g h1', by omega, fun e => ?_, fun e e' => ?_, fun e e' n hn => ?_⟩
      · subst e
        cases h2
        exact q _ _ hk _ _ ⟨F, A, w3.push (.tup h1' h2')⟩
      · subst e'
        cases h2'
        rw [List.append_nil] at hk
        exact q _ _ hk _ _ ⟨F, A, w3.push (.tup h1 h2)⟩
      · have sn := same_new (o := .tup (vs ++ vs')) (w2.fz.g.free hn)
        exact q _ _ hk _ _ ⟨_, A, (w3.newD (o := .tup (vs ++ vs')) hn).push (.tup (SqT.of upd_same) (dqAll_same sn (h2.app h2')))⟩
/-- list * int -/
def wRep (wa wb : EW) : EW := fun kx s k => wa kx s fun x s1 => wb kx s1 fun y s2 => ∃ xs i, datq s2 x = some (.list xs) ∧ y = .d (.int i) ∧ -(2 ^ 63) ≤ i ∧ i < 2 ^ 63 ∧ xs.length * i.toNat ≤ sizeLine ∧ k (.own s2.o.length) ⟨s2.r, s2.o ++ [.dl (List.replicate i.toNat xs).flatten]⟩
theorem DqAll.rep {K : PySem.W.Frag} {H : Hp} {vs : List V} {ds : List PyData} (h : DqAll K H vs ds) : ∀ n : Nat, DqAll K H (List.replicate n vs).flatten (List.replicate n ds).flatten
  | 0 => .nil
  | n + 1 => by
    rw [List.replicate_succ, List.replicate_succ, List.flatten_cons, List.flatten_cons]
    exact h.app (DqAll.rep h n)
theorem e_rep (ha : PE X a (tE X.K W wa)) (hb : PE X b (tE X.K W wb)) : PE X (.BinOp a .Mult b pos) (tE X.K W (wRep wa wb)) := by
  refine PE.imp (pe_op op_rep ha hb) fun σ H Q ⟨H0, F0, A0, s, T, kx, k, w, xl, h, q⟩ => tOp_of w xl h fun x y s2 u v H2 hR w2 => ?_
  obtain ⟨xs, i, hx, rfl, h1, h2, hz, hk⟩ := hR
  obtain ⟨F, A, w2⟩ := w2
  cases dp_int (dq_dp (w2.tm _ List.mem_cons_self))
  obtain ⟨p, vs, e1, h3, h4⟩ := itemsq_ok w2 (w2.tm _ (List.mem_cons_of_mem _ List.mem_cons_self)) hx
  have w3 := w2.sub (T' := T) fun t h => List.mem_cons_of_mem _ (List.mem_cons_of_mem _ h)
  exact ⟨p, i, vs, e1, rfl, h3, h1, h2, by rw [h4.len]; exact hz, fun n hn => q _ _ hk _ _ ⟨F, _, (w3.newL hn (h4.rep _)).push (top_at w3 n F)⟩⟩
/-- a < b < c of ints -/
def wChain (R R' : PyData → PyData → (PyData → Prop) → Prop) (wa wb wc : EW) : EW := fun kx s k => wa kx s fun x s1 => wb kx s1 fun y s2 => ∃ a b, dat s2 x = some a ∧ y = .d b ∧ R a b fun z => ∃ r, z = .bool r ∧
  (r = true → wc kx s2 fun v s3 => ∃ c, dat s3 v = some c ∧ R' b c fun z => k (.d z) s3) ∧ (r = false → k (.d (.bool false)) s2)
theorem chain_of {r r' : R2} {R R' : PyData → PyData → (PyData → Prop) → Prop} {σ : L2.St} {H : Hp} {Q : VK} (ho : ROk X.K r R) (ho' : ROk X.K r' R') (h : tE X.K W (wChain R R' wa wb wc) σ H Q) : tChain r r' (tE X.K W wa) (tE X.K W wb) (tE X.K W wc) σ H Q := by
  obtain ⟨H0, F0, A0, s, T, kx, k, w, xl, h, q⟩ := h
  refine ⟨H0, F0, A0, s, T, kx, _, w, xl, h, fun x s1 h1 u H1 w1 => ⟨H0, F0, A0, s1, (x, u) :: T, kx, _, w1, xl.push, h1, fun y s2 h2 v H2 w2 => ?_⟩⟩
  obtain ⟨a, b, da, rfl, hR⟩ := h2
  obtain ⟨F, A, w3⟩ := id w2
  have db : Dq X.K F v b := w3.tm (.d b, v) List.mem_cons_self
  refine ho u v a b H2 _ _ (dat_ok w3 (w3.tm _ (List.mem_cons_of_mem _ List.mem_cons_self)) da) (dq_dp (dq_same w3.fz.g db)) hR fun z t hz ht => ?_
  obtain ⟨rr, rfl, h1, h2⟩ := hz
  cases ht
  refine ⟨rr, rfl, ?_⟩
  cases rr with
  | false => exact iteF (q _ _ (h2 rfl) _ H2 ⟨F, A, (w3.sub fun t h => List.mem_cons_of_mem _ (List.mem_cons_of_mem _ h)).push (.bl _)⟩)
  | true =>
    refine iteT ⟨H0, F0, A0, s2, _, kx, _, w2, xl.push.push, h1 rfl, fun c s3 h3 uc H3 w4 => ?_⟩
    obtain ⟨cc, dc, h3⟩ := h3
    obtain ⟨F4, A4, w4⟩ := w4
    have db' : Dq X.K F4 v b := w4.tm (.d b, v) (List.mem_cons_of_mem _ List.mem_cons_self)
    refine ho' v uc b cc H3 Q _ (dq_dp (dq_same w4.fz.g db')) (dat_ok w4 (w4.tm _ List.mem_cons_self) dc) h3 fun z t hz ht => ?_
    exact q _ _ hz t H3 ⟨F4, A4, (w4.sub fun t h => List.mem_cons_of_mem _ (List.mem_cons_of_mem _ (List.mem_cons_of_mem _ h))).push (toV_dp ht)⟩
theorem e_chain {op op' : CmpOp} {g g' : Int → Int → Bool} (h1 : OpR X (compareOp op) (rI0 fun i j => .bl (g i j))) (h2 : OpR X (compareOp op') (rI0 fun i j => .bl (g' i j))) (ha : PE X a (tE X.K W wa)) (hb : PE X b (tE X.K W wb)) (hc : PE X c (tE X.K W wc))
    (hm : lastMarks [op, op'] [b, c] = false := by with_unfolding_all rfl) : PE X (.Compare a [op, op'] [b, c] pos) (tE X.K W (wChain (rCmpD g) (rCmpD g') wa wb wc)) :=
  PE.imp (pe_chain h1 h2 ha hb hc hm) fun σ H Q h => chain_of ok_cmpD ok_cmpD h
theorem t_chain {op op' : CmpOp} {g g' : Int → Int → Bool} (h1 : OpR X (compareOp op) (rI0 fun i j => .bl (g i j))) (h2 : OpR X (compareOp op') (rI0 fun i j => .bl (g' i j))) (ha : PE X a (tE X.K W wa)) (hb : PE X b (tE X.K W wb)) (hc : PE X c (tE X.K W wc))
    (hm : lastMarks [op, op'] [b, c] = false := by with_unfolding_all rfl) : PT X (.Compare a [op, op'] [b, c] pos) (tT X.K W (wB (wChain (rCmpD g) (rCmpD g') wa wb wc))) := by
  refine PT.imp (pt_chain h1 h2 ha hb hc hm) fun σ H Q ⟨H0, F0, A0, s, T, kx, k, w, xl, h, q⟩ => ?_
  refine chain_of ok_cmpD ok_cmpD ⟨H0, F0, A0, s, T, kx, _, w, xl, h, fun v s1 h1 u H1 w1 => ?_⟩
  obtain ⟨c, rfl, hk⟩ := h1
  obtain ⟨F, A, w1⟩ := w1
  exact ⟨c, dp_bl (dq_dp (w1.tm _ List.mem_cons_self)), q c s1 hk H1 ⟨F, A, w1.sub fun t h => List.mem_cons_of_mem _ h⟩⟩
/-- is True, is not True, of a bool -/
def wIsT (wa : EW) : EW := fun kx s k => wa kx s fun x s1 => ∃ b, x = .d (.bool b) ∧ k (.d (.bool b)) s1
end
end PW

namespace PW
open PySem L2
/-- a text by its signs -/
def tx (l : List Nat) : Str := ⟨l.toArray⟩
abbrev dT (l : List Nat) : PyData := .str (tx l)
theorem tx_cps (l : List Nat) : (tx l).cps.toList = l := rfl
theorem tx_len (l : List Nat) : (tx l).length = l.length := by show l.toArray.size = l.length; simp
theorem tx_app (a b : List Nat) : tx a ++ tx b = tx (a ++ b) := TL.ext_tl (by rw [TL.tl_append]; rfl)
theorem tx_eq (z : Str) : z = tx z.cps.toList := (TL.mk_tl z).symm
theorem tx_of (s : String) : Str.ofString s = tx (s.toList.map Char.toNat) := TL.ext_tl (TL.tl_ofString s)
theorem tx_inj {a b : List Nat} (h : tx a = tx b) : a = b := by
  have := congrArg (fun z : Str => z.cps.toList) h
  exact this
theorem tx_eq_iff {a b : List Nat} : tx a = tx b ↔ a = b := ⟨tx_inj, fun h => h ▸ rfl⟩
theorem le_sz {n : Nat} (h : n ≤ 16777216) : n ≤ sizeLine := h
theorem lt_sz {n : Nat} (h : n < 16777216) : n < sizeLine := h
theorem tx_sz {l : List Nat} (h : l.length ≤ 16777216) : (tx l).length ≤ sizeLine := by rw [tx_len]; exact h
theorem strLe_tx {l : List Nat} (h : l.length ≤ 16777216) : strLe (dT l) := tx_sz h
theorem atI_nat {α : Type} {xs : List α} {i : Nat} (h : i < xs.length) : atI xs (i : Int) = some xs[i] := by
  unfold atI ixN
  rw [if_pos (by omega), if_pos (by omega)]
  show xs[(i : Int).toNat]? = some xs[i]
  rw [Int.toNat_natCast]
  exact List.getElem?_eq_getElem h
theorem ix_tx {l : List Nat} {i : Nat} (h : i < l.length) : ixD (dT l) (i : Int) = some (dT [l[i]]) := by
  show (atI (tx l).cps.toList (i : Int)).map _ = _
  rw [tx_cps, atI_nat h]
  rfl
theorem ix_hd {c : Nat} {r : List Nat} : ixD (dT (c :: r)) 0 = some (dT [c]) := ix_tx (l := c :: r) (i := 0) (by simp)
theorem ix_hdl {c : PyData} {r : List PyData} : ixD (.list (c :: r)) 0 = some c := (atI_nat (xs := c :: r) (i := 0) (by simp))
theorem ix_list {l : List PyData} {i : Nat} (h : i < l.length) : ixD (.list l) (i : Int) = some l[i] := atI_nat h
theorem ix_tup {l : List PyData} {i : Nat} (h : i < l.length) : ixD (.tuple l) (i : Int) = some l[i] := atI_nat h
theorem cut_tx (l : List Nat) (i j : Nat) : cutS (tx l) (some (i : Int)) (some (j : Int)) = tx ((l.take j).drop i) := by
  unfold cutS
  rw [tx_len, HT.sIx_nat, HT.sIx_nat, tx_cps]
  show tx _ = tx _
  congr 1
  rw [List.drop_take]
  apply List.ext_getElem?
  intro k
  rw [List.getElem?_take, List.getElem?_take, List.getElem?_drop, List.getElem?_drop]
  by_cases h : k < min j l.length - min i l.length
  · rw [if_pos h, if_pos (by omega), Nat.min_eq_left (by omega)]
  · rw [if_neg h]
    by_cases h2 : k < j - i
    · rw [if_pos h2, List.getElem?_eq_none (by omega)]
    · rw [if_neg h2]
theorem cut_tx_to (l : List Nat) (j : Nat) : cutS (tx l) none (some (j : Int)) = tx (l.take j) := by
  unfold cutS
  rw [tx_len, HT.sIx_nat, tx_cps]
  show tx ((l.drop 0).take (min j l.length - 0)) = tx _
  congr 1
  rw [List.drop_zero, Nat.sub_zero]
  by_cases h : j ≤ l.length
  · rw [Nat.min_eq_left h]
  · rw [Nat.min_eq_right (by omega), List.take_of_length_le (Nat.le_refl _), List.take_of_length_le (by omega)]
theorem cut_tx_from (l : List Nat) (i : Nat) : cutS (tx l) (some (i : Int)) none = tx (l.drop i) := by
  unfold cutS
  rw [tx_len, HT.sIx_nat, tx_cps]
  show tx ((l.drop (min i l.length)).take (l.length - min i l.length)) = tx _
  congr 1
  by_cases h : i ≤ l.length
  · rw [Nat.min_eq_left h, List.take_of_length_le (by rw [List.length_drop]; omega)]
  · rw [Nat.min_eq_right (by omega), List.drop_of_length_le (Nat.le_refl _), List.drop_of_length_le (by omega), List.take_nil]
theorem cut_tx_init (l : List Nat) : cutS (tx l) none (some (-1)) = tx l.dropLast := by
  unfold cutS
  rw [tx_len, tx_cps]
  show tx ((l.drop 0).take (((-1 : Int) + (l.length : Int)).toNat - 0)) = tx _
  congr 1
  rw [List.drop_zero, Nat.sub_zero, List.dropLast_eq_take]
  congr 1
  omega
theorem cut_tx_tail {l : List Nat} (h : l ≠ []) : cutS (tx l) (some (-1)) none = tx [l.getLast h] := by
  have hp := List.length_pos_iff.mpr h
  unfold cutS
  rw [tx_len, tx_cps]
  show tx ((l.drop (((-1 : Int) + (l.length : Int)).toNat)).take (l.length - (((-1 : Int) + (l.length : Int)).toNat))) = tx _
  congr 1
  have e : ((-1 : Int) + (l.length : Int)).toNat = l.length - 1 := by omega
  rw [e, List.drop_eq_getElem_cons (by omega), List.drop_of_length_le (by omega), List.getLast_eq_getElem]
  have e2 : l.length - (l.length - 1) = 1 := by omega
  rw [e2]
  rfl
theorem cutD_nat {α : Type} (l : List α) (i j : Nat) : cutD l (some (i : Int)) (some (j : Int)) = (l.take j).drop i := by
  unfold cutD
  rw [HT.sIx_nat, HT.sIx_nat, List.drop_take]
  apply List.ext_getElem?
  intro k
  rw [List.getElem?_take, List.getElem?_take, List.getElem?_drop, List.getElem?_drop]
  by_cases h : k < min j l.length - min i l.length
  · rw [if_pos h, if_pos (by omega), Nat.min_eq_left (by omega)]
  · rw [if_neg h]
    by_cases h2 : k < j - i
    · rw [if_pos h2, List.getElem?_eq_none (by omega)]
    · rw [if_neg h2]
theorem cutD_to {α : Type} (l : List α) (j : Nat) : cutD l none (some (j : Int)) = l.take j := cutD_nat l 0 j
theorem cutD_from {α : Type} (l : List α) (i : Nat) : cutD l (some (i : Int)) none = l.drop i := by
  unfold cutD
  rw [HT.sIx_nat]
  show ((l.drop (min i l.length)).take (l.length - min i l.length)) = _
  by_cases h : i ≤ l.length
  · rw [Nat.min_eq_left h, List.take_of_length_le (by rw [List.length_drop]; omega)]
  · rw [Nat.min_eq_right (by omega), List.drop_of_length_le (Nat.le_refl _), List.drop_of_length_le (by omega), List.take_nil]
theorem cutD_last {α : Type} (l : List α) : cutD l none (some (-1)) = l.dropLast := by
  unfold cutD
  show (l.drop 0).take (((-1 : Int) + (l.length : Int)).toNat - 0) = _
  rw [List.drop_zero, Nat.sub_zero, List.dropLast_eq_take]
  congr 1
  omega
theorem ix_last {l : List PyData} (h : l ≠ []) : ixD (.list l) (-1) = some (l.getLast h) := by
  have hp := List.length_pos_iff.mpr h
  show atI l (-1) = _
  unfold atI ixN
  rw [if_neg (by omega), if_pos (by omega)]
  show l[((-1 : Int) + (l.length : Int)).toNat]? = _
  have e : ((-1 : Int) + (l.length : Int)).toNat = l.length - 1 := by omega
  rw [e, List.getElem?_eq_getElem (by omega), List.getLast_eq_getElem]
theorem chars_len (l : List Nat) : (charsD (tx l)).length = l.length := by unfold charsD; rw [tx_cps, List.length_map]
theorem chars_tx (l : List Nat) : charsD (tx l) = l.map fun c => dT [c] := rfl
theorem ints_len (lo : Int) (n : Nat) : (intsD lo n).length = n := by unfold intsD; rw [List.length_map, List.length_range]
theorem ints_get {lo : Int} {n j : Nat} {x : PyData} (h : (intsD lo n)[j]? = some x) : j < n ∧ x = .int (lo + (j : Nat)) := by
  unfold intsD at h
  rw [List.getElem?_map] at h
  have hj : j < n := by
    rcases Nat.lt_or_ge j n with h1 | h1
    · exact h1
    · rw [List.getElem?_eq_none (by rw [List.length_range]; exact h1)] at h; cases h
  rw [List.getElem?_eq_getElem (by rw [List.length_range]; exact hj), List.getElem_range] at h
  cases h
  exact ⟨hj, rfl⟩
theorem map_get {α β : Type} {f : α → β} {l : List α} {j : Nat} {x : β} (h : (l.map f)[j]? = some x) : ∃ (hj : j < l.length), x = f l[j] := by
  rw [List.getElem?_map] at h
  rcases Nat.lt_or_ge j l.length with h1 | h1
  · rw [List.getElem?_eq_getElem h1] at h
    cases h
    exact ⟨h1, rfl⟩
  · rw [List.getElem?_eq_none h1] at h; cases h
theorem br_t {c : Bool} {A B : Prop} (h : c = true) (a : A) : (c = true → A) ∧ (c = false → B) := ⟨fun _ => a, fun z => by rw [h] at z; cases z⟩
theorem br_f {c : Bool} {A B : Prop} (h : c = false) (b : B) : (c = true → A) ∧ (c = false → B) := ⟨(fun z => by rw [h] at z; cases z), fun _ => b⟩
theorem br_s {c : Bool} {A B : Prop} (p : Bool) (e : c = p) (a : p = true → A) (b : p = false → B) : (c = true → A) ∧ (c = false → B) := ⟨fun z => a (e ▸ z), fun z => b (e ▸ z)⟩
theorem br_d {c : Bool} {A B : Prop} (P : Prop) (e : c = true ↔ P) (a : P → A) (b : ¬ P → B) : (c = true → A) ∧ (c = false → B) := ⟨fun z => a (e.mp z), fun z => b fun p => by rw [e.mpr p] at z; cases z⟩
theorem cmul_r {i : Int} {n : Nat} (h : Nat.ble n 18446744073709551615 = true) : CMul i (OfNat.ofNat n) := by
  have h := Nat.le_of_ble_eq_true h
  have e : (OfNat.ofNat n : Int) = (n : Int) := rfl
  exact .inr ⟨by rw [e]; omega, by rw [e]; omega⟩
theorem cmul_l {j : Int} {n : Nat} (h : Nat.ble n 18446744073709551615 = true) : CMul (OfNat.ofNat n) j := by
  have h := Nat.le_of_ble_eq_true h
  have e : (OfNat.ofNat n : Int) = (n : Int) := rfl
  exact .inl ⟨by rw [e]; omega, by rw [e]; omega⟩
theorem cmul_o {i j : Int} (h : (-18446744073709551616 < i ∧ i < 18446744073709551616) ∨ (-18446744073709551616 < j ∧ j < 18446744073709551616)) : CMul i j := by
  rcases h with h | h
  · exact .inl ⟨by omega, by omega⟩
  · exact .inr ⟨by omega, by omega⟩
theorem cdiv_ok {i : Int} {n : Nat} (h : (Nat.ble 1 n && Nat.ble n 1073741823) = true) : CDiv i (OfNat.ofNat n) := by
  rw [Bool.and_eq_true] at h
  have h1 := Nat.le_of_ble_eq_true h.1
  have h2 := Nat.le_of_ble_eq_true h.2
  have e : (OfNat.ofNat n : Int) = (n : Int) := rfl
  exact ⟨by rw [e]; omega, by rw [e]; omega⟩
theorem pos_ok {n : Nat} (h : Nat.ble 1 n = true) : (0 : Int) < OfNat.ofNat n := by
  have h1 := Nat.le_of_ble_eq_true h
  have e : (OfNat.ofNat n : Int) = (n : Int) := rfl
  rw [e]; omega
theorem inr_b {P : Prop} {Q : Bool → Prop} {b : Bool} (c : Bool) (e : b = c) (h : Q c) : P ∨ ∃ b', PV.d (.bool b) = PV.d (.bool b') ∧ Q b' := .inr ⟨b, rfl, e ▸ h⟩
theorem ix_words {L : List (List Nat)} {v : Int} (h0 : 0 ≤ v) (h1 : v < L.length) : ∃ w, w ∈ L ∧ ixD (.list (L.map dT)) v = some (dT w) := by
  obtain ⟨n, rfl⟩ : ∃ n : Nat, v = n := ⟨v.toNat, by omega⟩
  have hn : n < L.length := by omega
  refine ⟨L[n], List.getElem_mem hn, ?_⟩
  rw [ix_list (by rw [List.length_map]; exact hn), List.getElem_map]
theorem ix_sign {l : List Nat} {v : Int} (h0 : 0 ≤ v) (h1 : v < l.length) : ∃ c, c ∈ l ∧ ixD (dT l) v = some (dT [c]) := by
  obtain ⟨n, rfl⟩ : ∃ n : Nat, v = n := ⟨v.toNat, by omega⟩
  have hn : n < l.length := by omega
  exact ⟨l[n], List.getElem_mem hn, ix_tx hn⟩
theorem ix_ints {L : List Int} {v : Int} (h0 : 0 ≤ v) (h1 : v < L.length) : ∃ w, w ∈ L ∧ ixD (.list (L.map PyData.int)) v = some (.int w) := by
  obtain ⟨n, rfl⟩ : ∃ n : Nat, v = n := ⟨v.toNat, by omega⟩
  have hn : n < L.length := by omega
  refine ⟨L[n], List.getElem_mem hn, ?_⟩
  rw [ix_list (by rw [List.length_map]; exact hn), List.getElem_map]
theorem sh_list {xs : List PyData} (h : ∀ x ∈ xs, x.canLay0 = true ∧ x.depth ≤ 60) : PyData.canLayAll0 xs = true ∧ PyData.depthAll xs ≤ 60 := by
  induction xs with
  | nil => exact ⟨rfl, Nat.zero_le _⟩
  | cons x r ih =>
    obtain ⟨a, b⟩ := ih fun y m => h y (List.mem_cons_of_mem _ m)
    obtain ⟨c, d⟩ := h x List.mem_cons_self
    refine ⟨?_, ?_⟩
    · rw [PyData.canLayAll0, c, a]; rfl
    · rw [PyData.depthAll]; exact Nat.max_le.mpr ⟨d, b⟩
theorem shaped_list {xs : List PyData} (h : ∀ x ∈ xs, x.canLay0 = true ∧ x.depth ≤ 60) : SeqAt.shaped (.list xs) = true := by
  obtain ⟨a, b⟩ := sh_list h
  unfold SeqAt.shaped
  rw [Bool.and_eq_true, decide_eq_true_eq]
  exact ⟨a, by rw [PyData.depth]; omega⟩
theorem shaped_tup {xs : List PyData} (h : ∀ x ∈ xs, x.canLay0 = true ∧ x.depth ≤ 60) : SeqAt.shaped (.tuple xs) = true := by
  obtain ⟨a, b⟩ := sh_list h
  unfold SeqAt.shaped
  rw [Bool.and_eq_true, decide_eq_true_eq]
  exact ⟨a, by rw [PyData.depth]; omega⟩
theorem eqOk_of {a b : PyData} (h : SeqAt.shaped a = true) (g : SeqAt.shaped b = true) : eqOk a b = true := by
  unfold eqOk
  rw [h, g, Bool.true_and, Bool.or_true]
theorem strsOf_tx : ∀ L : List (List Nat), strsOf (L.map dT) = some (L.map tx)
  | [] => rfl
  | x :: r => by
    show (strsOf (r.map dT)).map (tx x :: ·) = _
    rw [strsOf_tx r]
    rfl
theorem join_tx (c : List Nat) (L : List (List Nat)) : Txt.join (tx c) (L.map tx) = tx (TL.joinL c L) := by
  rw [TL.join_eq]
  refine TL.ext_tl ?_
  rw [TL.tl_join, List.map_map]
  show TL.joinL c (L.map (TL.tl ∘ tx)) = _
  rw [show (TL.tl ∘ tx) = id from rfl, List.map_id]
  rfl
theorem joinL_in {S : List Nat} {P : Nat → Prop} (hS : ∀ c ∈ S, P c) : ∀ {L : List (List Nat)}, (∀ w ∈ L, ∀ c ∈ w, P c) → ∀ c ∈ TL.joinL S L, P c
  | [], _, c, m => nomatch m
  | [p], h, c, m => h p List.mem_cons_self c m
  | p :: q :: r, h, c, m => by
    rcases List.mem_append.mp m with m | m
    · exact h p List.mem_cons_self c m
    · rcases List.mem_append.mp m with m | m
      · exact hS c m
      · exact joinL_in hS (fun w hw => h w (List.mem_cons_of_mem _ hw)) c m
theorem joinL_len {S : List Nat} {k : Nat} : ∀ {L : List (List Nat)}, (∀ w ∈ L, w.length ≤ k) → (TL.joinL S L).length ≤ (k + S.length) * L.length
  | [], _ => Nat.zero_le _
  | [p], h => by
    have := h p List.mem_cons_self
    show p.length ≤ (k + S.length) * 1
    omega
  | p :: q :: r, h => by
    have h1 := h p List.mem_cons_self
    have h2 := joinL_len (S := S) (L := q :: r) (fun w hw => h w (List.mem_cons_of_mem _ hw))
    show (p ++ (S ++ TL.joinL S (q :: r))).length ≤ _
    rw [List.length_append, List.length_append, show (p :: q :: r).length = (q :: r).length + 1 from rfl, Nat.mul_add, Nat.mul_one]
    omega
theorem sum_tx {k : Nat} : ∀ {L : List (List Nat)}, (∀ w ∈ L, w.length ≤ k) → ((L.map tx).map (·.length)).sum ≤ k * L.length
  | [], _ => Nat.zero_le _
  | p :: r, h => by
    have h1 := h p List.mem_cons_self
    have h2 := sum_tx (L := r) (fun w hw => h w (List.mem_cons_of_mem _ hw))
    rw [List.map_cons, List.map_cons, List.sum_cons, List.length_cons, Nat.mul_add, Nat.mul_one, tx_len]
    omega
/-- where a sign is first -/
def idx (c : Nat) : List Nat → Nat
  | [] => 0
  | a :: r => if a = c then 0 else idx c r + 1
theorem idx_le (c : Nat) : ∀ l, idx c l ≤ l.length
  | [] => Nat.le_refl _
  | a :: r => by
    unfold idx
    split
    · exact Nat.zero_le _
    · have := idx_le c r; rw [List.length_cons]; omega
theorem idx_at (c : Nat) : ∀ (l : List Nat) (i : Nat), l[i]? = some c → (∀ k, k < i → l[k]? ≠ some c) → idx c l = i
  | [], i, h, _ => by simp at h
  | a :: r, 0, h, _ => by
    have : a = c := by simpa using h
    unfold idx
    rw [if_pos this]
  | a :: r, i + 1, h, g => by
    have h0 : a ≠ c := fun e => g 0 (by omega) (by simpa using e)
    unfold idx
    rw [if_neg h0, idx_at c r i (by simpa using h) (fun k hk => by have := g (k + 1) (by omega); simpa using this)]
theorem idx_none (c : Nat) : ∀ (l : List Nat), (∀ i : Nat, l[i]? ≠ some c) → idx c l = l.length
  | [], _ => rfl
  | a :: r, g => by
    have h0 : a ≠ c := fun e => g 0 (by simpa using e)
    unfold idx
    rw [if_neg h0, idx_none c r (fun i => by have := g (i + 1); simpa using this), List.length_cons]
theorem idx_lt_get (c : Nat) : ∀ (l : List Nat), idx c l < l.length → l[idx c l]? = some c
  | [], h => by simp at h
  | a :: r, h => by
    unfold idx at h ⊢
    split
    · rename_i e; simp [e]
    · rename_i e
      rw [if_neg e, List.length_cons] at h
      have := idx_lt_get c r (by omega)
      simpa using this
theorem idx_before (c : Nat) : ∀ (l : List Nat) (k : Nat), k < idx c l → l[k]? ≠ some c
  | [], k, h => by simp [idx] at h
  | a :: r, k, h => by
    unfold idx at h
    split at h
    · omega
    · rename_i e
      cases k with
      | zero => simpa using e
      | succ k => 
        have := idx_before c r k (by omega)
        simpa using this
theorem find_tx (l : List Nat) (c : Nat) : Txt.find (tx l) (tx [c]) = if idx c l < l.length then (idx c l : Int) else -1 := by
  have key : ∀ i, StrLaws.At (tx l) (tx [c]) (tx l).length i ↔ l[i]? = some c := fun i => by
    rw [TL.at_iff (x := tx l) (y := tx [c]) (by show [c] ≠ []; simp) i]
    show TL.pre [c] (l.drop i) = true ↔ _
    unfold TL.pre
    show ((l.drop i).take 1 == [c]) = true ↔ _
    rw [beq_iff_eq]
    rcases Nat.lt_or_ge i l.length with h | h
    · rw [List.drop_eq_getElem_cons h, List.getElem?_eq_getElem h]
      show [l[i]] = [c] ↔ _
      simp
    · rw [List.drop_of_length_le h, List.getElem?_eq_none h]; simp
  rcases PyProof.Rows.find_whole (tx l) (tx [c]) with ⟨h, g⟩ | ⟨i, h, a, g⟩
  · rw [h, idx_none c l (fun i e => g i ((key i).mpr e)), if_neg (Nat.lt_irrefl _)]
  · have := idx_at c l i ((key i).mp a) (fun k hk e => g k hk ((key k).mpr e))
    rw [h, this, if_pos]
    have := (key i).mp a
    rcases Nat.lt_or_ge i l.length with h | h
    · exact h
    · rw [List.getElem?_eq_none h] at this; cases this
/-- parts between one sign -/
def spl1 (c : Nat) : List Nat → List Nat → List (List Nat)
  | acc, [] => [acc]
  | acc, a :: r => if a = c then acc :: spl1 c [] r else spl1 c (acc ++ [a]) r
theorem spl1_eq (c : Nat) : ∀ (l acc : List Nat), TL.spl [c] 0 acc l = spl1 c acc l
  | [], acc => TL.spl_nil _ _ _
  | a :: r, acc => by
    unfold spl1
    by_cases h : a = c
    · subst h
      rw [if_pos rfl, TL.spl_hit (by unfold TL.pre; simp)]
      show acc :: TL.spl [a] 0 [] r = _
      rw [spl1_eq a r]
    · rw [if_neg h, TL.spl_miss (TL.pre_of_head _ _ h), spl1_eq c r]
theorem split_tx (l : List Nat) {c : Nat} (hc : c < 256) : (Txt.split (tx l) (tx [c])).map PyData.str = (spl1 c [] l).map dT := by
  have h := TL.split_spl (tx l) (tx [c]) (by show [c] ≠ []; simp) (TL.kind_ok (by show [c].toArray.all (· < 256) = true; simp [hc]))
  have e : (Txt.split (tx l) (tx [c])).map TL.tl = spl1 c [] l := h.trans (spl1_eq c l [])
  have e2 := congrArg (List.map dT) e
  rw [List.map_map] at e2
  rw [← e2]
  apply List.map_congr_left
  intro z _
  show PyData.str z = PyData.str (tx (TL.tl z))
  rw [show tx (TL.tl z) = z from TL.mk_tl z]
theorem spl1_le (c : Nat) : ∀ l acc, (∀ x ∈ spl1 c acc l, x.length ≤ acc.length + l.length) ∧ (spl1 c acc l).length ≤ l.length + 1
  | [], acc => ⟨fun x m => by
      have : x = acc := by simpa [spl1] using m
      rw [this]; exact Nat.le_refl _, by show [acc].length ≤ 1; simp⟩
  | a :: r, acc => by
    unfold spl1
    split
    · have := spl1_le c r []
      refine ⟨fun x m => ?_, ?_⟩
      · rcases List.mem_cons.mp m with rfl | m
        · omega
        · have h := this.1 x m
          rw [List.length_nil] at h
          rw [List.length_cons]; omega
      · rw [List.length_cons, List.length_cons]
        have := this.2
        omega
    · have := spl1_le c r (acc ++ [a])
      refine ⟨fun x m => ?_, ?_⟩
      · have h := this.1 x m
        rw [List.length_append, List.length_cons, List.length_nil] at h
        rw [List.length_cons]; omega
      · rw [List.length_cons]
        have := this.2
        omega
theorem take_map_succ {α β : Type} {f : α → β} {l : List α} {j : Nat} (h : j < l.length) : (l.take (j + 1)).map f = (l.take j).map f ++ [f l[j]] := by
  rw [List.take_add_one, List.getElem?_eq_getElem h, List.map_append]
  rfl
theorem eqv_tx (a b : List Nat) : PyData.eqv (dT a) (dT b) = decide (a = b) := by
  have : PyData.eqv (dT a) (dT b) = (tx a == tx b) := by simp [PyData.eqv]
  rw [this]
  by_cases h : a = b
  · subst h; simp
  · rw [decide_eq_false h]
    simp only [beq_eq_false_iff_ne, ne_eq]
    exact fun z => h (tx_inj z)
theorem spl1_ne (c : Nat) : ∀ l acc, spl1 c acc l ≠ []
  | [], acc => by unfold spl1; simp
  | a :: r, acc => by
    unfold spl1
    split
    · simp
    · exact spl1_ne c r _

/-- data that is equal to itself: no dict -/
theorem eqv_self : ∀ {d : PyData}, d.canLay0 = true → PyData.eqv d d = true
  | d, h => PySem.SeqAt.eqv_refl d h

end PW

namespace PW
open PySem L2 PySem.Spec PyProof.Rows
/-- a fixed text's name for the signs put in place of others -/
def wRepl (y z : Str) (wo : EW) : EW := fun kx s k => wo kx s fun x s1 => ∃ z0, x = .d (.str z0) ∧ z0.length + (z0.length + 1) * z.length ≤ 16777216 ∧ k (.d (.str (Txt.replace z0 y z))) s1
theorem petImp {X : Cx} {e : Expr} {t t' : TE} (h : PET X e t) (i : ∀ σ H Q, t' σ H Q → t σ H Q) : PET X e t' := fun pins s σ H Q h0 I q => h pins s σ H Q h0 I (i σ H Q q)
theorem pstImp {X : Cx} {e : Stmt} {t t' : TS} (h : PST X e t) (i : ∀ D σ H, t' D σ H → t D σ H) : PST X e t' := fun pins s σ H D h0 I q => h pins s σ H D h0 I (i D σ H q)
theorem psstImp {X : Cx} {e : List Stmt} {t t' : TS} (h : PSsT X e t) (i : ∀ D σ H, t' D σ H → t D σ H) : PSsT X e t' := fun pins s σ H D h0 I q => h pins s σ H D h0 I (i D σ H q)
/-- an expression behind which a token is out -/
def PEU (X : Cx) (e : Expr) (t : TE) : Prop :=
  ∀ (pins : List (Addr × Obj)) (s : Shared) (σ : L2.St) (H : Hp) (Q : VK), Inv X pins σ H s → t σ H Q → wpAny (model X.prog X.w) X.A (eval e X.env) (fun v s' => 1 ≤ s'.toks ∧ EP X pins σ Q v s') X.xe s
section
variable {X : Cx} {W : WX} {e o wo_e : Expr} {st : Stmt} {rest : List Stmt} {we wo : EW} {wa wb : SW} {pos p : Pos} {y z c : Str} {j k : Nat} {c0 c1 cp : Pos}
theorem et_repl {apos : Pos} (ho : PE X o (tE X.K W wo)) (hyz : (y == z) = false := by decide)
    (hst : starEach [.Constant (.str y) j c0, .Constant (.str z) k c1] X.env = [(false, eval (.Constant (.str y) j c0) X.env), (false, eval (.Constant (.str z) k c1) X.env)] := by rfl)
    (hbase : attributeBase o "replace" X.env (eval o X.env) = eval o X.env := by rfl) (hline : (apos.endLine == pos.line) = true := by rfl) :
    PET X (.Call (.Attribute o "replace" apos) [.Constant (.str y) j c0, .Constant (.str z) k c1] [] pos) (tE X.K W (wRepl y z wo)) := by
  refine petImp (CwR.pet_replC ho hyz hst hbase hline) fun σ H Q ⟨H0, F0, A0, s, T, kx, k, w, xl, h, q⟩ => ?_
  refine ⟨H0, F0, A0, s, T, kx, _, w, xl, h, fun x s1 h1 u H1 w1 => ?_⟩
  obtain ⟨z0, rfl, hz, hk⟩ := h1
  cases str_at w1 List.mem_cons_self
  obtain ⟨F, A, w1⟩ := w1
  exact ⟨z0, rfl, hz, q _ _ hk _ H1 ⟨F, A, (w1.sub fun t h => List.mem_cons_of_mem _ h).push (.str _)⟩⟩
theorem st_ret (he : PET X e (tE X.K W we)) : PST X (.Return (some e) pos) (tS X.K W (wRet we)) := by
  refine pstImp (CwR.pst_ret he) fun D σ H ⟨H0, F0, A0, s, T, kx, k, w, xl, h, q1, q2, q3, q4⟩ => ?_
  exact ⟨H0, F0, A0, s, T, kx, _, w, xl, h, fun v s' h' u H' w' => q2 v s' h' u σ H' w'⟩
theorem sst_cons (h1 : PST X st (tS X.K W wa)) (h2 : PSsT X rest (tS X.K W wb)) : PSsT X (st :: rest) (tS X.K W (wSeq wa wb)) := by
  refine psstImp (psst_cons h1 h2) fun D σ H ⟨H0, F0, A0, s, T, kx, k, w, xl, h, q1, q2, q3, q4⟩ => ?_
  exact ⟨H0, F0, A0, s, T, kx, _, w, xl, h, fun s' h' σ' H' w' => ⟨H0, F0, A0, s', T, kx, k, w', xl, h', q1, q2, q3, q4⟩, q2, q3, q4⟩
theorem sst_one (h1 : PST X st (tS X.K W wa)) : PSsT X [st] (tS X.K W wa) := CwR.psst_one h1
theorem st_of (h1 : PS X st (tS X.K W wa)) : PST X st (tS X.K W wa) := PST.of h1
/-- a text is stored; behind it a token is out -/
theorem s_setStr {i : Nat} {x : Str} {pos' : Pos} (hN : X.N.Nodup) (hi : X.N[i]? = some x) (hx : Loc X.env.scope x) (h2 : PSsT X rest (tS X.K W wb))
    (hs : swapsWith (.Constant (.str c) j cp) (some (.Name x pos')) pos.line X.env = pure false := by rfl) (hf : X.fn x = true ∨ X.env.scope.names.lookup x = some .local := by first | exact .inl rfl | exact .inr rfl | assumption) :
    PSs X (.Assign [.Name x pos'] (.Constant (.str c) j cp) pos :: rest) (tS X.K W (wSeq (wAsg (wC (.str c)) i) wb)) := by
  refine PSs.imp (pss_str hN hi hx h2 hs hf) fun D σ H ⟨H0, F0, A0, s, T, kx, k, w, xl, h, q1, q2, q3, q4⟩ => ?_
  obtain ⟨F, A, w⟩ := w
  exact ⟨H0, F0, A0, _, T, kx, k, ⟨F, A, w.st (v := .d (.str c)) (Dq.str c)⟩, xl, h, q1, q2, q3, q4⟩
theorem pss_setU {i : Nat} {x : Str} {te : TE} {u : TS} {pos' : Pos} (hN : X.N.Nodup) (hi : X.N[i]? = some x) (hx : Loc X.env.scope x) (he : PEU X e te) (h2 : PSsT X rest u)
    (hs : swapsWith e (some (.Name x pos')) pos.line X.env = pure false := by rfl) (hf : X.fn x = true ∨ X.env.scope.names.lookup x = some .local := by first | exact .inl rfl | exact .inr rfl | assumption) :
    PSs X (.Assign [.Name x pos'] e pos :: rest) (tSeq (tAsg te (gName i)) u) := by
  refine ⟨fun pins s σ H D I h => ?_⟩
  refine wpAny_execs_cons (wpAny_Assign_Name (thn (he pins s σ H _ I h) fun v s1 ⟨hk, y, H1, I1, r1, q1⟩ => ?_) hs)
  refine wpAny_mono (PySem.wpAny_toks (store_ok (v := y) (u := v) (Q := fun _ s2 => Inv X pins (σ.set i (some y)) H1 s2) I1 hN hi hx r1 (fun _ I2 => I2) hf)) (fun _ s2 q => ?_) fun _ _ z => z.2
  have hk2 : s1.toks ≤ s2.toks := q.1
  exact h2 pins s2 _ H1 D (Nat.le_trans hk hk2) q.2 q1
theorem s_setU {i : Nat} {x : Str} {pos' : Pos} (hN : X.N.Nodup) (hi : X.N[i]? = some x) (hx : Loc X.env.scope x) (he : PEU X e (tE X.K W we)) (h2 : PSsT X rest (tS X.K W wb))
    (hs : swapsWith e (some (.Name x pos')) pos.line X.env = pure false := by rfl) (hf : X.fn x = true ∨ X.env.scope.names.lookup x = some .local := by first | exact .inl rfl | exact .inr rfl | assumption) :
    PSs X (.Assign [.Name x pos'] e pos :: rest) (tS X.K W (wSeq (wAsg we i) wb)) := by
  refine PSs.imp (pss_setU hN hi hx he h2 hs hf) fun D σ H ⟨H0, F0, A0, s, T, kx, k, w, xl, h, q1, q2, q3, q4⟩ => ?_
  refine ⟨H0, F0, A0, s, T, kx, _, w, xl, h, fun v s' h' u H' w' => ?_⟩
  obtain ⟨F, A, w'⟩ := w'
  exact ⟨H0, F0, A0, _, T, kx, k, ⟨F, A, (w'.sub fun t h => List.mem_cons_of_mem _ h).st (w'.tm _ List.mem_cons_self)⟩, xl, h', q1, q2, q3, q4⟩
/-- a method of a text with a written text: behind it a token is out -/
theorem eu_m1 {name : Str} {id : String} {r : V → List V → Hp → VK → Prop} {R : Str → PyData → (PyData → Prop) → Prop} {apos : Pos} (slot : Slot "str" name id) (hty : typeOf (.builtin id) = pure (.type "method_descriptor")) (hm : MtR X id r)
    (hR : ∀ (z : Str) (v : V) (b : PyData) (H : Hp) (Q : VK) (P : PyData → Prop), Dp X.K H v b → R z b P → (∀ y t, P y → toV y = some t → Q t H) → r (.str z) [v] H Q) (ho : PE X wo_e (tE X.K W wo))
    (hbase : attributeBase wo_e name X.env (eval wo_e X.env) = eval wo_e X.env := by rfl)
    (hfew : ((backTo pos (starEach [.Constant (.str c) j cp] X.env)).all (fun x => !x.1) && (backToKw pos (keywordEach [] X.env)).all (fun x => x.1.isSome)
      && decide ([Expr.Constant (.str c) j cp].length + ([] : List Keyword).length + (if ([] : List Keyword).isEmpty then 0 else 1) < 30)) = true := by rfl)
    (hline : (apos.endLine == pos.line) = true := by rfl) (hs : starEach [.Constant (.str c) j cp] X.env = [(false, eval (.Constant (.str c) j cp) X.env)] := by rfl) :
    PEU X (.Call (.Attribute wo_e name apos) [.Constant (.str c) j cp] [] pos) (tE X.K W (wM1 R wo (wC (.str c)))) := by
  intro pins s σ H Q I ⟨H0, F0, A0, s0, T, kx, k, w, xl, h, q⟩
  refine wpAny_Call_method_late hbase hfew hline rfl (thn (ho.run pins s σ H (fun v H1 => ∃ z, v = .str z ∧ r (.str z) [.str c] H1 Q) I ⟨H0, F0, A0, s0, T, kx, _, w, xl, h, fun x s1 h1 u H1 w1 => ?_⟩) fun v s1 ⟨x, H1, I1, r1, zz, e1, q1⟩ => ?_)
  · obtain ⟨z0, rfl, h1⟩ := h1
    cases str_at w1 List.mem_cons_self
    obtain ⟨b, hb, h2⟩ := h1
    cases hb
    obtain ⟨F, A, w1⟩ := w1
    exact ⟨z0, rfl, hR z0 (.str c) (.str c) H1 Q _ (.str c) h2 fun y t hy ht => q _ _ hy t H1 ⟨F, A, (w1.sub fun t h => List.mem_cons_of_mem _ h).push (toV_dp ht)⟩⟩
  subst e1
  obtain ⟨tx, e2⟩ := r1
  subst e2
  refine ⟨"str", _, PySem.F.plainAttrs_str, slot, hty, typeIs_str _ _ _, (fun _ e => nomatch e), ?_⟩
  rw [hs]
  refine Calls.callWith_builtin rfl (Calls.evalArgs_plain (Calls.spliced_cons (Calls.Constant_str (k := j) (pos := cp) (Calls.spliced_nil ?_))))
  refine wpAny_mono (PySem.wpAny_toks (hm pins { s1 with toks := s1.toks + 1 } σ H1 (.str zz) [.str c] (.str zz tx) [.str c s1.toks] Q (I1.tok _) ⟨tx, rfl⟩ (.cons ⟨_, rfl⟩ .nil) q1)) (fun v2 s2 q2 => ⟨?_, q2.2⟩) fun _ _ z => z.2
  have hk : s1.toks + 1 ≤ s2.toks := q2.1
  omega
theorem eu_find {apos : Pos} (ho : PE X wo_e (tE X.K W wo))
    (hbase : attributeBase wo_e "find" X.env (eval wo_e X.env) = eval wo_e X.env := by rfl)
    (hfew : ((backTo pos (starEach [.Constant (.str c) j cp] X.env)).all (fun x => !x.1) && (backToKw pos (keywordEach [] X.env)).all (fun x => x.1.isSome)
      && decide ([Expr.Constant (.str c) j cp].length + ([] : List Keyword).length + (if ([] : List Keyword).isEmpty then 0 else 1) < 30)) = true := by rfl)
    (hline : (apos.endLine == pos.line) = true := by rfl) (hs : starEach [.Constant (.str c) j cp] X.env = [(false, eval (.Constant (.str c) j cp) X.env)] := by rfl) :
    PEU X (.Call (.Attribute wo_e "find" apos) [.Constant (.str c) j cp] [] pos) (tE X.K W (wM1 rFindD wo (wC (.str c)))) :=
  eu_m1 PySem.F.slot_str_find PySem.F.type_str_find mt_find (fun z v b H Q P hb h q => by
    cases b <;> try exact h.elim
    cases dp_str hb
    exact ⟨_, _, rfl, rfl, q _ _ h rfl⟩) ho hbase hfew hline hs
end
theorem repl_strike (l : List Nat) (c : Nat) : Txt.replace (tx l) (tx [c]) (tx []) = tx (l.filter (· != c)) := TL.ext_tl (PyProof.Rows.replace_strikes (tx l) c)
end PW

namespace PW
open PySem L2 PySem.Spec PyProof.Rows
/-- a key by its data -/
def kD : PyData → Option Key
  | .int i => some (.inl i)
  | .str z => some (.inr z)
  | _ => none
theorem kD_dp {K : PySem.W.Frag} {H : Hp} {u : V} {x : PyData} {k : Key} (h : Dp K H u x) (e : kD x = some k) : u = kV k := by
  cases h <;> cases e <;> rfl
def putD (kvs : List (Key × PyData)) (k : Key) (v : PyData) : List (Key × PyData) :=
  if (kvs.any fun kv => decide (kv.1 = k)) = true then kvs.map (fun kv => if kv.1 = k then (kv.1, v) else kv) else kvs ++ [(k, v)]
theorem DqAll.kmap {K : PySem.W.Frag} {F : Hp} {k : Key} {v : V} {d : PyData} (hv : Dq K F v d) : ∀ {vs : List (Key × V)} {kvs : List (Key × PyData)}, vs.map (·.1) = kvs.map (·.1) → DqAll K F (vs.map (·.2)) (kvs.map (·.2)) →
    DqAll K F ((vs.map (fun kv => if kv.1 = k then (kv.1, v) else kv)).map (·.2)) ((kvs.map (fun kv => if kv.1 = k then (kv.1, d) else kv)).map (·.2))
  | [], [], _, _ => .nil
  | [], _ :: _, e, _ => by simp at e
  | _ :: _, [], e, _ => by simp at e
  | p :: vs, q :: kvs, e, h => by
    simp only [List.map_cons, List.cons.injEq] at e
    rw [List.map_cons, List.map_cons] at h
    cases h with
    | cons h t =>
      have ih := DqAll.kmap (k := k) hv e.2 t
      simp only [List.map_cons]
      refine .cons ?_ ih
      rw [← e.1]
      split
      · exact hv
      · exact h
theorem keys_kmap {α : Type} {k : Key} {v : α} : ∀ kvs : List (Key × α), (kvs.map (fun kv => if kv.1 = k then (kv.1, v) else kv)).map (·.1) = kvs.map (·.1)
  | [] => rfl
  | p :: r => by
    simp only [List.map_cons]
    rw [keys_kmap r]
    congr 1
    split <;> rfl
theorem any_keys {α : Type} (k : Key) : ∀ kvs : List (Key × α), (kvs.any fun kv => decide (kv.1 = k)) = (kvs.map (·.1)).any fun j => decide (j = k)
  | [] => rfl
  | p :: r => by rw [List.any_cons, any_keys k r]; rfl
theorem put_ok {K : PySem.W.Frag} {F : Hp} {k : Key} {v : V} {d : PyData} (hv : Dq K F v d) {vs : List (Key × V)} {kvs : List (Key × PyData)} (e : vs.map (·.1) = kvs.map (·.1)) (h : DqAll K F (vs.map (·.2)) (kvs.map (·.2))) :
    (putK vs k v).map (·.1) = (putD kvs k d).map (·.1) ∧ DqAll K F ((putK vs k v).map (·.2)) ((putD kvs k d).map (·.2)) := by
  have ea : (vs.any fun kv => decide (kv.1 = k)) = (kvs.any fun kv => decide (kv.1 = k)) := by rw [any_keys, any_keys, e]
  unfold putK putD
  rw [ea]
  split
  · exact ⟨by rw [keys_kmap, keys_kmap, e], h.kmap hv e⟩
  · rw [List.map_append, List.map_append, List.map_append, List.map_append, e]
    exact ⟨rfl, h.app (.cons hv .nil)⟩
theorem own_atD {K : PySem.W.Frag} {H0 F0 : Hp} {A0 : List Addr} {s : PSt} {σ : L2.St} {T : List (PV × V)} {H F : Hp} {A : List Addr} {u : V} {n : Nat} {kvs : List (Key × PyData)} (w : WdF K H0 F0 A0 s σ T H F A) (h : (PV.own n, u) ∈ T) (ho : s.o[n]? = some (.di kvs)) :
    ∃ p vs, A[n]? = some p ∧ u = .ref p ∧ F p = none ∧ H p = some (.dK vs) ∧ vs.map (·.1) = kvs.map (·.1) ∧ DqAll K F (vs.map (·.2)) (kvs.map (·.2)) := by
  obtain ⟨p, hp, e⟩ := w.tm _ h
  obtain ⟨f, vs, h1, h2, h3⟩ := w.oc n p _ hp ho
  exact ⟨p, vs, hp, e, f, h1, h2, h3⟩
def wDict0 : EW := fun _ s k => k (.own s.o.length) ⟨s.r, s.o ++ [.di []]⟩
/-- {k: v} -/
def wDict1 (wk wv : EW) : EW := fun kx s k => wk kx ⟨s.r, s.o ++ [.di []]⟩ fun x s1 => wv kx s1 fun y s2 => frz y s2 fun d s3 => ∃ a kk, x = .d a ∧ kD a = some kk ∧ s3.o[s.o.length]? = some (.di []) ∧ k (.own s.o.length) ⟨s3.r, s3.o.set s.o.length (.di [(kk, d)])⟩
/-- d[k] = v -/
def wSetK (wv wo wi : EW) : SW := fun kx s k => wv kx s fun v s1 => wo kx s1 fun x s2 => wi kx s2 fun y s3 => frz v s3 fun d s4 => ∃ n kvs a kk, x = .own n ∧ y = .d a ∧ s4.o[n]? = some (.di kvs) ∧ kD a = some kk ∧ kvs.length < sizeLine ∧ k.nx ⟨s4.r, s4.o.set n (.di (putD kvs kk d))⟩
/-- sorted(d), its keys whole numbers -/
def wSortedD (wd : EW) : EW := fun kx s k => wd kx s fun x s1 => ∃ n kvs ks, x = .own n ∧ s1.o[n]? = some (.di kvs) ∧ kvs.map (·.1) = ks.map Sum.inl ∧ ∀ ys : List Int, ys.Perm ks → ys.Pairwise (· ≤ ·) → k (.own s1.o.length) ⟨s1.r, s1.o ++ [.dl (ys.map PyData.int)]⟩
section
variable {X : Cx} {W : WX} {a b e o i : Expr} {wa wb we wo wi wv : EW} {pos p p2 : Pos}
theorem e_dict0 : PE X (.Dict [] [] pos) (tE X.K W wDict0) := by
  refine PE.imp pe_dnewK fun σ H Q ⟨H0, F0, A0, s, T, kx, k, w, xl, h, q⟩ => fun p hp => ?_
  obtain ⟨F, A, w⟩ := w
  have w2 := w.newO (c := .di []) hp fun fp => ⟨fp, [], upd_same, rfl, .nil⟩
  refine q _ _ h _ _ ⟨F, _, w2.push ⟨p, ?_, rfl⟩⟩
  rw [← w.len, List.getElem?_append_right (Nat.le_refl _), Nat.sub_self]
  rfl
theorem e_dict1 (hk : PE X a (tE X.K W wa)) (hv : PE X b (tE X.K W wb)) : PE X (.Dict [some a] [b] pos) (tE X.K W (wDict1 wa wb)) := by
  refine PE.imp (pe_disp (pps_cons hk hv pps_nil) rfl rfl (by simp) (by simp)) fun σ H Q ⟨H0, F0, A0, s, T, kx, k, w, xl, h, q⟩ => fun p hp => ?_
  obtain ⟨F, A, w⟩ := w
  have w2 := w.newO (c := .di []) hp fun fp => ⟨fp, [], upd_same, rfl, .nil⟩
  have w3 : WdF X.K H0 F0 A0 ⟨s.r, s.o ++ [.di []]⟩ σ ((.own s.o.length, .ref p) :: T) (upd H p (.dK [])) F (A ++ [p]) := w2.push ⟨p, by
    rw [← w.len, List.getElem?_append_right (Nat.le_refl _), Nat.sub_self]
    rfl, rfl⟩
  refine ⟨H0, F0, A0, _, _, kx, _, ⟨F, _, w3⟩, xl.push, h, fun x s1 h1 u H1 w4 => ?_⟩
  refine ⟨H0, F0, A0, s1, _, kx, _, w4, xl.push.push, h1, fun y s2 h2 u2 H2 w5 => ?_⟩
  obtain ⟨d, s3, h3, w6⟩ := frz_ok w5 h2
  obtain ⟨y0, kk, rfl, hkk, ho, hq⟩ := h3
  obtain ⟨F6, A6, w6⟩ := w6
  obtain ⟨p', vs, hp', e', f', hH, hks, hds⟩ := own_atD w6 (List.mem_cons_of_mem _ (List.mem_cons_of_mem _ List.mem_cons_self)) ho
  cases e'
  cases vs with
  | cons z r => simp at hks
  | nil =>
  have du : Dq X.K F6 u y0 := w6.tm (.d y0, u) (List.mem_cons_of_mem _ List.mem_cons_self)
  have dv : Dq X.K F6 u2 d := w6.tm (.d d, u2) List.mem_cons_self
  cases kD_dp (dq_dp du) hkk
  refine ⟨hH, [(kk, u2)], rfl, by simp, ?_⟩
  have em : mergeK [] [(kk, u2)] = [(kk, u2)] := rfl
  rw [em]
  have w7 := (w6.sub (T' := (.own s.o.length, .ref p) :: T) fun t h => List.mem_cons_of_mem _ (List.mem_cons_of_mem _ h)).wrO (o := .dK [(kk, u2)]) (c := .di [(kk, d)]) hp' f' (List.getElem?_eq_some_iff.mp ho).1 ⟨f', [(kk, u2)], upd_same, rfl, .cons dv .nil⟩
  exact q _ _ hq _ _ ⟨F6, _, w7⟩
theorem s_setK (hu : X.A.units + 64 < cLine) (he : PE X e (tE X.K W wv)) (ho : PE X o (tE X.K W wo)) (hi : PE X i (tE X.K W wi)) (hs : swapsWith e (some (.Subscript o i p2)) pos.line X.env = pure false := by rfl) :
    PS X (.Assign [.Subscript o i p2] e pos) (tS X.K W (wSetK wv wo wi)) := by
  refine PS.imp (ps_dput (by omega) ho hi he hs) fun D σ H ⟨H0, F0, A0, s, T, kx, k, w, xl, h, q1, q2, q3, q4⟩ => ?_
  refine ⟨H0, F0, A0, s, T, kx, _, w, xl, h, fun v s1 h1 u H1 w1 => ?_⟩
  refine ⟨H0, F0, A0, s1, _, kx, _, w1, xl.push, h1, fun x s2 h2 ux H2 w2 => ?_⟩
  refine ⟨H0, F0, A0, s2, _, kx, _, w2, xl.push.push, h2, fun y s3 h3 uy H3 w3 => ?_⟩
  obtain ⟨d, s4, h4, w4⟩ := frz_ok (T := (y, uy) :: (x, ux) :: T) (w3.sub fun t ht => by
    rcases List.mem_cons.mp ht with e | ht
    · rw [e]; exact List.mem_cons_of_mem _ (List.mem_cons_of_mem _ List.mem_cons_self)
    · rcases List.mem_cons.mp ht with e | ht
      · rw [e]; exact List.mem_cons_self
      · rcases List.mem_cons.mp ht with e | ht
        · rw [e]; exact List.mem_cons_of_mem _ List.mem_cons_self
        · exact List.mem_cons_of_mem _ (List.mem_cons_of_mem _ (List.mem_cons_of_mem _ ht))) h3
  obtain ⟨n, kvs, y0, kk, rfl, rfl, ox, hkk, hz, hk⟩ := h4
  obtain ⟨F, A, w4⟩ := w4
  obtain ⟨p, vs, hp, rfl, fp, hv, hks, hds⟩ := own_atD w4 (List.mem_cons_of_mem _ (List.mem_cons_of_mem _ List.mem_cons_self)) ox
  have dv : Dq X.K F u d := w4.tm (.d d, u) List.mem_cons_self
  have dy : Dq X.K F uy y0 := w4.tm (.d y0, uy) (List.mem_cons_of_mem _ List.mem_cons_self)
  cases kD_dp (dq_dp dy) hkk
  have hl : vs.length = kvs.length := by
    have := congrArg List.length hks
    rw [List.length_map, List.length_map] at this
    exact this
  obtain ⟨e1, e2⟩ := put_ok (k := kk) dv hks hds
  exact ⟨p, _, rfl, DPut.k hv (by rw [hl]; exact hz), q1 _ hk σ _ ⟨F, A, (w4.sub (T' := T) fun t h => List.mem_cons_of_mem _ (List.mem_cons_of_mem _ (List.mem_cons_of_mem _ h))).wrO (c := .di (putD kvs kk d)) hp fp (List.getElem?_eq_some_iff.mp ox).1 ⟨fp, _, upd_same, e1, e2⟩⟩⟩
end
end PW

namespace PW
open PySem L2 PySem.Spec PyProof.Rows
/-- sorted(d) of a dict, all its keys ints, any number of them -/
theorem cr_sortedDn {X : Cx} (hcalm : X.calm = true) : CallR X (.builtin "sorted") (fun xs H Q => ∃ (a : Addr) (kvs : List (Key × V)) (ks : List Int), xs = [.ref a] ∧ Rd H a (.dK kvs) ∧ kvs.map (·.1) = ks.map Sum.inl ∧
    ∀ (ys : List Int) (p : Addr), ys.Perm ks → ys.Pairwise (· ≤ ·) → H p = none → Q (.ref p) (upd H p (.lst (ys.map V.int)))) := by
  intro pins s σ H xs us Q I r q
  obtain ⟨a, kvs, ks, ex, hd, hks, q⟩ := q
  subst ex
  obtain ⟨u, eu, rx⟩ := vals1 r
  subst eu
  cases rx
  obtain ⟨z, lo, vs, rel, dd⟩ := dk_rd I.hok hd
  obtain ⟨ep, hat⟩ := dd.dictAt
  have hkeys : vs.map (·.1) = ks.map Sum.inl := rel.keys.symm.trans hks
  have hl : vs.length = ks.length := by
    have e := congrArg List.length hkeys
    rw [List.length_map, List.length_map] at e
    exact e
  have h16 : vs.length ≤ sizeLine := by rw [← rel.length]; exact z
  refine Calls.call_function_entry PyProof.Rows.kind_sorted PyProof.Rows.plain_sorted PyProof.Rows.entry_sorted (PyProof.Rows.args_sorted1 _) ?_
  unfold Builtin.«sorted»
  refine wpAny_bind (m := checkCount "sorted" 1 1 _) (wpAny_pure ?_)
  refine wpAny_bind (PySem.W.kdu_collect (A := X.A.in1) (PySem.W.kdl_dict (knd := mixKind X.prog X.w) (kvs := vs) (ep := ep) lo) (I.ok.hd hcalm) hat h16 fun h' tk acc hk hacc => ?_)
  have hal : acc.toList.length = ks.length := by rw [Array.length_toList, hacc.1, hl]
  have hS : IntsAre acc.toList ks := ints_each hal fun j v e => by
    obtain ⟨k, x, e1, e2⟩ := hacc.2 j v (by rw [← Array.getElem?_toList]; exact e)
    have e3 : (vs.map (·.1))[j]? = some k := by rw [List.getElem?_map, e1]; rfl
    rw [hkeys, List.getElem?_map] at e3
    cases e4 : ks[j]? with
    | none => rw [e4] at e3; cases e3
    | some y =>
      rw [e4] at e3
      have e5 : Sum.inl y = k := Option.some.inj e3
      subst e5
      rcases keyIs_shape (show keyIs (Sum.inl y) v = true from e2) with ⟨i, t, ek, ev⟩ | ⟨z, t, ek, ev⟩
      · cases ek
        exact ⟨y, t, rfl, ev⟩
      · cases ek
  have I1 : Inv X pins σ H { s with heap := h', toks := tk } := I.kept hk
  have hz : acc.toList.length ≤ sizeLine := by rw [hal, ← hl]; exact h16
  refine wpAny_bind (wpAny_newList ?_ hz)
  have hoL : (h'.push (seqObj "list" acc.toList.toArray 0)).get? h'.objs.size = some (seqObj "list" acc.toList.toArray 0) := Heap.get?_push_size _ rfl
  show wpAny _ _ _ _ _ { s with heap := h'.push (seqObj "list" acc.toList.toArray 0), toks := tk }
  refine wpAny_bind (wpAny_holding (wpAny_call_entry PyProof.Rows.slot_list_sort ⟨_, hoL, rfl⟩ PyProof.Rows.entry_list_sort
    (SrtO.list_sort_ord (s := { s with heap := h'.push (seqObj "list" acc.toList.toArray 0), toks := tk }) SrtO.swo_int hoL hz (fun h2 => SrtO.ints_sortable hS h2) fun out h1 h2 => ⟨.none, rfl, ?_⟩) (PyProof.Rows.args_list_sort _)))
  obtain ⟨k1, k2, k3⟩ := SrtO.ints_out hS h1 h2
  obtain ⟨e', he'⟩ := PyProof.Rows.sortedHeap_at (vs := acc.toList) (out := out.toArray) hoL
  have hlen : ((out.map SrtO.iv).map V.int).length ≤ sizeLine := by
    rw [List.length_map, k2.length_eq, ← hal]
    exact hz
  refine wpAny_pure ⟨_, rfl, .ref h'.objs.size, upd H h'.objs.size (.lst ((out.map SrtO.iv).map V.int)), I1.laid (t' := tk) (fun b u e => ?_) (Nat.le_refl _)
    (show ObjOk X.prog X.w _ _ _ (.lst ((out.map SrtO.iv).map V.int)) from ⟨hlen, out, e', vals_of_ints k1, he'⟩), rfl, q _ _ k2 k3 (I1.hok.fresh (Nat.le_refl _))⟩
  have hb : b < h'.objs.size := Heap.lt_size e
  rw [PyProof.Rows.sortedHeap_old (Nat.ne_of_lt hb) (by rw [size_push']; exact Nat.lt_succ_of_lt hb)]
  exact Heap.get?_push_of_some _ e
section
variable {X : Cx} {W : WX} {a : Expr} {wa : EW} {pos p : Pos}
theorem e_sortedD (hc : X.calm = true) (hm : X.mg "sorted" = none) (ha : PE X a (tE X.K W wa)) (hg : Gl X "sorted" := by rfl) (he : starEach [a] X.env = (false, eval a X.env) :: starEach [] X.env := by rfl) (hpl : (backTo pos (starEach [] X.env)).any (·.1) = false := by rfl) :
    PE X (.Call (.Name "sorted" p) [a] [] pos) (tE X.K W (wSortedD wa)) := by
  refine PE.imp (pe_callB (cr_sortedDn hc) hg hm (by decide +kernel) (pa_cons ha pa_nil he) (he := he) (hpl := hpl)) fun σ H Q ⟨H0, F0, A0, s, T, kx, k, w, xl, h, q⟩ => cb1_of w xl h fun x s1 u H1 h1 w1 => ?_
  obtain ⟨n, kvs, ks, rfl, ox, hks, hk⟩ := h1
  obtain ⟨F, A, w1⟩ := w1
  have w2 := w1.sub (T' := T) fun t h => List.mem_cons_of_mem _ h
  obtain ⟨pp, vs, hp, rfl, fp, hv, hks2, hds⟩ := own_atD w1 List.mem_cons_self ox
  refine ⟨pp, vs, ks, rfl, .inl hv, hks2.trans hks, fun ys q1 h1 h2 hn => q _ _ (hk ys h1 h2) _ _ ⟨F, _, (w2.newL hn (ints_dq ys)).push (top_at w2 q1 F)⟩⟩
end
end PW

namespace PW
open PySem L2 PySem.Spec PyProof.Rows
/-- a text so many times -/
def repS (z : Str) (n : Nat) : Str := ⟨(List.replicate n z.cps.toList).flatten.toArray⟩
theorem repS_tx (l : List Nat) (n : Nat) : repS (tx l) n = tx (List.replicate n l).flatten := rfl
theorem foldl_repN (l : List Nat) : ∀ (k : Nat) (acc : List Nat), List.foldl (fun x1 x2 => x1 ++ x2) acc.toArray (List.replicate k l.toArray) = (acc ++ (List.replicate k l).flatten).toArray
  | 0, acc => by simp
  | k + 1, acc => by
    rw [List.replicate_succ, List.foldl_cons, List.replicate_succ, List.flatten_cons]
    have e : acc.toArray ++ l.toArray = (acc ++ l).toArray := by simp
    rw [e, foldl_repN l k, List.append_assoc]
theorem repS_fold (x : Str) (n : Nat) : (⟨(List.replicate n x.cps).foldl (· ++ ·) #[]⟩ : Str) = repS x n := by
  have h := foldl_repN x.cps.toList n []
  rw [List.nil_append] at h
  unfold repS
  rw [← h]
theorem op_repS {X : Cx} : OpR X (binaryOp .Mult) (fun x y H Q => ∃ z n, x = .str z ∧ y = .int n ∧ -(2 ^ 63) ≤ n ∧ n < 2 ^ 63 ∧ z.length * n.toNat ≤ sizeLine ∧ Q (.str (repS z n.toNat)) H) := by
  intro pins s σ H x y v u Q I rx ry h
  obtain ⟨z, n, rfl, rfl, h1, h2, hz, q⟩ := h
  obtain ⟨t, rfl⟩ := rx
  obtain ⟨t', rfl⟩ := ry
  have h16 : (sizeLine : Nat) = 16777216 := rfl
  refine P.mul_str ?_ (fun hn _ => ?_) (fun hn _ => ?_) ?_
  · rw [decide_eq_false (by omega), decide_eq_false (by omega)]; rfl
  · have hn1 : 1 ≤ n := by omega
    have e : ((z.length * n.toNat : Nat) : Int) = (z.length : Int) * n := by rw [Int.natCast_mul, Int.toNat_of_nonneg (by omega)]
    have h3 : (z.length : Int) * n ≤ 2 ^ 63 - 1 := by rw [← e]; omega
    have h4 := Int.le_ediv_of_mul_le (by omega : 0 < n) h3
    omega
  · exact decide_eq_false (by omega)
  · by_cases hn : n < 1
    · rw [if_pos hn]
      have e0 : repS z n.toNat = Str.empty := by
        have : n.toNat = 0 := by omega
        rw [this]; rfl
      rw [e0] at q
      exact ⟨by decide, .str Str.empty, H, I.tok _, ⟨_, rfl⟩, q⟩
    · rw [if_neg hn]
      by_cases h1' : (n == 1 || z.length == 0) = true
      · rw [if_pos h1']
        have e1 : repS z n.toNat = z := by
          rw [Bool.or_eq_true, beq_iff_eq, beq_iff_eq] at h1'
          rcases h1' with h | h
          · subst h
            show (⟨(List.replicate 1 z.cps.toList).flatten.toArray⟩ : Str) = z
            simp
          · have ez : z.cps.toList = [] := by
              apply List.eq_nil_of_length_eq_zero
              rw [Array.length_toList]; exact h
            refine TL.ext_tl ?_
            show (List.replicate n.toNat z.cps.toList).flatten = z.cps.toList
            rw [ez]
            simp
        rw [e1] at q
        exact ⟨.str z, H, I, ⟨_, rfl⟩, q⟩
      · rw [if_neg h1', repS_fold]
        have hl : (repS z n.toNat).length = n.toNat * z.length := by
          show ((List.replicate n.toNat z.cps.toList).flatten.toArray).size = _
          rw [List.size_toArray, List.length_flatten]
          simp [Str.length]
        refine ⟨?_, .str _, H, I.tok _, ⟨_, rfl⟩, q⟩
        rw [hl, Nat.mul_comm]
        exact hz
def rRepSD : PyData → PyData → (PyData → Prop) → Prop := fun a b q => match a, b with
  | .str z, .int n => (-(2 ^ 63) ≤ n ∧ n < 2 ^ 63) ∧ z.length * n.toNat ≤ sizeLine ∧ q (.str (repS z n.toNat))
  | _, _ => False
abbrev wRepS := wOp rRepSD
theorem ok_repS {K : PySem.W.Frag} : ROk K (fun x y H Q => ∃ z n, x = .str z ∧ y = .int n ∧ -(2 ^ 63) ≤ n ∧ n < 2 ^ 63 ∧ z.length * n.toNat ≤ sizeLine ∧ Q (.str (repS z n.toNat)) H) rRepSD := by
  intro u v x y H Q P hx hy h q
  cases x <;> cases y <;> try exact h.elim
  cases dp_str hx; cases dp_int hy
  obtain ⟨⟨h1, h2⟩, h3, h4⟩ := h
  exact ⟨_, _, rfl, rfl, h1, h2, h3, q _ _ h4 rfl⟩
theorem e_repS {X : Cx} {W : WX} {a b : Expr} {wa wb : EW} {pos : Pos} (ha : PE X a (tE X.K W wa)) (hb : PE X b (tE X.K W wb)) : PE X (.BinOp a .Mult b pos) (tE X.K W (wRepS wa wb)) := e_op op_repS ok_repS ha hb
end PW

namespace PW
open PySem PySem.Spec PyProof.Rows L2
/-! ### exceptions as values: what was caught is tracked by its own object -/
/-- the object at a is oe, for good -/
abbrev excO (a : Addr) (oe : Obj) : HO := .ext fun h => h.get? a = some oe
section
variable {X : Cx} {pins : List (Addr × Obj)} {σ : L2.St} {H : Hp} {s : Shared}
/-- an object that is new since the def began, and not tracked, is tracked from now on -/
theorem inv_track {a : Addr} {oe : Obj} (I : Inv X pins σ H s) (h0 : X.s_0.heap.get? a = none) (hg : s.heap.get? a = some oe) (ha : H a = none) (hl : a ≠ X.env.locals) (hc : ∀ v, oe.data ≠ .cell v) (hp : ∀ p ∈ X.pn ++ pins, p.1 ≠ a) :
    Inv X pins σ (upd H a (excO a oe)) s := by
  have ne0 : ∀ {b o}, X.s_0.heap.get? b = some o → b ≠ a := fun {b o} e z => by
    rw [z, h0] at e
    cases e
  have neH : ∀ {b o}, H b = some o → b ≠ a := fun {b o} e z => by
    rw [z, ha] at e
    cases e
  refine { I with
    base := ⟨I.base.keep, I.base.slot, fun b o e n x => (upd_ne (ne0 e)).trans (I.base.free b o e n x), I.base.there, fun b xs e => ?_, fun b o u e => ?_, fun b ps e => ?_⟩
    free := (upd_ne fun z => hl z.symm).trans I.free
    freeC := fun x c e => ?_
    pin := fun p m => ?_
    hok := fun b o e => ?_ }
  · have q := I.base.tups b xs e
    exact (upd_ne (neH q)).trans q
  · have q := I.base.frzs b o u e
    exact (upd_ne (neH q)).trans q
  · obtain ⟨more, q⟩ := I.base.tbls b ps e
    exact ⟨more, (upd_ne (neH q)).trans q⟩
  · have nc : c ≠ a := fun z => by
      obtain ⟨v, o, e1, e2⟩ := I.cell x c e
      rw [z, hg] at e1
      cases e1
      exact hc _ e2
    exact (upd_ne nc).trans (I.freeC x c e)
  · obtain ⟨e1, e2, e3⟩ := I.pin p m
    exact ⟨e1, (upd_ne (hp p m)).trans e2, e3⟩
  · by_cases hb : b = a
    · rw [hb, upd_same] at e
      cases e
      rw [hb]
      exact ⟨hg, ⟨oe, hg⟩, fun _ _ e k => k oe e⟩
    · rw [upd_ne hb] at e
      exact (I.hok b o e).stay (fun _ _ _ q => q) (fun c q => (upd_ne (neH q)).trans q) fun c xs q => (upd_ne (neH q)).trans q
/-- into an except suite .. -/
theorem inv_in {a : Addr} (I : Inv X pins σ H s) : Inv (X.suite a (X.pn ++ pins)) [] σ H s :=
  ⟨I.ok.suite _ _, I.os, I.bare, I.base, I.loc, I.cell, I.free, I.freeC, fun p hp => I.pin p (by rw [List.append_nil] at hp; exact hp), I.hok, I.len⟩
/-- .. and out of it -/
theorem inv_out {a : Addr} {pn' : List (Addr × Obj)} (I : Inv (X.suite a (X.pn ++ pins)) pn' σ H s) (ok : X.Ok) : Inv X pins σ H s :=
  ⟨ok, I.os, I.bare, I.base, I.loc, I.cell, I.free, I.freeC, fun p hp => I.pin p (List.mem_append_left _ hp), I.hok, I.len⟩
end
def stI (oi : Option Nat) (v : Option V) (σ : L2.St) : L2.St := match oi with
  | none => σ
  | some i => σ.set i v
def endsI (oi : Option Nat) (D : Ends) : Ends := { nx := fun σ H => D.nx (stI oi none σ) H, rt := D.rt, bk := fun σ H => D.bk (stI oi none σ) H, ct := fun σ H => D.ct (stI oi none σ) H }
/-- what the clauses wish of an exception of the body -/
def wishes (K : PySem.W.Frag) (Wout : WX) (D : Ends) : List (Value × Option Nat × (Addr → TS)) → WX
  | [] => Wout
  | (c, oi, ts) :: r => fun cls d σ H => ∃ b, PySem.W.exmOne K cls c = some b ∧ (b = true → ∀ a oe, H a = none → L2N.Zn cls d oe → (∃ vs, oe.data = .fields vs) → ts a (endsI oi D) (stI oi (some (.ref a)) σ) (upd H a (excO a oe))) ∧ (b = false → wishes K Wout D r cls d σ H)
/-- the clauses and their suites -/
inductive Clauses (X : Cx) : List ExceptHandler → List (Value × Option Nat × (Addr → TS)) → Prop
  | nil : Clauses X [] []
  | only {x : Str} {c : Value} {ts : Addr → TS} {b₀ : Stmt} {suite : List Stmt} {np pos' : Pos} {hds : List ExceptHandler} {l : List (Value × Option Nat × (Addr → TS))} (hc : Names X x c)
      (hsu : ∀ (a : Addr) (pn : List (Addr × Obj)), PSs (X.suite a pn) (b₀ :: suite) (ts a)) (r : Clauses X hds l) : Clauses X (.ExceptHandler (some (.Name x np)) none (b₀ :: suite) pos' :: hds) ((c, none, ts) :: l)
  | as {x n : Str} {c : Value} {i : Nat} {ts : Addr → TS} {b₀ : Stmt} {suite : List Stmt} {np pos' : Pos} {hds : List ExceptHandler} {l : List (Value × Option Nat × (Addr → TS))} (hc : Names X x c) (hN : X.N.Nodup) (hi : X.N[i]? = some n) (hln : X.env.kindOf n = some .local)
      (hsu : ∀ (a : Addr) (pn : List (Addr × Obj)), PSs (X.suite a pn) (b₀ :: suite) (ts a)) (r : Clauses X hds l) : Clauses X (.ExceptHandler (some (.Name x np)) (some n) (b₀ :: suite) pos' :: hds) ((c, some i, ts) :: l)
section
variable {X : Cx} {body : List Stmt} {hd0 : ExceptHandler} {hds : List ExceptHandler} {l : List (Value × Option Nat × (Addr → TS))} {pos : Pos} {tb : WX → TS} {Wout : WX}
theorem ps_tryT (hst : X.stack = X.env :: X.outer) (hfr : X.env.frame = some X.env.locals) (hex : X.ex = []) (tk : L2N.Takes X Wout)
    (hbody : ∀ (W' : WX) (pn : List (Addr × Obj)) (xe : Value → Shared → Prop), L2N.Takes (X.tr pn xe) W' → PassesOwn (model X.prog X.w) X.A X.env xe → PSs (X.tr pn xe) body (tb W'))
    (hcl : Clauses X (hd0 :: hds) l) : PS X (.Try body (hd0 :: hds) [] [] pos) (fun D σ H => tb (wishes X.K Wout D l) D σ H) := by
  refine ⟨fun pins s σ H D I hq => ?_⟩
  have okX := I.ok
  have frA : X.A.frames = some (X.env :: X.outer) := okX.frames.trans (congrArg some hst)
  refine wpAny_Try_except ?_
  have run0 := (hbody (wishes X.K Wout D l) (X.pn ++ pins) (fun e s₁ => wpAny (model X.prog X.w) X.A (noteFrame e X.env) (fun _ s₂ => wpAny (model X.prog X.w) X.A (setFlight e none)
    (fun _ s₃ => wpAny (model X.prog X.w) X.A (handleBy e X.env (hd0 :: hds)) (SP X pins D) X.xe s₃) X.xe s₂) X.xe s₁) (fun u t xx => ?_) PassesOwn.looking).run [] s σ H D (I.toTry _) hq
  · refine wpAny_mono run0 (fun fl t hsp => ?_) (fun _ _ z => z)
    cases fl with
    | next =>
      obtain ⟨σ1, H1, I1, q⟩ := hsp
      exact wpAny_execs_nil ⟨σ1, H1, I1.ofTry okX, q⟩
    | ret u =>
      obtain ⟨v, σ1, H1, I1, rv, q⟩ := hsp
      exact ⟨v, σ1, H1, I1.ofTry okX, rv, q⟩
    | brk =>
      obtain ⟨σ1, H1, I1, q⟩ := hsp
      exact ⟨σ1, H1, I1.ofTry okX, q⟩
    | cont =>
      obtain ⟨σ1, H1, I1, q⟩ := hsp
      exact ⟨σ1, H1, I1.ofTry okX, q⟩
  · obtain ⟨a, B, sI, pins1, σ1, H1, cls, d, rfl, I1, below, upS, skyB, aNone, sameOs, bareG, wish⟩ := xx
    have IX : Inv X pins σ1 H1 sI := I1.ofTry okX
    have skyX : Sky B (X.env :: X.outer) a (L2N.Zn cls d) X.env.locals t.heap := hst ▸ skyB
    show wpAny (model X.prog X.w) X.A (noteFrame (.ref a) X.env) _ _ _
    refine L2N.Sky.land L2N.Zn.steady frA hfr skyX fun g3 fly3 up3 => ?_
    have I3 : Inv X pins σ1 H1 { t with heap := g3 } := IX.landed below fly3.1 (upS.trans up3) sameOs bareG
    obtain ⟨ob3, arr3, get3, zc3, dat3⟩ := fly3.there
    have offF : ∀ {g : Heap} {ob : Obj} {arr : Array Value}, g.FunFrames B (X.env :: X.outer) → g.get? a = some ob → ob.data = .fields arr → a ∉ frs (X.env :: X.outer) := fun {g ob arr} ff e dd hm => by
      obtain ⟨_, ob', e', nofld⟩ := ff.mem hm
      rw [e] at e'
      cases e'
      exact nofld _ dd
    have aOff := offF fly3.2.2.1 get3 dat3
    have aLoc : a ≠ X.env.locals := fun z => aOff (List.mem_filterMap.mpr ⟨X.env, List.mem_cons_self, by rw [hfr, z]⟩)
    have apart : ∀ {b o}, sI.heap.get? b = some o → b ∉ frs X.stack → b ≠ a := fun {b o} e hb z => by
      have q := below b o e hb
      rw [z, fly3.2.1] at q
      cases q
    have new0 : X.s_0.heap.get? a = none := by
      cases e : X.s_0.heap.get? a with
      | none => rfl
      | some o =>
        obtain ⟨o', e'⟩ := IX.base.there a o e (by rw [hex]; exact fun z => nomatch z)
        exact absurd rfl (apart e' (by rw [hst]; exact aOff))
    have pinsOff : ∀ p ∈ X.pn ++ pins, p.1 ≠ a := fun p hp => by
      obtain ⟨e1, _, e3, e4, _⟩ := IX.pin p hp
      refine apart e1 fun hm => ?_
      rw [hst] at hm
      obtain ⟨env, he, q⟩ := List.mem_filterMap.mp hm
      rcases List.mem_cons.mp he with z | z
      · rw [z, hfr] at q
        exact e3 (Option.some.inj q).symm
      · exact e4 (List.mem_filterMap.mpr ⟨env, z, q⟩)
    -- the state of a suite
    have inSuite : ∀ {g : Heap} {ob : Obj} {arr : Array Value}, HandSPX.FlyingZ B (X.env :: X.outer) a (L2N.Zn cls d) g → t.heap.UpToSlots g → g.get? a = some ob → ob.data = .fields arr → Inv X pins σ1 (upd H1 a (excO a ob)) { t with heap := g } :=
      fun {g ob arr} fl up e dd => inv_track (IX.landed below fl.1 (upS.trans up) sameOs bareG) new0 e aNone aLoc (fun v z => by rw [dd] at z; cases z) pinsOff
    have S3 := inv_in (a := a) I3
    have go : ∀ {hs : List ExceptHandler} {ws : List (Value × Option Nat × (Addr → TS))}, Clauses X hs ws → wishes X.K Wout D ws cls d σ1 H1 → wpAny (model X.prog X.w) X.A (handleBy (.ref a) X.env hs) (SP X pins D) X.xe { t with heap := g3 } := by
      intro hs ws hk
      have looksT : PySem.W.Looks (model X.prog X.w) g3 (typeOf (.ref a)) cls := fun _ _ _ _ k q => wpAny_typeOf_ref (k _ _ get3) (by rw [zc3.1]; exact q)
      have test : ∀ {x : Str} {c : Value} {np : Pos} {Q : Value → Shared → Prop} {E : Value → Shared → Prop}, Names X x c → Q c { t with heap := g3 } → wpAny (model X.prog X.w) (X.A.mark (some (.ref a))) (eval (.Name x np) X.env) Q E { t with heap := g3 } := fun {x c np Q E} hc q => by
        obtain ⟨hg, hdbg, hm | ⟨hm, hv, hnn⟩⟩ := hc
        · exact ld_glob (X := X.suite a (X.pn ++ pins)) S3 hg hm q hdbg
        · exact ld_blt (X := X.suite a (X.pn ++ pins)) S3 hg hm hv q hnn hdbg
      induction hk with
      | nil =>
        intro wq
        refine wpAny_handleBy_nil ?_
        obtain ⟨q1, q2, q3, ob, arr, tb0, obT, arrT, e1, e2, e3, e4, e5⟩ := id fly3
        unfold PySem.passOn
        refine wpAny_bind (wpAny_field e1 e3 e4 ?_)
        rw [if_neg (show ¬ ((Value.ref tb0 == Value.none) = true) from by simp)]
        have last : wpAny (model X.prog X.w) X.A (setFlight (.ref a) X.env.frame) (fun _ s4 => wpAny (model X.prog X.w) X.A (throw (.ref a) : Sem Flow) (SP X pins D) X.xe s4) X.xe { t with heap := g3 } := by
          rw [hfr]
          refine HandSPX.setFlight_upZ fly3 fun g4 held4 up4 => wpAny_throw (tk _ _ ?_)
          exact ⟨a, B, sI, pins, σ1, H1, cls, d, rfl, IX, below, (upS.trans up3).trans up4, .inr (.inr (by rw [hst]; exact held4)), aNone, sameOs, bareG, wq⟩
        first
          | exact wpAny_bind (wpAny_pure (wpAny_bind last))
          | exact wpAny_bind last
      | @only x c ts b₀ suite np pos' hds2 l2 hc hsu r ih =>
        intro wq
        obtain ⟨b, hb1, yes, no⟩ := wq
        refine wpAny_handleBy_cons (codeAny_handlers_test ?_) (fun z => nomatch z)
        refine test hc ((PySem.W.exm_one (M := model X.prog X.w) I3.kIn looksT hb1).here ?_)
        cases b with
        | false => exact ih (no rfl)
        | true =>
          refine codeAny_handlers_suite (HandSPX.lands_againZ fly3 fun g4 fly4 up4 => ?_)
          obtain ⟨ob4, arr4, get4, zc4, dat4⟩ := fly4.there
          have I4 := inSuite fly4 (up3.trans up4) get4 dat4
          refine wpAny_mono ((hsu a (X.pn ++ pins)).run [] _ _ _ _ (inv_in I4) (yes rfl a ob4 aNone zc4 ⟨_, dat4⟩)) (fun fl s6 hsp => ?_) (fun _ _ z => z.elim)
          cases fl with
          | next =>
            obtain ⟨_, _, I6, q6⟩ := hsp
            exact ⟨_, _, inv_out I6 okX, q6⟩
          | ret u =>
            obtain ⟨_, _, _, I6, rv, q6⟩ := hsp
            exact ⟨_, _, _, inv_out I6 okX, rv, q6⟩
          | brk =>
            obtain ⟨_, _, I6, q6⟩ := hsp
            exact ⟨_, _, inv_out I6 okX, q6⟩
          | cont =>
            obtain ⟨_, _, I6, q6⟩ := hsp
            exact ⟨_, _, inv_out I6 okX, q6⟩
      | @as x n c i ts b₀ suite np pos' hds2 l2 hc hN hi hln hsu r ih =>
        intro wq
        obtain ⟨b, hb1, yes, no⟩ := wq
        refine wpAny_handleBy_cons (codeAny_handlers_test ?_) (fun z => nomatch z)
        refine test hc ((PySem.W.exm_one (M := model X.prog X.w) I3.kIn looksT hb1).here ?_)
        cases b with
        | false => exact ih (no rfl)
        | true =>
          refine codeAny_handlers_suite_as (HandSPX.lands_againZ fly3 fun g4 fly4 up4 => ?_)
          obtain ⟨ob4, arr4, get4, zc4, dat4⟩ := fly4.there
          have I4 := inSuite fly4 (up3.trans up4) get4 dat4
          refine store_ok (X := X.suite a (X.pn ++ pins)) (v := .ref a) (inv_in I4) hN hi (.inl hln) rfl (fun s5 I5 => ?_) (.inr hln)
          refine wpAny_mono ((hsu a (X.pn ++ pins)).run [] s5 _ _ _ I5 (yes rfl a ob4 aNone zc4 ⟨_, dat4⟩)) (fun fl s6 hsp => ?_) (fun _ _ z => z.elim)
          have gone : ∀ {σ6 : L2.St} {H6 : Hp} {Q : Shared → Prop}, Inv (X.suite a (X.pn ++ pins)) [] σ6 H6 s6 → (∀ s7, Inv X pins (σ6.set i none) H6 s7 → Q s7) → wpAny (model X.prog X.w) X.A (do bindName X.env n .none; unbindBehindTheSuite X.env n pos') (fun _ s7 => Q s7) X.xe s6 :=
            fun {σ6 H6 Q} I6 hQ => gone_ok (inv_out I6 okX) hN hi hln hQ
          cases fl with
          | next =>
            obtain ⟨_, _, I6, q6⟩ := hsp
            exact gone I6 fun _ I7 => ⟨_, _, I7, q6⟩
          | ret u =>
            obtain ⟨_, _, _, I6, rv, q6⟩ := hsp
            exact gone I6 fun _ I7 => ⟨_, _, _, I7, rv, q6⟩
          | brk =>
            obtain ⟨_, _, I6, q6⟩ := hsp
            exact gone I6 fun _ I7 => ⟨_, _, I7, q6⟩
          | cont =>
            obtain ⟨_, _, I6, q6⟩ := hsp
            exact gone I6 fun _ I7 => ⟨_, _, I7, q6⟩
    exact go hcl wish
end
end PW
namespace PW
open PySem PySem.Spec PyProof.Rows L2
section
variable {X : Cx} {pins : List (Addr × Obj)} {σ : L2.St} {H : Hp} {s : Shared} {a C : Addr} {oe : Obj} {d : Option Addr}
/-- a tracked exception, by its class and its dict -/
structure ExcAt (H : Hp) (a C : Addr) (oe : Obj) (d : Option Addr) : Prop where
  at_ : H a = some (excO a oe)
  zc : L2N.Zn (.ref C) d oe
  fl : ∃ vs, oe.data = .fields vs
  dc : d = none ∨ ∃ dd fs, d = some dd ∧ H dd = some (.xd fs)
theorem ExcAt.inst (I : Inv X pins σ H s) (E : ExcAt H a C oe d) : ∃ od, PySem.W.InstAt s.heap a oe C od ∧ ∀ dd fs, d = some dd → H dd = some (.xd fs) → ∃ o mA, od = some o ∧ s.heap.Ns1 dd mA ∧ (∀ f, RelO (fs.lookup f) (mA f)) ∧ s.heap.get? dd = some o := by
  have ha : s.heap.get? a = some oe := (show _ ∧ _ ∧ _ from I.hok a _ E.at_).1
  obtain ⟨vs, hv⟩ := E.fl
  have no : PySem.W.notCls oe = true := by unfold PySem.W.notCls; rw [hv]
  rcases E.dc with hd | ⟨dd, fs, hd, hx⟩
  · refine ⟨none, ⟨ha, E.zc.1, no, ?_⟩, fun dd fs e => by rw [hd] at e; cases e⟩
    rw [E.zc.2.1, hd]
    trivial
  · have hk : ObjOk X.prog X.w H s.heap dd (.xd fs) := I.hok dd _ hx
    obtain ⟨mA, hns, hr⟩ := hk
    obtain ⟨o, ho, hl⟩ := lookIn_ns hns
    refine ⟨some o, ⟨ha, E.zc.1, no, ?_⟩, fun dd' fs' e1 e2 => ?_⟩
    · rw [E.zc.2.1, hd]
      exact ho
    · rw [hd] at e1
      cases e1
      rw [hx] at e2
      cases e2
      exact ⟨o, mA, rfl, hns, hr, ho⟩
end
/-- isinstance(e, c), e a tracked exception -/
def rIsT (K : PySem.W.Frag) : List V → Hp → VK → Prop := fun xs H Q => ∃ (a C : Addr) (oe : Obj) (d : Option Addr) (c : V) (cv : Value) (b : Bool), xs = [.ref a, c] ∧ ExcAt H a C oe d ∧ L2.ExcC K C ∧ (∀ u, RelV c u → u = cv) ∧ PySem.W.kitOne K (.ref C) cv = some b ∧ Q (.bl b) H
theorem call_isT {X : Cx} : CallR X (.builtin "isinstance") (rIsT X.K) := by
  intro pins s σ H xs us Q I r h
  obtain ⟨a, C, oe, d, c, cv, b, rfl, E, xc, hcv, e, q⟩ := h
  cases r with
  | cons ra rr =>
    cases rr with
    | cons rc rr =>
      cases rr
      cases ra
      have ec := hcv _ rc
      subst ec
      obtain ⟨od, J, _⟩ := E.inst I
      obtain ⟨cd, hc, _⟩ := PySem.W.any_some xc.hd
      exact PySem.W.kia_one (PySem.W.kitx_exc (by rw [hc]; rfl) xc.hg xc.hk xc.hs xc.ha xc.hn xc.ht xc.hm) I.kIn J e (fun z => nomatch z) fun tk => ⟨.bl b, H, I.kept (t' := tk) fun _ _ z => z, rfl, q⟩
/-- e.f, e a tracked exception -/
def tXfT (K : PySem.W.Frag) (f : Str) (te : TE) : TE := fun σ H Q => te σ H fun x H1 => ∃ (a C : Addr) (oe : Obj) (dd : Addr) (fs : List (Str × V)) (v : V), x = .ref a ∧ ExcAt H1 a C oe (some dd) ∧ XfC K C ∧ PySem.W.findIn K (.ref C) f = some none ∧ H1 dd = some (.xd fs) ∧ fs.lookup f = some v ∧ Q v H1
theorem pe_xfT {X : Cx} {e : Expr} {te : TE} {pos : Pos} {n : Str} (he : PE X e te) (hb : attributeBase e n X.env (eval e X.env) = eval e X.env := by rfl) : PE X (.Attribute e n pos) (tXfT X.K n te) := by
  refine ⟨fun pins s σ H Q I h => ?_⟩
  refine attr_of hb (thn (he.run pins s σ H _ I h) fun u s1 hh => ?_)
  obtain ⟨x, H1, I1, rx, a, C, oe, dd, fs, v, ex, E, T, hno, hx, l, q⟩ := hh
  subst ex
  obtain rfl : u = Value.ref a := rx
  obtain ⟨od, J, hd⟩ := E.inst I1
  obtain ⟨o, mA, eo, hns, hr, ho⟩ := hd dd fs rfl hx
  subst eo
  obtain ⟨o2, ho2, hl⟩ := lookIn_ns hns
  rw [ho] at ho2
  cases ho2
  obtain ⟨w, hw, rw'⟩ := RelO.some_of (v := v) (o := mA n) (by rw [← l]; exact hr n)
  exact HandSPX.exc_get I1.kIn J T.ga T.gg T.exC (PySem.W.findObj_own T.hdC hno rfl (by rw [hl, hw])) (handed_of rw') ⟨v, H1, I1.tok _, rw', q⟩

/-! ### defs that may be called in an except suite -/
structure FnT (P : Program) (w : World) (K : PySem.W.Frag) (mg : Str → Option Value) (base : Heap) (CX : CXT) (k : Nat) (f : Addr) (fd : FuncData) (ps : List Str) (sp : Sp) : Prop where
  len : ∀ vs H Q E, sp vs H Q E → vs.length = ps.length
  run : ∀ (A : Around) (outer : List Env) (s : Shared) (H : Hp) (args : Args) (us : List Value) (vs : List V) (Q : VK) (E : XK), L2H.RoomH k A → Env0 P w K mg base A outer s H → BindsTo s fd args (ps.zip us) → Vals vs us → sp vs H Q E →
    codeAny (model P w) A (.call (.ref f) args) (CR CX outer P w H s Q E) s
/-- the context of such a def's body -/
def cxT (CX : CXT) (P : Program) (w : World) (K : PySem.W.Frag) (mg : Str → Option Value) (base : Heap) (N : List Str) (qual : Str) (scope : Scope) (f : Addr) (cd : Value) (A : Around) (outer : List Env) (s : Shared) (H : Hp) (E : XK) : Cx :=
  { cxOf CX P w K mg base N qual scope f cd A outer s H E with calm := false }
theorem startT {CX : CXT} {P : Program} {w : World} {K : PySem.W.Frag} {mg : Str → Option Value} {base : Heap} {N ps : List Str} {qual : Str} {scope : Scope} {f : Addr} {cd : Value} {A : Around} {outer : List Env} {s s1 : Shared} {H : Hp} {E : XK} {us : List Value} {vs : List V}
    (Sc : FnScope N ps scope) (env0 : Env0 P w K mg base A outer s H) (hlen : vs.length = ps.length) (rel : Vals vs us)
    (called : InCallC s s.heap.objs.size (bindL (envOfC qual scope s.heap.objs.size f cd).kindOf (ps.zip us) fun _ => none) (cellsFrom (s.heap.objs.size + 1) scope.names []) (bindC (envOfC qual scope s.heap.objs.size f cd).kindOf (ps.zip us) fun _ => none) s1) :
    Inv (cxT CX P w K mg base N qual scope f cd A outer s H E) [] (L2.start N vs) H s1 := by
  obtain ⟨g1, tk, rfl, kept⟩ := called.done
  have noX : ∀ {b : Addr}, b ∈ (cxT CX P w K mg base N qual scope f cd A outer s H E).ex → False := fun {b} z => nomatch (show b ∈ ([] : List Addr) from z)
  have plen : ps.length ≤ N.length := by
    have e := congrArg List.length Sc.pre
    rw [List.length_take] at e
    omega
  have pnd : ps.Nodup := by
    rw [← Sc.pre]
    exact Sc.nd.sublist (List.take_sublist _ _)
  constructor
  · refine ⟨env0.mod, Sc.kind, rfl, rfl, Nat.le_refl _, fun y z c e1 e2 => name_of_addr called.apart (PySem.mem_of_lookup e1) (PySem.mem_of_lookup e2), fun y hy => ?_, fun y c _ e => Nat.le_of_lt (called.above y c (PySem.mem_of_lookup e)), (fun z => nomatch (show false = true from z)), Around.frames_deeper env0.frames, .inr ⟨rfl, rfl⟩,
      fun b z => (noX z).elim, env0.bs, env0.bsz, fun b _ _ z => noX z, fun b z => (noX z).elim, env0.funs, env0.frf⟩
    rcases (show scope.names.lookup y = some .cell ∨ scope.names.lookup y = some .free from hy) with hy | hy
    · exact cell_has hy
    · exact absurd rfl (Sc.nofree _ (PySem.mem_of_lookup hy))
  · rfl
  · exact env0.bare
  · exact Un.kept kept
  · refine ⟨_, called.toInCall.ns, fun i y v e1 e2 _ => ?_⟩
    have hi : i < vs.length := by
      rcases Nat.lt_or_ge i vs.length with z | z
      · exact z
      · unfold L2.start at e2
        rw [List.getElem?_append_right (by simpa using z), List.getElem?_replicate] at e2
        split at e2 <;> cases e2
    have hv : vs[i]? = some v := by
      unfold L2.start at e2
      rw [List.getElem?_append_left (by simpa using hi), List.getElem?_map] at e2
      cases e : vs[i]? with
      | none => rw [e] at e2; cases e2
      | some w => rw [e] at e2; cases e2; rfl
    have hp : ps[i]? = some y := by
      rw [← Sc.pre, List.getElem?_take_of_lt (by omega)]
      exact e1
    obtain ⟨u, hu, ru⟩ := rel.get hv
    refine ⟨u, ru, ?_⟩
    rcases Sc.par y (List.mem_of_getElem? hp) with z | z
    · exact .inl ⟨z, bindL_get pnd hp hu z⟩
    · obtain ⟨c, e⟩ := cell_has (n := s.heap.objs.size + 1) z
      have q := called.cell y c e
      rw [bindC_get pnd hp hu (by show scope.names.lookup y ≠ _; rw [z]; decide)] at q
      exact .inr ⟨.inl z, c, e, q⟩
  · exact fun y c e => ⟨_, called.cell y c e⟩
  · exact env0.hok.fresh (Nat.le_refl _)
  · exact fun y c e => env0.hok.fresh (Nat.le_of_lt (called.above y c (PySem.mem_of_lookup e)))
  · exact fun q hq => nomatch (show q ∈ ([] : List (Addr × Obj)) from hq)
  · exact env0.hok.kept kept
  · unfold L2.start
    show _ = N.length
    rw [List.length_append, List.length_map, List.length_replicate]
    omega
theorem fnT_of {P : Program} {w : World} {K : PySem.W.Frag} {mg : Str → Option Value} {base : Heap} {x qual : Str} {st : Stmt} {f : Addr} {fd : FuncData} {N ps : List Str} {k : Nat} {sp : Sp} (F : Fun K x qual st f fd) (Sc : FnScope N ps (defScope st)) (len : ∀ vs H Q E, sp vs H Q E → vs.length = ps.length)
    (body : ∀ (cdv : Value) (A : Around) (outer : List Env) (s : Shared) (H : Hp) (vs : List V) (Q : VK) (E : XK), L2H.RoomH k (A.deeper (envOfC qual (defScope st) s.heap.objs.size f cdv)) → sp vs H Q E →
      ∃ t, PSs (cxT (L2N.CX P w) P w K mg base N qual (defScope st) f cdv A outer s H E) (defBody st) t ∧ t { nx := fun _ H' => Q .non H', rt := Q } (L2.start N vs) H) : FnT P w K mg base (L2N.CX P w) (k + 1) f fd ps sp := by
  obtain ⟨oc, od, kV, doc, pm, an, cdv, ct, osl, rfl, lk, hcd⟩ := F.ex
  refine ⟨len, fun A outer s H args us vs Q E room env0 binds rel hsp => ?_⟩
  have keepB : ∀ b o, base.get? b = some o → s.heap.get? b = some o := fun b o e => (env0.bs b o e).1
  have inK : K.In s.heap := env0.mod.kin.keeps keepB
  have kinds : ∀ y ∈ ps.zip us, (defScope st).names.lookup y.1 = some .local ∨ ((defScope st).names.lookup y.1 = some .cell ∧ ((cellsFrom (s.heap.objs.size + 1) (defScope st).names []).lookup y.1).isSome = true) := fun ⟨n, v⟩ hy =>
    (Sc.par n (List.of_mem_zip hy).1).imp id fun z => ⟨z, PySem.W.cellsFrom_some _ _ _ (.inl z)⟩
  refine codeAny_call_function room.depth (inK _ _ lk) rfl Sc.co Sc.gen rfl (PySem.W.codeRec_of inK hcd) (binds _ _ _ _ ?_)
  refine wpAny_newFunctionEnv_cells Sc.kind kinds fun env ee s1 called => ?_
  subst ee
  refine ⟨(env0.mod.nolimit.keeps keepB).keeps called.toInCall.keep, codeAny_func ?_⟩
  obtain ⟨t, ht, hq⟩ := body cdv A outer s H vs Q E (room.deeper _) hsp
  have start := startT (CX := L2N.CX P w) (E := E) Sc env0 (len _ _ _ _ hsp) rel called
  refine wpAny_mono (ht.run [] s1 (L2.start N vs) H _ start hq) (fun fl s' hs => ?_) fun _ _ z => z
  cases fl with
  | next =>
    obtain ⟨_, H', J, q⟩ := hs
    exact ⟨V.non, H', J.os, J.bare, J.base, J.hok, rfl, q⟩
  | ret u =>
    obtain ⟨v, _, H', J, rv, q⟩ := hs
    exact ⟨v, H', J.os, J.bare, J.base, J.hok, rv, q⟩
  | brk =>
    obtain ⟨_, _, _, q⟩ := hs
    exact q.elim
  | cont =>
    obtain ⟨_, _, _, q⟩ := hs
    exact q.elim
theorem FnT.mono {P : Program} {w : World} {K : PySem.W.Frag} {mg : Str → Option Value} {base : Heap} {CX : CXT} {j k : Nat} {f : Addr} {fd : FuncData} {ps : List Str} {sp : Sp} (F : FnT P w K mg base CX j f fd ps sp) (h : j ≤ k) : FnT P w K mg base CX k f fd ps sp :=
  ⟨F.len, fun A outer s H args us vs Q E r => F.run A outer s H args us vs Q E (r.mono h)⟩
theorem FnT.ok {P : Program} {w : World} {K : PySem.W.Frag} {mg : Str → Option Value} {base : Heap} {CX : CXT} {k : Nat} {f : Addr} {fd : FuncData} {ps : List Str} {sp : Sp} (F : FnT P w K mg base CX k f fd ps sp) : FnOk P w K mg base CX k f fd ps sp :=
  ⟨F.len, fun A outer s H args us vs Q E r => F.run A outer s H args us vs Q E (L2H.roomH_of r)⟩
section
variable {X : Cx} {CX : CXT} {k : Nat} {f : Addr} {fd : FuncData} {ps : List Str} {sp : Sp} {E : L2.St → XK} {x : Str} {q pos : Pos} {e : Expr} {es : List Expr} {t : TA}
theorem run_fnT {pins : List (Addr × Obj)} {σ : L2.St} {H : Hp} {s : Shared} {Q : VK} {us : List Value} {vs : List V} (F : FnT X.prog X.w X.K X.mg X.base CX k f fd ps sp) (room : L2H.RoomH k X.A) (hb : Binds X.K fd ps []) (hx : PassesAt CX X σ (E σ))
    (I : Inv X pins σ H s) (r : Vals vs us) (h : sp vs H Q (E σ)) : wpAny (model X.prog X.w) X.A (call (.ref f) us) (EP X pins σ Q) X.xe s := by
  have ul : us.length = ps.length := r.length.symm.trans (F.len _ _ _ _ h)
  have bb := hb s us I.kIn (by rw [List.append_nil]; exact ul)
  rw [List.append_nil] at bb
  refine wpAny_call (codeAny_mono (F.run X.A X.stack s H ⟨us, []⟩ us vs Q (E σ) room I.env0 bb r h) fun res s' hq => ?_)
  cases res with
  | error e => exact hx pins H s e s' I hq
  | ok fl =>
    cases fl with
    | ret u => exact I.after hq
    | next => exact hq.elim
    | brk => exact hq.elim
    | cont => exact hq.elim
theorem pe_callT (F : FnT X.prog X.w X.K X.mg X.base CX k f fd ps sp) (room : L2H.RoomH k X.A) (hg : Gl X x) (hm : X.mg x = some (.ref f)) (hk : PySem.W.keepIn X.K (.ref f) = true) (hb : Binds X.K fd ps []) (hx : ∀ σ, PassesAt CX X σ (E σ))
    (ha : PA X (e :: es) t) (hdb : (x == ("__debug__" : Str)) = false := by decide) (he : starEach (e :: es) X.env = (false, eval e X.env) :: starEach es X.env := by rfl) (hpl : (backTo pos (starEach es X.env)).any (·.1) = false := by rfl) :
    PE X (.Call (.Name x q) (e :: es) [] pos) (tCallS sp E t) := by
  refine ⟨fun pins s σ H Q I h => ?_⟩
  refine wpAny_Call_Name_kw (ld_glob I hg hm ?_ hdb)
  refine PySem.W.callWith_K (h₀ := X.base) I.ok.mod.kin hk (thn (ha.run pos pins s σ H _ I h) fun us s1 ⟨vs, H1, I1, r, hs⟩ => ⟨I1.kIn, ?_⟩) he hpl
  exact run_fnT F room hb (hx σ) I1 r hs
end
end PW
namespace PW
open PySem PySem.Spec PyProof.Rows L2
theorem roomT {k : Nat} {A : Around} (r : Room k A) : L2H.RoomH k A := L2H.roomH_of r
theorem roomS {X : Cx} {k : Nat} (r : L2H.RoomH k X.A) (a : Addr) (pn : List (Addr × Obj)) : L2H.RoomH k (X.suite a pn).A := ⟨r.dp, r.un⟩
theorem hu64H {k : Nat} {A : Around} (hr : L2H.RoomH k A) : A.units + 64 < cLine := by have := hr.un; omega
theorem hu65H {k : Nat} {A : Around} (hr : L2H.RoomH k A) : A.units + 65 < cLine := by have := hr.un; omega
section
variable {P : Program} {w : World} {K : PySem.W.Frag} {mg : Str → Option Value} {base : Heap}
/-- a def that may be called in an except suite, too -/
structure CalT (P : Program) (w : World) (K : PySem.W.Frag) (mg : Str → Option Value) (base : Heap) (k : Nat) (x : Str) (ps : List Str) (S : FS) : Prop where
  ex : ∃ f fd, FnT P w K mg base (L2N.CX P w) k f fd ps (spOf K S) ∧ mg x = some (.ref f) ∧ PySem.W.keepIn K (.ref f) = true ∧ Binds K fd ps []
theorem CalT.cal {k : Nat} {x : Str} {ps : List Str} {S : FS} (C : CalT P w K mg base k x ps S) : Cal P w K mg base k x ps S := by
  obtain ⟨f, fd, F, r⟩ := C.ex
  exact ⟨f, fd, F.ok, r⟩
theorem Dfd.calT {x : Str} {ps N : List Str} {st : Stmt} {k : Nat} {S : FS} {wb : SW} (D : Dfd K mg x ps st) (Sc : FnScope N ps (defScope st)) (len : ∀ args o r e, S args o r e → args.length = ps.length)
    (body : ∀ (f : Addr) (cdv : Value) (A : Around) (outer : List Env) (s : Shared) (H : Hp) (E : XK), L2H.RoomH k (A.deeper (envOfC x (defScope st) s.heap.objs.size f cdv)) →
      PSs (cxT (L2N.CX P w) P w K mg base N x (defScope st) f cdv A outer s H E) (defBody st) (tS K (fun cls d _ H => E cls d H) wb))
    (pure : ∀ args o ret exc, S args o ret exc → wb (fun x s => exc x (cutL o.length s.o)) (pst0 args o N.length) (bodyE o.length ret)) : CalT P w K mg base (k + 1) x ps S := by
  obtain ⟨f, fd, F, m, b⟩ := D.ex
  exact ⟨f, fd, fnT_of F Sc (fn_len len) fun cdv A outer s H vs Q E hr h => ⟨_, body f cdv A outer s H E hr, fn_core pure vs H Q E h⟩, m, F.kp, b⟩
end
section
variable {X : Cx} {W : WX} {k j : Nat} {ps : List Str} {S : FS} {x : Str} {p pos : Pos} {e : Expr} {es : List Expr} {ws : AW} {sp : Sp} {E : L2.St → XK}
/-- the part of a call's rule that isn't the call -/
theorem call_of (h : PA X (e :: es) (tA X.K W ws)) (c : ∀ {t : TA}, PA X (e :: es) t → PE X (.Call (.Name x p) (e :: es) [] pos) (tCallS (spOf X.K S) (WE W) t)) : PE X (.Call (.Name x p) (e :: es) [] pos) (tE X.K W (wCall S ws)) := by
  refine PE.imp (c h) fun σ H Q ⟨H0, F0, A0, s, T, kx, kk, w, xl, h, q⟩ => ar_of w xl h fun vs s1 us H1 h1 e1 w1 => ?_
  obtain ⟨xs, s2, hS, e2, pl, w2⟩ := prep_ok vs us s1 T _ e1 w1 h1
  obtain ⟨F1, A, w2⟩ := w2
  have w3 := w2.sub (T' := T) fun t h => List.mem_append_right _ h
  refine ⟨H1, F1, [], xs, [], _, _, ⟨F1, [], ?_⟩, rfl, hS, fun r o hr ho v H' ret => ?_, fun y o hx ho d H' w' => ?_⟩
  · refine ⟨⟨Same.refl _, w2.fz.g, Same.refl _, fun p _ h => h⟩, List.prefix_refl _, rfl, List.nodup_nil, (fun _ z => nomatch z), (fun n p c z => by simp at z), (by rw [List.length_map, List.length_map, e2]), (fun i v hv => ?_), (fun _ z => nomatch z)⟩
    obtain ⟨u, a, b⟩ := args_wd w2 xs us e2 pl (fun t h => List.mem_append_left _ h) i v hv
    exact ⟨u, a, b _⟩
  · cases List.eq_nil_of_length_eq_zero ho
    cases r with
    | d z =>
      obtain ⟨F', A', w'⟩ := ret
      have dz : Dq X.K F' v z := w'.tm (.d z, v) List.mem_cons_self
      exact q _ _ hr v H' ⟨F', A, (w3.after w'.fz).push dz⟩
    | new zs =>
      obtain ⟨F', A', w'⟩ := ret
      obtain ⟨qq, hq, rfl⟩ := w'.tm (.own 0, v) List.mem_cons_self
      have ad := w'.ad qq (List.mem_of_getElem? hq)
      have oc := w'.oc 0 qq (.dl zs) hq rfl
      have w4 := w3.after w'.fz
      have nin : qq ∉ A := fun hA => (w2.ad qq hA).2 ad.1
      refine q _ _ hr _ H' ⟨F', A ++ [qq], (w4.addL (c := .dl zs) nin (w3.fz.h.free ad.1) ad.2 oc).push ⟨qq, ?_, rfl⟩⟩
      rw [← w4.len, List.getElem?_append_right (Nat.le_refl _), Nat.sub_self]
      rfl
  · obtain ⟨F', A', w'⟩ := w'
    have px : PVOk X.K F' A (.xd y.fs) (dV d) := w'.tm (.xd y.fs, dV d) List.mem_cons_self
    exact xl y s2 hx σ H' d ⟨F', A, (w3.after w'.fz).push px⟩
theorem c_callT (C : CalT X.prog X.w X.K X.mg X.base k x ps S) (tk : L2N.Takes X W) (hr : L2H.RoomH j X.A) (ha : PA X (e :: es) (tA X.K W ws)) (hk : k ≤ j := by decide) (hg : Gl X x := by rfl)
    (hdb : (x == ("__debug__" : Str)) = false := by decide) (he : starEach (e :: es) X.env = (false, eval e X.env) :: starEach es X.env := by rfl) (hpl : (backTo pos (starEach es X.env)).any (·.1) = false := by rfl) :
    PE X (.Call (.Name x p) (e :: es) [] pos) (tE X.K W (wCall S ws)) := by
  obtain ⟨f, fd, F, m, kp, b⟩ := C.ex
  exact call_of ha fun h => pe_callT F (hr.mono hk) hg m kp b (fun σ => L2N.passAt tk σ) h hdb he hpl
end
/-! ### what exceptions are: told of classes -/
abbrev MX := Addr → V → Option Bool
open Classical in
noncomputable def mxK (K : PySem.W.Frag) : MX := fun c v => if L2.ExcC K c then (match v with
  | .ref D => if PySem.W.exmOne K (.ref c) (.ref D) = PySem.W.kitOne K (.ref c) (.ref D) then PySem.W.exmOne K (.ref c) (.ref D) else none
  | .ty T => PySem.W.kitOne K (.ref c) (.type T)
  | _ => none) else none
/-- a class of exceptions, of the text -/
structure ClsX (K : PySem.W.Frag) (D : Addr) : Prop where
  b : PySem.W.subIn K (.ref D) (.type "BaseException") = some true
  t : PySem.W.typeIn K (.ref D) = some (.type "type")
  d : PySem.W.hasDictIn K D = true
  s : PySem.W.subIn K (.ref D) (.ref D) = some true
theorem mx_ref {K : PySem.W.Frag} {c D : Addr} {b : Bool} (xc : L2.ExcC K c) (xd : ClsX K D) (h : PySem.W.subIn K (.ref c) (.ref D) = some b) : mxK K c (.ref D) = some b := by
  obtain ⟨cd, hc, _⟩ := PySem.W.any_some xd.d
  have e2 : ((PySem.W.clsIn K D).isSome && PySem.W.typeIn K (.ref D) == some (.type "type")) = true := by rw [hc, xd.t]; rfl
  have e1 : (PySem.W.subIn K (.ref D) (.type "BaseException") == some true) = true := by rw [xd.b]; rfl
  have k : PySem.W.kitCls K (.ref c) (.ref D) = some b := (if_pos e2).trans h
  have e : PySem.W.exmOne K (.ref c) (.ref D) = some b := (if_pos e1).trans k
  have o : PySem.W.kitOne K (.ref c) (.ref D) = some b := by
    unfold PySem.W.kitOne
    by_cases z : (Value.ref c == Value.ref D) = true
    · have : c = D := Value.ref.inj (beq_iff_eq.mp z)
      subst this
      rw [xd.s] at h
      rw [if_pos z]
      exact h
    · rw [if_neg z]
      exact k
  unfold mxK
  rw [if_pos xc]
  show (if _ then _ else _) = _
  rw [e, o, if_pos rfl]
theorem mx_ty {K : PySem.W.Frag} {c : Addr} {T : String} {b : Bool} (xc : L2.ExcC K c) (hT : PySem.W.kitMeta T = true) (h : PySem.W.subIn K (.ref c) (.type T) = some b) : mxK K c (.ty T) = some b := by
  unfold mxK
  rw [if_pos xc]
  show PySem.W.kitOne K (.ref c) (.type T) = some b
  unfold PySem.W.kitOne
  rw [if_neg (by intro z; cases beq_iff_eq.mp z)]
  exact (if_pos hT).trans h
theorem mx_exm {K : PySem.W.Frag} {c D : Addr} {b : Bool} (h : mxK K c (.ref D) = some b) : PySem.W.exmOne K (.ref c) (.ref D) = some b := by
  unfold mxK at h
  split at h
  · have h : (if PySem.W.exmOne K (.ref c) (.ref D) = PySem.W.kitOne K (.ref c) (.ref D) then PySem.W.exmOne K (.ref c) (.ref D) else none) = some b := h
    split at h
    · exact h
    · cases h
  · cases h
theorem mx_kit {K : PySem.W.Frag} {c : Addr} {v : V} {b : Bool} (h : mxK K c v = some b) : L2.ExcC K c ∧ ∃ cv, (∀ u, RelV v u → u = cv) ∧ PySem.W.kitOne K (.ref c) cv = some b := by
  unfold mxK at h
  split at h
  · rename_i xc
    refine ⟨xc, ?_⟩
    cases v with
    | ref D =>
      have h : (if PySem.W.exmOne K (.ref c) (.ref D) = PySem.W.kitOne K (.ref c) (.ref D) then PySem.W.exmOne K (.ref c) (.ref D) else none) = some b := h
      split at h
      · rename_i e
        exact ⟨.ref D, fun u hu => hu, by rw [← e]; exact h⟩
      · cases h
    | ty T => exact ⟨.type T, fun u hu => hu, h⟩
    | _ => cases h
  · cases h
/-! ### try -/
def stO (oi : Option Nat) (v : PV) (s : PSt) : PSt := match oi with
  | none => s
  | some i => s.st i v
def clrO (oi : Option Nat) (s : PSt) : PSt := match oi with
  | none => s
  | some i => s.wipe [i]
def clrE (oi : Option Nat) (k : PEnds) : PEnds := { nx := fun s => k.nx (clrO oi s), rt := k.rt, bk := fun s => k.bk (clrO oi s), ct := fun s => k.ct (clrO oi s) }
def tryM (M : MX) : List (Addr × Option Nat × SW) → XV → PSt → KX → PEnds → Prop
  | [], x, s, kx, _ => kx x s
  | (c, oi, h) :: r, x, s, kx, k => ∃ b, M x.C (.ref c) = some b ∧ (b = true → h (fun _ _ => False) (stO oi (.exc x) s) (clrE oi k)) ∧ (b = false → tryM M r x s kx k)
def wTry (M : MX) (b : SW) (cl : List (Addr × Option Nat × SW)) : SW := fun kx s k => b (fun x s1 => tryM M cl x s1 kx k) s k
/-- isinstance(e, c), e what was caught -/
def wIsE (M : MX) (c : V) (we : EW) : EW := fun kx s k => we kx s fun x s1 => ∃ y b, x = .exc y ∧ M y.C c = some b ∧ k (.d (.bool b)) s1
inductive ClsOk (X : Cx) : List ExceptHandler → List (Addr × Option Nat × SW) → Prop
  | nil : ClsOk X [] []
  | only {x : Str} {c : Addr} {h : SW} {b₀ : Stmt} {suite : List Stmt} {np pos' : Pos} {hds : List ExceptHandler} {l : List (Addr × Option Nat × SW)} (hm : X.mg x = some (.ref c)) (hsu : ∀ (a : Addr) (pn : List (Addr × Obj)), PSs (X.suite a pn) (b₀ :: suite) (tS X.K W0 h)) (r : ClsOk X hds l)
      (hg : Gl X x := by rfl) (hdb : (x == ("__debug__" : Str)) = false := by decide) : ClsOk X (.ExceptHandler (some (.Name x np)) none (b₀ :: suite) pos' :: hds) ((c, none, h) :: l)
  | as {x n : Str} {c : Addr} {i : Nat} {h : SW} {b₀ : Stmt} {suite : List Stmt} {np pos' : Pos} {hds : List ExceptHandler} {l : List (Addr × Option Nat × SW)} (hm : X.mg x = some (.ref c)) (hN : X.N.Nodup) (hi : X.N[i]? = some n) (hln : X.env.kindOf n = some .local) (hsu : ∀ (a : Addr) (pn : List (Addr × Obj)), PSs (X.suite a pn) (b₀ :: suite) (tS X.K W0 h)) (r : ClsOk X hds l)
      (hg : Gl X x := by rfl) (hdb : (x == ("__debug__" : Str)) = false := by decide) : ClsOk X (.ExceptHandler (some (.Name x np)) (some n) (b₀ :: suite) pos' :: hds) ((c, some i, h) :: l)
theorem cls_only {X : Cx} {k : Nat} {x : Str} {c : Addr} {h : SW} {b₀ : Stmt} {suite : List Stmt} {np pos' : Pos} {hds : List ExceptHandler} {l : List (Addr × Option Nat × SW)} (hr : L2H.RoomH k X.A) (hm : X.mg x = some (.ref c)) (hsu : ∀ (a : Addr) (pn : List (Addr × Obj)), L2H.RoomH k (X.suite a pn).A → PSs (X.suite a pn) (b₀ :: suite) (tS X.K W0 h)) (r : ClsOk X hds l)
    (hg : Gl X x := by rfl) (hdb : (x == ("__debug__" : Str)) = false := by decide) : ClsOk X (.ExceptHandler (some (.Name x np)) none (b₀ :: suite) pos' :: hds) ((c, none, h) :: l) := .only hm (fun a pn => hsu a pn (roomS hr a pn)) r hg hdb
theorem cls_as {X : Cx} {k : Nat} {x n : Str} {c : Addr} {i : Nat} {h : SW} {b₀ : Stmt} {suite : List Stmt} {np pos' : Pos} {hds : List ExceptHandler} {l : List (Addr × Option Nat × SW)} (hr : L2H.RoomH k X.A) (hm : X.mg x = some (.ref c)) (hN : X.N.Nodup) (hi : X.N[i]? = some n) (hln : X.env.kindOf n = some .local) (hsu : ∀ (a : Addr) (pn : List (Addr × Obj)), L2H.RoomH k (X.suite a pn).A → PSs (X.suite a pn) (b₀ :: suite) (tS X.K W0 h)) (r : ClsOk X hds l)
    (hg : Gl X x := by rfl) (hdb : (x == ("__debug__" : Str)) = false := by decide) : ClsOk X (.ExceptHandler (some (.Name x np)) (some n) (b₀ :: suite) pos' :: hds) ((c, some i, h) :: l) := .as hm hN hi hln (fun a pn => hsu a pn (roomS hr a pn)) r hg hdb
theorem ClsOk.to {X : Cx} {hds : List ExceptHandler} {l : List (Addr × Option Nat × SW)} (h : ClsOk X hds l) : Clauses X hds (l.map fun x => (Value.ref x.1, x.2.1, fun _ => tS X.K W0 x.2.2)) := by
  induction h with
  | nil => exact .nil
  | only hm hsu r hg hdb ih => exact .only ⟨hg, hdb, .inl hm⟩ hsu ih
  | as hm hN hi hln hsu r hg hdb ih => exact .as ⟨hg, hdb, .inl hm⟩ hN hi hln hsu ih
section
variable {K : PySem.W.Frag} {H0 F0 : Hp} {A0 : List Addr} {s : PSt} {σ : L2.St} {T : List (PV × V)} {H : Hp}
theorem Wd.clr {oi : Option Nat} (w : Wd K H0 F0 A0 s σ T H) : Wd K H0 F0 A0 (clrO oi s) (stI oi none σ) T H := by
  cases oi with
  | none => exact w
  | some i =>
    obtain ⟨F, A, w⟩ := w
    refine ⟨F, A, w.rel rfl ?_ fun j v e => ?_⟩
    · show (s.r.set i none).length = (σ.set i none).length
      rw [List.length_set, List.length_set]
      exact w.sl
    · have e : (s.r.set i none)[j]? = some (some v) := e
      have ne : i ≠ j := fun z => by
        subst z
        by_cases hl : i < s.r.length
        · rw [List.getElem?_set_self hl] at e; cases e
        · rw [List.getElem?_eq_none (by rw [List.length_set]; omega)] at e; cases e
      rw [List.getElem?_set_ne ne] at e
      exact ⟨e, fun u hu => by show (σ.set i none)[j]? = _; rw [List.getElem?_set_ne ne]; exact hu⟩
theorem wish_of {W : WX} {D : Ends} {kx : KX} {k : PEnds} (xl : XL K H0 F0 A0 T W kx) (q1 : ∀ s', k.nx s' → ∀ σ' H', Wd K H0 F0 A0 s' σ' T H' → D.nx σ' H') (q2 : ∀ v s', k.rt v s' → ∀ u σ' H', Wd K H0 F0 A0 s' σ' ((v, u) :: T) H' → D.rt u H')
    (q3 : ∀ s', k.bk s' → ∀ σ' H', Wd K H0 F0 A0 s' σ' T H' → D.bk σ' H') (q4 : ∀ s', k.ct s' → ∀ σ' H', Wd K H0 F0 A0 s' σ' T H' → D.ct σ' H') (x : XV) (s' : PSt) (σ' : L2.St) (H' : Hp) (d : Option Addr) (w : Wd K H0 F0 A0 s' σ' ((.xd x.fs, dV d) :: T) H') :
    ∀ cl : List (Addr × Option Nat × SW), tryM (mxK K) cl x s' kx k → wishes K W D (cl.map fun x => (Value.ref x.1, x.2.1, fun _ => tS K W0 x.2.2)) (.ref x.C) d σ' H'
  | [], h => xl x s' h σ' H' d w
  | (c, oi, h) :: r, ⟨b, hb, yes, no⟩ => by
    refine ⟨b, mx_exm hb, fun e a oe ha hz hf => ?_, fun e => wish_of xl q1 q2 q3 q4 x s' σ' H' d w r (no e)⟩
    obtain ⟨F, A, w⟩ := w
    obtain ⟨d', ed, hd⟩ := (show PVOk K F A (.xd x.fs) (dV d) from w.tm _ List.mem_cons_self)
    have e' : d' = d := by
      cases d' <;> cases d <;> first | rfl | (cases ed; done) | (cases ed; rfl)
    subst e'
    have fa : F a = none := w.fz.g.free ha
    have w2 := (w.sub (T' := T) fun t m => List.mem_cons_of_mem _ m).newD (o := excO a oe) ha
    have pe : PVOk K (upd F a (excO a oe)) A (.exc x) (.ref a) := ⟨a, oe, d', rfl, upd_same, hz, hf, hd.same (same_new fa)⟩
    refine ⟨H0, F0, A0, stO oi (.exc x) s', T, fun _ _ => False, clrE oi k, ?_, XL.none, yes e, fun s1 h1 σ1 H1 w1 => q1 _ h1 _ _ w1.clr, q2, fun s1 h1 σ1 H1 w1 => q3 _ h1 _ _ w1.clr, fun s1 h1 σ1 H1 w1 => q4 _ h1 _ _ w1.clr⟩
    cases oi with
    | none => exact ⟨_, A, w2⟩
    | some i => exact ⟨_, A, w2.st pe⟩
end
section
variable {X : Cx} {W : WX} {body : List Stmt} {hd0 : ExceptHandler} {hds : List ExceptHandler} {cl : List (Addr × Option Nat × SW)} {pos p : Pos} {wb : SW} {a e : Expr} {we : EW}
theorem s_try (hst : X.stack = X.env :: X.outer) (hfr : X.env.frame = some X.env.locals) (hex : X.ex = []) (tk : L2N.Takes X W)
    (hbody : ∀ (W' : WX) (pn : List (Addr × Obj)) (xe : Value → Shared → Prop), L2N.Takes (X.tr pn xe) W' → PassesOwn (model X.prog X.w) X.A X.env xe → PSs (X.tr pn xe) body (tS X.K W' wb))
    (hcl : ClsOk X (hd0 :: hds) cl) : PS X (.Try body (hd0 :: hds) [] [] pos) (tS X.K W (wTry (mxK X.K) wb cl)) := by
  refine PS.imp (ps_tryT hst hfr hex tk hbody hcl.to) fun D σ H ⟨H0, F0, A0, s, T, kx, k, w, xl, h, q1, q2, q3, q4⟩ => ?_
  exact ⟨H0, F0, A0, s, T, _, k, w, fun x s' hx σ' H' d w' => wish_of xl q1 q2 q3 q4 x s' σ' H' d w' cl hx, h, q1, q2, q3, q4⟩
/-- isinstance of what was caught -/
theorem isE_of {c : V} {σ : L2.St} {H : Hp} {Q : VK} (h : tE X.K W (wIsE (mxK X.K) c we) σ H Q) : tE X.K W we σ H fun x H1 => rIsT X.K [x, c] H1 Q := by
  obtain ⟨H0, F0, A0, s, T, kx, k, w, xl, h, q⟩ := h
  refine un_of w xl h fun x s1 u H1 h1 w1 => ?_
  obtain ⟨y, b, rfl, hb, hk⟩ := h1
  obtain ⟨F, A, w1⟩ := w1
  obtain ⟨xc, cv, hcv, hkit⟩ := mx_kit hb
  obtain ⟨a, oe, d, rfl, hx, hz, hf, hd⟩ := (show PVOk X.K F A (.exc y) u from w1.tm _ List.mem_cons_self)
  refine ⟨a, y.C, oe, d, c, cv, b, rfl, ⟨w1.fz.g _ _ hx, hz, hf, ?_⟩, xc, hcv, hkit, q _ _ hk _ H1 ⟨F, A, (w1.sub fun t h => List.mem_cons_of_mem _ h).push (.bl _)⟩⟩
  cases hy : y.fs with
  | none => rw [hy] at hd; exact .inl hd
  | some l =>
    rw [hy] at hd
    obtain ⟨dd, vl, h1, h2, _⟩ := hd
    exact .inr ⟨dd, vl, h1, w1.fz.g _ _ h2⟩
theorem e_isE {x : Str} {C : Addr} {q1 : Pos} (hi : X.mg "isinstance" = none) (hm : X.mg x = some (.ref C)) (ha : PE X a (tE X.K W we)) (hgx : Gl X x := by rfl) (hg : Gl X "isinstance" := by rfl) (hdb : (x == ("__debug__" : Str)) = false := by decide)
    (he : starEach [a, .Name x q1] X.env = (false, eval a X.env) :: starEach [.Name x q1] X.env := by rfl) (he2 : starEach [.Name x q1] X.env = (false, eval (.Name x q1) X.env) :: starEach [] X.env := by rfl) (hpl : (backTo pos (starEach [.Name x q1] X.env)).any (·.1) = false := by rfl) :
    PE X (.Call (.Name "isinstance" p) [a, .Name x q1] [] pos) (tE X.K W (wIsE (mxK X.K) (.ref C) we)) := by
  have pt : PE X (.Name x q1) (tC (.ref C)) := pe_glob hgx hm rfl hdb
  exact PE.imp (pe_callB call_isT hg hi (by decide +kernel) (pa_cons ha (pa_cons pt pa_nil he2) he) (he := he) (hpl := hpl)) fun σ H Q h => isE_of h
theorem e_isEB {x : Str} {B : String} {q1 : Pos} (hi : X.mg "isinstance" = none) (hm : X.mg x = none) (hb : bootBuiltins x = some (.type B)) (ha : PE X a (tE X.K W we)) (hgx : Gl X x := by rfl) (hg : Gl X "isinstance" := by rfl) (hn : x ≠ "__name__" := by decide) (hdb : (x == ("__debug__" : Str)) = false := by decide)
    (he : starEach [a, .Name x q1] X.env = (false, eval a X.env) :: starEach [.Name x q1] X.env := by rfl) (he2 : starEach [.Name x q1] X.env = (false, eval (.Name x q1) X.env) :: starEach [] X.env := by rfl) (hpl : (backTo pos (starEach [.Name x q1] X.env)).any (·.1) = false := by rfl) :
    PE X (.Call (.Name "isinstance" p) [a, .Name x q1] [] pos) (tE X.K W (wIsE (mxK X.K) (.ty B) we)) := by
  have pt : PE X (.Name x q1) (tC (.ty B)) := pe_bltn hgx hm hb rfl hn hdb
  exact PE.imp (pe_callB call_isT hg hi (by decide +kernel) (pa_cons ha (pa_cons pt pa_nil he2) he) (he := he) (hpl := hpl)) fun σ H Q h => isE_of h
end
end PW
namespace PW
open PySem L2
/-! ### lists and tuples with owned things in them -/
section
variable {K : PySem.W.Frag} {F : Hp} {A : List Addr}
theorem PVAll.len : ∀ {ps : List PV} {us : List V}, PVAll K F A ps us → us.length = ps.length
  | [], [], _ => rfl
  | _ :: _, _ :: _, ⟨_, r⟩ => congrArg Nat.succ (PVAll.len r)
  | [], _ :: _, h => h.elim
  | _ :: _, [], h => h.elim
theorem PVAll.at : ∀ {ps : List PV} {us : List V}, PVAll K F A ps us → ∀ (i : Nat) v, ps[i]? = some v → ∃ u, us[i]? = some u ∧ PVOk K F A v u
  | [], [], _, _, _, e => by simp at e
  | p :: ps, u :: us, ⟨h, _⟩, 0, v, e => by
    have e : p = v := Option.some.inj e
    subst e
    exact ⟨u, rfl, h⟩
  | _ :: _, _ :: _, ⟨_, r⟩, i + 1, v, e => PVAll.at r i v e
  | [], _ :: _, h, _, _, _ => h.elim
  | _ :: _, [], h, _, _, _ => h.elim
theorem PVAll.of : ∀ {ps : List PV} {us : List V} {T : List (PV × V)}, us.length = ps.length → (∀ t ∈ ps.zip us, PVOk K F A t.1 t.2) → PVAll K F A ps us
  | [], [], _, _, _ => True.intro
  | p :: ps, u :: us, T, e, h => ⟨h (p, u) List.mem_cons_self, PVAll.of (T := T) (Nat.succ.inj e) fun t m => h t (List.mem_cons_of_mem _ m)⟩
  | [], _ :: _, _, e, _ => nomatch e
  | _ :: _, [], _, e, _ => nomatch e
theorem PVAll.app : ∀ {ps : List PV} {us : List V} {qs : List PV} {vs : List V}, PVAll K F A ps us → PVAll K F A qs vs → PVAll K F A (ps ++ qs) (us ++ vs)
  | [], [], _, _, _, h => h
  | _ :: _, _ :: _, _, _, ⟨h, r⟩, q => ⟨h, PVAll.app r q⟩
  | [], _ :: _, _, _, h, _ => h.elim
  | _ :: _, [], _, _, h, _ => h.elim
theorem PVAll.tk : ∀ {ps : List PV} {us : List V} (n : Nat), PVAll K F A ps us → PVAll K F A (ps.take n) (us.take n)
  | _, _, 0, _ => by rw [List.take_zero, List.take_zero]; exact True.intro
  | [], [], _ + 1, _ => True.intro
  | _ :: _, _ :: _, n + 1, ⟨h, r⟩ => ⟨h, PVAll.tk n r⟩
  | [], _ :: _, _ + 1, h => h.elim
  | _ :: _, [], _ + 1, h => h.elim
theorem PVAll.dr : ∀ {ps : List PV} {us : List V} (n : Nat), PVAll K F A ps us → PVAll K F A (ps.drop n) (us.drop n)
  | _, _, 0, h => h
  | [], [], _ + 1, _ => True.intro
  | _ :: _, _ :: _, n + 1, ⟨_, r⟩ => PVAll.dr n r
  | [], _ :: _, _ + 1, h => h.elim
  | _ :: _, [], _ + 1, h => h.elim
theorem PVAll.dl : ∀ {vs : List V} {xs : List PyData}, DqAll K F vs xs → PVAll K F A (xs.map PV.d) vs
  | _, _, .nil => True.intro
  | _, _, .cons h r => ⟨h, PVAll.dl r⟩
theorem PVAll.ati {ps : List PV} {us : List V} {i : Int} {v : PV} (h : PVAll K F A ps us) (e : atI ps i = some v) : ∃ u, atI us i = some u ∧ PVOk K F A v u := by
  unfold atI at e ⊢
  rw [h.len]
  cases hx : ixN ps.length i with
  | none => rw [hx] at e; cases e
  | some j =>
    rw [hx] at e
    exact h.at j v e
variable {H0 F0 : Hp} {A0 : List Addr} {s : PSt} {σ : L2.St} {T : List (PV × V)} {H : Hp}
theorem mown_at {u : V} {n : Nat} {ps : List PV} (w : WdF K H0 F0 A0 s σ T H F A) (h : (PV.own n, u) ∈ T) (ho : s.o[n]? = some (.ml ps)) : ∃ p vs, A[n]? = some p ∧ u = .ref p ∧ F p = none ∧ H p = some (.lst vs) ∧ PVAll K F A ps vs := by
  obtain ⟨p, hp, e⟩ := w.tm _ h
  obtain ⟨f, vs, h1, h2⟩ := w.oc n p _ hp ho
  exact ⟨p, vs, hp, e, f, h1, h2⟩
end
/-- the things in a mixed list or tuple -/
def mitems (s : PSt) : PV → Option (List PV)
  | .tp ps => some ps
  | .own n => match s.o[n]? with
    | some (.ml ps) => some ps
    | _ => none
  | _ => none
theorem mitems_own {s : PSt} {n : Nat} {ps : List PV} (h : mitems s (.own n) = some ps) : s.o[n]? = some (.ml ps) := by
  have h : (match s.o[n]? with | some (.ml ps) => some ps | _ => none) = some ps := h
  split at h
  · rename_i e; cases h; exact e
  · cases h
/-- the things of a tuple -/
def titems : PV → Option (List PV)
  | .tp ps => some ps
  | .d (.tuple xs) => some (xs.map PV.d)
  | _ => none
def wLstM (ws : AW) : EW := fun kx s k => ws kx s fun vs s1 => vs.length ≤ sizeLine ∧ k (.own s1.o.length) ⟨s1.r, s1.o ++ [.ml vs]⟩
def wTupM (ws : AW) : EW := fun kx s k => ws kx s fun vs s1 => vs.length ≤ sizeLine ∧ k (.tp vs) s1
def wIxM (wa wb : EW) : EW := fun kx s k => wa kx s fun x s1 => wb kx s1 fun y s2 => ∃ ps i v, mitems s2 x = some ps ∧ dat s2 y = some (.int i) ∧ atI ps i = some v ∧ k v s2
def wSlM (wa : EW) (wl wh : OW) : EW := fun kx s k => wa kx s fun x s1 => wl kx s1 fun lo s2 => wh kx s2 fun hi s3 => ∃ n ps, x = .own n ∧ s3.o[n]? = some (.ml ps) ∧ k (.own s3.o.length) ⟨s3.r, s3.o ++ [.ml (cutD ps lo hi)]⟩
def wLenM (wa : EW) : EW := fun kx s k => wa kx s fun x s1 => ∃ ps, mitems s1 x = some ps ∧ k (.d (.int ps.length)) s1
/-- m == [], m != [] -/
def wAppM (wo we : EW) : EW := fun kx s k => wo kx s fun x s1 => ∃ n ws, x = .own n ∧ s1.o[n]? = some (.ml ws) ∧ we kx s1 fun y s2 => ∃ ps, s2.o[n]? = some (.ml ps) ∧ ps.length < sizeLine ∧ k (.d .none) ⟨s2.r, s2.o.set n (.ml (ps ++ [y]))⟩
def wPopM (wo : EW) : EW := fun kx s k => wo kx s fun x s1 => ∃ n ps v, x = .own n ∧ s1.o[n]? = some (.ml ps) ∧ ps[ps.length - 1]? = some v ∧ k v ⟨s1.r, s1.o.set n (.ml ps.dropLast)⟩
/-- the truth of a mixed list -/
def wTruM (wa : EW) : TW := fun kx s k => wa kx s fun x s1 => ∃ n ps, x = .own n ∧ s1.o[n]? = some (.ml ps) ∧ k (!ps.isEmpty) s1
abbrev GWM := PV → PSt → (PSt → Prop) → Prop
def gNM (i : Nat) : GWM := fun v s k => k (s.st i v)
abbrev GWMs := List PV → PSt → (PSt → Prop) → Prop
def gTM (n : Nat) (gs : GWMs) : GWM := fun v s k => ∃ ps, titems v = some ps ∧ ps.length = n ∧ gs ps s k
def gsNilM : GWMs := fun ps s k => ps = [] ∧ k s
def gsConsM (g : GWM) (gs : GWMs) : GWMs := fun ps s k => ∃ v r, ps = v :: r ∧ g v s fun s1 => gs r s1 k
def wUnpM (we : EW) (g : GWM) : SW := fun kx s k => we kx s fun v s1 => g v s1 k.nx
def wForM (we : EW) (g : GWM) (b : SW) : SW := fun kx s k => we kx s fun v s0 => ∃ n ps, v = .own n ∧ s0.o[n]? = some (.ml ps) ∧ ∃ I : Nat → PSt → Prop, I 0 s0 ∧ (∀ j s1, j ≤ ps.length → I j s1 → s1.o[n]? = some (.ml ps)) ∧ (∀ j x s1, ps[j]? = some x → I j s1 → g x s1 fun s2 =>
  b kx s2 { k with nx := fun s3 => I (j + 1) s3 ∨ I (j + 1) (s3.trim s0.o.length), ct := fun s3 => I (j + 1) s3 ∨ I (j + 1) (s3.trim s0.o.length), bk := k.nx }) ∧ ∀ s1, I ps.length s1 → k.nx s1
/-- [e for t in m if ..], m a mixed list -/
def wLcM (wl : EW) (g : GWM) (tt : TW) (we : EW) (vs : List Nat) : EW := fun kx s k => wl kx s fun v s1 => ∃ n ps, v = .own n ∧ s1.o[n]? = some (.ml ps) ∧ ∃ I : Nat → List PyData → PSt → Prop, I 0 [] (s1.wipe vs) ∧ (∀ j acc s2, j ≤ ps.length → I j acc s2 → s2.o[n]? = some (.ml ps)) ∧
  (∀ j x acc s2, ps[j]? = some x → s2.o.length = s1.o.length → I j acc s2 → g x ⟨s2.r, s2.o ++ [.dl acc]⟩ fun s3 => tt (fun _ _ => False) s3 fun b s4 =>
    (b = true → we (fun _ _ => False) s4 fun y s5 => frz y s5 fun d s6 => s6.o[s1.o.length]? = some (.dl acc) ∧ acc.length < sizeLine ∧ I (j + 1) (acc ++ [d]) ((s6.trim s1.o.length).wipe vs)) ∧
    (b = false → s4.o[s1.o.length]? = some (.dl acc) ∧ I (j + 1) acc ((s4.trim s1.o.length).wipe vs))) ∧
  ∀ acc s2, s2.o.length = s1.o.length → I ps.length acc s2 → k (.own s1.o.length) ⟨s2.r, s2.o ++ [.dl acc]⟩
section
variable {X : Cx} {W : WX} {a b e o wo_e : Expr} {es : List Expr} {wa wb we wo : EW} {ws : AW} {wl wh : OW} {pos p : Pos}
theorem e_lstM (h : PA X es (tA X.K W ws)) : PE X (.List es pos) (tE X.K W (wLstM ws)) := by
  refine PE.imp (pe_lst h) fun σ H Q ⟨H0, F0, A0, s, T, kx, k, w, xl, h, q⟩ => ar_of w xl h fun vs s1 us H1 h1 e w1 => ?_
  obtain ⟨hz, hk⟩ := h1
  refine ⟨by rw [e]; exact hz, fun n hn => ?_⟩
  obtain ⟨F, A, w1⟩ := w1
  have w2 := (w1.sub (T' := T) fun t h => List.mem_append_right _ h).newO (o := .lst us) (c := .ml vs) hn fun fp => ⟨fp, us, upd_same, (PVAll.of (T := T) e fun t m => (w1.tm t (List.mem_append_left _ m)).mono (Same.refl _) (List.prefix_append _ _))⟩
  exact q _ _ hk _ _ ⟨F, _, w2.push (top_at w1 n F)⟩
theorem e_tupM {x1} (h : PA X es (tA X.K W ws)) : PE X (.Tuple es x1 pos) (tE X.K W (wTupM ws)) := by
  refine PE.imp (pe_tup h) fun σ H Q ⟨H0, F0, A0, s, T, kx, k, w, xl, h, q⟩ => ar_of w xl h fun vs s1 us H1 h1 e w1 => ?_
  obtain ⟨hz, hk⟩ := h1
  refine ⟨by rw [e]; exact hz, fun p hp => ?_⟩
  obtain ⟨F, A, w1⟩ := w1
  have w2 := (w1.sub (T' := T) fun t h => List.mem_append_right _ h).newD (o := .tup us) hp
  have pa : PVAll X.K (upd F p (.tup us)) A vs us := PVAll.of (T := T) e fun t m => (w1.tm t (List.mem_append_left _ m)).mono (same_new (w1.fz.g.free hp)) (List.prefix_refl _)
  exact q _ _ hk _ _ ⟨_, A, w2.push ⟨p, us, rfl, SqT.of upd_same, pa⟩⟩
theorem e_ixM (ha : PE X a (tE X.K W wa)) (hb : PE X b (tE X.K W wb)) (hs : PlainIx b := by exact fun _ _ => rfl) : PE X (.Subscript a b pos) (tE X.K W (wIxM wa wb)) := by
  refine PE.imp (pe_ix ix_seq ha hb hs) fun σ H Q ⟨H0, F0, A0, s, T, kx, k, w, xl, h, q⟩ => tOp_of w xl h fun x y s2 u v H2 hR w2 => ?_
  obtain ⟨ps, i, z, hx, hi, ez, hk⟩ := hR
  obtain ⟨F, A, w2⟩ := w2
  have ev := dp_int (dat_ok w2 (w2.tm _ List.mem_cons_self) hi)
  have w3 := w2.sub (T' := T) fun t h => List.mem_cons_of_mem _ (List.mem_cons_of_mem _ h)
  cases x with
  | own n =>
    obtain ⟨p, vs, hp, rfl, _, h1, h2⟩ := mown_at w2 (List.mem_cons_of_mem _ List.mem_cons_self) (mitems_own hx)
    obtain ⟨t, h3, h4⟩ := h2.ati ez
    exact .inl ⟨p, vs, i, t, rfl, ev, SqL.of h1, h3, q _ _ hk t H2 ⟨F, A, w3.push h4⟩⟩
  | tp qs =>
    cases hx
    obtain ⟨p, us, rfl, h1, h2⟩ := (show PVOk X.K F A (.tp ps) u from w2.tm _ (List.mem_cons_of_mem _ List.mem_cons_self))
    obtain ⟨t, h3, h4⟩ := h2.ati ez
    exact .inr (.inl ⟨p, us, i, t, rfl, ev, same_t w2.fz.g h1, h3, q _ _ hk t H2 ⟨F, A, w3.push h4⟩⟩)
  | _ => cases hx
theorem e_lenM (hm : X.mg "len" = none) (ha : PE X a (tE X.K W wa)) (hg : Gl X "len" := by rfl) (he : starEach [a] X.env = (false, eval a X.env) :: starEach [] X.env := by rfl) (hpl : (backTo pos (starEach [] X.env)).any (·.1) = false := by rfl) :
    PE X (.Call (.Name "len" p) [a] [] pos) (tE X.K W (wLenM wa)) := by
  refine PE.imp (pe_callB call_len hg hm PySem.boot_len (pa_cons ha pa_nil he) (he := he) (hpl := hpl)) fun σ H Q ⟨H0, F0, A0, s, T, kx, k, w, xl, h, q⟩ => cb1_of w xl h fun x s1 u H1 h1 w1 => ?_
  obtain ⟨ps, hx, hk⟩ := h1
  obtain ⟨F, A, w1⟩ := w1
  have w2 := w1.sub (T' := T) fun t h => List.mem_cons_of_mem _ h
  cases x with
  | own n =>
    obtain ⟨p, vs, hp, rfl, _, h1, h2⟩ := mown_at w1 List.mem_cons_self (mitems_own hx)
    exact ⟨_, _, rfl, .inl ⟨_, SqL.of h1, h2.len.symm⟩, q _ _ hk _ H1 ⟨F, A, w2.push (.int _)⟩⟩
  | tp qs =>
    cases hx
    obtain ⟨p, us, rfl, h1, h2⟩ := (show PVOk X.K F A (.tp ps) u from w1.tm _ List.mem_cons_self)
    exact ⟨_, _, rfl, .inr ⟨_, same_t w1.fz.g h1, h2.len.symm⟩, q _ _ hk _ H1 ⟨F, A, w2.push (.int _)⟩⟩
  | _ => cases hx
end
end PW
namespace PW
open PySem L2
section
variable {X : Cx} {W : WX} {a b e o wo_e : Expr} {es : List Expr} {wa wb we wo : EW} {ws : AW} {wl wh : OW} {pos p : Pos}
theorem e_slM {lo hi : Option Expr} {p2 : Pos} (he : PE X e (tE X.K W we)) (hl : PO X lo (tO X.K W wl)) (hu : PO X hi (tO X.K W wh)) : PE X (.Subscript e (.Slice lo hi none p2) pos) (tE X.K W (wSlM we wl wh)) := by
  refine PE.imp (pe_slice (sl_list.or (sl_tupA.or sl_str)) he hl hu) fun σ H Q ⟨H0, F0, A0, s, T, kx, k, w, xl, h, q⟩ => un_of w xl h fun x s1 u H1 h1 w1 => ?_
  refine ⟨H0, F0, A0, s1, (x, u) :: T, kx, _, w1, xl.push, h1, fun lo s2 h2 H2 w2 => ?_⟩
  refine ⟨H0, F0, A0, s2, (x, u) :: T, kx, _, w2, xl.push, h2, fun hi s3 h3 H3 w3 => ?_⟩
  obtain ⟨n, ps, rfl, ho, hk⟩ := h3
  obtain ⟨F, A, w3⟩ := w3
  obtain ⟨p, vs, hp, rfl, _, h1, h2⟩ := mown_at w3 List.mem_cons_self ho
  have w4 := w3.sub (T' := T) fun t h => List.mem_cons_of_mem _ h
  refine .inl ⟨p, vs, rfl, SqL.of h1, fun m hm => q _ _ hk _ _ ⟨F, _, (w4.newO (o := .lst (cutV vs lo hi)) (c := .ml (cutD ps lo hi)) hm fun fp => ⟨fp, _, upd_same, ?_⟩).push (top_at w4 m F)⟩⟩
  have e2 : cutV vs lo hi = (vs.drop (HT.sIx ps.length 0 lo)).take (HT.sIx ps.length ps.length hi - HT.sIx ps.length 0 lo) := by
    unfold cutV
    rw [h2.len]
  rw [e2]
  exact ((h2.dr _).tk _).mono (Same.refl _) (List.prefix_append _ _)
theorem e_appM {apos : Pos} (ho : PE X wo_e (tE X.K W wo)) (ha : PE X a (tE X.K W wa))
    (hbase : attributeBase wo_e "append" X.env (eval wo_e X.env) = eval wo_e X.env := by rfl)
    (hfew : ((backTo pos (starEach [a] X.env)).all (fun x => !x.1) && (backToKw pos (keywordEach [] X.env)).all (fun x => x.1.isSome)
      && decide ([a].length + ([] : List Keyword).length + (if ([] : List Keyword).isEmpty then 0 else 1) < 30)) = true := by rfl)
    (hline : (apos.endLine == pos.line) = true := by rfl) (hs : starEach [a] X.env = (false, eval a X.env) :: starEach [] X.env := by rfl) (hplain : (backTo pos (starEach [] X.env)).any (·.1) = false := by rfl) :
    PE X (.Call (.Attribute wo_e "append" apos) [a] [] pos) (tE X.K W (wAppM wo wa)) := by
  refine PE.imp (pe_bm PySem.F.plainAttrs_list PySem.F.slot_list_append PySem.F.type_list_append mt_append ho (pa_cons ha pa_nil hs) hbase hfew hline hs hplain) fun σ H Q ⟨H0, F0, A0, s, T, kx, k, w, xl, h, q⟩ => ?_
  refine ⟨H0, F0, A0, s, T, kx, _, w, xl, h, fun x s1 h1 u H1 w1 => ?_⟩
  obtain ⟨n, ws, rfl, ow, h1⟩ := h1
  have ty : tyV X.K "list" u H1 := by
    obtain ⟨F, A, w1⟩ := w1
    obtain ⟨p, vs, hp, rfl, _, hv, _⟩ := mown_at w1 List.mem_cons_self ow
    exact .inl ⟨rfl, vs, SqL.of hv⟩
  refine ⟨ty, H0, F0, A0, s1, _, kx, _, w1, xl.push, h1, fun y s2 h2 v H2 w2 => ?_⟩
  obtain ⟨ps, ox, hz, hk⟩ := h2
  obtain ⟨F, A, w3⟩ := w2
  obtain ⟨p, vs, hp, rfl, fp, hv, hd⟩ := mown_at w3 (List.mem_cons_of_mem _ List.mem_cons_self) ox
  have pv := w3.tm (y, v) List.mem_cons_self
  refine ⟨p, vs, v, rfl, rfl, hv, by rw [hd.len]; exact hz, q _ _ hk _ _ ⟨F, A, ((w3.sub (T' := T) fun t h => List.mem_cons_of_mem _ (List.mem_cons_of_mem _ h)).wrO (o := .lst (vs ++ [v])) (c := .ml (ps ++ [y])) hp fp (List.getElem?_eq_some_iff.mp ox).1 ⟨fp, _, upd_same, hd.app ⟨pv, True.intro⟩⟩).push .non⟩⟩
theorem e_popM {apos : Pos} (ho : PE X wo_e (tE X.K W wo)) (hbase : attributeBase wo_e "pop" X.env (eval wo_e X.env) = eval wo_e X.env := by rfl) (hline : (apos.endLine == pos.line) = true := by rfl) :
    PE X (.Call (.Attribute wo_e "pop" apos) [] [] pos) (tE X.K W (wPopM wo)) := by
  refine PE.imp (pe_bm0 PySem.F.plainAttrs_list PySem.F.slot_list_pop PySem.F.type_list_pop mt_pop ho hbase hline) fun σ H Q ⟨H0, F0, A0, s, T, kx, k, w, xl, h, q⟩ => ?_
  refine ⟨H0, F0, A0, s, T, kx, _, w, xl, h, fun x s1 h1 u H1 w1 => ?_⟩
  obtain ⟨n, ps, z, rfl, ox, hl, hk⟩ := h1
  obtain ⟨F, A, w1⟩ := w1
  obtain ⟨p, vs, hp, rfl, fp, hv, hd⟩ := mown_at w1 List.mem_cons_self ox
  obtain ⟨v, e1, e2⟩ := hd.at _ _ hl
  rw [← hd.len] at e1
  have pd : PVAll X.K F A ps.dropLast vs.dropLast := by
    rw [List.dropLast_eq_take, List.dropLast_eq_take, hd.len]
    exact hd.tk _
  exact ⟨.inl ⟨rfl, vs, SqL.of hv⟩, p, vs, v, rfl, rfl, hv, e1, q _ _ hk _ _ ⟨F, A, ((w1.sub (T' := T) fun t h => List.mem_cons_of_mem _ h).wrO (o := .lst vs.dropLast) (c := .ml ps.dropLast) hp fp (List.getElem?_eq_some_iff.mp ox).1 ⟨fp, _, upd_same, pd⟩).push e2⟩⟩
theorem t_truM (ha : PE X a (tE X.K W wa)) (he : ∀ whole, isTrue a X.env whole = (do let v ← whole; standAt a.pos; holding [v] (truthy v)) := by intro _; rfl) : PT X a (tT X.K W (wTruM wa)) := by
  refine PT.imp (pt_truth ha he) fun σ H Q ⟨H0, F0, A0, s, T, kx, k, w, xl, h, q⟩ => un_of w xl h fun x s1 u H1 h1 w1 => ?_
  obtain ⟨n, ps, rfl, ho, hk⟩ := h1
  obtain ⟨F, A, w1⟩ := w1
  obtain ⟨p, vs, hp, rfl, _, h1, h2⟩ := mown_at w1 List.mem_cons_self ho
  refine ⟨_, .inl ⟨_, SqL.of h1, ?_⟩, q _ s1 hk H1 ⟨F, A, w1.sub fun t h => List.mem_cons_of_mem _ h⟩⟩
  have := h2.len
  cases vs <;> cases ps <;> first | rfl | (cases this; done)
/-! targets -/
def tGM (K : PySem.W.Frag) (L : List Nat) (g : GWM) : TG := fun v σ H Q => ∃ H0 F0 A0 s T x k, Wd K H0 F0 A0 s σ T H ∧ (x, v) ∈ T ∧ g x s k ∧ ∀ s', k s' → ∀ σ' H', OutL L σ σ' → Wd K H0 F0 A0 s' σ' T H' → Q σ' H'
def tGMs (K : PySem.W.Frag) (L : List Nat) (g : GWMs) : TGs := fun vs σ H Q => ∃ H0 F0 A0 s T xs k, Wd K H0 F0 A0 s σ T H ∧ vs.length = xs.length ∧ (∀ t ∈ xs.zip vs, t ∈ T) ∧ g xs s k ∧ ∀ s', k s' → ∀ σ' H', OutL L σ σ' → Wd K H0 F0 A0 s' σ' T H' → Q σ' H'
theorem g_nameM {i : Nat} {x : Str} (hN : X.N.Nodup) (hi : X.N[i]? = some x) (hx : Loc X.env.scope x) (hf : X.fn x = true ∨ X.env.scope.names.lookup x = some .local := by first | exact .inl rfl | exact .inr rfl | assumption) : PG X (.Name x pos) (tGM X.K [i] (gNM i)) := by
  refine PG.imp (pg_name hN hi hx hf) fun v σ H Q ⟨H0, F0, A0, s, T, x, k, w, m, h, q⟩ => ?_
  obtain ⟨F, A, w⟩ := w
  exact q _ h _ H ⟨by rw [List.length_set], fun j hj => List.getElem?_set_ne (fun e => hj (by rw [e]; exact List.mem_cons_self))⟩ ⟨F, A, w.st (w.tm _ m)⟩
theorem gs_nilM : PGs X [] (tGMs X.K [] gsNilM) := by
  refine PGs.imp pgs_nil fun vs σ H Q ⟨H0, F0, A0, s, T, xs, k, w, e, m, ⟨hx, h⟩, q⟩ => ?_
  subst hx
  exact ⟨List.eq_nil_of_length_eq_zero e, q s h σ H ⟨rfl, fun _ _ => rfl⟩ w⟩
theorem gs_consM {es : List Expr} {g1 : GWM} {g2 : GWMs} {L1 L2 : List Nat} (h1 : PG X e (tGM X.K L1 g1)) (h2 : PGs X es (tGMs X.K L2 g2)) (hs : (assignEach (e :: es) X.env).map (·.2) = assign e X.env :: (assignEach es X.env).map (·.2) := by rfl) : PGs X (e :: es) (tGMs X.K (L1 ++ L2) (gsConsM g1 g2)) := by
  refine PGs.imp (pgs_cons h1 h2 hs) fun vs σ H Q ⟨H0, F0, A0, s, T, xs, k, w, e, m, ⟨x, r, hx, h⟩, q⟩ => ?_
  subst hx
  cases vs with
  | nil => cases e
  | cons v vs =>
    refine ⟨v, vs, rfl, H0, F0, A0, s, T, x, _, w, m _ List.mem_cons_self, h, fun s' h' σ' H' l' w' => ?_⟩
    exact ⟨H0, F0, A0, s', T, r, k, w', Nat.succ.inj e, fun t ht => m t (List.mem_cons_of_mem _ ht), h', fun s2 h2 σ2 H2 l2 w2 => q s2 h2 σ2 H2 ⟨l2.1.trans l'.1, fun j hj => (l2.2 j fun z => hj (List.mem_append_right _ z)).trans (l'.2 j fun z => hj (List.mem_append_left _ z))⟩ w2⟩
theorem PVAll.zip {K : PySem.W.Frag} {F : Hp} {A : List Addr} : ∀ {ps : List PV} {us : List V}, PVAll K F A ps us → ∀ t ∈ ps.zip us, PVOk K F A t.1 t.2
  | [], _, _, _, m => nomatch m
  | p :: ps, u :: us, ⟨h, r⟩, t, m => by
    rcases List.mem_cons.mp m with e | m
    · rw [e]; exact h
    · exact PVAll.zip r t m
  | _ :: _, [], h, _, _ => h.elim
theorem g_tupM {es : List Expr} {kk n : Nat} {gs : GWMs} {L : List Nat} (hc : X.calm = true) (h : PGs X es (tGMs X.K L gs)) (hn : (assignEach es X.env).length = n := by rfl) (hst : (assignEach es X.env).findIdx? (·.1) = none := by rfl) : PG X (.Tuple es kk pos) (tGM X.K L (gTM n gs)) := by
  refine PG.imp (pg_tup hc h hn hst) fun v σ H Q ⟨H0, F0, A0, s, T, x, k, w, m, ⟨ps, hx, hl, h⟩, q⟩ => ?_
  obtain ⟨F, A, w⟩ := w
  have pv := w.tm _ m
  have got : ∃ a us, v = .ref a ∧ SqT X.K H a us ∧ PVAll X.K F A ps us := by
    cases x with
    | tp qs =>
      cases hx
      obtain ⟨a, us, e, h1, h2⟩ := pv
      exact ⟨a, us, e, same_t w.fz.g h1, h2⟩
    | d y =>
      cases y with
      | tuple xs =>
        cases hx
        obtain ⟨a, us, e, h1, h2⟩ := itemsT_ok w pv rfl
        exact ⟨a, us, e, h1, PVAll.dl h2⟩
      | _ => cases hx
    | _ => cases hx
  obtain ⟨a, us, e1, h1, h2⟩ := got
  refine ⟨a, us, e1, h1, h2.len.trans hl, H0, F0, A0, s, ps.zip us ++ T, ps, k, ⟨F, A, w.tms fun t ht => ?_⟩, h2.len, fun t ht => List.mem_append_left _ ht, h, fun s' h' σ' H' l' w' => q s' h' σ' H' l' (w'.sub fun t ht => List.mem_append_right _ ht)⟩
  rcases List.mem_append.mp ht with z | z
  · exact h2.zip t z
  · exact w.tm t z
theorem s_unpM {tg : Expr} {L : List Nat} {g : GWM} (he : PE X e (tE X.K W we)) (hg : PG X tg (tGM X.K L g)) (hs : swapsWithSole [tg] e pos.line X.env = pure false := by rfl) (hw : swappedStores [tg] e X.env = pure none := by rfl)
    (h1 : (assignEach [tg] X.env).map (·.2) = [assign tg X.env] := by rfl) : PS X (.Assign [tg] e pos) (tS X.K W (wUnpM we g)) := by
  refine PS.imp (ps_asg he hg hs hw h1) fun D σ H ⟨H0, F0, A0, s, T, kx, k, w, xl, h, q1, q2, q3, q4⟩ => ?_
  refine ⟨H0, F0, A0, s, T, kx, _, w, xl, h, fun v s' h' u H' w' => ?_⟩
  exact ⟨H0, F0, A0, s', _, v, k.nx, w', List.mem_cons_self, h', fun s3 h3 σ3 H3 _ w3 => q1 s3 h3 σ3 H3 w3.pop⟩
/-! loops -/
theorem ml_go {K : PySem.W.Frag} {H0 F0 : Hp} {A0 : List Addr} {s : PSt} {σ : L2.St} {T : List (PV × V)} {H F : Hp} {A : List Addr} {n : Nat} {a : Addr} {ps : List PV} (w : WdF K H0 F0 A0 s σ T H F A) (m : (PV.own n, V.ref a) ∈ T) (ho : s.o[n]? = some (.ml ps)) (i : Nat) :
    (i < ps.length → (Itl K a).go i H) ∧ (ps.length ≤ i → (Itl K a).stop i H) ∧ (i < ps.length → ∀ x H', (Itl K a).yld i H x H' → H' = H ∧ ∃ v, ps[i]? = some v ∧ PVOk K F A v x) := by
  obtain ⟨p, vs, hp, e, _, h1, h2⟩ := mown_at w m ho
  cases e
  have hl := h2.len
  refine ⟨fun hi => ⟨vs, vs[i]'(by omega), SqL.of h1, List.getElem?_eq_getElem (by omega)⟩, fun hi => ⟨vs, SqL.of h1, by omega⟩, fun hi x H' hy => ?_⟩
  obtain ⟨rfl, hx⟩ := hy
  have e1 := hx vs (SqL.of h1)
  have e2 : ps[i]? = some ps[i] := List.getElem?_eq_getElem hi
  obtain ⟨u, e3, pv⟩ := h2.at i _ e2
  rw [e1] at e3
  cases e3
  exact ⟨rfl, _, e2, pv⟩
theorem s_forM {tg iter : Expr} {body : List Stmt} {L : List Nat} {g : GWM} {b : SW} (hp : PassesOwn (model X.prog X.w) X.A X.env X.xe) (hc : X.calm = true) (hi : PE X iter (tE X.K W we)) (hg : PG X tg (tGM X.K L g)) (hb : PSs X body (tS X.K W b))
    (hs : ∀ v, foldedSetIterable iter X.env v = pure v := by intro _; rfl) : PS X (.For tg iter body [] pos) (tS X.K W (wForM we g b)) := by
  refine PS.imp (ps_for hp hc (pi_list hi) hg hb hs) fun D σ H ⟨H0, F0, A0, s, T, kx, k, w, xl, h, q1, q2, q3, q4⟩ => ?_
  refine un_of w xl h fun v s0 u H1 h0 w1 => ?_
  obtain ⟨n, ps, rfl, o0, I, i0, hC, turn, fin⟩ := h0
  obtain ⟨a, rfl, vs0, hv0⟩ : ∃ a, u = .ref a ∧ ∃ vs, H1 a = some (.lst vs) := by
    obtain ⟨F, A, w1⟩ := w1
    obtain ⟨p, vs, _, e, _, h1, _⟩ := mown_at w1 List.mem_cons_self o0
    exact ⟨p, e, vs, h1⟩
  have lt := w1.own_lt
  refine ⟨a, rfl, ⟨vs0, SqL.of hv0⟩, fun i m σ' H' => m = ps.length - i ∧ i ≤ ps.length ∧ ∃ s', Wd X.K H0 F0 A0 s' σ' ((.own n, .ref a) :: T) H' ∧ I i s', ⟨_, rfl, Nat.zero_le _, s0, w1, i0⟩, ?_⟩
  rintro i m σ2 H2 ⟨rfl, hi, s2, ⟨F, A, w2⟩, i2⟩
  obtain ⟨j1, j2, j3⟩ := ml_go w2 List.mem_cons_self (hC i s2 hi i2) i
  by_cases hlt : i < ps.length
  · refine .inr ⟨j1 hlt, fun σ' H' => ∃ s', Wd X.K H0 F0 A0 s' σ' ((.own n, .ref a) :: T) H' ∧ I (i + 1) s', fun σ' H' ⟨s', w', i'⟩ => ⟨ps.length - (i + 1), by omega, rfl, hlt, s', w', i'⟩, fun x H' hy => ?_⟩
    obtain ⟨rfl, d, hd, pv⟩ := j3 hlt x H' hy
    refine ⟨H0, F0, A0, s2, _, d, _, ⟨F, A, w2.push pv⟩, List.mem_cons_self, turn i d s2 hd i2, fun s4 h4 σ4 H4 _ w4 => ?_⟩
    have nx : ∀ s3, (I (i + 1) s3 ∨ I (i + 1) (s3.trim s0.o.length)) → ∀ σ' H', Wd X.K H0 F0 A0 s3 σ' ((d, x) :: (.own n, .ref a) :: T) H' → ∃ s', Wd X.K H0 F0 A0 s' σ' ((.own n, .ref a) :: T) H' ∧ I (i + 1) s' := fun s3 h3 σ' H' w3 => by
      rcases h3 with h3 | h3
      · exact ⟨s3, w3.pop, h3⟩
      · exact ⟨_, w3.pop.trim lt.1 lt.2, h3⟩
    refine ⟨H0, F0, A0, s4, _, kx, _, w4, xl.more fun t ht => List.mem_cons_of_mem _ (List.mem_cons_of_mem _ ht), h4, nx, fun v s' h' u σ' H' w' => q2 v s' h' u σ' H' (w'.sub fun t ht => ?_), fun s' h' σ' H' w' => q1 s' h' σ' H' (w'.sub fun t ht => List.mem_cons_of_mem _ (List.mem_cons_of_mem _ ht)), nx⟩
    rcases List.mem_cons.mp ht with e | ht
    · rw [e]; exact List.mem_cons_self
    · exact List.mem_cons_of_mem _ (List.mem_cons_of_mem _ (List.mem_cons_of_mem _ ht))
  · have e : i = ps.length := by omega
    subst e
    exact .inl ⟨j2 (Nat.le_refl _), q1 s2 (fin s2 i2) σ2 H2 ⟨F, A, w2.sub fun t ht => List.mem_cons_of_mem _ ht⟩⟩
end
end PW
namespace PW
open PySem L2
theorem ml_app {s : PSt} {n : Nat} {ps : List PV} {x : List OC} (h : s.o[n]? = some (.ml ps)) : (⟨s.r, s.o ++ x⟩ : PSt).o[n]? = some (.ml ps) := by
  show (s.o ++ x)[n]? = some (.ml ps)
  rw [List.getElem?_append_left (List.getElem?_eq_some_iff.mp h).1]
  exact h
section
variable {X : Cx} {W : WX} {elt tg iter c : Expr} {ifs : List Expr} {scope : Scope} {own : List (Str × Nat)} {pos : Pos} {wl : EW} {g : GWM} {tt : TW} {we : EW} {L : List Nat}
theorem lcM_of (hL : ∀ i ∈ L, i ∈ own.map (·.2)) {σ : St} {H : Hp} {Q : VK} (h : tE X.K W (wLcM wl g tt we (own.map (·.2))) σ H Q) : tLc (iList X.K (tE X.K W wl)) (tGM X.K L g) (tT X.K W0 tt) (tE X.K W0 we) (own.map (·.2)) σ H Q := by
  obtain ⟨H0, F0, A0, s, T, kx, k, w, xl, h, q⟩ := h
  generalize own.map (·.2) = vs at *
  refine un_of w xl h fun v s1 u H1 h1 w1 => ?_
  obtain ⟨m0, xs, rfl, o0, I, i0, hC, turn, fin⟩ := h1
  obtain ⟨a, rfl, vs0, hv0⟩ : ∃ a, u = .ref a ∧ ∃ vs, H1 a = some (.lst vs) := by
    obtain ⟨F, A, w1⟩ := w1
    obtain ⟨p, vs, _, e, _, h1, _⟩ := mown_at w1 List.mem_cons_self o0
    exact ⟨p, e, vs, h1⟩
  refine ⟨a, rfl, ⟨vs0, SqL.of hv0⟩, fun D hD => ?_⟩
  have lt := w1.own_lt
  -- the word between the turns
  refine ⟨fun i m H' => m = xs.length - i ∧ i ≤ xs.length ∧ ∃ s2 acc, s2.o.length = s1.o.length ∧ I i acc s2 ∧ Wd X.K H0 F0 A0 ⟨s2.r, s2.o ++ [.dl acc]⟩ (wipe σ vs) ((.own s1.o.length, .ref D) :: ((PV.own m0, V.ref a) :: T)) H', ⟨_, rfl, Nat.zero_le _, s1.wipe vs, [], by rw [(wipe_r s1 vs).1], i0, ?_⟩, ?_⟩
  · obtain ⟨F, A, w1⟩ := w1
    have w2 := w1.newL hD .nil
    have w3 := w2.push (top_at w1 D F)
    obtain ⟨e1, e2, e3⟩ := wipe_r s1 vs
    refine ⟨F, _, w3.rel (s' := ⟨(s1.wipe vs).r, (s1.wipe vs).o ++ [.dl []]⟩) (by rw [e1]) ?_ fun i v e => ?_⟩
    · show (s1.wipe vs).r.length = _
      rw [e2, wipe_len]; exact w1.sl
    · obtain ⟨a, b⟩ := e3 i v e
      exact ⟨a, fun u hu => by rw [wipe_out b]; exact hu⟩
  · rintro i m H2 ⟨rfl, hi, s2, acc, hn, i2, ⟨F, A, w2⟩⟩
    obtain ⟨j1, j2, j3⟩ := ml_go w2 (List.mem_cons_of_mem _ List.mem_cons_self) (ml_app (hC i acc s2 hi i2)) i
    by_cases hlt : i < xs.length
    · refine .inr ⟨j1 hlt, fun H' => ∃ s2 acc, s2.o.length = s1.o.length ∧ I (i + 1) acc s2 ∧ Wd X.K H0 F0 A0 ⟨s2.r, s2.o ++ [.dl acc]⟩ (wipe σ vs) ((.own s1.o.length, .ref D) :: ((PV.own m0, V.ref a) :: T)) H', fun H' ⟨s', a', e', i', w'⟩ => ⟨xs.length - (i + 1), by omega, rfl, hlt, s', a', e', i', w'⟩, fun x H' hy => ?_⟩
      obtain ⟨rfl, d, hd, pv⟩ := j3 hlt x H' hy
      have w3 := w2.push pv
      have lT : ∀ t ∈ (PV.own s1.o.length, V.ref D) :: ((PV.own m0, V.ref a) :: T), t.1.lt (s1.o.length + 1) = true := fun t ht => by
        rcases List.mem_cons.mp ht with z | z
        · subst z; exact decide_eq_true (Nat.lt_succ_self _)
        · exact lt_mono (Nat.le_succ _) (lt.2 t z)
      -- a state behind the turn, cut to the length
      have back : ∀ (s6 : PSt) (σ2 : St) (H4 : Hp) (a' : List PyData), wipe σ2 vs = wipe σ vs → s6.o[s1.o.length]? = some (.dl a') → Wd X.K H0 F0 A0 s6 σ2 ((.own s1.o.length, .ref D) :: ((PV.own m0, V.ref a) :: T)) H4 →
          Wd X.K H0 F0 A0 ⟨((s6.trim s1.o.length).wipe vs).r, ((s6.trim s1.o.length).wipe vs).o ++ [.dl a']⟩ (wipe σ vs) ((.own s1.o.length, .ref D) :: ((PV.own m0, V.ref a) :: T)) H4 := fun s6 σ2 H4 a' hw ho w6 => by
        have w7 := w6.trim (m := s1.o.length + 1) (by have := lt.1; omega) lT
        obtain ⟨F7, A7, w7⟩ := w7
        obtain ⟨e1, e2, e3⟩ := wipe_r (s6.trim s1.o.length) vs
        refine ⟨F7, A7, w7.relO ?_ (fun n c hc => ?_) ?_ fun j v e => ?_⟩
        · show (((s6.trim s1.o.length).wipe vs).o ++ [OC.dl a']).length = (cutL (s1.o.length + 1) s6.o).length
          rw [e1, List.length_append, cutL_len]
          show (cutL s1.o.length s6.o).length + 1 = _
          rw [cutL_len]
          have := (List.getElem?_eq_some_iff.mp ho).1
          omega
        · have hc : (((s6.trim s1.o.length).wipe vs).o ++ [OC.dl a'])[n]? = some c := hc
          show c = .no ∨ (cutL (s1.o.length + 1) s6.o)[n]? = some c
          have hlen : (cutL s1.o.length s6.o).length = s1.o.length := by
            rw [cutL_len]
            have := (List.getElem?_eq_some_iff.mp ho).1
            omega
          rw [e1] at hc
          have hc : (cutL s1.o.length s6.o ++ [OC.dl a'])[n]? = some c := hc
          rcases Nat.lt_or_ge n s1.o.length with hn | hn
          · rw [List.getElem?_append_left (by rw [hlen]; exact hn)] at hc
            obtain ⟨_, c0, h3, rfl⟩ := cutL_at hc
            rcases ocut_is (m := s1.o.length) c0 with z | z
            · exact .inl z
            · refine .inr ?_
              unfold cutL
              rw [List.getElem?_map, List.getElem?_take, if_pos (Nat.lt_succ_of_lt hn), h3, z]
              show some (OC.cut (s1.o.length + 1) c0) = some c0
              rcases ocut_up (Nat.le_succ s1.o.length) z with y | y
              · exact congrArg some y
              · subst y; rfl
          · rw [List.getElem?_append_right (by rw [hlen]; exact hn), hlen] at hc
            have e : n = s1.o.length := by
              cases hk : n - s1.o.length with
              | zero => omega
              | succ k => rw [hk] at hc; cases hc
            subst e
            rw [Nat.sub_self] at hc
            cases hc
            refine .inr ?_
            unfold cutL
            rw [List.getElem?_map, List.getElem?_take, if_pos (Nat.lt_succ_self _), ho]
            rfl
        · show ((s6.trim s1.o.length).wipe vs).r.length = _
          rw [e2, ← hw, wipe_len, ← w7.sl]
          show (s6.r.map _).length = (s6.r.map _).length
          rw [List.length_map, List.length_map]
        · obtain ⟨a, b⟩ := e3 j v e
          refine ⟨?_, fun u hu => by rw [← hw, wipe_out b]; exact hu⟩
          have a : (s6.r.map (cutP s1.o.length))[j]? = some (some v) := a
          show (s6.r.map (cutP (s1.o.length + 1)))[j]? = some (some v)
          rw [List.getElem?_map] at a ⊢
          cases hr : s6.r[j]? with
          | none => rw [hr] at a; cases a
          | some o =>
            rw [hr] at a
            obtain ⟨rfl, hl⟩ := cutP_is (Option.some.inj a)
            exact congrArg some (cutP_of (lt_mono (Nat.le_succ _) hl))
      refine ⟨H0, F0, A0, _, _, d, _, ⟨F, A, w3⟩, List.mem_cons_self, turn i d acc s2 hd hn i2, fun s3 h3 σ2 H3 l3 w4 => ?_⟩
      have hw := wipe_eq l3 hL
      refine ⟨hw, H0, F0, A0, s3, _, _, _, w4, XL.none, h3, fun b s4 h4 H4 w5 => ?_⟩
      cases b with
      | false =>
        obtain ⟨ho, hI⟩ := h4.2 rfl
        refine iteF ⟨_, acc, ?_, hI, back s4 σ2 H4 acc hw ho w5.pop⟩
        rw [(wipe_r _ vs).1]
        show (cutL s1.o.length s4.o).length = _
        rw [cutL_len]
        have := (List.getElem?_eq_some_iff.mp ho).1
        omega
      | true =>
        refine iteT ⟨H0, F0, A0, s4, _, _, _, w5, XL.none, h4.1 rfl, fun y s5 h5 u H5 w6 => ?_⟩
        obtain ⟨dd, s6, h6, w7⟩ := frz_ok w6 h5
        obtain ⟨ho, hz, hI⟩ := h6
        obtain ⟨F8, A8, w8⟩ := w7
        obtain ⟨p, vs', hp, ep, hv, hdq⟩ := own_at w8 (List.mem_cons_of_mem _ (List.mem_cons_of_mem _ List.mem_cons_self)) ho
        cases ep
        have du : Dq X.K F8 u dd := w8.tm (.d dd, u) List.mem_cons_self
        refine ⟨vs', hv, by rw [hdq.len]; exact hz, _, acc ++ [dd], ?_, hI, ?_⟩
        · rw [(wipe_r _ vs).1]
          show (cutL s1.o.length s6.o).length = _
          rw [cutL_len]
          have := (List.getElem?_eq_some_iff.mp ho).1
          omega
        · have w9 := (w8.sub (T' := (.own s1.o.length, .ref D) :: ((PV.own m0, V.ref a) :: T)) fun t h => List.mem_cons_of_mem _ (List.mem_cons_of_mem _ h)).wr hp ho (hdq.app (.cons du .nil))
          have b := back ⟨s6.r, s6.o.set s1.o.length (.dl (acc ++ [dd]))⟩ σ2 _ (acc ++ [dd]) hw (by
            show (s6.o.set s1.o.length _)[s1.o.length]? = _
            rw [List.getElem?_set_self (List.getElem?_eq_some_iff.mp ho).1]) ⟨F8, A8, w9⟩
          have e : (((⟨s6.r, s6.o.set s1.o.length (.dl (acc ++ [dd]))⟩ : PSt).trim s1.o.length).wipe vs) = ((s6.trim s1.o.length).wipe vs) := by
            have : (⟨s6.r, s6.o.set s1.o.length (.dl (acc ++ [dd]))⟩ : PSt).trim s1.o.length = s6.trim s1.o.length := by
              unfold PSt.trim cutL
              show (⟨s6.r.map _, ((s6.o.set s1.o.length _).take s1.o.length).map _⟩ : PSt) = ⟨s6.r.map _, (s6.o.take s1.o.length).map _⟩
              rw [List.take_set_of_le (Nat.le_refl _)]
            rw [this]
          rw [e] at b
          exact b
    · have e : i = xs.length := by omega
      subst e
      refine .inl ⟨j2 (Nat.le_refl _), q _ _ (fin acc s2 hn i2) (.ref D) H2 ⟨F, A, (w2.rel rfl ?_ fun i v e => ⟨e, fun u hu => (wipe_some hu).1⟩).sub fun t ht => ?_⟩⟩
      · have := w2.sl
        rw [wipe_len] at this
        exact this
      · rcases List.mem_cons.mp ht with e | ht
        · rw [e]; exact List.mem_cons_self
        · exact List.mem_cons_of_mem _ (List.mem_cons_of_mem _ ht)
theorem e_lcM (hc : X.calm = true) (hN : X.N.Nodup) (hi : PE X iter (tE X.K W wl)) (ok : BlkOk X.N X.env.scope scope own) (hL : ∀ i ∈ L, i ∈ own.map (·.2))
    (hg : ∀ (s : Shared) (H : Hp) (C : Addr) (cl : List (Str × Addr)) (fp : List Addr), PG (X.blk s H scope (compEnvC scope cl C X.env) fp) tg (tGM X.K L g)) (ht : ∀ (s : Shared) (H : Hp) (C : Addr) (cl : List (Str × Addr)) (fp : List Addr), PTs (X.blk s H scope (compEnvC scope cl C X.env) fp) ifs (tT X.K W0 tt))
    (he : ∀ (s : Shared) (H : Hp) (C : Addr) (cl : List (Str × Addr)) (fp : List Addr), PE (X.blk s H scope (compEnvC scope cl C X.env) fp) elt (tE X.K W0 we)) (hs : ∀ x, foldedSetIterable iter X.env x = pure x := by intro _; rfl) :
    PE X (.ListComp elt [⟨tg, iter, ifs, 0⟩] scope pos) (tE X.K W (wLcM wl g tt we (own.map (·.2)))) :=
  PE.imp (pe_lc hc hN (pi_list hi) ok hg ht he hs) fun σ H Q h => lcM_of hL h
/-- name = [..] on one line -/
theorem s_setLcM {i : Nat} {y : Str} {py spos : Pos} (hc : X.calm = true) (hN : X.N.Nodup) (hy : X.N[i]? = some y) (hyl : X.env.scope.names.lookup y = some .local)
    (hsw : swapsWith (.ListComp elt [⟨tg, iter, ifs, 0⟩] scope pos) (some (.Name y py)) spos.line X.env = pure true) (hi : PE X iter (tE X.K W wl)) (ok : BlkOk X.N X.env.scope scope own) (hL : ∀ i ∈ L, i ∈ own.map (·.2))
    (hg : ∀ (s : Shared) (H : Hp) (C : Addr) (cl : List (Str × Addr)) (fp : List Addr), PG (X.blk s H scope (compEnvC scope cl C X.env) fp) tg (tGM X.K L g)) (ht : ∀ (s : Shared) (H : Hp) (C : Addr) (cl : List (Str × Addr)) (fp : List Addr), PTs (X.blk s H scope (compEnvC scope cl C X.env) fp) ifs (tT X.K W0 tt))
    (he : ∀ (s : Shared) (H : Hp) (C : Addr) (cl : List (Str × Addr)) (fp : List Addr), PE (X.blk s H scope (compEnvC scope cl C X.env) fp) elt (tE X.K W0 we)) (hs : ∀ x, foldedSetIterable iter X.env x = pure x := by intro _; rfl) :
    PS X (.Assign [.Name y py] (.ListComp elt [⟨tg, iter, ifs, 0⟩] scope pos) spos) (tS X.K W (wAsg (wLcM wl g tt we (own.map (·.2))) i)) := by
  refine PS.imp (ps_setLc hc hN hy hyl hsw (pi_list hi) ok hg ht he hs) fun D σ H ⟨H0, F0, A0, s, T, kx, k, w, xl, h, q1, q2, q3, q4⟩ => ?_
  refine lcM_of hL ⟨H0, F0, A0, s, T, kx, _, w, xl, h, fun v s' h' u H' w' => ?_⟩
  obtain ⟨F, A, w'⟩ := w'
  exact q1 _ h' _ H' ⟨F, A, (w'.sub fun t h => List.mem_cons_of_mem _ h).st (w'.tm _ List.mem_cons_self)⟩
end
end PW
namespace PW
open PySem PySem.Spec PyProof.Rows L2
section
variable {X : Cx} {W : WX} {e o : Expr} {we wo : EW} {pos p : Pos} {y z : Str} {j k : Nat} {c0 c1 p2 : Pos} {i : Int}
/-- the slice e[:i], i written: behind it a token is out -/
theorem peu_head {r : V → Option Int → Option Int → Hp → VK → Prop} {te : TE} (hr : SlR X r) (he : PE X e te) : PEU X (.Subscript e (.Slice none (some (.Constant (.int i) j c0)) none p2) pos) (tSl r te tNoPart (tPart (tC (.int i)))) := by
  intro pins s σ H Q I h
  refine Subscript_ (thn (he.run pins s σ H _ I h) fun v s1 ⟨x, H1, I1, r1, q1⟩ => ?_)
  refine wpAny_Slice ?_
  rw [evalPart_none]
  refine wpAny_pure ?_
  rw [evalPart_some]
  refine wpAny_Constant_int ?_
  refine wpAny_pure ?_
  obtain ⟨i', e', q2⟩ := q1
  cases e'
  have I2 : Inv X pins σ H1 { s1 with toks := s1.toks + 1 } := I1.tok _
  have I3 : Inv X pins σ H1 { s1 with toks := s1.toks + 1, heap := s1.heap.push { cls := .type "slice", data := .fields #[.none, .int i s1.toks, .none] } } := I2.kept (t' := s1.toks + 1) fun b ob q => Heap.get?_push_of_some _ q
  obtain ⟨T, id, hT, ht, hg⟩ := hr pins { s1 with toks := s1.toks + 1, heap := s1.heap.push { cls := .type "slice", data := .fields #[.none, .int i s1.toks, .none] } } σ H1 x v .none (.int i s1.toks) none (some i) s1.heap.objs.size Q I3 r1 (Heap.IsSliceOf.new ..) .none (.int i s1.toks) q2
  have fin : wpAny (model X.prog X.w) X.A (subscriptTail e (.Slice none (some (.Constant (.int i) j c0)) none p2) v (.ref s1.heap.objs.size)) (EP X pins σ Q) X.xe { s1 with toks := s1.toks + 1, heap := s1.heap.push { cls := .type "slice", data := .fields #[.none, .int i s1.toks, .none] } } :=
    tail_any (ops := [.ref s1.heap.objs.size, v]) ht hT hg (by with_unfolding_all rfl)
  exact wpAny_mono (wpAny_toks_of (n := 1) (Nat.succ_le_succ (Nat.zero_le _)) fin) (fun _ _ q => q) fun _ _ q => q.2
theorem eu_head (he : PE X e (tE X.K W we)) : PEU X (.Subscript e (.Slice none (some (.Constant (.int i) j c0)) none p2) pos) (tE X.K W (wSl we wNoPart (wPart (wC (.int i))))) := by
  intro pins s σ H Q I h
  refine peu_head (sl_list.or (sl_tupA.or sl_str)) he pins s σ H Q I ?_
  exact tE_mono (sl_of h) fun v H' h => ⟨i, rfl, tO_int (tO_none h)⟩
/-- o.replace(y, z), a token being out behind o -/
theorem e_replU {apos : Pos} (ho : PEU X o (tE X.K W wo)) (hyz : (y == z) = false := by decide)
    (hst : starEach [.Constant (.str y) j c0, .Constant (.str z) k c1] X.env = [(false, eval (.Constant (.str y) j c0) X.env), (false, eval (.Constant (.str z) k c1) X.env)] := by rfl)
    (hbase : attributeBase o "replace" X.env (eval o X.env) = eval o X.env := by rfl) (hline : (apos.endLine == pos.line) = true := by rfl) :
    PE X (.Call (.Attribute o "replace" apos) [.Constant (.str y) j c0, .Constant (.str z) k c1] [] pos) (tE X.K W (wRepl y z wo)) := by
  refine ⟨fun pins s σ H Q I ⟨H0, F0, A0, s0, T, kx, kk, w, xl, h, q⟩ => ?_⟩
  refine PySem.Call_method2 hbase hst hline (wpAny_mono (ho pins s σ H (fun v H1 => ∃ x, v = .str x ∧ x.length + (x.length + 1) * z.length ≤ 16777216 ∧ Q (.str (Txt.replace x y z)) H1) I ⟨H0, F0, A0, s0, T, kx, _, w, xl, h, fun x s1 h1 u H1 w1 => ?_⟩) (fun v s1 q => ?_) fun _ _ z => z)
  · obtain ⟨z0, rfl, hz, hk⟩ := h1
    cases str_at w1 List.mem_cons_self
    obtain ⟨F, A, w1⟩ := w1
    exact ⟨z0, rfl, hz, q _ _ hk _ H1 ⟨F, A, (w1.sub fun t h => List.mem_cons_of_mem _ h).push (.str _)⟩⟩
  obtain ⟨hk, v', H1, I1, r1, x, e1, hb, q⟩ := q
  subst e1
  obtain ⟨tx, e2⟩ := r1
  subst e2
  refine ⟨"str", _, PySem.F.plainAttrs_str, PySem.F.slot_str_replace, PySem.F.type_str_replace, typeIs_str _ _ _, (fun _ e => nomatch e), Calls.callWith_builtin rfl (Calls.evalArgs_plain (Calls.spliced_cons ?_))⟩
  refine Calls.Constant_str (Calls.spliced_cons (Calls.Constant_str (Calls.spliced_nil ?_)))
  exact PySem.SC.replace (show s1.toks ≠ 0 by omega) (show s1.toks + 1 ≠ 0 by omega) (show s1.toks ≠ s1.toks + 1 by omega) hyz hb fun t' k => ⟨.str (Txt.replace x y z), H1, I1.tok k, ⟨t', rfl⟩, q⟩
end
end PW

namespace PW
open PySem L2
/-! ### calls that are lent the whole heap; recursion -/
/-- H without the things in A -/
def lendA (H : Hp) (A : List Addr) : Hp := fun b => if b ∈ A then none else H b
theorem lendA_out {H : Hp} {A : List Addr} {b : Addr} (h : b ∉ A) : lendA H A b = H b := if_neg h
theorem lendA_in {H : Hp} {A : List Addr} {b : Addr} (h : b ∈ A) : lendA H A b = none := if_pos h
section
variable {K : PySem.W.Frag} {H0 F0 : Hp} {A0 : List Addr} {s : PSt} {σ : L2.St} {T : List (PV × V)} {H F : Hp} {A : List Addr}
theorem WdF.afterH {s' : PSt} {σ' : L2.St} {T' : List (PV × V)} {H' F' : Hp} {A' : List Addr} (w : WdF K H0 F0 A0 s σ T H F A) (z : WdF K (lendA H A) F A s' σ' T' H' F' A') : WdF K H0 F0 A0 ⟨s.r, s'.o⟩ σ T H' F' A' where
  fz := ⟨w.fz.f.trans z.fz.f, z.fz.g, fun a u e => z.fz.h a u (by
      rw [lendA_out fun ha => by rw [(w.ad a ha).1] at e; cases e]
      exact w.fz.h a u e), fun p h1 h2 => z.fz.n p (by
      rw [lendA_out fun ha => h1 (w.ad p ha).1]
      exact fun e => h1 (w.fz.h.free e)) (w.fz.n p h1 h2)⟩
  pre := w.pre.trans z.pre
  len := z.len
  nd := z.nd
  ad := fun q hq => ⟨by
    by_cases h : q ∈ A
    · exact (w.ad q h).1
    · have := (z.ad q hq).1
      rw [lendA_out h] at this
      exact w.fz.h.free this, (z.ad q hq).2⟩
  oc := z.oc
  sl := w.sl
  pv := fun i v h => by
    obtain ⟨u, a, b⟩ := w.pv i v h
    exact ⟨u, a, b.mono z.fz.f z.pre⟩
  tm := fun t ht => (w.tm t ht).mono z.fz.f z.pre
theorem WdF.forH (w : WdF K H0 F0 A0 s σ T H F A) (xs : List PV) (us : List V) (e : us.length = xs.length) (ht : ∀ t ∈ xs.zip us, t ∈ T) : WdF K (lendA H A) F A ⟨xs.map some, s.o⟩ (us.map some) [] H F A where
  fz := ⟨Same.refl _, w.fz.g, fun a u h => by
    by_cases ha : a ∈ A
    · rw [lendA_in ha] at h; cases h
    · rw [lendA_out ha] at h; exact h, fun _ _ h => h⟩
  pre := List.prefix_refl _
  len := w.len
  nd := w.nd
  ad := fun p hp => ⟨lendA_in hp, (w.ad p hp).2⟩
  oc := w.oc
  sl := by show (xs.map some).length = (us.map some).length; rw [List.length_map, List.length_map, e]
  pv := fun i v hv => by
    have hv : (xs.map some)[i]? = some (some v) := hv
    rw [List.getElem?_map] at hv
    cases hx : xs[i]? with
    | none => rw [hx] at hv; cases hv
    | some y =>
      rw [hx] at hv
      have hv : some y = some v := Option.some.inj hv
      cases hv
      have hi : i < xs.length := (List.getElem?_eq_some_iff.mp hx).1
      have hu : us[i]? = some us[i] := List.getElem?_eq_getElem (by rw [e]; exact hi)
      refine ⟨us[i], by rw [List.getElem?_map, hu]; rfl, ?_⟩
      have hz : (xs.zip us)[i]? = some (v, us[i]) := by
        rw [List.getElem?_zip_eq_some]
        exact ⟨hx, hu⟩
      exact w.tm _ (ht _ (List.mem_of_getElem? hz))
  tm := fun _ z => nomatch z
end
/-- f(a, ..): the whole heap is lent -/
def wCallH (S : FS) (ws : AW) : EW := fun kx s k => ws kx s fun vs s1 => S vs s1.o
  (fun r o => match r with | .d z => k (.d z) ⟨s1.r, o⟩ | .new zs => k (.own o.length) ⟨s1.r, o ++ [.dl zs]⟩) (fun x o => kx x ⟨s1.r, o⟩)
section
variable {X : Cx} {W : WX} {k j : Nat} {ps : List Str} {S : FS} {x : Str} {p pos : Pos} {e : Expr} {es : List Expr} {ws : AW} {f : Addr} {fd : FuncData}
theorem e_callH (F : FnOk X.prog X.w X.K X.mg X.base (L2N.CX X.prog X.w) k f fd ps (spOf X.K S)) (tk : L2N.Takes X W) (hr : Room k X.A) (hg : Gl X x) (hm : X.mg x = some (.ref f)) (hk : PySem.W.keepIn X.K (.ref f) = true) (hb : Binds X.K fd ps [])
    (ha : PA X (e :: es) (tA X.K W ws)) (hdb : (x == ("__debug__" : Str)) = false := by decide) (he : starEach (e :: es) X.env = (false, eval e X.env) :: starEach es X.env := by rfl) (hpl : (backTo pos (starEach es X.env)).any (·.1) = false := by rfl) :
    PE X (.Call (.Name x p) (e :: es) [] pos) (tE X.K W (wCallH S ws)) := by
  refine PE.imp (pe_callS F hr hg hm hk hb (fun σ => L2N.passAt tk σ) ha hdb he hpl) fun σ H Q ⟨H0, F0, A0, s, T, kx, kk, w, xl, h, q⟩ => ar_of w xl h fun vs s1 us H1 hS e1 w1 => ?_
  obtain ⟨F1, A, w1⟩ := w1
  have w3 := w1.sub (T' := T) fun t h => List.mem_append_right _ h
  refine ⟨lendA H1 A, F1, A, vs, s1.o, _, _, ⟨F1, A, w1.forH vs us e1 fun t h => List.mem_append_left _ h⟩, w1.len, hS, fun r o hr ho v H' ret => ?_, fun y o hx ho d H' w' => ?_⟩
  · cases r with
    | d z =>
      obtain ⟨F', A', w'⟩ := ret
      have dz : Dq X.K F' v z := w'.tm (.d z, v) List.mem_cons_self
      exact q _ _ hr v H' ⟨F', A', (w3.afterH w').push dz⟩
    | new zs =>
      obtain ⟨F', A', w'⟩ := ret
      have t := w'.tm (.own o.length, v) List.mem_cons_self
      exact q _ _ hr v H' ⟨F', A', (w3.afterH w').push t⟩
  · obtain ⟨F', A', w'⟩ := w'
    have px : PVOk X.K F' A' (.xd y.fs) (dV d) := w'.tm (.xd y.fs, dV d) List.mem_cons_self
    exact xl y _ hx σ H' d ⟨F', A', (w3.afterH w').push px⟩
theorem c_callH (C : Cal X.prog X.w X.K X.mg X.base k x ps S) (tk : L2N.Takes X W) (hr : Room j X.A) (ha : PA X (e :: es) (tA X.K W ws)) (hk : k ≤ j := by decide) (hg : Gl X x := by rfl)
    (hdb : (x == ("__debug__" : Str)) = false := by decide) (he : starEach (e :: es) X.env = (false, eval e X.env) :: starEach es X.env := by rfl) (hpl : (backTo pos (starEach es X.env)).any (·.1) = false := by rfl) :
    PE X (.Call (.Name x p) (e :: es) [] pos) (tE X.K W (wCallH S ws)) := by
  obtain ⟨f, fd, F, m, kp, b⟩ := C.ex
  exact e_callH F tk (hr.mono hk) hg m kp b ha hdb he hpl
end
section
variable {P : Program} {w : World} {K : PySem.W.Frag} {mg : Str → Option Value} {base : Heap}
/-- a def of which nothing is promised -/
theorem Dfd.cal0 {x : Str} {ps : List Str} {st : Stmt} {k : Nat} {S : FS} (D : Dfd K mg x ps st) (z : ∀ args o r e, ¬ S args o r e) : Cal P w K mg base k x ps S := by
  obtain ⟨f, fd, F, m, b⟩ := D.ex
  refine ⟨f, fd, ⟨fun vs H Q E h => ?_, fun A outer s H args us vs Q E _ _ _ _ h => ?_⟩, m, F.kp, b⟩
  · obtain ⟨_, _, _, _, _, _, _, _, _, h, _⟩ := h
    exact (z _ _ _ _ h).elim
  · obtain ⟨_, _, _, _, _, _, _, _, _, h, _⟩ := h
    exact (z _ _ _ _ h).elim
end
end PW
namespace PW
open PySem L2 PyProof.Rows
/-! ### x in t, t a tuple whose items are data of any depth -/
section
variable {X : Cx} {W : WX} {a b : Expr} {wa wb : EW} {pos : Pos}
def rInTD (K : PySem.W.Frag) (n : Bool) : R2 := fun x y H Q => ∃ d ds, Dp K H x d ∧ Dp K H y (.tuple ds) ∧ SeqAt.shaped d = true ∧ SeqAt.shaped (.tuple ds) = true ∧ Q (.bl (if n then !(ds.any fun z => PyData.eqv z d) else ds.any fun z => PyData.eqv z d)) H
theorem op_inTD (hu : X.A.units + 65 < cLine) : OpR X (compareOp .In) (rInTD X.K false) := by
  intro pins s σ H x y v u Q I rx ry h
  obtain ⟨d, ds, hd, he, sd, se, q⟩ := h
  obtain ⟨as, r1⟩ := Dp.reads I d x v hd rx
  obtain ⟨bs, r2⟩ := Dp.reads I (.tuple ds) y u he ry
  exact SeqAt.in_tuple_reads r2 r1 (SeqAt.canLay_of_shaped se) (SeqAt.canLay_of_shaped sd) (room_in_shaped sd hu) ⟨.bl _, H, I, rfl, q⟩
theorem op_notInTD (hu : X.A.units + 65 < cLine) : OpR X (compareOp .NotIn) (rInTD X.K true) := by
  intro pins s σ H x y v u Q I rx ry h
  obtain ⟨d, ds, hd, he, sd, se, q⟩ := h
  obtain ⟨as, r1⟩ := Dp.reads I d x v hd rx
  obtain ⟨bs, r2⟩ := Dp.reads I (.tuple ds) y u he ry
  exact SeqAt.notIn_tuple_reads r2 r1 (SeqAt.canLay_of_shaped se) (SeqAt.canLay_of_shaped sd) (room_in_shaped sd hu) ⟨.bl _, H, I, rfl, q⟩
def rInTP (n : Bool) : PyData → PyData → (PyData → Prop) → Prop := fun a b q => ∃ ys, b = .tuple ys ∧ SeqAt.shaped a = true ∧ SeqAt.shaped (.tuple ys) = true ∧ q (.bool (if n then !inD a ys else inD a ys))
theorem ok_inTP {K : PySem.W.Frag} {n : Bool} : ROk K (rInTD K n) (rInTP n) := by
  intro u v x y H Q P hx hy h q
  obtain ⟨ys, rfl, h1, h2, h3⟩ := h
  exact ⟨x, ys, hx, hy, h1, h2, q _ _ h3 rfl⟩
abbrev wInT := wOp (rInTP false)
abbrev wNotInT := wOp (rInTP true)
theorem e_inT (hu : X.A.units + 65 < cLine) (hm : behindInMarks .In b = false) (ha : PE X a (tE X.K W wa)) (hb : PE X b (tE X.K W wb)) : PE X (.Compare a [.In] [b] pos) (tE X.K W (wInT wa wb)) := e_cmp (op_inTD hu) ok_inTP hm ha hb
theorem e_notInT (hu : X.A.units + 65 < cLine) (hm : behindInMarks .NotIn b = false) (ha : PE X a (tE X.K W wa)) (hb : PE X b (tE X.K W wb)) : PE X (.Compare a [.NotIn] [b] pos) (tE X.K W (wNotInT wa wb)) := e_cmp (op_notInTD hu) ok_inTP hm ha hb
theorem t_inT (hu : X.A.units + 65 < cLine) (hm : behindInMarks .In b = false) (ha : PE X a (tE X.K W wa)) (hb : PE X b (tE X.K W wb)) : PT X (.Compare a [.In] [b] pos) (tT X.K W (wB (wInT wa wb))) := t_op (op_inTD hu) ok_inTP hm ha hb
theorem t_notInT (hu : X.A.units + 65 < cLine) (hm : behindInMarks .NotIn b = false) (ha : PE X a (tE X.K W wa)) (hb : PE X b (tE X.K W wb)) : PT X (.Compare a [.NotIn] [b] pos) (tT X.K W (wB (wNotInT wa wb))) := t_op (op_notInTD hu) ok_inTP hm ha hb
end
end PW

namespace PW
open PySem L2
/-! ### all, any, sum, max of lists -/
theorem dqAll_bls {K : PySem.W.Frag} {H : Hp} : ∀ {bs : List Bool} {vs : List V}, DqAll K H vs (bs.map PyData.bool) → vs = bs.map V.bl
  | [], _, .nil => rfl
  | b :: bs, _, .cons h t => by
    cases h
    rw [dqAll_bls t]
    rfl
theorem dqAll_ints {K : PySem.W.Frag} {H : Hp} : ∀ {bs : List Int} {vs : List V}, DqAll K H vs (bs.map PyData.int) → vs = bs.map V.int
  | [], _, .nil => rfl
  | b :: bs, _, .cons h t => by
    cases h
    rw [dqAll_ints t]
    rfl
def wAll (wa : EW) : EW := fun kx s k => wa kx s fun x s1 => ∃ bs : List Bool, dat s1 x = some (.list (bs.map PyData.bool)) ∧ k (.d (.bool (bs.all id))) s1
def wAny (wa : EW) : EW := fun kx s k => wa kx s fun x s1 => ∃ bs : List Bool, dat s1 x = some (.list (bs.map PyData.bool)) ∧ k (.d (.bool (bs.any id))) s1
def wSum (wa : EW) : EW := fun kx s k => wa kx s fun x s1 => ∃ ns : List Int, dat s1 x = some (.list (ns.map PyData.int)) ∧ k (.d (.int ns.sum)) s1
def wMaxL (wa : EW) : EW := fun kx s k => wa kx s fun x s1 => ∃ ns : List Int, dat s1 x = some (.list (ns.map PyData.int)) ∧ 0 < ns.length ∧ ∀ m, m ∈ ns → (∀ y, y ∈ ns → y ≤ m) → k (.d (.int m)) s1
def wMinL (wa : EW) : EW := fun kx s k => wa kx s fun x s1 => ∃ ns : List Int, dat s1 x = some (.list (ns.map PyData.int)) ∧ 0 < ns.length ∧ ∀ m, m ∈ ns → (∀ y, y ∈ ns → m ≤ y) → k (.d (.int m)) s1
section
variable {X : Cx} {W : WX} {a : Expr} {wa : EW} {pos p : Pos}
theorem e_all (hc : X.calm = true) (hm : X.mg "all" = none) (ha : PE X a (tE X.K W wa)) (hg : Gl X "all" := by rfl) (he : starEach [a] X.env = (false, eval a X.env) :: starEach [] X.env := by rfl) (hpl : (backTo pos (starEach [] X.env)).any (·.1) = false := by rfl) :
    PE X (.Call (.Name "all" p) [a] [] pos) (tE X.K W (wAll wa)) := by
  refine PE.imp (pe_callB (cr_all hc) hg hm (by decide +kernel) (pa_cons ha pa_nil he) (he := he) (hpl := hpl)) fun σ H Q ⟨H0, F0, A0, s, T, kx, k, w, xl, h, q⟩ => cb1_of w xl h fun x s1 u H1 h1 w1 => ?_
  obtain ⟨bs, hd, hk⟩ := h1
  obtain ⟨F, A, w1⟩ := w1
  obtain ⟨pp, vs, rfl, h1, h2⟩ := items_ok w1 (w1.tm _ List.mem_cons_self) hd
  cases dqAll_bls h2
  exact ⟨pp, bs, rfl, h1, q _ _ hk _ _ ⟨F, A, (w1.sub (T' := T) fun t h => List.mem_cons_of_mem _ h).push (.bl _)⟩⟩
theorem e_any (hc : X.calm = true) (hm : X.mg "any" = none) (ha : PE X a (tE X.K W wa)) (hg : Gl X "any" := by rfl) (he : starEach [a] X.env = (false, eval a X.env) :: starEach [] X.env := by rfl) (hpl : (backTo pos (starEach [] X.env)).any (·.1) = false := by rfl) :
    PE X (.Call (.Name "any" p) [a] [] pos) (tE X.K W (wAny wa)) := by
  refine PE.imp (pe_callB (cr_any hc) hg hm (by decide +kernel) (pa_cons ha pa_nil he) (he := he) (hpl := hpl)) fun σ H Q ⟨H0, F0, A0, s, T, kx, k, w, xl, h, q⟩ => cb1_of w xl h fun x s1 u H1 h1 w1 => ?_
  obtain ⟨bs, hd, hk⟩ := h1
  obtain ⟨F, A, w1⟩ := w1
  obtain ⟨pp, vs, rfl, h1, h2⟩ := items_ok w1 (w1.tm _ List.mem_cons_self) hd
  cases dqAll_bls h2
  exact ⟨pp, bs, rfl, h1, q _ _ hk _ _ ⟨F, A, (w1.sub (T' := T) fun t h => List.mem_cons_of_mem _ h).push (.bl _)⟩⟩
theorem e_sum (hc : X.calm = true) (hm : X.mg "sum" = none) (ha : PE X a (tE X.K W wa)) (hg : Gl X "sum" := by rfl) (he : starEach [a] X.env = (false, eval a X.env) :: starEach [] X.env := by rfl) (hpl : (backTo pos (starEach [] X.env)).any (·.1) = false := by rfl) :
    PE X (.Call (.Name "sum" p) [a] [] pos) (tE X.K W (wSum wa)) := by
  refine PE.imp (pe_callB (cr_sum hc) hg hm (by decide +kernel) (pa_cons ha pa_nil he) (he := he) (hpl := hpl)) fun σ H Q ⟨H0, F0, A0, s, T, kx, k, w, xl, h, q⟩ => cb1_of w xl h fun x s1 u H1 h1 w1 => ?_
  obtain ⟨bs, hd, hk⟩ := h1
  obtain ⟨F, A, w1⟩ := w1
  obtain ⟨pp, vs, rfl, h1, h2⟩ := items_ok w1 (w1.tm _ List.mem_cons_self) hd
  cases dqAll_ints h2
  exact ⟨pp, bs, rfl, h1, q _ _ hk _ _ ⟨F, A, (w1.sub (T' := T) fun t h => List.mem_cons_of_mem _ h).push (.int _)⟩⟩
theorem e_maxL (hc : X.calm = true) (hm : X.mg "max" = none) (ha : PE X a (tE X.K W wa)) (hg : Gl X "max" := by rfl) (he : starEach [a] X.env = (false, eval a X.env) :: starEach [] X.env := by rfl) (hpl : (backTo pos (starEach [] X.env)).any (·.1) = false := by rfl) :
    PE X (.Call (.Name "max" p) [a] [] pos) (tE X.K W (wMaxL wa)) := by
  refine PE.imp (pe_callB (cr_max hc) hg hm (by decide +kernel) (pa_cons ha pa_nil he) (he := he) (hpl := hpl)) fun σ H Q ⟨H0, F0, A0, s, T, kx, k, w, xl, h, q⟩ => cb1_of w xl h fun x s1 u H1 h1 w1 => ?_
  obtain ⟨bs, hd, h0, hk⟩ := h1
  obtain ⟨F, A, w1⟩ := w1
  obtain ⟨pp, vs, rfl, h1, h2⟩ := items_ok w1 (w1.tm _ List.mem_cons_self) hd
  cases dqAll_ints h2
  exact ⟨pp, bs, rfl, h1, h0, fun m e1 e2 => q _ _ (hk m e1 e2) _ _ ⟨F, A, (w1.sub (T' := T) fun t h => List.mem_cons_of_mem _ h).push (.int _)⟩⟩
theorem e_minL (hc : X.calm = true) (hm : X.mg "min" = none) (ha : PE X a (tE X.K W wa)) (hg : Gl X "min" := by rfl) (he : starEach [a] X.env = (false, eval a X.env) :: starEach [] X.env := by rfl) (hpl : (backTo pos (starEach [] X.env)).any (·.1) = false := by rfl) :
    PE X (.Call (.Name "min" p) [a] [] pos) (tE X.K W (wMinL wa)) := by
  refine PE.imp (pe_callB (cr_min hc) hg hm (by decide +kernel) (pa_cons ha pa_nil he) (he := he) (hpl := hpl)) fun σ H Q ⟨H0, F0, A0, s, T, kx, k, w, xl, h, q⟩ => cb1_of w xl h fun x s1 u H1 h1 w1 => ?_
  obtain ⟨bs, hd, h0, hk⟩ := h1
  obtain ⟨F, A, w1⟩ := w1
  obtain ⟨pp, vs, rfl, h1, h2⟩ := items_ok w1 (w1.tm _ List.mem_cons_self) hd
  cases dqAll_ints h2
  exact ⟨pp, bs, rfl, h1, h0, fun m e1 e2 => q _ _ (hk m e1 e2) _ _ ⟨F, A, (w1.sub (T' := T) fun t h => List.mem_cons_of_mem _ h).push (.int _)⟩⟩
end
end PW
namespace PW
open PySem L2
/-! ### zip of two tuples -/
def wZpT (wa wb : EW) : IW := fun kx s k => wa kx s fun v s1 => wb kx s1 fun u s2 => ∃ xs ys, v = .d (.tuple xs) ∧ u = .d (.tuple ys) ∧ k (zipD xs ys) none s2
theorem it_zipT {K : PySem.W.Frag} {a b : Addr} {xs ys : List PyData} : ItOk K (RZ.ItzT K a b) [(.d (.tuple xs), .ref a), (.d (.tuple ys), .ref b)] none (zipD xs ys) := by
  intro H0 F0 A0 s σ T H F A w ht _ i
  have p : PVOk K F A (.d (.tuple xs)) (.ref a) := w.tm _ (ht _ List.mem_cons_self)
  have p' : PVOk K F A (.d (.tuple ys)) (.ref b) := w.tm _ (ht _ (List.mem_cons_of_mem _ List.mem_cons_self))
  obtain ⟨a', vs, e, h1, h2⟩ := itemsT_ok w p rfl
  obtain ⟨b', ws, e', h1', h2'⟩ := itemsT_ok w p' rfl
  cases e
  cases e'
  have hl := h2.len
  have hl' := h2'.len
  rw [zipD_len]
  refine ⟨fun hi => ⟨vs, ws, vs[i]'(by omega), ws[i]'(by omega), h1, h1', List.getElem?_eq_getElem (by omega), List.getElem?_eq_getElem (by omega)⟩, fun hi => ⟨vs, ws, h1, h1', by omega⟩, fun _ x H' hy => ?_⟩
  obtain ⟨t, y, z, rfl, ht, rfl, hx, hz⟩ := hy
  obtain ⟨d, hd, dq⟩ := h2.get i y (hx vs h1)
  obtain ⟨d', hd', dq'⟩ := h2'.get i z (hz ws h1')
  have sn := same_new (o := .tup [y, z]) (w.fz.g.free ht)
  exact ⟨.tuple [d, d'], zipD_get _ _ _ _ _ hd hd', _, (w.newD (o := .tup [y, z]) ht).push (.tup (SqT.of upd_same) (.cons (dq_same sn dq) (.cons (dq_same sn dq') .nil)))⟩
section
variable {X : Cx} {W : WX} {a b : Expr} {wa wb : EW} {pos p : Pos}
theorem i_zipT {elts : List Expr} {kk : Nat} {tpos : Pos} (hm : X.mg "zip" = none) (ha : PE X a (tE X.K W wa)) (hb : PE X b (tE X.K W wb)) (hg : Gl X "zip" := by rfl) (hs : starEach [a, b] X.env = (false, eval a X.env) :: starEach [b] X.env := by rfl) (hs2 : starEach [b] X.env = (false, eval b X.env) :: starEach [] X.env := by rfl) (hpl : (backTo pos (starEach [b] X.env)).any (·.1) = false := by rfl) :
    PI X (.Tuple elts kk tpos) (.Call (.Name "zip" p) [a, b] [] pos) (tI X.K W (wZpT wa wb)) := by
  refine PI.imp (RZ.pi_zipA hg hm (pa_cons ha (pa_cons hb pa_nil hs2) hs) hs hpl) fun σ H R ⟨H0, F0, A0, s, T, kx, k, w, xl, h, q⟩ => un_of w xl h fun v s1 u H1 h1 w1 => ?_
  refine ⟨H0, F0, A0, s1, _, kx, _, w1, xl.push, h1, fun v2 s2 h2 u2 H2 w2 => ?_⟩
  obtain ⟨xs, ys, rfl, rfl, h2⟩ := h2
  obtain ⟨F, A, w5⟩ := id w2
  have p1 : PVOk X.K F A (.d (.tuple xs)) u := w5.tm _ (List.mem_cons_of_mem _ List.mem_cons_self)
  have p2 : PVOk X.K F A (.d (.tuple ys)) u2 := w5.tm _ List.mem_cons_self
  obtain ⟨a, vs, rfl, i3, i4⟩ := itemsT_ok w5 p1 rfl
  obtain ⟨b, ws, rfl, j3, j4⟩ := itemsT_ok w5 p2 rfl
  refine ⟨a, b, vs, ws, rfl, .inr ⟨i3, j3, q _ _ _ h2 _ [(.d (.tuple xs), .ref a), (.d (.tuple ys), .ref b)] H2 (w2.sub fun t ht => ?_) it_zipT⟩⟩
  rcases List.mem_cons.mp ht with e | ht
  · rw [e]; exact List.mem_cons_of_mem _ List.mem_cons_self
  · rcases List.mem_cons.mp ht with e | ht
    · rw [e]; exact List.mem_cons_self
    · exact List.mem_cons_of_mem _ (List.mem_cons_of_mem _ ht)
end
end PW

namespace PW
open PySem L2 PySem.Spec PyProof.Rows
/-! ### l.count(x), the items data of any depth -/
section
variable {X : Cx} {W : WX} {a wo_e : Expr} {wa wo : EW} {pos : Pos}
def rCntD (K : PySem.W.Frag) : V → List V → Hp → VK → Prop := fun x xs H Q => ∃ (a : Addr) (y : V) (d : PyData) (ds : List PyData), x = V.ref a ∧ xs = [y] ∧ Dp K H (V.ref a) (.list ds) ∧ Dp K H y d ∧
  SeqAt.shaped (.list ds) = true ∧ SeqAt.shaped d = true ∧ Q (.int ((ds.countP fun z => PyData.eqv z d : Nat))) H
theorem mt_lcountD (hu : X.A.units + 65 < cLine) : MtR X "list.count" (rCntD X.K) := by
  intro pins s σ H x xs v us Q I rx rxs h
  obtain ⟨a, y, d, ds, rfl, rfl, hl, hy, sl, sd, q⟩ := h
  cases rx
  cases rxs with
  | cons ry rt =>
    rename_i uy ut
    cases rt
    obtain ⟨bs, r1⟩ := Dp.reads I d y uy hy ry
    have hxs : PyData.canLayAll0 ds = true := SeqAt.canLay_of_shaped sl
    have hroom : X.A.units + 1 + min (PyData.depthAll ds) d.depth < cLine := room_in_shaped sd hu
    cases hl with
    | lst hs ha =>
      obtain ⟨its, rv, ⟨⟨cls, dd, data, sls⟩, n, ho, hc, hdn, hdt⟩, hlen⟩ := I.list hs
      simp only at hc hdt
      subst hc hdt
      obtain ⟨as, h4⟩ := Dp.readsAll I ds _ its ha rv
      have hmap : its.map (SeqAt.readOf s.heap) = ds := SeqAt.readsAll_map ds its as hxs h4
      refine call_meets PySem.F.slot_list_count ⟨_, ho, rfl⟩ PySem.F.entry_list_count (PySem.F.args_list_count_2 _ _)
        (SeqAt.list_countAt a its.toArray n dd sls uy (fun u => PyData.eqv (SeqAt.readOf s.heap u) d)) ⟨ho, SeqAt.items_eqAt (vs := its.toArray) (show ReadsAll s.heap its.toArray.toList ds as from h4) r1 hxs (SeqAt.canLay_of_shaped sd) hroom, ?_⟩
      have ec : its.toArray.toList.countP (fun u => PyData.eqv (SeqAt.readOf s.heap u) d) = ds.countP fun z => PyData.eqv z d := by
        rw [← hmap, List.countP_map]
        rfl
      refine ⟨.int ((ds.countP fun z => PyData.eqv z d : Nat)), H, I.tok _, ⟨s.toks, ?_⟩, q⟩
      show Value.int ((its.toArray.toList.countP (fun u => PyData.eqv (SeqAt.readOf s.heap u) d) : Nat) : Int) s.toks = _
      rw [ec]
def wCount (wo we : EW) : EW := fun kx s k => wo kx s fun x s1 => (∃ xs, dat s1 x = some (.list xs)) ∧ we kx s1 fun y s2 => ∃ xs b, dat s2 x = some (.list xs) ∧ dat s2 y = some b ∧ SeqAt.shaped (.list xs) = true ∧ SeqAt.shaped b = true ∧ k (.d (.int ((xs.countP fun z => PyData.eqv z b : Nat)))) s2
theorem e_count {apos : Pos} (hu : X.A.units + 65 < cLine) (ho : PE X wo_e (tE X.K W wo)) (ha : PE X a (tE X.K W wa))
    (hbase : attributeBase wo_e "count" X.env (eval wo_e X.env) = eval wo_e X.env := by rfl)
    (hfew : ((backTo pos (starEach [a] X.env)).all (fun x => !x.1) && (backToKw pos (keywordEach [] X.env)).all (fun x => x.1.isSome)
      && decide ([a].length + ([] : List Keyword).length + (if ([] : List Keyword).isEmpty then 0 else 1) < 30)) = true := by rfl)
    (hline : (apos.endLine == pos.line) = true := by rfl) (hs : starEach [a] X.env = (false, eval a X.env) :: starEach [] X.env := by rfl) (hplain : (backTo pos (starEach [] X.env)).any (·.1) = false := by rfl) :
    PE X (.Call (.Attribute wo_e "count" apos) [a] [] pos) (tE X.K W (wCount wo wa)) := by
  refine PE.imp (pe_bm PySem.F.plainAttrs_list PySem.F.slot_list_count PySem.F.type_list_count (mt_lcountD hu) ho (pa_cons ha pa_nil hs) hbase hfew hline hs hplain) fun σ H Q ⟨H0, F0, A0, s, T, kx, k, w, xl, h, q⟩ => ?_
  refine ⟨H0, F0, A0, s, T, kx, _, w, xl, h, fun x s1 h1 u H1 w1 => ?_⟩
  obtain ⟨⟨ws, ow⟩, h1⟩ := h1
  have ty : tyV X.K "list" u H1 := by
    obtain ⟨F, A, w1⟩ := w1
    obtain ⟨p, vs, rfl, hv, _⟩ := items_ok w1 (w1.tm _ List.mem_cons_self) ow
    exact .inl ⟨rfl, vs, hv⟩
  refine ⟨ty, H0, F0, A0, s1, _, kx, _, w1, xl.push, h1, fun y s2 h2 v H2 w2 => ?_⟩
  obtain ⟨xs, b, ox, oy, sh1, sh2, hk⟩ := h2
  obtain ⟨F, A, w3⟩ := w2
  obtain ⟨p, vs, rfl, hv, hd⟩ := items_ok w3 (w3.tm _ (List.mem_cons_of_mem _ List.mem_cons_self)) ox
  have e1 := dat_ok w3 (w3.tm _ (List.mem_cons_of_mem _ List.mem_cons_self)) ox
  have e2 := dat_ok w3 (w3.tm _ List.mem_cons_self) oy
  exact ⟨p, v, b, xs, rfl, rfl, e1, e2, sh1, sh2, q _ _ hk _ _ ⟨F, A, (w3.sub (T' := T) fun t h => List.mem_cons_of_mem _ (List.mem_cons_of_mem _ h)).push (.int _)⟩⟩
end
end PW
namespace PW
open PySem L2
/-! ### list(range(..)) -/
def wLRg1 (wa : EW) : EW := fun kx s k => wa kx s fun x s1 => ∃ n : Int, x = .d (.int n) ∧ RgOk 0 n ∧ k (.own s1.o.length) ⟨s1.r, s1.o ++ [.dl (intsD 0 n.toNat)]⟩
def wLRg2 (wa wb : EW) : EW := fun kx s k => wa kx s fun x s1 => wb kx s1 fun y s2 => ∃ i j : Int, x = .d (.int i) ∧ y = .d (.int j) ∧ RgOk i j ∧ k (.own s2.o.length) ⟨s2.r, s2.o ++ [.dl (intsD i (j - i).toNat)]⟩
theorem rgV_dq {K : PySem.W.Frag} {H : Hp} (a b : Int) : DqAll K H (rgV a b) (intsD a (b - a).toNat) := by
  have key : ∀ l : List Nat, DqAll K H (l.map fun i => V.int (a + (i : Nat))) (l.map fun i => PyData.int (a + (i : Nat))) := by
    intro l
    induction l with
    | nil => exact .nil
    | cons i l ih => exact .cons (.int _) ih
  exact key _
section
variable {X : Cx} {W : WX} {a b : Expr} {wa wb : EW} {p pos p2 pos2 : Pos}
theorem e_lrg1 (hc : X.calm = true) (hm : X.mg "list" = none) (hm2 : X.mg "range" = none) (ha : PE X a (tE X.K W wa)) (hg : Gl X "list" := by rfl) (hg2 : Gl X "range" := by rfl)
    (na : starEach [a] X.env = (false, eval a X.env) :: starEach [] X.env := by rfl) (nb : starEach [Expr.Call (.Name "range" p2) [a] [] pos2] X.env = (false, eval (.Call (.Name "range" p2) [a] [] pos2) X.env) :: starEach [] X.env := by rfl) :
    PE X (.Call (.Name "list" p) [.Call (.Name "range" p2) [a] [] pos2] [] pos) (tE X.K W (wLRg1 wa)) := by
  refine PE.imp (pe_listRg hc hg hm (prg_1 hg2 hm2 ha na) nb) fun σ H Q ⟨H0, F0, A0, s, T, kx, k, w, xl, h, q⟩ => un_of w xl h fun x s1 u H1 h1 w1 => ?_
  obtain ⟨n, rfl, hok, hk⟩ := h1
  obtain ⟨F, A, w1⟩ := w1
  have pu : Dq X.K F u (.int n) := w1.tm _ List.mem_cons_self
  cases pu
  refine ⟨n, rfl, hok, fun q1 hq => ?_⟩
  have w2 := w1.sub (T' := T) fun t h => List.mem_cons_of_mem _ h
  have dq := rgV_dq (K := X.K) (H := F) 0 n
  rw [show n - 0 = n from by omega] at dq
  exact q _ _ hk _ _ ⟨F, _, (w2.newL hq dq).push (top_at w2 q1 F)⟩
theorem e_lrg2 (hc : X.calm = true) (hm : X.mg "list" = none) (hm2 : X.mg "range" = none) (ha : PE X a (tE X.K W wa)) (hb : PE X b (tE X.K W wb)) (hg : Gl X "list" := by rfl) (hg2 : Gl X "range" := by rfl)
    (na : starEach [a, b] X.env = (false, eval a X.env) :: starEach [b] X.env := by rfl) (nb : starEach [b] X.env = (false, eval b X.env) :: starEach [] X.env := by rfl) (hp : (backTo pos2 (starEach [b] X.env)).any (·.1) = false := by rfl)
    (nc : starEach [Expr.Call (.Name "range" p2) [a, b] [] pos2] X.env = (false, eval (.Call (.Name "range" p2) [a, b] [] pos2) X.env) :: starEach [] X.env := by rfl) :
    PE X (.Call (.Name "list" p) [.Call (.Name "range" p2) [a, b] [] pos2] [] pos) (tE X.K W (wLRg2 wa wb)) := by
  refine PE.imp (pe_listRg hc hg hm (prg_2 hg2 hm2 ha hb na nb hp) nc) fun σ H Q ⟨H0, F0, A0, s, T, kx, k, w, xl, h, q⟩ => un_of w xl h fun x s1 u H1 h1 w1 => ?_
  refine ⟨H0, F0, A0, s1, _, kx, _, w1, xl.push, h1, fun y s2 h2 v H2 w2 => ?_⟩
  obtain ⟨i, j, rfl, rfl, hok, hk⟩ := h2
  obtain ⟨F, A, w2⟩ := w2
  have pu : Dq X.K F u (.int i) := w2.tm _ (List.mem_cons_of_mem _ List.mem_cons_self)
  have pv : Dq X.K F v (.int j) := w2.tm _ List.mem_cons_self
  cases pu
  cases pv
  refine ⟨i, j, rfl, rfl, hok, fun q1 hq => ?_⟩
  have w3 := w2.sub (T' := T) fun t h => List.mem_cons_of_mem _ (List.mem_cons_of_mem _ h)
  exact q _ _ hk _ _ ⟨F, _, (w3.newL hq (rgV_dq i j)).push (top_at w3 q1 F)⟩
end
end PW
namespace PW
open PySem L2
/-! ### isinstance(x, (A, B)) -/
section
variable {X : Cx} {W : WX} {a : Expr} {wa : EW} {pos p : Pos}
theorem kit_two {K : PySem.W.Frag} {d t u : String} {r r' : Bool} (h1 : kitB d t = some r) (h2 : kitB d u = some r') : PySem.W.kitAny K (.type d) [.type t, .type u] = some (r || r') := by
  have e1 := kit_ty (K := K) h1
  have e2 := kit_ty (K := K) h2
  unfold PySem.W.kitAny
  rw [e1]
  cases r with
  | true => rfl
  | false =>
    show PySem.W.kitAny K (.type d) [.type u] = _
    unfold PySem.W.kitAny
    rw [e2]
    cases r' <;> rfl
theorem e_isi2 {x y : Str} {T U : String} {q1 q2 q3 : Pos} {kk : Nat} (hm : X.mg "isinstance" = none) (hT : X.mg x = none) (hU : X.mg y = none) (hb : bootBuiltins x = some (.type T)) (hb2 : bootBuiltins y = some (.type U)) (ha : PE X a (tE X.K W wa)) (hgT : Gl X x := by rfl) (hgU : Gl X y := by rfl) (hg : Gl X "isinstance" := by rfl)
    (hn : x ≠ "__name__" := by decide) (hd : (x == ("__debug__" : Str)) = false := by decide) (hn2 : y ≠ "__name__" := by decide) (hd2 : (y == ("__debug__" : Str)) = false := by decide)
    (he : starEach [a, .Tuple [.Name x q1, .Name y q2] kk q3] X.env = (false, eval a X.env) :: starEach [.Tuple [.Name x q1, .Name y q2] kk q3] X.env := by rfl) (he2 : starEach [.Tuple [.Name x q1, .Name y q2] kk q3] X.env = (false, eval (.Tuple [.Name x q1, .Name y q2] kk q3) X.env) :: starEach [] X.env := by rfl)
    (hs : starEach [.Name x q1, .Name y q2] X.env = (false, eval (.Name x q1) X.env) :: starEach [.Name y q2] X.env := by rfl) (hs2 : starEach [.Name y q2] X.env = (false, eval (.Name y q2) X.env) :: starEach [] X.env := by rfl)
    (hpl : (backTo pos (starEach [.Tuple [.Name x q1, .Name y q2] kk q3] X.env)).any (·.1) = false := by rfl) :
    PE X (.Call (.Name "isinstance" p) [a, .Tuple [.Name x q1, .Name y q2] kk q3] [] pos) (tE X.K W (wIsi2 T U wa)) := by
  have pt : PE X (.Name x q1) (tC (.ty T)) := pe_bltn hgT hT hb rfl hn hd
  have pu : PE X (.Name y q2) (tC (.ty U)) := pe_bltn hgU hU hb2 rfl hn2 hd2
  refine PE.imp (pe_callB call_isiT hg hm (by decide +kernel) (pa_cons ha (pa_cons (pe_tup (pa_cons pt (pa_cons pu pa_nil hs2) hs)) pa_nil he2) he) (he := he) (hpl := hpl)) fun σ H Q ⟨H0, F0, A0, s, T', kx, k, w, xl, h, q⟩ => ?_
  refine un_of w xl h fun x s1 u H1 h1 w1 => ?_
  obtain ⟨d, r, r', hd, hk, hk2, hq⟩ := h1
  obtain ⟨F, A, w1⟩ := w1
  refine ⟨by show 2 ≤ sizeLine; decide, fun q0 hq0 => ?_⟩
  have w2 := w1.newD (o := .tup [.ty T, .ty U]) hq0
  exact ⟨u, q0, [.ty T, .ty U], _, [.type T, .type U], _, rfl, upd_same, .cons (.ty T) (.cons (.ty U) .nil), tyx_pv w2 (w2.tm _ List.mem_cons_self) hd, kit_two hk hk2, q _ _ hq _ _ ⟨_, A, (w2.sub fun t h => List.mem_cons_of_mem _ h).push (.bl _)⟩⟩
end
end PW

namespace PW
open PySem L2 PySem.Spec PyProof.Rows
/-! ### max(l, default=n) -/
section
variable {pg : Program} {wo : World} {Ar : Around} {Rr : Result → Shared → Prop} {It : Addr} {fa wa : List Addr} {mm : Nat} {Pv : Nat → Value → Prop} {Sg : Nat → Heap → Prop}
theorem mxd_loop (Wk : Walks pg wo Ar.in1 It fa wa mm Pv Sg) (g : Nat → Nat → Bool) (cmp : CmpOf pg wo Ar.in1 .Gt Pv g) (B : Addr) (nB : B ∉ fa) (kw : List (Str × Value)) :
    ∀ (k j : Nat) (t : Shared) (u : Value) (e : Nat), mm - (j + 1) = k → j + 1 ≤ mm → Sg (j + 1) t.heap → Pv (argBest g j) u →
    t.heap.get? B = some { cls := .type "list", dict := none, data := .seq #[u, u] e, slots := #[] } →
    (∀ z h' tk, Pv (argBest g (mm - 1)) z → (∀ b o, b ∉ wa → b ≠ B → t.heap.get? b = some o → h'.get? b = some o) → Rr (.ok (.ret z)) { t with heap := h', toks := tk }) →
    codeAny (model pg wo) Ar (.builtin "max.loop" ⟨[.ref It, .none, .ref B], kw⟩) Rr t := by
  have nW : B ∉ wa := fun z => nB (Wk.sub _ z)
  have nm : (toString "max" ++ toString ".loop" : String) = "max.loop" := by decide
  intro k
  induction k with
  | zero =>
    intro j t u e hk hj sg pu eB fin
    have hm : j + 1 = mm := by omega
    refine codeAny_builtin PySem.F.entry_max_loop ?_
    rw [Around.under_plainId PySem.F.plain_max_loop _]
    show wpAny _ Ar.in1 (seqItems? (.ref B) >>= _) _ _ t
    refine wpAny_bind (wpAny_seqItems eB rfl ?_)
    show wpAny _ Ar.in1 (tryCatch (pyNext (.ref It)) _ >>= _) _ _ t
    refine wpAny_bind (wpAny_tryCatch (Wk.done t _ _ (hm ▸ sg) fun h' tk kp => ?_))
    have eB' := kp B _ nW eB
    show wpAny _ Ar.in1 (updateSeq B (fun _ => #[]) >>= _) _ _ _
    refine wpAny_bind ?_
    refine wpAny_updateSeq eB' rfl (wpAny_bind (wpAny_letGo (wpAny_pure ?_)))
    exact fin u _ tk (by rw [← hm]; exact pu) fun b o h1 h2 h3 => (Heap.get?_update_other _ _ (Ne.symm h2)).trans (kp b o h1 h3)
  | succ k ih =>
    intro j t u e hk hj sg pu eB fin
    have lt : j + 1 < mm := by omega
    refine codeAny_builtin PySem.F.entry_max_loop ?_
    rw [Around.under_plainId PySem.F.plain_max_loop _]
    show wpAny _ Ar.in1 (seqItems? (.ref B) >>= _) _ _ t
    refine wpAny_bind (wpAny_seqItems eB rfl ?_)
    show wpAny _ Ar.in1 (tryCatch (pyNext (.ref It)) _ >>= _) _ _ t
    refine wpAny_bind (wpAny_tryCatch (Wk.item (j + 1) t _ _ lt sg fun v h' tk pv sg' kp => ?_))
    have eB' := kp B _ nW eB
    show wpAny _ Ar.in1 (tryCatch (holding [v, v] (richCompare .Gt v u >>= _)) _ >>= _) _ _ _
    refine wpAny_bind (wpAny_tryCatch (wpAny_holding (wpAny_bind (cmp (j + 1) (argBest g j) v u _ _ _ pv pu ?_))))
    refine wpAny_bind (wpAny_holding (wpAny_truthy_bool ?_))
    refine wpAny_bind (wpAny_letGo (wpAny_pure ?_))
    cases hg : g (j + 1) (argBest g j) with
    | true =>
      simp only [if_true]
      refine wpAny_bind ?_
      refine wpAny_updateSeq eB' rfl (wpAny_bind (wpAny_letGo ?_))
      rw [nm]
      refine wpAny_pure ⟨plainId_quiet PySem.F.plain_max_loop _, ih (j + 1) _ v _ (by omega) lt (Wk.frame _ _ _ sg' fun b hb o e => ?_) (by simp only [argBest, hg, if_true]; exact pv) (Heap.get?_update_self _ eB' rfl) fun z h2 tk2 hz kp2 => ?_⟩
      · exact (Heap.get?_update_other _ _ (fun h : B = b => nB (by rw [h]; exact hb))).trans e
      · exact fin z h2 tk2 hz fun b o h1 h2 h3 => kp2 b o h1 h2 ((Heap.get?_update_other _ _ (Ne.symm h2)).trans (kp b o h1 h3))
    | false =>
      simp only [Bool.false_eq_true, if_false]
      refine wpAny_bind (wpAny_letGo ?_)
      rw [nm]
      refine wpAny_pure ⟨plainId_quiet PySem.F.plain_max_loop _, ih (j + 1) _ u e (by omega) lt sg' (by simp only [argBest, hg, Bool.false_eq_true, if_false]; exact pu) eB' fun z h2 tk2 hz kp2 => ?_⟩
      exact fin z h2 tk2 hz fun b o h1 h2 h3 => kp2 b o h1 h2 (kp b o h1 h3)
theorem mxd_first (Wk : Walks pg wo Ar.in1 It fa wa mm Pv Sg) (g : Nat → Nat → Bool) (cmp : CmpOf pg wo Ar.in1 .Gt Pv g) (B : Addr) (nB : B ∉ fa) (nm0 : Str) (dv : Value) {t : Shared} {e : Nat} (sg : Sg 0 t.heap)
    (eB : t.heap.get? B = some { cls := .type "list", dict := none, data := .seq #[] e, slots := #[] })
    (f0 : mm = 0 → ∀ h' tk, (∀ b o, b ∉ wa → b ≠ B → t.heap.get? b = some o → h'.get? b = some o) → Rr (.ok (.ret dv)) { t with heap := h', toks := tk })
    (fin : 0 < mm → ∀ z h' tk, Pv (argBest g (mm - 1)) z → (∀ b o, b ∉ wa → b ≠ B → t.heap.get? b = some o → h'.get? b = some o) → Rr (.ok (.ret z)) { t with heap := h', toks := tk }) :
    codeAny (model pg wo) Ar (.builtin "max.loop" ⟨[.ref It, .none, .ref B], [(nm0, dv)]⟩) Rr t := by
  have nW : B ∉ wa := fun z => nB (Wk.sub _ z)
  have nm : (toString "max" ++ toString ".loop" : String) = "max.loop" := by decide
  refine codeAny_builtin PySem.F.entry_max_loop ?_
  rw [Around.under_plainId PySem.F.plain_max_loop _]
  show wpAny _ Ar.in1 (seqItems? (.ref B) >>= _) _ _ t
  refine wpAny_bind (wpAny_seqItems eB rfl ?_)
  show wpAny _ Ar.in1 (tryCatch (pyNext (.ref It)) _ >>= _) _ _ t
  rcases Nat.eq_zero_or_pos mm with h0 | h0
  · refine wpAny_bind (wpAny_tryCatch (Wk.done t _ _ (h0 ▸ sg) fun h' tk kp => ?_))
    show wpAny _ Ar.in1 (rule _ >>= _) _ _ _
    refine wpAny_bind (wpAny_rule (wpAny_pure ?_))
    exact f0 h0 h' tk fun b o h1 _ h3 => kp b o h1 h3
  · refine wpAny_bind (wpAny_tryCatch (Wk.item 0 t _ _ h0 sg fun v h' tk pv sg' kp => ?_))
    have eB' := kp B _ nW eB
    show wpAny _ Ar.in1 (updateSeq B (fun _ => #[v, v]) >>= _) _ _ _
    refine wpAny_bind ?_
    refine wpAny_updateSeq eB' rfl ?_
    rw [nm]
    refine wpAny_pure ⟨plainId_quiet PySem.F.plain_max_loop _, mxd_loop Wk g cmp B nB _ _ 0 _ v _ rfl h0 (Wk.frame _ _ _ sg' fun b hb o e => ?_) pv (Heap.get?_update_self _ eB' rfl) fun z h2 tk2 hz kp2 => ?_⟩
    · exact (Heap.get?_update_other _ _ (fun h : B = b => nB (by rw [h]; exact hb))).trans e
    · exact fin h0 z h2 tk2 hz fun b o h1 h2 h3 => kp2 b o h1 h2 ((Heap.get?_update_other _ _ (Ne.symm h2)).trans (kp b o h1 h3))
end
section
variable {pg : Program} {wo : World} {Ar : Around} {Ex : Value → Shared → Prop} {t : Shared} {l : Addr}
theorem call_tree_kw {id : String} {b : Builtin} {xs : List Value} {kw : List (Str × Value)} {Q : Value → Shared → Prop} (hk : builtinKind id = none) (hp : plainId id = true) (hb : entryFor table id = some b) (ha : argsOk id ⟨xs, kw⟩)
    (hc : wpAny (model pg wo) Ar.in1 (b ⟨xs, kw⟩) (fun z q => match z with
      | .done y => (match (Except.ok y : Result) with | .ok (.ret v) => Q v q | .ok _ => False | .error x => Ex x q)
      | .again c => c.quiet = true ∧ codeAny (model pg wo) Ar c (fun r q => match r with | .ok (.ret v) => Q v q | .ok _ => False | .error x => Ex x q) q) Ex t) :
    wpAny (model pg wo) Ar (call (.builtin id) xs kw) Q Ex t := by
  refine wpAny_call (codeAny_call_builtin hp hb ?_)
  simp only [checkBuiltinCall, hk]
  cases hsg : Manifest.signature? id with
  | none => exact wpAny_pure hc
  | some sg =>
    simp only [argsOk, hsg] at ha
    have h2 : Bind.checkArgs id sg ⟨xs, kw⟩ = pure () := ha
    show wpAny _ _ (Bind.checkArgs id sg ⟨xs, kw⟩) _ _ t
    rw [h2]
    exact wpAny_pure hc
theorem args_maxd (a b : Value) : argsOk "max" ⟨[a], [(Str.ofString "default", b)]⟩ := by unfold argsOk; kernel_rfl
theorem mxd_ints {xs : Array (Int × Tok)} {dv : Value} {Q : Value → Shared → Prop} (hh : Ar.handled = none) (hl : t.heap.IsList l (intItems xs))
    (h0 : xs.size = 0 → ∀ h' tk, (∀ b o, t.heap.get? b = some o → h'.get? b = some o) → Q dv { t with heap := h', toks := tk })
    (h : 0 < xs.size → ∀ v h' tk, (intItems xs)[argBest (fun i j => decide (numAt xs i > numAt xs j)) (xs.size - 1)]? = some v → (∀ b o, t.heap.get? b = some o → h'.get? b = some o) → Q v { t with heap := h', toks := tk }) :
    wpAny (model pg wo) Ar (call (.builtin "max") [.ref l] [(Str.ofString "default", dv)]) Q Ex t := by
  have nm : (toString "max" ++ toString ".loop" : String) = "max.loop" := by decide
  refine call_tree_kw PySem.F.kind_max PySem.F.plain_max PySem.F.entry_max (args_maxd _ _) ?_
  show wpAny _ Ar.in1 (Builtin.Builtins.bindParams "max" ["key", "default"] 0 ⟨[], [(Str.ofString "default", dv)]⟩ >>= _) _ _ t
  refine wpAny_bind (wpAny_of_eq (show Builtin.Builtins.bindParams "max" ["key", "default"] 0 ⟨[], [(Str.ofString "default", dv)]⟩ = pure [none, some dv] from rfl) ?_)
  refine wpAny_bind (wpAny_pure ?_)
  refine wpAny_bind (iter_intList hl fun s₂ e st hfp hlI => ?_)
  subst e
  refine wpAny_bind (wpAny_newObj_type ?_)
  have Wk := Walks.list (prog := pg) (w := wo) (A := Ar.in1) hh _ l hlI (intItems xs)
  rw [nm]
  refine wpAny_pure ⟨plainId_quiet PySem.F.plain_max_loop _, mxd_first Wk _ (CmpOf.ints_gt (numAt xs) (fun _ _ => intItems_at)) _ (fun hm => Nat.lt_irrefl _ (hfp _ hm)) _ dv (Wk.frame _ _ _ st fun b _ o e => Heap.get?_push_of_some _ e) (Heap.get?_push_size _ rfl) (fun z h' tk hk => ?_) fun z v h' tk hP hk => ?_⟩
  · exact h0 (by simpa [intItems] using z) h' tk (old_kept fun b o hb e => hk b o hb (Nat.ne_of_lt (Heap.lt_size e)) (Heap.get?_push_of_some _ e))
  · exact h (by simpa [intItems] using z) v h' tk (by simpa [intItems] using hP) (old_kept fun b o hb e => hk b o hb (Nat.ne_of_lt (Heap.lt_size e)) (Heap.get?_push_of_some _ e))
end
/-- the greatest of them, or else d -/
def rMaxDf (K : PySem.W.Frag) : List V → List V → Hp → VK → Prop := fun vs zs H Q => ∃ (a : Addr) (ns : List Int) (d : Int), vs = [V.ref a] ∧ zs = [V.int d] ∧ SqL K H a (ns.map V.int) ∧ (ns = [] → Q (.int d) H) ∧ ∀ m, m ∈ ns → (∀ y, y ∈ ns → y ≤ m) → Q (.int m) H
theorem cr_maxDf {X : Cx} (hc : X.calm = true) : CallRK X (.builtin "max") [Str.ofString "default"] (rMaxDf X.K) := by
  intro pins s σ H vs zs us ws Q I r rz h
  obtain ⟨a, ns, d, rfl, rfl, hs, q0, q⟩ := h
  obtain ⟨its, rv, hl, _⟩ := I.list hs
  obtain rfl := Vals.ref1 r
  obtain ⟨w1, rfl, e1⟩ := vals1 rz
  obtain ⟨t1, rfl⟩ : ∃ t, w1 = Value.int d t := e1
  have hi := rv.ints
  obtain ⟨xs, e⟩ := hi.allInts.items
  have hn : numsOf (intItems xs).toList = ns := by rw [← e]; exact hi.numsOf
  rw [nums_intItems] at hn
  subst hn
  have hl := hl.isList
  rw [e] at hl
  refine mxd_ints (I.ok.hd hc) hl (fun z h' tk hk => ?_) fun z v h' tk hv hk => ?_
  · exact ⟨.int _, H, I.kept hk, ⟨_, rfl⟩, q0 (by rw [List.map_eq_nil_iff]; exact List.eq_nil_of_length_eq_zero (by simpa using z))⟩
  · obtain ⟨t, rfl⟩ := intItems_at hv
    obtain ⟨h1, h2⟩ := argBest_gt (numAt xs) (xs.size - 1)
    refine ⟨.int _, H, I.kept hk, ⟨_, rfl⟩, q _ ?_ fun a ha => ?_⟩
    · rw [numAt_eq]; exact PySem.getD_mem (by rw [List.length_map, Array.length_toList]; omega)
    · obtain ⟨j, hj, rfl⟩ := mem_getD ha
      rw [List.length_map, Array.length_toList] at hj
      rw [← numAt_eq]; exact h2 j (by omega)
/-- max(l, default=d) -/
def wMaxDf (wa : EW) (d : Int) : EW := fun kx s k => wa kx s fun x s1 => ∃ ns : List Int, dat s1 x = some (.list (ns.map PyData.int)) ∧ (ns = [] → k (.d (.int d)) s1) ∧ ∀ m, m ∈ ns → (∀ y, y ∈ ns → y ≤ m) → k (.d (.int m)) s1
end PW

namespace PW
open PySem L2
/-! ### branches by plain propositions -/
theorem br_p {P A B : Prop} [Decidable P] (a : P → A) (b : ¬ P → B) : (decide P = true → A) ∧ (decide P = false → B) := ⟨fun z => a (of_decide_eq_true z), fun z => b (of_decide_eq_false z)⟩
theorem br_eqI {i j : Int} {A B : Prop} (a : i = j → A) (b : i ≠ j → B) : (PyData.eqv (.int i) (.int j) = true → A) ∧ (PyData.eqv (.int i) (.int j) = false → B) := by
  have e : PyData.eqv (.int i) (.int j) = decide (i = j) := rfl
  rw [e]
  exact br_p a b
theorem br_neI {i j : Int} {A B : Prop} (a : i ≠ j → A) (b : i = j → B) : ((!PyData.eqv (.int i) (.int j)) = true → A) ∧ ((!PyData.eqv (.int i) (.int j)) = false → B) := by
  have e : PyData.eqv (.int i) (.int j) = decide (i = j) := rfl
  rw [e]
  by_cases h : i = j
  · rw [decide_eq_true h]; exact ⟨(fun z => nomatch z), fun _ => b h⟩
  · rw [decide_eq_false h]; exact ⟨fun _ => a h, (fun z => nomatch z)⟩
theorem br_b {c : Bool} {A B : Prop} (a : c = true → A) (b : c = false → B) : (c = true → A) ∧ (c = false → B) := ⟨a, b⟩
section
variable {X : Cx} {W : WX} {a : Expr} {wa : EW} {pos : Pos}
/-- x is True, of a bool -/
theorem e_isT {j : Nat} {pos' : Pos} (ha : PE X a (tE X.K W wa)) : PE X (.Compare a [.Is] [.Constant (.bool true) j pos'] pos) (tE X.K W (wIsT wa)) := by
  refine PE.imp (pe_cmpR op_isBl ha pe_bl rfl) fun σ H Q ⟨H0, F0, A0, s, T, kx, k, w, xl, h, q⟩ => un_of w xl h fun x s1 u H1 h1 w1 => ?_
  obtain ⟨b, rfl, hk⟩ := h1
  obtain ⟨F, A, w1⟩ := w1
  cases dp_bl (dq_dp (w1.tm _ List.mem_cons_self))
  refine ⟨b, true, rfl, rfl, ?_⟩
  rw [show decide (b = true) = b by cases b <;> rfl]
  exact q _ _ hk _ H1 ⟨F, A, (w1.sub fun t h => List.mem_cons_of_mem _ h).push (.bl _)⟩
theorem t_isT {j : Nat} {pos' : Pos} (ha : PE X a (tE X.K W wa)) : PT X (.Compare a [.Is] [.Constant (.bool true) j pos'] pos) (tT X.K W (wB (wIsT wa))) := by
  refine PT.imp (pt_cmpR op_isBl ha pe_bl rfl) fun σ H Q ⟨H0, F0, A0, s, T, kx, k, w, xl, h, q⟩ => un_of w xl h fun x s1 u H1 h1 w1 => ?_
  obtain ⟨b, rfl, c, e, hk⟩ := h1
  obtain ⟨F, A, w1⟩ := w1
  cases dp_bl (dq_dp (w1.tm _ List.mem_cons_self))
  injection e with e
  injection e with e
  subst e
  refine ⟨b, true, rfl, rfl, b, by rw [show decide (b = true) = b by cases b <;> rfl], q _ _ hk H1 ⟨F, A, w1.sub fun t h => List.mem_cons_of_mem _ h⟩⟩
end
/-- int(x) of a text of figures -/
def wIntS (wa : EW) : EW := fun kx s k => wa kx s fun x s1 => ∃ z n, x = .d (.str z) ∧ PySem.intText? z = some n ∧ z.length ≤ 640 ∧ k (.d (.int n)) s1
section
variable {X : Cx} {W : WX} {a : Expr} {wa : EW} {pos p : Pos}
theorem e_intS (hm : X.mg "int" = none) (ha : PE X a (tE X.K W wa)) (hg : Gl X "int" := by rfl) (he : starEach [a] X.env = (false, eval a X.env) :: starEach [] X.env := by rfl) (hpl : (backTo pos (starEach [] X.env)).any (·.1) = false := by rfl) :
    PE X (.Call (.Name "int" p) [a] [] pos) (tE X.K W (wIntS wa)) := by
  refine PE.imp (pe_callTy call_int_str hg hm (by decide +kernel) (pa_cons ha pa_nil he) (he := he) (hpl := hpl)) fun σ H Q ⟨H0, F0, A0, s, T, kx, k, w, xl, h, q⟩ => cb1_of w xl h fun x s1 u H1 h1 w1 => ?_
  obtain ⟨F, A, w1⟩ := w1
  have w2 := w1.sub (T' := T) fun t h => List.mem_cons_of_mem _ h
  obtain ⟨z, n, rfl, e, hl, hk⟩ := h1
  cases dp_str (dq_dp (w1.tm _ List.mem_cons_self))
  exact ⟨z, n, rfl, e, hl, q _ _ hk _ H1 ⟨F, A, w2.push (.int _)⟩⟩
theorem e_maxDf {d : Int} {j : Nat} {p1 p2 : Pos} (hc : X.calm = true) (hm : X.mg "max" = none) (ha : PE X a (tE X.K W wa)) (hg : Gl X "max" := by rfl)
    (he2 : starEach [a] X.env = (false, eval a X.env) :: starEach [] X.env := by rfl) (he : backTo pos (starEach [a] X.env) = (false, eval a X.env) :: backTo pos (starEach [] X.env) := by rfl) (hpl : (backTo pos (starEach [a] X.env)).any (·.1) = false := by rfl)
    (hall : (backToKw pos (keywordEach [⟨some "default", .Constant (.int d) j p1, p2⟩] X.env)).all (·.1.isSome) = true := by rfl) (hnone : (backToKw pos (keywordEach [⟨some "default", .Constant (.int d) j p1, p2⟩] X.env)).any (·.1.isNone) = false := by rfl)
    (hks : (backToKw pos (keywordEach [⟨some "default", .Constant (.int d) j p1, p2⟩] X.env)).filterMap (·.1) = [Str.ofString "default"] := by rfl) :
    PE X (.Call (.Name "max" p) [a] [⟨some "default", .Constant (.int d) j p1, p2⟩] pos) (tE X.K W (wMaxDf wa d)) := by
  refine PE.imp (pe_callBK (cr_maxDf hc) hg hm (by decide +kernel) (pa_cons ha pa_nil he2) (pk_cons pe_int pk_nil) (he := he) (hpl := hpl) (hall := hall) (hnone := hnone) (hks := hks)) fun σ H Q ⟨H0, F0, A0, s, T, kx, k, w, xl, h, q⟩ => un_of w xl h fun x s1 u H1 h1 w1 => ?_
  obtain ⟨ns, hd, h0, hk⟩ := h1
  obtain ⟨F, A, w1⟩ := w1
  obtain ⟨pp, vs, rfl, i1, i2⟩ := items_ok w1 (w1.tm _ List.mem_cons_self) hd
  cases dqAll_ints i2
  exact ⟨pp, ns, d, rfl, rfl, i1, fun z => q _ _ (h0 z) _ _ ⟨F, A, (w1.sub (T' := T) fun t h => List.mem_cons_of_mem _ h).push (.int _)⟩, fun m e1 e2 => q _ _ (hk m e1 e2) _ _ ⟨F, A, (w1.sub (T' := T) fun t h => List.mem_cons_of_mem _ h).push (.int _)⟩⟩
end
/-- a, b = l of a list -/
def gL (n : Nat) (gs : GWs) : GW := fun x s k => ∃ xs, x = .list xs ∧ xs.length = n ∧ gs xs s k
section
variable {X : Cx} {W : WX} {pos p : Pos}
theorem zip_okD {K : PySem.W.Frag} {F : Hp} {A : List Addr} : ∀ {vs : List V} {xs : List PyData}, DqAll K F vs xs → ∀ t ∈ (xs.map PV.d).zip vs, PVOk K F A t.1 t.2
  | _, _, .nil, t, m => nomatch m
  | _, _, .cons h r, t, m => by
    rcases List.mem_cons.mp m with e | m
    · rw [e]; exact h
    · exact zip_okD r t m
theorem g_lst {es : List Expr} {kk n : Nat} {gs : GWs} {L : List Nat} (hc : X.calm = true) (h : PGs X es (tGs X.K L gs)) (hn : (assignEach es X.env).length = n := by rfl) (hst : (assignEach es X.env).findIdx? (·.1) = none := by rfl) : PG X (.Tuple es kk pos) (tG X.K L (gL n gs)) := by
  refine PG.imp (pg_lst hc h hn hst) fun v σ H Q ⟨H0, F0, A0, s, T, x, k, w, m, ⟨xs, hx, hl, h⟩, q⟩ => ?_
  subst hx
  obtain ⟨F, A, w⟩ := w
  have pv : PVOk X.K F A (.d (.list xs)) v := w.tm _ m
  obtain ⟨p, vs, e1, h1, h2⟩ := items_ok w pv rfl
  refine ⟨p, vs, e1, h1, h2.len.trans hl, H0, F0, A0, s, (xs.map PV.d).zip vs ++ T, xs, k, ⟨F, A, w.tms fun t ht => ?_⟩, h2.len, fun t ht => List.mem_append_left _ ht, h, fun s' h' σ' H' l' w' => q s' h' σ' H' l' (w'.sub fun t ht => List.mem_append_right _ ht)⟩
  rcases List.mem_append.mp ht with z | z
  · exact zip_okD h2 t z
  · exact w.tm t z
end
end PW
namespace PW
open PySem L2 PySem.Spec PyProof.Rows
/-! ### defs with a default -/
structure DfdD (K : PySem.W.Frag) (mg : Str → Option Value) (x : Str) (ps : List Str) (st : Stmt) (dvs : List V) : Prop where
  ex : ∃ f fd ds, FunD K x x (defArgs st) (defBody st) (defScope st) dvs [] f fd ∧ mg x = some (.ref f) ∧ Binds K fd ps [] ∧ Binds K fd ps ds ∧ Vals dvs ds
/-- a def that may be called with its defaults left out -/
structure CalD (P : Program) (w : World) (K : PySem.W.Frag) (mg : Str → Option Value) (base : Heap) (k : Nat) (x : Str) (ps : List Str) (S : FS) (dvs : List V) : Prop where
  ex : ∃ f fd ds, FnOk P w K mg base (L2N.CX P w) k f fd ps (spOf K S) ∧ mg x = some (.ref f) ∧ PySem.W.keepIn K (.ref f) = true ∧ Binds K fd ps [] ∧ Binds K fd ps ds ∧ Vals dvs ds
section
variable {P : Program} {w : World} {K : PySem.W.Frag} {mg : Str → Option Value} {base : Heap}
theorem CalD.cal {k : Nat} {x : Str} {ps : List Str} {S : FS} {dvs : List V} (C : CalD P w K mg base k x ps S dvs) : Cal P w K mg base k x ps S := by
  obtain ⟨f, fd, ds, F, m, kp, b, _⟩ := C.ex
  exact ⟨f, fd, F, m, kp, b⟩
theorem DfdD.calD {x : Str} {ps N : List Str} {st : Stmt} {k : Nat} {S : FS} {wb : SW} {dvs : List V} (D : DfdD K mg x ps st dvs) (Sc : FnScope N ps (defScope st)) (len : ∀ args o r e, S args o r e → args.length = ps.length)
    (body : ∀ (f : Addr) (cdv : Value) (A : Around) (outer : List Env) (s : Shared) (H : Hp) (E : XK), Room k (A.deeper (envOfC x (defScope st) s.heap.objs.size f cdv)) →
      PSs (cxOf (L2N.CX P w) P w K mg base N x (defScope st) f cdv A outer s H E) (defBody st) (tS K (fun cls d _ H => E cls d H) wb))
    (pure : ∀ args o ret exc, S args o ret exc → wb (fun x s => exc x (cutL o.length s.o)) (pst0 args o N.length) (bodyE o.length ret)) : CalD P w K mg base (k + 1) x ps S dvs := by
  obtain ⟨f, fd, ds, F, m, b, b2, hv⟩ := D.ex
  exact ⟨f, fd, ds, F.ok Sc (fn_len len) fun cdv A outer s H vs Q E hr h => ⟨_, body f cdv A outer s H E hr, fn_core pure vs H Q E h⟩, m, F.kp, b, b2, hv⟩
theorem dfdD_mk {x : Str} {ps : List Str} {st : Stmt} {f T : Addr} {h : Heap} {oc cT : Value} {od an dT : Option Addr} {osl slT : Array (Option Value)} {kV doc pm cdv ct : Value} {its : List Value} {n : Nat} {dvs : List V} (X : K.In h) (G : h.Ns mainGlobals mg)
    (a : PySem.W.nsIn K mainGlobals x = some (some (.ref f))) (l : K.lookup f = some ⟨oc, od, .func (PySem.W.fnOf x x (defArgs st) (defBody st) (defScope st) (.ref T) kV doc pm an cdv ct), osl⟩) (c : PySem.W.codeIn K cdv x = true) (k : PySem.W.keepIn K (.ref f) = true)
    (lT : K.lookup T = some ⟨cT, dT, .seq its.toArray n, slT⟩) (hv : Vals dvs its) (hne : dvs ≠ [])
    (hb : ∀ (T : Addr) (kV doc pm : Value) (an : Option Addr) (cdv ct : Value) (us is : List Value), us.length = ps.length → is.length = dvs.length → ∃ kk, bindArgs (PySem.W.fnOf x x (defArgs st) (defBody st) (defScope st) (.ref T) kV doc pm an cdv ct) ⟨us, []⟩ = seqItems? (.ref T) >>= kk ∧ kk (some is.toArray) = pure (ps.zip us))
    (hb2 : ∀ (T : Addr) (kV doc pm : Value) (an : Option Addr) (cdv ct : Value) (us is : List Value), (us ++ is).length = ps.length → is.length = dvs.length → ∃ kk, bindArgs (PySem.W.fnOf x x (defArgs st) (defBody st) (defScope st) (.ref T) kV doc pm an cdv ct) ⟨us, []⟩ = seqItems? (.ref T) >>= kk ∧ kk (some is.toArray) = pure (ps.zip (us ++ is))) : DfdD K mg x ps st dvs := by
  refine ⟨f, _, its, ⟨⟨oc, od, .ref T, kV, doc, pm, an, cdv, ct, osl, rfl, l, c, .inr ⟨hne, T, _, its, n, rfl, lT, rfl, hv⟩, .inl rfl⟩, k⟩, PySem.W.mg_of X G a, fun s us Xs hl => ?_, fun s us Xs hl => ?_, hv⟩
  · rw [List.append_nil] at hl ⊢
    obtain ⟨kk, e1, e2⟩ := hb T kV doc pm an cdv ct us its hl hv.length.symm
    refine BindsTo.of_looks fun M => ?_
    rw [e1]
    exact looks_items Xs lT rfl (.of_pure e2)
  · obtain ⟨kk, e1, e2⟩ := hb2 T kV doc pm an cdv ct us its hl hv.length.symm
    refine BindsTo.of_looks fun M => ?_
    rw [e1]
    exact looks_items Xs lT rfl (.of_pure e2)
end
end PW

namespace PW
open PySem L2 PySem.Spec PyProof.Rows
/-! ### a def called with its defaults left out -/
def wCallD (S : FS) (ws : AW) (ds : List PyData) : EW := fun kx s k => ws kx s fun vs s1 => prep vs s1 fun xs s2 => S (xs ++ ds.map PV.d) [] (fun r _ => match r with | .d z => k (.d z) s2 | .new zs => k (.own s2.o.length) ⟨s2.r, s2.o ++ [.dl zs]⟩) (fun x _ => kx x s2)
section
variable {X : Cx} {W : WX} {k j : Nat} {ps : List Str} {S : FS} {x : Str} {p pos : Pos} {e : Expr} {es : List Expr} {ws : AW} {f : Addr} {fd : FuncData} {dvs : List V} {dss : List Value} {ds : List PyData}
theorem e_callD (F : FnOk X.prog X.w X.K X.mg X.base (L2N.CX X.prog X.w) k f fd ps (spOf X.K S)) (tk : L2N.Takes X W) (hr : Room k X.A) (hg : Gl X x) (hm : X.mg x = some (.ref f)) (hk : PySem.W.keepIn X.K (.ref f) = true) (hb : Binds X.K fd ps dss) (hv : Vals dvs dss) (hq : ∀ F, DqAll X.K F dvs ds)
    (ha : PA X (e :: es) (tA X.K W ws)) (hdb : (x == ("__debug__" : Str)) = false := by decide) (he : starEach (e :: es) X.env = (false, eval e X.env) :: starEach es X.env := by rfl) (hpl : (backTo pos (starEach es X.env)).any (·.1) = false := by rfl) :
    PE X (.Call (.Name x p) (e :: es) [] pos) (tE X.K W (wCallD S ws ds)) := by
  refine PE.imp (pe_callSD F hr hg hm hk hb hv (fun σ => L2N.passAt tk σ) ha hdb he hpl) fun σ H Q ⟨H0, F0, A0, s, T, kx, kk, w, xl, h, q⟩ => ar_of w xl h fun vs s1 us H1 h1 e1 w1 => ?_
  obtain ⟨xs, s2, hS, e2, pl, w2⟩ := prep_ok vs us s1 T _ e1 w1 h1
  obtain ⟨F1, A, w2⟩ := w2
  have w3 := w2.sub (T' := T) fun t h => List.mem_append_right _ h
  have w2' : WdF _ _ _ _ _ _ (((xs ++ ds.map PV.d).zip (us ++ dvs)) ++ T) H1 F1 A := w2.tms fun t ht => by
    rw [List.zip_append e2] at ht
    rcases List.mem_append.mp ht with z | z
    · rcases List.mem_append.mp z with z | z
      · exact w2.tm t (List.mem_append_left _ z)
      · exact zip_okD (hq F1) t z
    · exact w2.tm t (List.mem_append_right _ z)
  have ll : (xs ++ ds.map PV.d).length = (us ++ dvs).length := by rw [List.length_append, List.length_append, List.length_map, e2, (hq F1).len]
  have pl' : ∀ x ∈ xs ++ ds.map PV.d, Plain x := fun x hx => by
    rcases List.mem_append.mp hx with z | z
    · exact pl x z
    · obtain ⟨y, _, rfl⟩ := List.mem_map.mp z
      exact True.intro
  refine ⟨H1, F1, [], xs ++ ds.map PV.d, [], _, _, ⟨F1, [], ?_⟩, rfl, hS, fun r o hr ho v H' ret => ?_, fun y o hx ho d H' w' => ?_⟩
  · refine ⟨⟨Same.refl _, w2.fz.g, Same.refl _, fun p _ h => h⟩, List.prefix_refl _, rfl, List.nodup_nil, (fun _ z => nomatch z), (fun n p c z => by simp at z), (by rw [List.length_map, List.length_map, ll]), (fun i v hv => ?_), (fun _ z => nomatch z)⟩
    obtain ⟨u, a, b⟩ := args_wd w2' (xs ++ ds.map PV.d) (us ++ dvs) ll pl' (fun t h => List.mem_append_left _ h) i v hv
    exact ⟨u, a, b _⟩
  · cases List.eq_nil_of_length_eq_zero ho
    cases r with
    | d z =>
      obtain ⟨F', A', w'⟩ := ret
      have dz : Dq X.K F' v z := w'.tm (.d z, v) List.mem_cons_self
      exact q _ _ hr v H' ⟨F', A, (w3.after w'.fz).push dz⟩
    | new zs =>
      obtain ⟨F', A', w'⟩ := ret
      obtain ⟨qq, hq, rfl⟩ := w'.tm (.own 0, v) List.mem_cons_self
      have ad := w'.ad qq (List.mem_of_getElem? hq)
      have oc := w'.oc 0 qq (.dl zs) hq rfl
      have w4 := w3.after w'.fz
      have nin : qq ∉ A := fun hA => (w2.ad qq hA).2 ad.1
      refine q _ _ hr _ H' ⟨F', A ++ [qq], (w4.addL (c := .dl zs) nin (w3.fz.h.free ad.1) ad.2 oc).push ⟨qq, ?_, rfl⟩⟩
      rw [← w4.len, List.getElem?_append_right (Nat.le_refl _), Nat.sub_self]
      rfl
  · obtain ⟨F', A', w'⟩ := w'
    have px : PVOk X.K F' A (.xd y.fs) (dV d) := w'.tm (.xd y.fs, dV d) List.mem_cons_self
    exact xl y s2 hx σ H' d ⟨F', A, (w3.after w'.fz).push px⟩
theorem c_callD (C : CalD X.prog X.w X.K X.mg X.base k x ps S dvs) (tk : L2N.Takes X W) (hr : Room j X.A) (ha : PA X (e :: es) (tA X.K W ws)) (hk : k ≤ j := by decide) (hg : Gl X x := by rfl)
    (hq : ∀ F, DqAll X.K F dvs ds := by intro F; exact .cons (.int _) .nil)
    (hdb : (x == ("__debug__" : Str)) = false := by decide) (he : starEach (e :: es) X.env = (false, eval e X.env) :: starEach es X.env := by rfl) (hpl : (backTo pos (starEach es X.env)).any (·.1) = false := by rfl) :
    PE X (.Call (.Name x p) (e :: es) [] pos) (tE X.K W (wCallD S ws ds)) := by
  obtain ⟨f, fd, dss, F, m, kp, b, b2, hv⟩ := C.ex
  exact e_callD F tk (hr.mono hk) hg m kp b2 hv hq ha hdb he hpl
end
end PW
namespace PW
open PySem L2
/-- str(x) of an int -/
def wStrI (wa : EW) : EW := fun kx s k => wa kx s fun x s1 => ∃ i : Int, x = .d (.int i) ∧ i.natAbs.log2 < 1920 ∧ k (.d (.str (toString i))) s1
section
variable {X : Cx} {W : WX} {a : Expr} {wa : EW} {pos p : Pos}
theorem e_strI (hm : X.mg "str" = none) (ha : PE X a (tE X.K W wa)) (hg : Gl X "str" := by rfl) (he : starEach [a] X.env = (false, eval a X.env) :: starEach [] X.env := by rfl) (hpl : (backTo pos (starEach [] X.env)).any (·.1) = false := by rfl) :
    PE X (.Call (.Name "str" p) [a] [] pos) (tE X.K W (wStrI wa)) := by
  refine PE.imp (pe_callTy call_str_int hg hm (by decide +kernel) (pa_cons ha pa_nil he) (he := he) (hpl := hpl)) fun σ H Q ⟨H0, F0, A0, s, T, kx, k, w, xl, h, q⟩ => cb1_of w xl h fun x s1 u H1 h1 w1 => ?_
  obtain ⟨F, A, w1⟩ := w1
  have w2 := w1.sub (T' := T) fun t h => List.mem_cons_of_mem _ h
  obtain ⟨i, rfl, hl, hk⟩ := h1
  cases dp_int (dq_dp (w1.tm _ List.mem_cons_self))
  exact ⟨i, rfl, hl, q _ _ hk _ H1 ⟨F, A, w2.push (.str _)⟩⟩
end
theorem str_int (n : Nat) : (.str (toString (n : Int)) : PyData) = dT ((Nat.toDigits 10 n).map Char.toNat) := by
  have h := PySem.W.KIN.signs_num n
  show PyData.str (Str.ofString (toString (n : Int))) = PyData.str (tx _)
  congr 1
  show _ = (⟨((Nat.toDigits 10 n).map Char.toNat).toArray⟩ : Str)
  rw [← h] <;> rfl
end PW

namespace PW
open PySem L2 PySem.Spec PyProof.Rows
/-! ### l.reverse(), sorted(l) of texts, a dict written out, d.get(k, x) -/
theorem DqAll.rev {K : PySem.W.Frag} {F : Hp} : ∀ {vs : List V} {xs : List PyData}, DqAll K F vs xs → DqAll K F vs.reverse xs.reverse
  | _, _, .nil => .nil
  | _, _, .cons h t => by
    rw [List.reverse_cons, List.reverse_cons]
    exact (DqAll.rev t).app (.cons h .nil)
theorem dqAll_strs {K : PySem.W.Frag} {H : Hp} : ∀ {bs : List Str} {vs : List V}, DqAll K H vs (bs.map PyData.str) → vs = bs.map V.str
  | [], _, .nil => rfl
  | b :: bs, _, .cons h t => by
    cases h
    rw [dqAll_strs t]
    rfl
theorem dqAll_ofStrs {K : PySem.W.Frag} {H : Hp} : ∀ (bs : List Str), DqAll K H (bs.map V.str) (bs.map PyData.str)
  | [] => .nil
  | b :: bs => .cons (.str b) (dqAll_ofStrs bs)
def wRev (wo : EW) : EW := fun kx s k => wo kx s fun x s1 => ∃ n xs, x = .own n ∧ s1.o[n]? = some (.dl xs) ∧ k (.d .none) ⟨s1.r, s1.o.set n (.dl xs.reverse)⟩
def wSortS (wa : EW) : EW := fun kx s k => wa kx s fun x s1 => ∃ xs : List Str, dat s1 x = some (.list (xs.map PyData.str)) ∧ xs.length < 64 ∧ ∀ ys : List Str, ys.Perm xs → sortedS ys = true → k (.own s1.o.length) ⟨s1.r, s1.o ++ [.dl (ys.map PyData.str)]⟩
section
variable {X : Cx} {W : WX} {a b e f wo_e : Expr} {wa wb we wf wo : EW} {pos p : Pos}
theorem e_rev {apos : Pos} (ho : PE X wo_e (tE X.K W wo)) (hbase : attributeBase wo_e "reverse" X.env (eval wo_e X.env) = eval wo_e X.env := by rfl) (hline : (apos.endLine == pos.line) = true := by rfl) :
    PE X (.Call (.Attribute wo_e "reverse" apos) [] [] pos) (tE X.K W (wRev wo)) := by
  refine PE.imp (pe_bm0 PySem.F.plainAttrs_list PySem.F.slot_list_reverse PySem.F.type_list_reverse mt_reverse ho hbase hline) fun σ H Q ⟨H0, F0, A0, s, T, kx, k, w, xl, h, q⟩ => ?_
  refine ⟨H0, F0, A0, s, T, kx, _, w, xl, h, fun x s1 h1 u H1 w1 => ?_⟩
  obtain ⟨n, xs, rfl, ox, hk⟩ := h1
  obtain ⟨F, A, w1⟩ := w1
  obtain ⟨p, vs, hp, rfl, hv, hd⟩ := own_at w1 List.mem_cons_self ox
  refine ⟨.inl ⟨rfl, vs, SqL.of hv⟩, p, vs, rfl, rfl, hv, q _ _ hk _ _ ⟨F, A, ((w1.sub (T' := T) fun t h => List.mem_cons_of_mem _ h).wr hp ox hd.rev).push .non⟩⟩
theorem e_sortS (hm : X.mg "sorted" = none) (ha : PE X a (tE X.K W wa)) (hg : Gl X "sorted" := by rfl) (he : starEach [a] X.env = (false, eval a X.env) :: starEach [] X.env := by rfl) (hpl : (backTo pos (starEach [] X.env)).any (·.1) = false := by rfl) :
    PE X (.Call (.Name "sorted" p) [a] [] pos) (tE X.K W (wSortS wa)) := by
  refine PE.imp (pe_callB cr_sortedS hg hm boot_sorted (pa_cons ha pa_nil he) (he := he) (hpl := hpl)) fun σ H Q ⟨H0, F0, A0, s, T, kx, k, w, xl, h, q⟩ => cb1_of w xl h fun x s1 u H1 h1 w1 => ?_
  obtain ⟨xs, hd, hl, hk⟩ := h1
  obtain ⟨F, A, w1⟩ := w1
  obtain ⟨a, vs, rfl, h1, h2⟩ := items_ok w1 (w1.tm _ List.mem_cons_self) hd
  cases dqAll_strs h2
  refine ⟨a, xs, rfl, h1, hl, fun ys p hp hs hn => q _ _ (hk ys hp hs) _ _ ⟨F, A ++ [p], ?_⟩⟩
  refine ((w1.sub (T' := T) fun t h => List.mem_cons_of_mem _ h).newL hn (dqAll_ofStrs ys)).push ⟨p, ?_, rfl⟩
  rw [← w1.len, List.getElem?_append_right (Nat.le_refl _), Nat.sub_self]
  rfl
end
abbrev DW := KX → PSt → (List (Key × PyData) → PSt → Prop) → Prop
def wdNil : DW := fun _ s k => k [] s
def wdCons (wk wv : EW) (r : DW) : DW := fun kx s k => wk kx s fun x s1 => wv kx s1 fun y s2 => frz y s2 fun d s3 => ∃ a kk, x = .d a ∧ kD a = some kk ∧ r kx s3 fun kvs s4 => k ((kk, d) :: kvs) s4
def AllIn (T : List (PV × V)) : List (Key × PyData) → List (Key × V) → Prop
  | [], [] => True
  | kv :: r, v :: q => kv.1 = v.1 ∧ (PV.d kv.2, v.2) ∈ T ∧ AllIn T r q
  | [], _ :: _ => False
  | _ :: _, [] => False
theorem AllIn.mono {T T' : List (PV × V)} (h : ∀ t ∈ T, t ∈ T') : ∀ {a : List (Key × PyData)} {b : List (Key × V)}, AllIn T a b → AllIn T' a b
  | [], [], _ => trivial
  | _ :: _, _ :: _, ⟨e, m, r⟩ => ⟨e, h _ m, AllIn.mono h r⟩
  | [], _ :: _, h => h.elim
  | _ :: _, [], h => h.elim
def PairsOk (X : Cx) (W : WX) (trs : List (TE × TE)) (w : DW) : Prop := ∀ σ H Q H0 F0 A0 s T kx k, Wd X.K H0 F0 A0 s σ T H → XL X.K H0 F0 A0 T W kx → w kx s k →
  (∀ kvs s', k kvs s' → ∀ (vs : List (Key × V)) T' H', AllIn T' kvs vs → (∀ t ∈ T, t ∈ T') → Wd X.K H0 F0 A0 s' σ T' H' → Q (vs.map fun kv => (kV kv.1, kv.2)) H') → tPairs trs σ H Q
structure PPd (X : Cx) (W : WX) (pos : Pos) (keys : List (Option Expr)) (values : List Expr) (w : DW) : Prop where
  ex : ∃ trs, PPs X pos keys values trs ∧ PairsOk X W trs w
section
variable {X : Cx} {W : WX} {a b e f wo_e : Expr} {wa wb we wf wo : EW} {pos p : Pos} {keys : List (Option Expr)} {values : List Expr} {wd : DW}
theorem d_nil : PPd X W pos [] [] wdNil := ⟨[], pps_nil, fun σ H Q H0 F0 A0 s T kx k w xl h q => q [] s h [] T H trivial (fun _ m => m) w⟩
theorem d_cons (hk : PE X a (tE X.K W wa)) (hv : PE X b (tE X.K W wb)) (hr : PPd X W pos keys values wd) : PPd X W pos (some a :: keys) (b :: values) (wdCons wa wb wd) := by
  obtain ⟨trs, h1, h2⟩ := hr
  refine ⟨_, pps_cons hk hv h1, fun σ H Q H0 F0 A0 s T kx k w xl h q => ?_⟩
  refine ⟨H0, F0, A0, s, T, kx, _, w, xl, h, fun x s1 h1 u H1 w1 => ?_⟩
  refine ⟨H0, F0, A0, s1, _, kx, _, w1, xl.push, h1, fun y s2 h3 u2 H2 w2 => ?_⟩
  obtain ⟨d, s3, h3, w3⟩ := frz_ok w2 h3
  obtain ⟨y0, kk, rfl, hkk, h3⟩ := h3
  have eu : u = kV kk := by
    obtain ⟨F3, A3, w4⟩ := id w3
    have du : Dq X.K F3 u y0 := w4.tm (.d y0, u) (List.mem_cons_of_mem _ List.mem_cons_self)
    exact kD_dp (dq_dp du) hkk
  subst eu
  refine h2 σ H2 _ H0 F0 A0 s3 _ kx _ w3 xl.push.push h3 fun kvs s' hkv vs T' H' hall hT w5 => ?_
  exact q _ _ hkv ((kk, u2) :: vs) T' H' ⟨rfl, hT _ List.mem_cons_self, hall⟩ (fun t m => hT t (List.mem_cons_of_mem _ (List.mem_cons_of_mem _ m))) w5
def mergeD (kvs : List (Key × PyData)) : List (Key × PyData) := kvs.foldl (fun acc kv => putD acc kv.1 kv.2) []
theorem merge_ok {K : PySem.W.Frag} {H0 F0 : Hp} {A0 : List Addr} {s : PSt} {σ : L2.St} {T : List (PV × V)} {H F : Hp} {A : List Addr} (w : WdF K H0 F0 A0 s σ T H F A) : ∀ {kvs : List (Key × PyData)} {vs : List (Key × V)} {ac : List (Key × PyData)} {bc : List (Key × V)}, AllIn T kvs vs →
    bc.map (·.1) = ac.map (·.1) → DqAll K F (bc.map (·.2)) (ac.map (·.2)) → (mergeK bc vs).map (·.1) = (kvs.foldl (fun acc kv => putD acc kv.1 kv.2) ac).map (·.1) ∧ DqAll K F ((mergeK bc vs).map (·.2)) ((kvs.foldl (fun acc kv => putD acc kv.1 kv.2) ac).map (·.2))
  | [], [], _, _, _, h1, h2 => ⟨h1, h2⟩
  | (k, x) :: kvs, (k', v) :: vs, ac, bc, ⟨e, m, r⟩, h1, h2 => by
    cases (show k = k' from e)
    obtain ⟨e1, e2⟩ := put_ok (k := k) (show Dq K F v x from w.tm _ m) h1 h2
    have ih := merge_ok w (kvs := kvs) (vs := vs) r e1 e2
    exact ih
  | [], _ :: _, _, _, h, _, _ => h.elim
  | _ :: _, [], _, _, h, _, _ => h.elim
theorem allIn_len {T : List (PV × V)} : ∀ {a : List (Key × PyData)} {b : List (Key × V)}, AllIn T a b → b.length = a.length
  | [], [], _ => rfl
  | _ :: _, _ :: _, ⟨_, _, r⟩ => congrArg Nat.succ (allIn_len r)
  | [], _ :: _, h => h.elim
  | _ :: _, [], h => h.elim
def wDict (d : DW) : EW := fun kx s k => d kx ⟨s.r, s.o ++ [.di []]⟩ fun kvs s1 => s1.o[s.o.length]? = some (.di []) ∧ kvs.length ≤ 15 ∧ k (.own s.o.length) ⟨s1.r, s1.o.set s.o.length (.di (mergeD kvs))⟩
theorem e_dict (h : PPd X W pos keys values wd) (hall : keys.all (·.isSome) = true) (hl : keys.length = values.length) (h0 : keys ≠ []) (h15 : keys.length ≤ 15) : PE X (.Dict keys values pos) (tE X.K W (wDict wd)) := by
  obtain ⟨trs, h1, h2⟩ := h
  refine PE.imp (pe_disp h1 hall hl h0 h15) fun σ H Q ⟨H0, F0, A0, s, T, kx, k, w, xl, h, q⟩ => fun p hp => ?_
  obtain ⟨F, A, w⟩ := w
  have w2 := w.newO (c := .di []) hp fun fp => ⟨fp, [], upd_same, rfl, .nil⟩
  have w3 : WdF X.K H0 F0 A0 ⟨s.r, s.o ++ [.di []]⟩ σ ((.own s.o.length, .ref p) :: T) (upd H p (.dK [])) F (A ++ [p]) := w2.push ⟨p, by
    rw [← w.len, List.getElem?_append_right (Nat.le_refl _), Nat.sub_self]
    rfl, rfl⟩
  refine h2 _ _ _ H0 F0 A0 _ _ kx _ ⟨F, _, w3⟩ xl.push h fun kvs s1 h1 vs T' H' hall hT w6 => ?_
  obtain ⟨ho, h15, hq⟩ := h1
  obtain ⟨F6, A6, w6⟩ := w6
  obtain ⟨p', vs', hp', e', f', hH, hks, hds⟩ := own_atD w6 (hT _ List.mem_cons_self) ho
  cases e'
  cases vs' with
  | cons z r => simp at hks
  | nil =>
  obtain ⟨m1, m2⟩ := merge_ok w6 (ac := []) (bc := []) hall rfl .nil
  refine ⟨hH, vs, rfl, by rw [allIn_len hall]; exact h15, ?_⟩
  have w7 := (w6.sub (T' := (.own s.o.length, .ref p) :: T) hT).wrO (o := .dK (mergeK [] vs)) (c := .di (mergeD kvs)) hp' f' (List.getElem?_eq_some_iff.mp ho).1 ⟨f', _, upd_same, m1, m2⟩
  exact q _ _ hq _ _ ⟨F6, _, w7⟩
def valD (kvs : List (Key × PyData)) (k : Key) : Option PyData := (kvs.find? fun kv => decide (kv.1 = k)).map (·.2)
theorem val_ok {K : PySem.W.Frag} {F : Hp} {k : Key} {v : V} {d : PyData} (hd : Dq K F v d) : ∀ {vs : List (Key × V)} {kvs : List (Key × PyData)}, vs.map (·.1) = kvs.map (·.1) → DqAll K F (vs.map (·.2)) (kvs.map (·.2)) → Dq K F ((valV vs k).getD v) ((valD kvs k).getD d)
  | [], [], _, _ => hd
  | [], _ :: _, e, _ => by simp at e
  | _ :: _, [], e, _ => by simp at e
  | p :: vs, q :: kvs, e, h => by
    simp only [List.map_cons, List.cons.injEq] at e
    rw [List.map_cons, List.map_cons] at h
    cases h with
    | cons h t =>
      have ih := val_ok (k := k) hd e.2 t
      unfold valV valD at ih ⊢
      rw [List.find?_cons, List.find?_cons, e.1]
      by_cases c : q.1 = k
      · simp only [c, decide_true]
        exact h
      · simp only [c, decide_false]
        exact ih
def wDGet2 (wo we wf : EW) : EW := fun kx s k => wo kx s fun x s1 => ∃ n, x = .own n ∧ (∃ kvs, s1.o[n]? = some (.di kvs)) ∧ we kx s1 fun y s2 => wf kx s2 fun z s3 => ∃ kvs a kk dz, y = .d a ∧ z = .d dz ∧ kD a = some kk ∧ s3.o[n]? = some (.di kvs) ∧ k (.d ((valD kvs kk).getD dz)) s3
theorem e_dget2 {apos : Pos} (hu : X.A.units + 64 < cLine) (ho : PE X wo_e (tE X.K W wo)) (he : PE X e (tE X.K W we)) (hf : PE X f (tE X.K W wf))
    (hbase : attributeBase wo_e "get" X.env (eval wo_e X.env) = eval wo_e X.env := by rfl)
    (hfew : ((backTo pos (starEach [e, f] X.env)).all (fun x => !x.1) && (backToKw pos (keywordEach [] X.env)).all (fun x => x.1.isSome)
      && decide (([e, f] : List Expr).length + ([] : List Keyword).length + (if ([] : List Keyword).isEmpty then 0 else 1) < 30)) = true := by rfl)
    (hline : (apos.endLine == pos.line) = true := by rfl) (ht : backTo pos (starEach [e, f] X.env) = [(false, eval e X.env), (false, eval f X.env)] := by rfl) :
    PE X (.Call (.Attribute wo_e "get" apos) [e, f] [] pos) (tE X.K W (wDGet2 wo we wf)) := by
  refine PE.imp (pe_dget2 (by omega) ho he hf ⟨hbase, hfew, hline, ht⟩) fun σ H Q ⟨H0, F0, A0, s, T, kx, k, w, xl, h, q⟩ => ?_
  refine ⟨H0, F0, A0, s, T, kx, _, w, xl, h, fun x s1 h1 u H1 w1 => ?_⟩
  obtain ⟨n, rfl, ⟨kvs0, o0⟩, h1⟩ := h1
  have w1' := w1
  obtain ⟨F, A, w1'⟩ := w1'
  obtain ⟨p, vs, hp, rfl, fp, hv, hks, hds⟩ := own_atD w1' List.mem_cons_self o0
  refine ⟨p, rfl, .inl ⟨vs, .inl hv⟩, H0, F0, A0, s1, _, kx, _, w1, xl.push, h1, fun y s2 h2 uy H2 w2 => ?_⟩
  refine ⟨H0, F0, A0, s2, _, kx, _, w2, xl.push.push, h2, fun z s3 h3 uz H3 w3 => ?_⟩
  obtain ⟨kvs, y0, kk, dz, rfl, rfl, hkk, o3, hk⟩ := h3
  obtain ⟨F3, A3, w3⟩ := w3
  obtain ⟨p', vs', hp', e', fp', hv', hks', hds'⟩ := own_atD w3 (List.mem_cons_of_mem _ (List.mem_cons_of_mem _ List.mem_cons_self)) o3
  cases e'
  have dy : Dq X.K F3 uy y0 := w3.tm (.d y0, uy) (List.mem_cons_of_mem _ List.mem_cons_self)
  have dz' : Dq X.K F3 uz dz := w3.tm (.d dz, uz) List.mem_cons_self
  cases kD_dp (dq_dp dy) hkk
  refine ⟨_, DGet.k hv', q _ _ hk _ _ ⟨F3, A3, (w3.sub (T' := T) fun t h => List.mem_cons_of_mem _ (List.mem_cons_of_mem _ (List.mem_cons_of_mem _ h))).push ?_⟩⟩
  exact val_ok dz' hks' hds'
end
end PW

/-! iterators that end, tuples taken apart, while an exception is handled -/
namespace PHL
open PySem PySem.Spec PyProof.Rows HotX
section
variable {prog : Program} {w : World} {A : Around} {E : Value → Shared → Prop} {s : Shared}
theorem new_stop {Q : Value → Shared → Prop}
    (k : ∀ (g : Heap) (a : Addr) (ob : Obj) (arr : Array Value), (∀ b o, s.heap.get? b = some o → g.get? b = some o ∧ a ≠ b) → g.get? a = some ob → ob.cls = .type "StopIteration" → ob.data = .fields arr → 2 < arr.size → Q (.ref a) { s with heap := g }) :
    wpAny (model prog w) A (newExc (.type "StopIteration") []) Q E s := by
  unfold newExc newTuple
  refine wpAny_bind (wpAny_newObj_type ?_ (by size_fits))
  refine wpAny_bind (m := firstArgMember _ _) (wpAny_of_eq (a := Value.none) (by first | rfl | (simp only [firstArgMember]; rfl)) (wpAny_newObj_type ?_ (by size_fits)))
  refine k _ _ _ _ (fun b o z => ?_) (Heap.get?_push_size _ rfl) rfl rfl (by first | (simp; done) | (simp; omega) | (simp only [Array.size_append]; simp; omega))
  have z2 := Heap.get?_push_of_some { cls := .type "tuple", data := .seq ([] : List Value).toArray 0 } z
  exact ⟨Heap.get?_push_of_some _ z2, Nat.ne_of_gt (Heap.lt_size z2)⟩
theorem stop_hot {α : Type} {x : Addr} {Q : α → Shared → Prop} (hot : HotAt A x s.heap)
    (k : ∀ (g : Heap) (a : Addr), (∀ b o, s.heap.get? b = some o → g.get? b = some o) → (∃ ob, g.get? a = some ob ∧ ob.cls = .type "StopIteration") → E (.ref a) { s with heap := g }) :
    wpAny (model prog w) A (newExc (.type "StopIteration") [] >>= fun v => (raiseNew v : Sem α)) Q E s := by
  obtain ⟨q1, o1, arr1, q2, q3, q4⟩ := hot
  refine wpAny_bind (new_stop fun g a ob arr old ga ca da big => ?_)
  refine raiseNew_hot ⟨q1, o1, arr1, (old _ _ q2).1, q3, q4⟩ (Ne.symm (old _ _ q2).2) ga da big (k _ a (fun b o z => ?_) ⟨_, Heap.get?_update_self _ ga (Obj.isFreed_of_fields (Obj.data_mapFields da _)), (Obj.cls_mapFields ..).trans ca⟩)
  rw [Heap.get?_update_other _ _ (old b o z).2]
  exact (old b o z).1
/-- a tuple's iterator that stands behind the last item -/
theorem tup_over {x cur tup : Addr} {n : Nat} {items : Array Value} {Q : Option Value → Shared → Prop} (hot : HotAt A x s.heap) (ne : x ≠ cur) (at_ : IsTupIter s.heap cur tup n) (ht : IsTup s.heap tup items) (none_ : items[n]? = none)
    (k : ∀ g, Heap.ExtBut cur s.heap g → Q none { s with heap := g }) : wpAny (model prog w) A (pyNext (.ref cur)) Q E s := by
  have ty := at_.typeIs
  obtain ⟨oc, gc, kc, dc⟩ := at_
  obtain ⟨ot, gt, _, m, dt⟩ := ht
  obtain ⟨q1, o1, arr1, q2, q3, q4⟩ := hot
  unfold pyNext
  refine wpAny_bind (wpAny_attempt (wpAny_callSpecial?_slot (name := Str.ofString "__next__") ty slot_tupleiter_next (wpAny_call_entry slot_tupleiter_next ty entry_tupleiter_next ?_ (args_tupleiter_next _))))
  show wpAny _ A.in1 (field (.ref cur) 0 >>= _) _ _ s
  refine wpAny_bind (wpAny_field gc dc (x := .ref tup) rfl ?_)
  show wpAny _ A.in1 (if (Value.ref tup == Value.none) = true then _ else _) _ _ s
  rw [if_neg (show ¬ ((Value.ref tup == Value.none) = true) from Bool.false_ne_true)]
  show wpAny _ A.in1 (field (.ref cur) 1 >>= _) _ _ s
  refine wpAny_bind (wpAny_field gc dc (x := .int n 0) rfl (show wpAny _ A.in1 (seqItems? (.ref tup) >>= _) _ _ s from wpAny_bind (wpAny_seqItems gt dt ?_)))
  simp only [Int.toNat_natCast, none_]
  refine wpAny_bind (wpAny_rule (wpAny_bind (wpAny_setField gc dc (by simp) ?_)))
  refine stop_hot ⟨q1, o1, arr1, (Heap.get?_update_ne _ _ _ _ ne).trans q2, q3, q4⟩ fun g a old ⟨ob, ga, ca⟩ => ?_
  refine wpAny_bind (wpAny_isInstance (T := "StopIteration") (b := true) ⟨ob, ga, ca⟩ isSubtype_stop (wpAny_pure (k g fun b o hb z => ?_)))
  exact old b o ((Heap.get?_update_ne _ _ _ _ hb).trans z)
theorem apart_hot {x tup : Addr} {items : Array Value} {Q : List Value → Shared → Prop} (hot : HotAt A x s.heap) (ht : IsTup s.heap tup items)
    (k : ∀ g, Heap.ExtBut s.heap.objs.size s.heap g → Q items.toList { s with heap := g }) : wpAny (model prog w) A (unpackItems (.ref tup) items.size none) Q E s := by
  have lt : tup ≠ s.heap.objs.size := by obtain ⟨o, q, _⟩ := ht; exact Nat.ne_of_lt (Heap.lt_size q)
  obtain ⟨q1, o1, arr1, q2, q3, q4⟩ := hot
  have lx : x ≠ s.heap.objs.size := Nat.ne_of_lt (Heap.lt_size q2)
  unfold unpackItems notIterableAtAll
  refine wpAny_bind (wpAny_bind (wpAny_specialOf ht.typeIs slot_tuple_iter.lookup (wpAny_pure ?_)))
  simp only [Bool.false_eq_true, if_false]
  refine wpAny_bind (wpAny_holding (iter_tuple ht (wpAny_bind (wpAny_holding (draw_tuple lt items.size 0 _ _ ⟨_, Heap.get?_push_size _ rfl, rfl, rfl⟩ (ht.push _) (by omega) fun g1 i1 s1 => ?_)))))
  have full : List.take items.size (List.drop 0 items.toList) = items.toList := by
    rw [List.drop_zero, List.take_of_length_le (by simp)]
  rw [full, if_neg (by simp)]
  have t1 : IsTup g1 tup items := (ht.push _).extBut s1.extBut lt
  refine wpAny_bind (wpAny_holding (tup_over (x := x) ⟨q1, o1, arr1, s1.extBut _ _ lx (Heap.get?_push_of_some _ q2), q3, q4⟩ lx i1 t1 (by simp) fun g2 e2 => ?_))
  simp only [Option.isSome_none, Bool.false_eq_true, if_false]
  exact wpAny_pure (k g2 fun b o hb z => e2 b o hb (s1.extBut b o hb (Heap.get?_push_of_some _ z)))
theorem unpack_hot {x tup : Addr} {items : Array Value} {tgs : List (Bool × (Value → Sem Unit))} {Q : Unit → Shared → Prop} (hot : HotAt A x s.heap) (ht : IsTup s.heap tup items) (hn : tgs.length = items.size) (hst : tgs.findIdx? (·.1) = none)
    (k : ∀ g, Heap.ExtBut s.heap.objs.size s.heap g → wpAny (model prog w) A (assignInOrder (tgs.map (·.2)) items.toList) Q E { s with heap := g }) : wpAny (model prog w) A (unpack (.ref tup) tgs) Q E s := by
  unfold unpack
  rw [hn, hst]
  exact wpAny_bind (wpAny_holding (apart_hot hot ht k))
/-- a list's iterator that stands behind the last item, asked by another one -/
theorem list_over {x cur l : Addr} {n : Nat} {items : Array Value} {Q : Value → Shared → Prop} (hot : HotAt A x s.heap) (ne : x ≠ cur) (at_ : s.heap.IsListIter cur l n) (hl : s.heap.IsList l items) (none_ : items[n]? = none)
    (k : ∀ g e, Heap.ExtBut cur s.heap g → (∃ o, g.get? e = some o ∧ o.cls = .type "StopIteration") → E (.ref e) { s with heap := g }) : wpAny (model prog w) A (Builtin.SmallTypes.nextOf (.ref cur)) Q E s := by
  have ty := at_.typeIs
  obtain ⟨oc, gc, kc, dc⟩ := at_
  obtain ⟨ot, gt, _, m, dt⟩ := hl
  obtain ⟨q1, o1, arr1, q2, q3, q4⟩ := hot
  unfold Builtin.SmallTypes.nextOf
  refine wpAny_bind (wpAny_callSpecial?_slot (name := Str.ofString "__next__") ty slot_listiter_next (wpAny_call_entry slot_listiter_next ty entry_listiter_next ?_ (args_listiter_next _)))
  show wpAny _ A.in1 (field (.ref cur) 0 >>= _) _ _ s
  refine wpAny_bind (wpAny_field gc dc (x := .ref l) rfl ?_)
  show wpAny _ A.in1 (if (Value.ref l == Value.none) = true then _ else _) _ _ s
  rw [if_neg (show ¬ ((Value.ref l == Value.none) = true) from Bool.false_ne_true)]
  show wpAny _ A.in1 (field (.ref cur) 1 >>= _) _ _ s
  refine wpAny_bind (wpAny_field gc dc (x := .int n 0) rfl (show wpAny _ A.in1 (seqItems? (.ref l) >>= _) _ _ s from wpAny_bind (wpAny_seqItems gt dt ?_)))
  simp only [Int.toNat_natCast, none_]
  refine wpAny_bind (wpAny_rule (wpAny_bind (wpAny_setField gc dc (by simp) ?_)))
  refine stop_hot ⟨q1, o1, arr1, (Heap.get?_update_ne _ _ _ _ ne).trans q2, q3, q4⟩ fun g a old there => ?_
  exact k g a (fun b o hb z => old b o ((Heap.get?_update_ne _ _ _ _ hb).trans z)) there
theorem enum_over {x e cur l : Addr} {n : Nat} {items : Array Value} {old : Value} {Q : Option Value → Shared → Prop} (hot : HotAt A x s.heap) (ne : x ≠ cur) (he : IsEnum s.heap e cur n old) (at_ : s.heap.IsListIter cur l n) (hl : s.heap.IsList l items) (none_ : items[n]? = none)
    (k : ∀ g, Heap.ExtBut cur s.heap g → Q none { s with heap := g }) : wpAny (model prog w) A (pyNext (.ref e)) Q E s := by
  have ty : s.TypeIs (.ref e) "enumerate" := ⟨_, he, rfl⟩
  unfold pyNext
  refine wpAny_bind (wpAny_attempt (wpAny_callSpecial?_slot (name := Str.ofString "__next__") ty F.slot_enumerate_next (wpAny_call_entry F.slot_enumerate_next ty F.entry_enumerate_next ?_ (F.args_enumerate_next_1 _))))
  show wpAny _ A.in1 (field (.ref e) 2 >>= _) _ _ _
  refine wpAny_bind (wpAny_field he rfl (x := .ref cur) rfl (wpAny_bind (list_over (x := x) hot ne at_ hl none_ fun g a eg ⟨ob, ga, ca⟩ => ?_)))
  exact wpAny_bind (wpAny_isInstance (T := "StopIteration") (b := true) ⟨ob, ga, ca⟩ isSubtype_stop (wpAny_pure (k g eg)))
end
end PHL

/-! a list made by a comprehension within an except suite -/
namespace PHL
open PySem PySem.Spec PyProof.Rows HotX L2
/-- the exception that is handled, tracked, its context None -/
def HotT (H : Hp) (a : Addr) : Prop := ∃ (oe : Obj) (arr : Array Value), H a = some (PW.excO a oe) ∧ oe.data = .fields arr ∧ arr[2]? = some .none
section
variable {X : Cx} {a : Addr} {pins : List (Addr × Obj)} {σ : L2.St} {H : Hp} {s : Shared}
theorem HotT.at (h : HotT H a) (hA : X.A.handled = some (.ref a)) (I : Inv X pins σ H s) : HotAt X.A a s.heap := by
  obtain ⟨oe, arr, e, d, c⟩ := h
  exact ⟨hA, oe, arr, (show _ ∧ _ ∧ _ from I.hok a _ e).1, d, c⟩
theorem HotT.new {p : Addr} {o : HO} (h : HotT H a) (hp : H p = none) : HotT (upd H p o) a := by
  obtain ⟨oe, arr, e, d, c⟩ := h
  refine ⟨oe, arr, ?_, d, c⟩
  rw [upd_ne (fun z => by rw [z, hp] at e; cases e)]
  exact e
theorem HotT.lst {p : Addr} {o : HO} {xs : List V} (h : HotT H a) (hp : H p = some (.lst xs)) : HotT (upd H p o) a := by
  obtain ⟨oe, arr, e, d, c⟩ := h
  refine ⟨oe, arr, ?_, d, c⟩
  rw [upd_ne (fun z => by rw [z, hp] at e; cases e)]
  exact e
theorem HotT.off {b : Addr} (h : HotT H a) (hb : H b = none) : a ≠ b := fun z => by
  obtain ⟨oe, arr, e, _⟩ := h
  rw [z, hb] at e
  cases e
/-- a tuple taken apart there -/
def gTupT (K : PySem.W.Frag) (a : Addr) (n : Nat) (t : TGs) : TG := fun v σ H Q => HotT H a ∧ gTup K n t v σ H Q
theorem pg_tupT {es : List Expr} {k : Nat} {t : TGs} {n : Nat} {pos : Pos} (hA : X.A.handled = some (.ref a)) (h : PGs X es t) (hn : (assignEach es X.env).length = n := by rfl) (hst : (assignEach es X.env).findIdx? (·.1) = none := by rfl) :
    PG X (.Tuple es k pos) (gTupT X.K a n t) := by
  refine ⟨fun pins s σ H v u Q I r ⟨hot, b, xs, ev, hq, hl, hw⟩ => ?_⟩
  subst ev
  cases r
  obtain ⟨its, rv, ht, hz⟩ := I.tuple hq
  rw [assign_Tuple]
  refine wpAny_bind (wpAny_standAt (unpack_hot (hot.at hA I) ht (by simp [hn, ← hl, rv.length]) hst fun g keep => ?_))
  exact h.run pins _ σ H xs _ Q (I.kept (t' := s.toks) fun b o z => keep b o (Nat.ne_of_lt (Heap.lt_size z)) z) (by simpa using rv) hw
end
/-- an iterator that turns while the exception at a is handled -/
structure TurnT (P : Program) (w : World) (K : PySem.W.Frag) (a : Addr) (tg : Expr) (J : It) (fp : List Addr) (cur : Addr) (tn : Nat → Heap → Prop) : Prop where
  obj : ∀ i g, tn i g → ∀ b ∈ fp, ∃ o, g.get? b = some o ∧ ∀ v, o.data ≠ .cell v
  keep : ∀ i g g', tn i g → (∀ b ∈ fp, ∀ o, g.get? b = some o → g'.get? b = some o) → tn i g'
  item : ∀ (X : Cx), X.prog = P → X.w = w → X.K = K → ∀ (i : Nat) (pins : List (Addr × Obj)) (s : Shared) (σ : L2.St) (H : Hp) (E : Value → Shared → Prop), Inv X pins σ H s → (∀ b ∈ fp, FpOk X pins H b) → tn i s.heap → J.go i H →
    wpAny (model P w) X.A (pyNext (.ref cur)) (fun r s1 => ∃ u, r = some u ∧
      wpAny (model P w) X.A (letOwnedTupleGo tg (.ref cur) u) (fun _ s2 => ∃ x H', Inv X pins σ H' s2 ∧ RelV x u ∧ J.yld i H x H' ∧ tn (i + 1) s2.heap ∧ ∀ b ∈ fp, H' b = none) E s1) E s
  done : ∀ (X : Cx), X.prog = P → X.w = w → X.K = K → X.A.handled = some (.ref a) → ∀ (i : Nat) (pins : List (Addr × Obj)) (s : Shared) (σ : L2.St) (H : Hp) (E : Value → Shared → Prop), Inv X pins σ H s → (∀ b ∈ fp, FpOk X pins H b) → tn i s.heap → J.stop i H →
    wpAny (model P w) X.A (pyNext (.ref cur)) (fun r s1 => r = none ∧ Inv X pins σ H s1) E s
  self : ∀ (A : Around) (i : Nat) (s : Shared) (Q : Value → Shared → Prop) (E : Value → Shared → Prop), tn i s.heap → Q (.ref cur) s → wpAny (model P w) A (pyIter (.ref cur)) Q E s
/-- enumerate(l): as ever, and what is handled is known where it ends -/
def IteT (K : PySem.W.Frag) (l a : Addr) : It := ⟨(Ite K l).go, (Ite K l).yld, fun i H => (Ite K l).stop i H ∧ HotT H a⟩
theorem turn_enumT {P : Program} {w : World} {K : PySem.W.Frag} {elts : List Expr} {kk : Nat} {tpos : Pos} (a l e cur : Addr) :
    TurnT P w K a (.Tuple elts kk tpos) (IteT K l a) [e, cur] e (fun i g => (∃ old, IsEnum g e cur ((i : Nat) : Int) old) ∧ g.IsListIter cur l i ∧ e ≠ cur) where
  obj := (turn_enum (P := P) (w := w) (K := K) (elts := elts) (kk := kk) (tpos := tpos) l e cur).obj
  keep := (turn_enum (P := P) (w := w) (K := K) (elts := elts) (kk := kk) (tpos := tpos) l e cur).keep
  self := (turn_enum (P := P) (w := w) (K := K) (elts := elts) (kk := kk) (tpos := tpos) l e cur).self
  item := by
    rintro X rfl rfl rfl i pins s σ H E I own ⟨⟨old, en⟩, li, far⟩ ⟨xs, x, sq, ati⟩
    obtain ⟨vals, rel, plain, _⟩ := I.list sq
    obtain ⟨u, hu, ru⟩ := rel.get ati
    have le : e < s.heap.objs.size := Heap.lt_size en
    have lc : cur < s.heap.objs.size := by obtain ⟨_, z, _⟩ := li; exact Heap.lt_size z
    refine wpAny_pyNext_enum_item en li plain.isList (x := u) (by simpa using hu) far fun g out li2 tup _ rest => ⟨_, rfl, wpAny_letOwnedTupleGo_enum (s := { s with heap := g, toks := s.toks + 1 }) out fun g2 en2 same => ?_⟩
    have tup2 : g2.get? s.heap.objs.size = some { cls := .type "tuple", data := .seq #[.int i s.toks, u] } := (same.2 _ (Nat.ne_of_gt le)).trans tup
    have fresh := I.hok.fresh (Nat.le_refl s.heap.objs.size)
    have J : Inv X pins σ (upd H s.heap.objs.size (.tup [.int (i : Nat), x])) { s with heap := g2, toks := s.toks + 1 } :=
      I.turnedNew (ch := [e, cur]) (fun b ob nb z => (same.2 b (fun q => nb (by simp [q]))).trans (rest b ob (fun q => nb (by simp [q])) (fun q => nb (by simp [q])) z)) own (Nat.le_refl _)
        ⟨by show 2 ≤ sizeLine; decide, [.int i s.toks, u], .cons ⟨_, rfl⟩ (.cons ru .nil), ⟨_, tup2, rfl, _, rfl⟩⟩
    refine ⟨.ref s.heap.objs.size, _, J, rfl, ⟨_, x, rfl, fresh, rfl, fun ys hy => by rw [I.list_inj hy sq]; exact ati⟩, ⟨⟨u, ?_⟩, li2.at fun o q => (same.2 cur (Ne.symm far)).trans q, far⟩, fun b hb => ?_⟩
    · rw [show ((i + 1 : Nat) : Int) = (i : Int) + 1 by omega]; exact en2
    · have lb : b < s.heap.objs.size := by
        rcases List.mem_cons.mp hb with q | q
        · rw [q]; exact le
        · rw [List.mem_singleton.mp q]; exact lc
      rw [upd_ne (Nat.ne_of_lt lb)]
      exact (own b hb).1
  done := by
    rintro X rfl rfl rfl hA i pins s σ H E I own ⟨⟨old, en⟩, li, far⟩ ⟨⟨xs, sq, over⟩, hot⟩
    obtain ⟨vals, rel, plain, _⟩ := I.list sq
    obtain ⟨n0, n1, n2, n3, n4, n5⟩ := own cur (by simp)
    have len := rel.length
    exact enum_over (hot.at hA I) (hot.off n0) en li plain.isList (by simp; omega) fun g keep => ⟨rfl, I.turned (t' := s.toks) (fun b o nb z => keep b o nb z) n0 n1 n3 n4 n5⟩
def PIET (X : Cx) (a : Addr) (pins : List (Addr × Obj)) (σ : L2.St) (tg : Expr) (R : It → Hp → Prop) (itv : Value) (s2 : Shared) : Prop :=
  ∃ (cur : Addr) (fp : List Addr) (tn : Nat → Heap → Prop) (J : It) (H' : Hp), itv = .ref cur ∧ Inv X pins σ H' s2 ∧ TurnT X.prog X.w X.K a tg J fp cur tn ∧ tn 0 s2.heap ∧ (∀ b ∈ fp, FpOk X pins H' b) ∧ R J H'
def PIT (X : Cx) (a : Addr) (tg iter : Expr) (wi : TI) : Prop := ∀ (pins : List (Addr × Obj)) (s : Shared) (σ : L2.St) (H : Hp) (R : It → Hp → Prop), Inv X pins σ H s → wi σ H R →
    wpAny (model X.prog X.w) X.A (eval iter X.env) (fun v s1 => wpAny (model X.prog X.w) X.A (pyIter v) (PIET X a pins σ tg R) X.xe s1) X.xe s
def iEnumT (K : PySem.W.Frag) (a : Addr) (ta : TA) : TI := fun σ H R => ta σ H fun vs H1 => ∃ l xs, vs = [.ref l] ∧ SqL K H1 l xs ∧ R (IteT K l a) H1
theorem pi_enumT {X : Cx} {a : Addr} {e : Expr} {ta : TA} {p pos tpos : Pos} {elts : List Expr} {kk : Nat} (hg : Gl X "enumerate") (hm : X.mg "enumerate" = none) (ha : PA X [e] ta) (hs : starEach [e] X.env = [(false, eval e X.env)] := by rfl) :
    PIT X a (.Tuple elts kk tpos) (.Call (.Name "enumerate" p) [e] [] pos) (iEnumT X.K a ta) := by
  intro pins s σ H R I h
  refine Call_ (ld_blt I hg hm boot_enumerate (PyProof.Rows.callWith_type1 (thn (ha.run pos pins s σ H _ I h) fun us s1 ⟨vs, H1, J, r, l, xs, ev, sq, q⟩ => ?_) hs rfl))
  subst ev
  cases r with
  | cons r1 r2 =>
    cases r2
    cases r1
    obtain ⟨vals, _, plain, _⟩ := J.list sq
    refine call_enumerate_list plain.isList fun g en li _ keep => wpAny_pyIter_enum en ⟨s1.heap.objs.size + 1, [s1.heap.objs.size + 1, s1.heap.objs.size], _, _, H1, rfl, J.kept (t' := s1.toks) keep, turn_enumT a l (s1.heap.objs.size + 1) s1.heap.objs.size, ⟨⟨.none, en⟩, li, Nat.succ_ne_self _⟩, fun b hb => ?_, q⟩
    have ge : s1.heap.objs.size ≤ b := by
      rcases List.mem_cons.mp hb with z | z
      · rw [z]; exact Nat.le_add_right _ _
      · rw [List.mem_singleton.mp z]; exact Nat.le_refl _
    exact J.fpOk ge (J.hok.fresh ge)
/-- [elt for tg in iter if ..] there, as a value -/
theorem pe_lcT {X : Cx} {a : Addr} {elt tg iter : Expr} {ifs : List Expr} {scope : Scope} {own : List (Str × Nat)} {pos : Pos} {wi : TI} {g : TG} {tt : TT} {te : TE} (hA : X.A.handled = some (.ref a)) (hN : X.N.Nodup) (hi : PIT X a tg iter wi) (ok : BlkOk X.N X.env.scope scope own)
    (hg : ∀ (z : Shared) (H : Hp) (C : Addr) (cl : List (Str × Addr)) (fp : List Addr), PG (X.blk z H scope (compEnvC scope cl C X.env) fp) tg g) (ht : ∀ (z : Shared) (H : Hp) (C : Addr) (cl : List (Str × Addr)) (fp : List Addr), PTs (X.blk z H scope (compEnvC scope cl C X.env) fp) ifs tt)
    (he : ∀ (z : Shared) (H : Hp) (C : Addr) (cl : List (Str × Addr)) (fp : List Addr), PE (X.blk z H scope (compEnvC scope cl C X.env) fp) elt te) (hs : ∀ x, foldedSetIterable iter X.env x = pure x := by intro _; rfl) :
    PE X (.ListComp elt [⟨tg, iter, ifs, 0⟩] scope pos) (tLc wi g tt te (own.map (·.2))) := by
  refine ⟨fun pins s σ H Q I hq => ?_⟩
  rw [eval_ListComp]
  have free : ∀ y ∈ scope.names, y.2 = .free → ∃ c, X.env.cells.lookup y.1 = some c := fun y hy z => I.ok.has _ ((ok.free y hy z).elim Or.inl Or.inr)
  refine wpAny_comprehension_free (use := none) rfl hs (closure_ok free) ok.kind (fun y hy z => by rw [ok.uniq y hy, z]) (thn (hi pins s σ H _ I hq) fun v1 s1 w1 => thn w1 fun v2 s2 w2 => ?_)
  obtain ⟨cur, fp, tn, J, H2, rfl, I2, T, at0, f2, hq2⟩ := w2
  refine wpAny_newObj_type (newEnv_comp ?_) (by show 0 ≤ sizeLine; decide)
  generalize eD : s2.heap.objs.size = D
  have freshD : H2 D = none := I2.hok.fresh (Nat.le_of_eq eD)
  obtain ⟨W, ⟨m0, start⟩, turn⟩ := hq2 D freshD
  generalize e3 : ({ s2 with heap := s2.heap.push { cls := .type "list", data := .seq ([] : List Value).toArray } } : Shared) = s3
  have hp3 : s3.heap = s2.heap.push { cls := .type "list", data := .seq ([] : List Value).toArray } := by rw [← e3]
  have up3 : ∀ b o, s2.heap.get? b = some o → s3.heap.get? b = some o := fun b o z => by rw [hp3]; exact Heap.get?_push_of_some _ z
  have I3 : Inv X pins σ (upd H2 D (.lst [])) s3 := by
    rw [← e3]
    refine I2.laid (t' := s2.toks) (fun b o z => Heap.get?_push_of_some _ z) (Nat.le_of_eq eD) ⟨Nat.zero_le _, [], 0, .nil, ?_⟩
    rw [← eD]
    exact Heap.get?_push_size _ rfl
  have small : ∀ b ∈ fp, b < s2.heap.objs.size := fun b hb => by
    obtain ⟨o, z, _⟩ := T.obj _ _ at0 b hb
    exact Heap.lt_size z
  have f3 : ∀ b ∈ fp, FpOk X pins (upd H2 D (.lst [])) b ∧ b < s3.heap.objs.size := fun b hb => by
    have lt := small b hb
    exact ⟨⟨by rw [upd_ne (by rw [← eD]; exact Nat.ne_of_lt lt)]; exact (f2 b hb).1, (f2 b hb).2⟩, by rw [hp3, Heap.size_push]; exact Nat.lt_succ_of_lt lt⟩
  have at3 : tn 0 s3.heap := T.keep _ _ _ at0 fun b _ o z => up3 b o z
  have I4 := block_start I3 ok hN f3
  have pg := hg s3 (upd H2 D (.lst [])) s3.heap.objs.size (cellsFrom (s3.heap.objs.size + 1) scope.names (cloFrom X.env.cells scope.names [])) fp
  have pt := ht s3 (upd H2 D (.lst [])) s3.heap.objs.size (cellsFrom (s3.heap.objs.size + 1) scope.names (cloFrom X.env.cells scope.names [])) fp
  have pe := he s3 (upd H2 D (.lst [])) s3.heap.objs.size (cellsFrom (s3.heap.objs.size + 1) scope.names (cloFrom X.env.cells scope.names [])) fp
  have nul : ∀ b ∈ fp, (upd H2 D (.lst [])) b = none := fun b hb => (f3 b hb).1.1
  show codeAny _ X.A (.compStart (.ListComp elt [⟨tg, iter, ifs, 0⟩] scope pos) 0 (.ref cur) (.ref D) (compEnvC scope (cellsFrom (s3.heap.objs.size + 1) scope.names (cloFrom X.env.cells scope.names [])) s3.heap.objs.size X.env)) (compPost (model X.prog X.w) X.A X.xe none (EP X pins σ Q) (.ref D) s3.heap.objs.size) { s3 with heap := pushCells (s3.heap.push { cls := .type "dict", data := .dict #[] }) scope.names }
  generalize eE : compEnvC scope (cellsFrom (s3.heap.objs.size + 1) scope.names (cloFrom X.env.cells scope.names [])) s3.heap.objs.size X.env = ce at I4 pg pt pe ⊢
  have cL : ce.locals = s3.heap.objs.size := by subst eE; rfl
  generalize eH : upd H2 D (.lst []) = H3 at I3 I4 pg pt pe start nul f3
  generalize e4 : ({ s3 with heap := pushCells (s3.heap.push { cls := .type "dict", data := .dict #[] }) scope.names } : Shared) = s4 at I4 ⊢
  have at4 : tn 0 s4.heap := T.keep _ _ _ at3 fun b _ o z => by rw [← e4]; exact pushCells_keeps _ _ _ _ (Heap.get?_push_of_some _ z)
  have mine : ∀ {σ' : L2.St} {H' : Hp} {t : Shared}, Inv (X.blk s3 H3 scope ce fp) [] σ' H' t → (∀ b ∈ fp, H' b = none) → ∀ b ∈ fp, FpOk (X.blk s3 H3 scope ce fp) [] H' b := fun {σ' H' t} B n b hb =>
    ⟨n b hb, (B.ok.exf b hb).1, B.ok.exfs b hb, .inl hb, fun x c z => (B.ok.exf b hb).2 x c z, fun p hp => absurd (show p ∈ ([] : List (Addr × Obj)) ++ [] from hp) (by simp)⟩
  have whole : codeAny (model X.prog X.w) X.A (.compLoop (.ListComp elt [⟨tg, iter, ifs, 0⟩] scope pos) 0 (.ref cur) (.ref D) ce) (compPost (model X.prog X.w) X.A X.xe none (EP X pins σ Q) (.ref D) s3.heap.objs.size) s4 := by
    refine compLoop_any (fun m t => ∃ i H', Inv (X.blk s3 H3 scope ce fp) [] (wipe σ (own.map (·.2))) H' t ∧ tn i t.heap ∧ (∀ b ∈ fp, H' b = none) ∧ W i m H') ?_ m0 ⟨0, H3, I4, at4, nul, start⟩
    rintro m t5 ⟨i, H5, I5, at5, n5, w5⟩
    rcases turn i m H5 w5 with ⟨stop, fin⟩ | ⟨go, Nx, later, step⟩
    · refine thnF (T.done (X.blk s3 H3 scope ce fp) rfl rfl rfl hA i [] t5 _ H5 (fun _ _ => False) I5 (mine I5 n5) at5 stop) fun r t6 ⟨er, I6⟩ => ?_
      subst er
      have I7 : Inv X pins σ H5 t6 := I3.call' (ch := fp) I6.os I6.base I6.hok I6.bare fun b hb => ⟨(f3 b hb).1.2.2.2.1, (f3 b hb).1.2.1, (f3 b hb).1.2.2.2.2.1, (f3 b hb).1.2.2.2.2.2⟩
      have gone : H5 s3.heap.objs.size = none := by have z : H5 ce.locals = none := I6.free; rwa [cL] at z
      obtain ⟨mm, ns, _⟩ := I6.loc
      have ns : t6.heap.Ns ce.locals mm := ns
      rw [cL] at ns
      obtain ⟨c0, c1, c2, c3, c4, c5⟩ := I3.fpOk (Nat.le_refl _) gone
      exact ⟨mm, ns, fun g sb => ⟨.ref D, H5, I7.turned (t' := t6.toks) (fun b o nb z => (sb.2 b nb).trans z) c0 c1 c3 c4 c5, rfl, fin⟩⟩
    · refine thnF (T.item (X.blk s3 H3 scope ce fp) rfl rfl rfl i [] t5 _ H5 (fun _ _ => False) I5 (mine I5 n5) at5 go) fun r t6 ⟨u, er, w6⟩ => ?_
      subst er
      refine thnF w6 fun _ t7 ⟨x, H7, I7, r7, y7, at7, n7⟩ => ?_
      have P7 := I7.pinned (mine I7 n7) (T.obj _ _ at7)
      refine thnF (pg.run _ t7 _ H7 x u _ P7 r7 (step x H7 y7)) fun _ t8 ⟨σ8, H8, I8, same, q8⟩ => thnF (pt.run _ t8 σ8 H8 _ I8 q8) fun b t9 ⟨H9, I9, q9⟩ => ?_
      have next : ∀ {t : Shared} {H' : Hp}, Inv (X.blk s3 H3 scope ce fp) ([] ++ pinsAt fp t7.heap) σ8 H' t → Nx H' → ∃ m', m' < m ∧ ∃ i H', Inv (X.blk s3 H3 scope ce fp) [] (wipe σ (own.map (·.2))) H' t ∧ tn i t.heap ∧ (∀ b ∈ fp, H' b = none) ∧ W i m' H' := fun {t H'} B nx => by
        obtain ⟨m', lt, w'⟩ := later H' nx
        have held : ∀ b ∈ fp, ∀ o, t7.heap.get? b = some o → t.heap.get? b = some o ∧ H' b = none := fun b hb o z =>
          ⟨(B.pin (b, o) (List.mem_append_right _ (List.mem_append_right _ (mem_pinsAt hb z)))).1, (B.pin (b, o) (List.mem_append_right _ (List.mem_append_right _ (mem_pinsAt hb z)))).2.1⟩
        refine ⟨m', lt, i + 1, H', (B.unpinned (pins := [])).weak (by rw [← same, wipe_length]) (fun j v z => ?_), T.keep _ _ _ at7 fun b hb o z => (held b hb o z).1, fun b hb => ?_, w'⟩
        · rw [← same] at z
          exact (wipe_some z).1
        · obtain ⟨o, z, _⟩ := T.obj _ _ at7 b hb
          exact (held b hb o z).2
      cases b with
      | false =>
        simp only [Bool.false_eq_true, if_false] at q9 ⊢
        exact next I9 q9
      | true =>
        simp only [if_true] at q9 ⊢
        exact thnF (pe.run _ t9 σ8 H9 _ I9 q9) fun z t10 ⟨yv, H10, I10, r10, acc, hD, room, nx⟩ => app_ok (X := X.blk s3 H3 scope ce fp) I10 hD room r10 fun t11 I11 => next I11 nx
  exact codeAny_compStart_list whole (T.self X.A 0 _ _ _ at4 whole)
end PHL

namespace PW
open PySem L2 PySem.Spec PyProof.Rows PHL
/-- within a suite that knows what is handled no exception is let out; W tells that it is there -/
def WHot (a : Addr) : WX := fun _ _ _ H => HotT H a
/-- the numbers of what is true -/
def idxB : Nat → List Bool → List Int
  | _, [] => []
  | i, b :: r => if b then (i : Int) :: idxB (i + 1) r else idxB (i + 1) r
theorem idxB_snoc : ∀ (l : List Bool) (i : Nat) (b : Bool), idxB i (l ++ [b]) = idxB i l ++ (if b then [((i + l.length : Nat) : Int)] else [])
  | [], i, b => by cases b <;> simp [idxB]
  | c :: l, i, b => by
    have e : i + 1 + l.length = i + (l.length + 1) := by omega
    cases c <;> simp only [List.cons_append, idxB, idxB_snoc l (i + 1) b, List.length_cons, e, if_true, Bool.false_eq_true, if_false]
theorem idxB_len : ∀ (l : List Bool) (i : Nat), (idxB i l).length ≤ l.length
  | [], _ => Nat.le_refl _
  | c :: l, i => by
    have := idxB_len l (i + 1)
    cases c <;> simp [idxB] <;> omega
def wFlg (ik jf : Nat) (we : EW) : EW := fun kx s k => we kx s fun v s1 => kx ⟨0, none⟩ s1 ∧ ik < s1.r.length ∧ jf < s1.r.length ∧ ik ≠ jf ∧ ∃ bs : List Bool, dat s1 v = some (.list (bs.map PyData.bool)) ∧ bs.length ≤ 1000 ∧ k (.own s1.o.length) ⟨s1.r, s1.o ++ [.dl ((idxB 0 bs).map PyData.int)]⟩
theorem dqAll_bools {K : PySem.W.Frag} {H : Hp} : ∀ {bs : List Bool} {vs : List V}, DqAll K H vs (bs.map PyData.bool) → vs = bs.map V.bl
  | [], _, .nil => rfl
  | b :: bs, _, .cons h t => by
    cases h
    rw [dqAll_bools t]
    rfl
theorem wipe_two {i j : Nat} (σ : L2.St) (x y : V) : wipe (((wipe σ [i, j]).set i (some x)).set j (some y)) [i, j] = wipe σ [i, j] := by
  refine List.ext_getElem? fun k => ?_
  by_cases hk : k ∈ [i, j]
  · have key : ∀ τ : L2.St, (wipe τ [i, j])[k]? = if k < τ.length then some none else none := fun τ => by
      by_cases lt : k < τ.length
      · rw [if_pos lt]
        have l2 : k < (wipe τ [i, j]).length := by rw [wipe_length]; exact lt
        cases e : (wipe τ [i, j])[k]? with
        | none => rw [List.getElem?_eq_none_iff] at e; omega
        | some o =>
          cases o with
          | none => rfl
          | some v => exact absurd hk (wipe_some e).2
      · rw [if_neg lt, List.getElem?_eq_none (by rw [wipe_length]; omega)]
    rw [key, key, List.length_set, List.length_set, wipe_length]
  · have ki : k ≠ i := fun z => hk (by simp [z])
    have kj : k ≠ j := fun z => hk (by simp [z])
    rw [wipe_out hk, List.getElem?_set_ne (Ne.symm kj), List.getElem?_set_ne (Ne.symm ki)]
section
variable {X : Cx} {a : Addr} {e elt tg : Expr} {ifs : List Expr} {scope : Scope} {kx fx : Str} {ik jf : Nat} {we : EW} {pos p pos2 tpos : Pos} {elts : List Expr} {kk : Nat}
theorem e_flags (hA : X.A.handled = some (.ref a)) (hN : X.N.Nodup) (hm : X.mg "enumerate" = none) (he : PE X e (tE X.K (WHot a) we)) (ok : BlkOk X.N X.env.scope scope [(kx, ik), (fx, jf)])
    (hgt : ∀ (s : Shared) (H : Hp) (C : Addr) (cl : List (Str × Addr)) (fp : List Addr), PG (X.blk s H scope (compEnvC scope cl C X.env) fp) (.Tuple elts kk tpos) (gTupT X.K a 2 (gCons (gName ik) (gCons (gName jf) gNil))))
    (htt : ∀ (s : Shared) (H : Hp) (C : Addr) (cl : List (Str × Addr)) (fp : List Addr), PTs (X.blk s H scope (compEnvC scope cl C X.env) fp) ifs (tB (tVar jf)))
    (hee : ∀ (s : Shared) (H : Hp) (C : Addr) (cl : List (Str × Addr)) (fp : List Addr), PE (X.blk s H scope (compEnvC scope cl C X.env) fp) elt (tVar ik))
    (hg : Gl X "enumerate" := by rfl) (hs : starEach [e] X.env = [(false, eval e X.env)] := by rfl) (hfs : ∀ x, foldedSetIterable (.Call (.Name "enumerate" p) [e] [] pos2) X.env x = pure x := by intro _; rfl) :
    PE X (.ListComp elt [⟨.Tuple elts kk tpos, .Call (.Name "enumerate" p) [e] [] pos2, ifs, 0⟩] scope pos) (tE X.K (WHot a) (wFlg ik jf we)) := by
  refine PE.imp (pe_lcT hA hN (pi_enumT hg hm (pa_cons he pa_nil hs) hs) ok hgt htt hee hfs) fun σ H Q ⟨H0, F0, A0, s, T, kx, k, w, xl, h, q⟩ => un_of w xl h fun v s1 u H1 h1 w1 => ?_
  obtain ⟨hk1, hi1, hj1, hij, bs, hd, hl, hk⟩ := h1
  have hot : HotT H1 a := by
    obtain ⟨F, A, w1⟩ := id w1
    exact xl _ s1 hk1 σ H1 none ⟨F, A, (w1.sub (T' := T) fun t h => List.mem_cons_of_mem _ h).push ⟨none, rfl, rfl⟩⟩
  obtain ⟨F, A, w1⟩ := w1
  obtain ⟨l, vs, rfl, h1, h2⟩ := items_ok w1 (w1.tm _ List.mem_cons_self) hd
  cases dqAll_bools h2
  refine ⟨l, bs.map V.bl, rfl, h1, fun D hD => ?_⟩
  have sl := w1.sl
  have keepl : ∀ (G : Hp) (o : HO), SqL X.K G l (bs.map V.bl) → SqL X.K (upd G D o) l (bs.map V.bl) := by
    rcases h1 with r | c
    · have ne : l ≠ D := by
        rintro rfl
        rcases r with r | ⟨o, r⟩ <;> rw [hD] at r <;> cases r
      intro G o g
      rcases g with (r | ⟨o', r⟩) | c
      · exact .inl (.inl (by rw [upd_ne ne]; exact r))
      · exact .inl (.inr ⟨o', by rw [upd_ne ne]; exact r⟩)
      · exact .inr c
    · exact fun G o _ => .inr c
  refine ⟨fun i m H' => m + i = bs.length ∧ HotT H' a ∧ SqL X.K H' l (bs.map V.bl) ∧ H' D = some (.lst ((idxB 0 (bs.take i)).map V.int)) ∧ ∃ F' A', WdF X.K H0 F0 A0 ⟨s1.r, s1.o ++ [.dl ((idxB 0 (bs.take i)).map PyData.int)]⟩ σ ((.own s1.o.length, .ref D) :: T) H' F' A', ⟨bs.length, by omega, hot.new hD, ?_, upd_same, ?_⟩, ?_⟩
  · exact same_l (same_new hD) h1
  · refine ⟨F, A ++ [D], ((w1.sub (T' := T) fun t h => List.mem_cons_of_mem _ h).newL hD .nil).push ⟨D, ?_, rfl⟩⟩
    rw [← w1.len, List.getElem?_append_right (Nat.le_refl _), Nat.sub_self]
    rfl
  rintro i m H' ⟨hm', hot', sq, hD', F', A', w'⟩
  by_cases hi : i = bs.length
  · refine .inl ⟨⟨⟨_, sq, by rw [List.length_map, hi]; exact Nat.le_refl _⟩, hot'⟩, ?_⟩
    rw [hi, List.take_length] at w'
    exact q _ _ hk (.ref D) H' ⟨F', A', w'⟩
  · have lt : i < bs.length := by omega
    refine .inr ⟨⟨_, .bl bs[i], sq, by rw [List.getElem?_map, List.getElem?_eq_getElem lt]; rfl⟩, fun H2 => (m - 1) + (i + 1) = bs.length ∧ HotT H2 a ∧ SqL X.K H2 l (bs.map V.bl) ∧ H2 D = some (.lst ((idxB 0 (bs.take (i + 1))).map V.int)) ∧ ∃ F' A', WdF X.K H0 F0 A0 ⟨s1.r, s1.o ++ [.dl ((idxB 0 (bs.take (i + 1))).map PyData.int)]⟩ σ ((.own s1.o.length, .ref D) :: T) H2 F' A', fun H2 h => ⟨m - 1, by omega, h⟩, fun x H2 ⟨Tp, y, ex, hTn, eH, hy⟩ => ?_⟩
    subst ex eH
    have ey : y = .bl bs[i] := by
      have := hy _ sq
      rw [List.getElem?_map, List.getElem?_eq_getElem lt] at this
      exact (Option.some.inj this).symm
    subst ey
    have hTD : D ≠ Tp := fun z => by rw [z, hTn] at hD'; cases hD'
    have hs : bs.take (i + 1) = bs.take i ++ [bs[i]] := List.take_succ_eq_append_getElem lt
    have hli : (bs.take i).length = i := by rw [List.length_take]; omega
    have hib := idxB_len (bs.take i) 0
    have wN := w'.newD (o := .tup [.int (i : Nat), .bl bs[i]]) hTn
    have sq2 : SqL X.K (upd H' Tp (.tup [.int (i : Nat), .bl bs[i]])) l (bs.map V.bl) := same_l (same_new hTn) sq
    have hD2 : upd H' Tp (.tup [.int (i : Nat), .bl bs[i]]) D = some (.lst ((idxB 0 (bs.take i)).map V.int)) := by rw [upd_ne hTD]; exact hD'
    refine ⟨hot'.new hTn, Tp, [.int (i : Nat), .bl bs[i]], rfl, SqT.of upd_same, rfl, _, _, rfl, _, _, rfl, rfl, wipe_two σ _ _, .bl bs[i], ?_, bs[i], rfl, ?_⟩
    · rw [List.getElem?_set_self]
      rw [List.length_set, wipe_length, ← sl]
      exact hj1
    have hsn := idxB_snoc (bs.take i) 0 bs[i]
    rw [← hs, hli, Nat.zero_add] at hsn
    cases hb : bs[i] with
    | false =>
      rw [hb] at hsn
      simp only [Bool.false_eq_true, if_false, List.append_nil] at hsn ⊢
      rw [hsn]
      rw [hb] at wN sq2 hD2
      exact ⟨by omega, hot'.new hTn, sq2, hD2, _, _, wN⟩
    | true =>
      rw [hb] at hsn
      simp only [if_true] at hsn ⊢
      rw [hb] at wN sq2 hD2
      refine ⟨.int (i : Nat), ?_, _, hD2, ?_, by omega, (hot'.new hTn).lst hD2, ?_, ?_, ?_⟩
      · rw [List.getElem?_set_ne (Ne.symm hij), List.getElem?_set_self]
        rw [wipe_length, ← sl]
        exact hi1
      · rw [List.length_map, sizeLine_eq]; omega
      · exact keepl _ _ sq2
      · rw [upd_same, hsn, List.map_append]; rfl
      · obtain ⟨pp, e1, e2⟩ := wN.tm _ List.mem_cons_self
        cases e2
        have := wN.wr (ys := (idxB 0 (bs.take i)).map PyData.int ++ [.int (i : Nat)]) (vs := (idxB 0 (bs.take i)).map V.int ++ [.int (i : Nat)]) e1 (by
          show (s1.o ++ [OC.dl _])[s1.o.length]? = _
          rw [List.getElem?_append_right (Nat.le_refl _), Nat.sub_self]; rfl) ((ints_dq _).app (.cons (.int _) .nil))
        refine ⟨upd F' Tp (.tup [.int (i : Nat), .bl true]), A', ?_⟩
        rw [hsn, List.map_append]
        have e3 : (s1.o ++ [OC.dl ((idxB 0 (bs.take i)).map PyData.int)]).set s1.o.length (.dl ((idxB 0 (bs.take i)).map PyData.int ++ [.int (i : Nat)])) = s1.o ++ [.dl ((idxB 0 (bs.take i)).map PyData.int ++ [.int (i : Nat)])] := by
          rw [List.set_append_right _ _ (Nat.le_refl _), Nat.sub_self]; rfl
        show WdF X.K H0 F0 A0 ⟨s1.r, s1.o ++ [.dl ((idxB 0 (bs.take i)).map PyData.int ++ [.int (i : Nat)])]⟩ σ _ _ _ _
        rw [← e3]
        exact this
end
/-- a suite that knows what is handled -/
def wHotS (h : SW) : SW := fun _ s k => h (fun _ _ => True) s k
inductive ClsH (X : Cx) : List ExceptHandler → List (Addr × Option Nat × SW) → List (Value × Option Nat × (Addr → TS)) → Prop
  | nil : ClsH X [] [] []
  | hot {x n : Str} {c : Addr} {i : Nat} {h : SW} {b₀ : Stmt} {suite : List Stmt} {np pos' : Pos} {hds : List ExceptHandler} {l : List (Addr × Option Nat × SW)} {tl : List (Value × Option Nat × (Addr → TS))} (hm : X.mg x = some (.ref c)) (hN : X.N.Nodup) (hi : X.N[i]? = some n) (hln : X.env.kindOf n = some .local)
      (hsu : ∀ (a : Addr) (pn : List (Addr × Obj)), PSs (X.suite a pn) (b₀ :: suite) (tS X.K (WHot a) h)) (r : ClsH X hds l tl) (hg : Gl X x) (hdb : (x == ("__debug__" : Str)) = false) :
      ClsH X (.ExceptHandler (some (.Name x np)) (some n) (b₀ :: suite) pos' :: hds) ((c, some i, wHotS h) :: l) ((.ref c, some i, fun a => tS X.K (WHot a) h) :: tl)
theorem ClsH.to {X : Cx} {hds : List ExceptHandler} {l : List (Addr × Option Nat × SW)} {tl : List (Value × Option Nat × (Addr → TS))} (h : ClsH X hds l tl) : Clauses X hds tl := by
  induction h with
  | nil => exact .nil
  | hot hm hN hi hln hsu r hg hdb ih => exact .as ⟨hg, hdb, .inl hm⟩ hN hi hln hsu ih
theorem cls_hot {X : Cx} {k : Nat} {x n : Str} {c : Addr} {i : Nat} {h : SW} {b₀ : Stmt} {suite : List Stmt} {np pos' : Pos} {hds : List ExceptHandler} {l : List (Addr × Option Nat × SW)} {tl : List (Value × Option Nat × (Addr → TS))} (hr : L2H.RoomH k X.A) (hm : X.mg x = some (.ref c)) (hN : X.N.Nodup) (hi : X.N[i]? = some n) (hln : X.env.kindOf n = some .local)
    (hsu : ∀ (a : Addr) (pn : List (Addr × Obj)), L2H.RoomH k (X.suite a pn).A → PSs (X.suite a pn) (b₀ :: suite) (tS X.K (WHot a) h)) (r : ClsH X hds l tl) (hg : Gl X x := by rfl) (hdb : (x == ("__debug__" : Str)) = false := by decide) :
    ClsH X (.ExceptHandler (some (.Name x np)) (some n) (b₀ :: suite) pos' :: hds) ((c, some i, wHotS h) :: l) ((.ref c, some i, fun a => tS X.K (WHot a) h) :: tl) := .hot hm hN hi hln (fun a pn => hsu a pn (roomS hr a pn)) r hg hdb
theorem wish_hot {X : Cx} {H0 F0 : Hp} {A0 : List Addr} {T : List (PV × V)} {W : WX} {D : Ends} {kx : KX} {k : PEnds} {hds : List ExceptHandler} {cl : List (Addr × Option Nat × SW)} {tl : List (Value × Option Nat × (Addr → TS))} (hcl : ClsH X hds cl tl) (xl : XL X.K H0 F0 A0 T W kx)
    (q1 : ∀ s', k.nx s' → ∀ σ' H', Wd X.K H0 F0 A0 s' σ' T H' → D.nx σ' H') (q2 : ∀ v s', k.rt v s' → ∀ u σ' H', Wd X.K H0 F0 A0 s' σ' ((v, u) :: T) H' → D.rt u H')
    (q3 : ∀ s', k.bk s' → ∀ σ' H', Wd X.K H0 F0 A0 s' σ' T H' → D.bk σ' H') (q4 : ∀ s', k.ct s' → ∀ σ' H', Wd X.K H0 F0 A0 s' σ' T H' → D.ct σ' H') (x : XV) (s' : PSt) (σ' : L2.St) (H' : Hp) (d : Option Addr) (w : Wd X.K H0 F0 A0 s' σ' ((.xd x.fs, dV d) :: T) H')
    (ht : tryM (mxK X.K) cl x s' kx k) : wishes X.K W D tl (.ref x.C) d σ' H' := by
  induction hcl with
  | nil => exact xl x s' ht σ' H' d w
  | @hot x0 n c i h b₀ suite np pos' hds l tl hm hN hi hln hsu r hg hdb ih =>
    obtain ⟨b, hb, yes, no⟩ := ht
    refine ⟨b, mx_exm hb, fun e a oe ha hz hf => ?_, fun e => ih (no e)⟩
    obtain ⟨F, A, w⟩ := w
    obtain ⟨d', ed, hd⟩ := (show PVOk X.K F A (.xd x.fs) (dV d) from w.tm _ List.mem_cons_self)
    have e' : d' = d := by
      cases d' <;> cases d <;> first | rfl | (cases ed; done) | (cases ed; rfl)
    subst e'
    have fa : F a = none := w.fz.g.free ha
    have w2 := (w.sub (T' := T) fun t m => List.mem_cons_of_mem _ m).newD (o := excO a oe) ha
    have pe : PVOk X.K (upd F a (excO a oe)) A (.exc x) (.ref a) := ⟨a, oe, d', rfl, upd_same, hz, hf, hd.same (same_new fa)⟩
    have off : ∀ {s2 : PSt} {σ2 : L2.St} {H2 : Hp}, Wd X.K H0 F0 A0 s2 σ2 ((.exc x, .ref a) :: T) H2 → Wd X.K H0 F0 A0 s2 σ2 T H2 := fun w3 => by
      obtain ⟨F3, A3, w3⟩ := w3
      exact ⟨F3, A3, w3.sub fun t m => List.mem_cons_of_mem _ m⟩
    refine ⟨H0, F0, A0, (s'.st i (.exc x)), (.exc x, .ref a) :: T, fun _ _ => True, clrE (some i) k, ⟨_, A, (w2.st pe).push pe⟩, fun x2 s2 _ σ2 H2 d2 w3 => ?_, yes e, fun s1 h1 σ1 H1 w1 => q1 _ h1 _ _ (off w1).clr, fun v s1 h1 u σ1 H1 w1 => q2 v s1 h1 u σ1 H1 ?_, fun s1 h1 σ1 H1 w1 => q3 _ h1 _ _ (off w1).clr, fun s1 h1 σ1 H1 w1 => q4 _ h1 _ _ (off w1).clr⟩
    · obtain ⟨F3, A3, w3⟩ := w3
      obtain ⟨a3, oe3, d3, e3, f3, z3, ⟨arr, g3⟩, _⟩ := w3.tm (.exc x, .ref a) (List.mem_cons_of_mem _ List.mem_cons_self)
      cases e3
      exact ⟨oe3, arr, w3.fz.g _ _ f3, g3, z3.2.2 arr g3⟩
    · obtain ⟨F3, A3, w1⟩ := w1
      refine ⟨F3, A3, w1.sub fun t m => ?_⟩
      rcases List.mem_cons.mp m with z | z
      · rw [z]; exact List.mem_cons_self
      · exact List.mem_cons_of_mem _ (List.mem_cons_of_mem _ z)
section
variable {X : Cx} {W : WX} {body : List Stmt} {hd0 : ExceptHandler} {hds : List ExceptHandler} {cl : List (Addr × Option Nat × SW)} {tl : List (Value × Option Nat × (Addr → TS))} {pos : Pos} {wb : SW}
theorem s_tryH (hst : X.stack = X.env :: X.outer) (hfr : X.env.frame = some X.env.locals) (hex : X.ex = []) (tk : L2N.Takes X W)
    (hbody : ∀ (W' : WX) (pn : List (Addr × Obj)) (xe : Value → Shared → Prop), L2N.Takes (X.tr pn xe) W' → PassesOwn (model X.prog X.w) X.A X.env xe → PSs (X.tr pn xe) body (tS X.K W' wb))
    (hcl : ClsH X (hd0 :: hds) cl tl) : PS X (.Try body (hd0 :: hds) [] [] pos) (tS X.K W (wTry (mxK X.K) wb cl)) := by
  refine PS.imp (ps_tryT hst hfr hex tk hbody hcl.to) fun D σ H ⟨H0, F0, A0, s, T, kx, k, w, xl, h, q1, q2, q3, q4⟩ => ?_
  exact ⟨H0, F0, A0, s, T, _, k, w, fun x s' hx σ' H' d w' => wish_hot hcl xl q1 q2 q3 q4 x s' σ' H' d w' hx, h, q1, q2, q3, q4⟩
end
end PW

namespace PW
open PySem L2
def isLet (c : Nat) : Bool := decide (97 ≤ c) && decide (c ≤ 122)
def isFig (c : Nat) : Bool := decide (48 ≤ c) && decide (c ≤ 57)
def isSp (c : Nat) : Bool := decide (c = 32) || decide (c = 10)
/-- a sign that a text may hold -/
def gd (c : Nat) : Bool := decide (c = 10) || (decide (32 ≤ c) && decide (c ≤ 126) && !decide (c = 37))
theorem let_mem (c : Nat) : decide (c ∈ ("abcdefghijklmnopqrstuvwxyz" : Str).cps.toList) = isLet c := by
  have e : ("abcdefghijklmnopqrstuvwxyz" : Str).cps.toList = [97, 98, 99, 100, 101, 102, 103, 104, 105, 106, 107, 108, 109, 110, 111, 112, 113, 114, 115, 116, 117, 118, 119, 120, 121, 122] := by decide +kernel
  rw [e, Bool.eq_iff_iff]
  simp only [isLet, decide_eq_true_eq, Bool.and_eq_true, List.mem_cons, List.not_mem_nil, or_false]
  omega
theorem fig_mem (c : Nat) : decide (c ∈ ("0123456789" : Str).cps.toList) = isFig c := by
  have e : ("0123456789" : Str).cps.toList = [48, 49, 50, 51, 52, 53, 54, 55, 56, 57] := by decide +kernel
  rw [e, Bool.eq_iff_iff]
  simp only [isFig, decide_eq_true_eq, Bool.and_eq_true, List.mem_cons, List.not_mem_nil, or_false]
  omega
theorem sp_mem (c : Nat) : decide (c ∈ (" \n" : Str).cps.toList) = isSp c := by
  have e : (" \n" : Str).cps.toList = [32, 10] := by decide +kernel
  rw [e, Bool.eq_iff_iff]
  simp only [isSp, decide_eq_true_eq, Bool.or_eq_true, List.mem_cons, List.not_mem_nil, or_false]
theorem gd_in {c : Nat} (h : gd c = true) : (isLet c || (isFig c || (decide (c ∈ ("ABCDEFGHIJKLMNOPQRSTUVWXYZ" : Str).cps.toList) || decide (c ∈ (" !\"#$&'()*+,-./:;<=>?\x40[\\]^_`{|}~\n" : Str).cps.toList)))) = true := by
  have key : ∀ c, c < 127 → gd c = true → (isLet c || (isFig c || (decide (c ∈ ("ABCDEFGHIJKLMNOPQRSTUVWXYZ" : Str).cps.toList) || decide (c ∈ (" !\"#$&'()*+,-./:;<=>?\x40[\\]^_`{|}~\n" : Str).cps.toList)))) = true := by decide +kernel
  refine key c ?_ h
  unfold gd at h
  simp only [Bool.or_eq_true, Bool.and_eq_true, decide_eq_true_eq] at h
  omega
def gdT (l : List Nat) : Prop := ∀ c ∈ l, gd c = true
theorem gdT.app {a b : List Nat} (h : gdT a) (g : gdT b) : gdT (a ++ b) := fun c m => (List.mem_append.mp m).elim (h c) (g c)
theorem gdT.take {a : List Nat} (n : Nat) (h : gdT a) : gdT (a.take n) := fun c m => h c (List.mem_of_mem_take m)
theorem gdT.drop {a : List Nat} (n : Nat) (h : gdT a) : gdT (a.drop n) := fun c m => h c (List.mem_of_mem_drop m)
theorem gdT.ok {a : List Nat} (h : gdT a) : (dT a).canLay0 = true := by
  show (tx a).cps.all (· < 0x110000) = true
  rw [← Array.all_toList]
  rw [List.all_eq_true]
  intro c m
  have := h c m
  unfold gd at this
  simp only [Bool.or_eq_true, Bool.and_eq_true, decide_eq_true_eq] at this
  rw [decide_eq_true_eq]
  omega
/-- where a run of such signs ends -/
def runTo (p : Nat → Bool) : List Nat → Nat
  | [] => 0
  | c :: r => if p c then runTo p r + 1 else 0
theorem runTo_le (p : Nat → Bool) : ∀ l : List Nat, runTo p l ≤ l.length
  | [] => Nat.le_refl _
  | c :: r => by
    unfold runTo
    split
    · have := runTo_le p r; rw [List.length_cons]; omega
    · exact Nat.zero_le _
theorem runTo_drop (p : Nat → Bool) {l : List Nat} {e : Nat} (h : e < l.length) : runTo p (l.drop e) = if p l[e] then runTo p (l.drop (e + 1)) + 1 else 0 := by
  rw [List.drop_eq_getElem_cons h]
  rfl
theorem runTo_all (p : Nat → Bool) : ∀ (l : List Nat) (c : Nat), c ∈ l.take (runTo p l) → p c = true
  | [], c, h => by simp at h
  | a :: r, c, h => by
    unfold runTo at h
    split at h
    · rename_i e
      rw [List.take_succ_cons, List.mem_cons] at h
      rcases h with rfl | h
      · exact e
      · exact runTo_all p r c h
    · simp at h
theorem runTo_stop (p : Nat → Bool) : ∀ (l : List Nat) (c : Nat) (r : List Nat), l.drop (runTo p l) = c :: r → p c = false
  | [], c, r, h => by simp at h
  | a :: q, c, r, h => by
    unfold runTo at h
    split at h
    · exact runTo_stop p q c r (by simpa using h)
    · rename_i e
      rw [List.drop_zero] at h
      cases h
      simpa using e
/-- a leaf found: its word, its place -/
abbrev Lf := List Nat × Nat
def grp (c : Nat) : Nat := if isLet c then 1 else if isFig c then 2 else 0
def joins (F : List Lf) (p c : Nat) : Bool := match F.getLast? with
  | some (w, q) => decide (q + w.length = p) && decide (grp (w.headD 0) = grp c) && decide (grp c ≠ 0)
  | none => false
/-- one sign more -/
def stepS (F : List Lf) (p c : Nat) : List Lf := if isSp c then F else if joins F p c then match F.getLast? with
    | some (w, q) => F.dropLast ++ [(w ++ [c], q)]
    | none => F
  else F ++ [([c], p)]
def foldS : List Lf → Nat → List Nat → List Lf
  | F, _, [] => F
  | F, p, c :: r => foldS (stepS F p c) (p + 1) r
theorem foldS_app : ∀ (l m : List Nat) (F : List Lf) (p : Nat), foldS F p (l ++ m) = foldS (foldS F p l) (p + l.length) m
  | [], m, F, p => rfl
  | c :: r, m, F, p => by
    show foldS _ (p + 1) (r ++ m) = foldS (foldS _ (p + 1) r) _ m
    rw [foldS_app r m, List.length_cons]
    congr 1
    omega
theorem stepS_front {A B : List Lf} (h : B ≠ []) (p c : Nat) : stepS (A ++ B) p c = A ++ stepS B p c := by
  obtain ⟨B', x, rfl⟩ : ∃ B' x, B = B' ++ [x] := ⟨B.dropLast, B.getLast h, (List.dropLast_concat_getLast h).symm⟩
  unfold stepS joins
  rw [← List.append_assoc]
  simp only [List.getLast?_append, List.getLast?_singleton, Option.some_or, List.dropLast_concat]
  obtain ⟨w, q⟩ := x
  dsimp only
  split
  · rw [List.append_assoc]
  · split <;> simp
theorem stepS_ne {B : List Lf} (h : B ≠ []) (p c : Nat) : stepS B p c ≠ [] := by
  unfold stepS
  split
  · exact h
  · split
    · split
      · simp
      · exact h
    · simp
theorem foldS_front {A : List Lf} : ∀ (l : List Nat) (B : List Lf) (p : Nat), B ≠ [] → foldS (A ++ B) p l = A ++ foldS B p l
  | [], B, p, _ => rfl
  | c :: r, B, p, h => by
    show foldS (stepS (A ++ B) p c) (p + 1) r = _
    rw [stepS_front h, foldS_front r _ _ (stepS_ne h p c)]
    rfl
/-- the words found are whole: each ends no later than p -/
def Ok (F : List Lf) (p : Nat) : Prop := ∀ w q, (w, q) ∈ F → w ≠ [] ∧ q + w.length ≤ p ∧ gdT w ∧ (grp (w.headD 0) = 0 → w.length = 1)
theorem Ok.mono {F : List Lf} {p q : Nat} (h : Ok F p) (e : p ≤ q) : Ok F q := fun w a m => by
  obtain ⟨x, y, z⟩ := h w a m
  exact ⟨x, by omega, z⟩
theorem Ok.step {F : List Lf} {p c : Nat} (h : Ok F p) (g : gd c = true) : Ok (stepS F p c) (p + 1) := by
  unfold stepS
  split
  · exact h.mono (by omega)
  · split
    · rename_i hj
      split
      · rename_i w q e
        have hne : F ≠ [] := by rintro rfl; cases e
        rw [List.getLast?_eq_some_getLast hne] at e
        have e' : F.getLast hne = (w, q) := Option.some.inj e
        have hm : (w, q) ∈ F := e' ▸ List.getLast_mem hne
        obtain ⟨a, b, d, f⟩ := h w q hm
        unfold joins at hj
        rw [List.getLast?_eq_some_getLast hne, e'] at hj
        simp only [Bool.and_eq_true, decide_eq_true_eq] at hj
        intro w' q' m
        rcases List.mem_append.mp m with m | m
        · obtain ⟨x, y, z⟩ := h w' q' (List.dropLast_subset _ m)
          exact ⟨x, by omega, z⟩
        · have : (w', q') = (w ++ [c], q) := by simpa using m
          cases this
          refine ⟨by simp, by rw [List.length_append]; show q + (w.length + 1) ≤ p + 1; omega, d.app (fun x hx => by simp at hx; exact hx ▸ g), fun z => ?_⟩
          cases w with
          | nil => exact absurd rfl a
          | cons x r => exact absurd (hj.1.2.symm.trans z) hj.2
      · exact h.mono (by omega)
    · intro w' q' m
      rcases List.mem_append.mp m with m | m
      · obtain ⟨x, y, z⟩ := h w' q' m
        exact ⟨x, by omega, z⟩
      · have : (w', q') = ([c], p) := by simpa using m
        cases this
        exact ⟨by simp, by simp, fun x hx => by simp at hx; exact hx ▸ g, fun _ => rfl⟩
theorem Ok.fold : ∀ {l : List Nat} {F : List Lf} {p : Nat}, Ok F p → gdT l → Ok (foldS F p l) (p + l.length)
  | [], F, p, h, _ => h
  | c :: r, F, p, h, g => by
    have := Ok.fold (l := r) (h.step (g c (List.mem_cons_self))) (fun x m => g x (List.mem_cons_of_mem _ m))
    rw [List.length_cons]
    have e : p + 1 + r.length = p + (r.length + 1) := by omega
    rw [e] at this
    exact this
theorem nojoin_of {F : List Lf} {p c : Nat} (h : ∀ w q, (w, q) ∈ F → q + w.length < p) : joins F p c = false := by
  unfold joins
  split
  · rename_i w q e
    have hne : F ≠ [] := by rintro rfl; cases e
    rw [List.getLast?_eq_some_getLast hne] at e
    have e' : F.getLast hne = (w, q) := Option.some.inj e
    have hm : (w, q) ∈ F := e' ▸ List.getLast_mem hne
    have := h w q hm
    simp only [Bool.and_eq_false_imp, decide_eq_true_eq]
    intro a
    simp only [Bool.and_eq_true, decide_eq_true_eq] at a
    omega
  · rfl
theorem foldS_far {A : List Lf} : ∀ (l : List Nat) (p : Nat), (∀ w q, (w, q) ∈ A → q + w.length < p) → foldS A p l = A ++ foldS [] p l
  | [], p, _ => by show A = A ++ []; rw [List.append_nil]
  | c :: r, p, h => by
    have nj : joins ([] : List Lf) p c = false := rfl
    show foldS (stepS A p c) (p + 1) r = A ++ foldS (stepS [] p c) (p + 1) r
    unfold stepS
    split
    · exact foldS_far r (p + 1) fun w q m => by have := h w q m; omega
    · rw [nojoin_of h, nj]
      exact foldS_front r _ _ (by simp)
/-- a run of one group -/
theorem foldS_run {g : Nat} (hg : g ≠ 0) : ∀ (l : List Nat) (F : List Lf) (w : List Nat) (q p : Nat), q + w.length = p → grp (w.headD 0) = g → w ≠ [] → (∀ c ∈ l, grp c = g ∧ isSp c = false) → foldS (F ++ [(w, q)]) p l = F ++ [(w ++ l, q)]
  | [], F, w, q, p, _, _, _, _ => by show F ++ [(w, q)] = _; rw [List.append_nil]
  | c :: r, F, w, q, p, h, hw, hne, hl => by
    obtain ⟨h1, h2⟩ := hl c List.mem_cons_self
    have : stepS (F ++ [(w, q)]) p c = F ++ [(w ++ [c], q)] := by
      unfold stepS joins
      simp only [List.getLast?_append, List.getLast?_singleton, Option.some_or, List.dropLast_concat]
      rw [h2, hw, h1]
      simp [h, hg]
    show foldS (stepS (F ++ [(w, q)]) p c) (p + 1) r = _
    rw [this, foldS_run hg r F (w ++ [c]) q (p + 1) (by rw [List.length_append]; show q + (w.length + 1) = p + 1; omega) (by cases w with
      | nil => exact absurd rfl hne
      | cons x y => exact hw) (by simp) (fun x m => hl x (List.mem_cons_of_mem _ m)), List.append_assoc]
    rfl
theorem grp_let {c : Nat} (h : isLet c = true) : grp c = 1 ∧ isSp c = false ∧ isFig c = false := by
  unfold grp
  rw [if_pos h]
  unfold isLet at h
  simp only [Bool.and_eq_true, decide_eq_true_eq] at h
  refine ⟨rfl, ?_, ?_⟩
  · unfold isSp; simp only [Bool.or_eq_false_iff, decide_eq_false_iff_not]; omega
  · unfold isFig; rw [Bool.eq_false_iff]; simp only [ne_eq, Bool.and_eq_true, decide_eq_true_eq]; omega
theorem grp_fig {c : Nat} (h : isFig c = true) : grp c = 2 ∧ isSp c = false ∧ isLet c = false := by
  have h' := h
  unfold isFig at h
  simp only [Bool.and_eq_true, decide_eq_true_eq] at h
  have hl : isLet c = false := by unfold isLet; rw [Bool.eq_false_iff]; simp only [ne_eq, Bool.and_eq_true, decide_eq_true_eq]; omega
  refine ⟨?_, ?_, hl⟩
  · unfold grp; rw [hl, h']; rfl
  · unfold isSp; simp only [Bool.or_eq_false_iff, decide_eq_false_iff_not]; omega
theorem grp_1 {c : Nat} (h : grp c = 1) : isLet c = true := by
  unfold grp at h
  split at h
  · assumption
  · split at h <;> omega
theorem grp_2 {c : Nat} (h : grp c = 2) : isFig c = true := by
  unfold grp at h
  split at h
  · omega
  · split at h
    · assumption
    · omega
/-- nothing found so far goes on at p -/
def NJ (F : List Lf) (p : Nat) (l : List Nat) : Prop := ∀ c r, l = c :: r → joins F p c = false
theorem joins_last {F : List Lf} {w : List Nat} {q p c : Nat} : joins (F ++ [(w, q)]) p c = (decide (q + w.length = p) && decide (grp (w.headD 0) = grp c) && decide (grp c ≠ 0)) := by
  unfold joins
  simp only [List.getLast?_append, List.getLast?_singleton, Option.some_or]
/-- what one turn of the reading loop does at a letter, at a figure -/
theorem foldS_turn {g : Nat} (hg : g ≠ 0) {p : Nat → Bool} (hp : ∀ c, p c = true ↔ grp c = g) {F : List Lf} {a c : Nat} {r : List Nat} (nj : NJ F a (c :: r)) (hc : grp c = g) (hs : ∀ c, grp c = g → isSp c = false) :
    foldS F a (c :: r) = foldS (F ++ [(c :: r.take (runTo p r), a)]) (a + 1 + runTo p r) (r.drop (runTo p r)) ∧ NJ (F ++ [(c :: r.take (runTo p r), a)]) (a + 1 + runTo p r) (r.drop (runTo p r)) := by
  constructor
  · have h1 : stepS F a c = F ++ [([c], a)] := by
      unfold stepS
      rw [hs c hc, nj c r rfl]
      rfl
    show foldS (stepS F a c) (a + 1) r = _
    rw [h1]
    have h2 := foldS_app (r.take (runTo p r)) (r.drop (runTo p r)) (F ++ [([c], a)]) (a + 1)
    rw [List.take_append_drop] at h2
    rw [h2, foldS_run hg _ F [c] a (a + 1) rfl hc (by simp) (fun x m => by
      have := (hp x).mp (runTo_all p r x m)
      exact ⟨this, hs x this⟩), List.length_take, Nat.min_eq_left (runTo_le p r)]
    rfl
  · intro d s e
    rw [joins_last]
    have h3 := runTo_stop p r d s e
    have h4 : grp d ≠ g := fun z => by rw [(hp d).mpr z] at h3; cases h3
    have h5 : grp ((c :: r.take (runTo p r)).headD 0) = g := hc
    rw [h5]
    simp [Ne.symm h4]
theorem foldS_sp {F : List Lf} {a c : Nat} {r : List Nat} (h : isSp c = true) : foldS F a (c :: r) = foldS F (a + 1) r := by
  show foldS (stepS F a c) (a + 1) r = _
  unfold stepS
  rw [if_pos h]
theorem foldS_one {F : List Lf} {a c : Nat} {r : List Nat} (h : isSp c = false) (g : grp c = 0) : foldS F a (c :: r) = foldS (F ++ [([c], a)]) (a + 1) r := by
  show foldS (stepS F a c) (a + 1) r = _
  unfold stepS joins
  rw [h, g]
  cases F.getLast? with
  | none => rfl
  | some x => simp
end PW

namespace PW
open PySem L2
/-- lines with their ends -/
def mkLines : List (List Nat) → List (List Nat)
  | [] => []
  | [x] => if x = [] then [] else [x]
  | x :: y :: r => (x ++ [10]) :: mkLines (y :: r)
def linesL (l : List Nat) : List (List Nat) := mkLines (spl1 10 [] l)
theorem mkLines_eq : ∀ (ps : List (List Nat)) (h : ps ≠ []), mkLines ps = ps.dropLast.map (· ++ [10]) ++ (if ps.getLast h = [] then [] else [ps.getLast h])
  | [x], _ => rfl
  | x :: y :: r, _ => by
    show (x ++ [10]) :: mkLines (y :: r) = _
    rw [mkLines_eq (y :: r) (by simp)]
    rfl
/-- the leaves of lines -/
def lvs : Nat → List (List Nat) → List Lf
  | _, [] => []
  | b, x :: r => foldS [] b (x.take (idx 35 x)) ++ lvs (b + x.length) r
def leavesL (l : List Nat) : List Lf := lvs 0 (linesL l)
/-- the same, sign by sign with a flag -/
def fold2 : Bool → List Lf → Nat → List Nat → List Lf
  | _, F, _, [] => F
  | rem, F, p, c :: r => 
    let rem' := decide (c ≠ 10) && (rem || decide (c = 35))
    fold2 rem' (if rem' then F else stepS F p c) (p + 1) r
theorem fold2_rem : ∀ (l m : List Nat) (F : List Lf) (p : Nat), 10 ∉ l → fold2 true F p (l ++ m) = fold2 true F (p + l.length) m
  | [], m, F, p, _ => rfl
  | c :: r, m, F, p, h => by
    have hc : c ≠ 10 := fun e => h (e ▸ List.mem_cons_self)
    have e : (decide (c ≠ 10) && (true || decide (c = 35))) = true := by simp [hc]
    show fold2 (decide (c ≠ 10) && (true || decide (c = 35))) (if (decide (c ≠ 10) && (true || decide (c = 35))) = true then F else stepS F p c) (p + 1) (r ++ m) = _
    rw [e, if_pos rfl, fold2_rem r m F (p + 1) (fun x => h (List.mem_cons_of_mem _ x)), List.length_cons]
    congr 1
    omega
theorem stepS_10 (F : List Lf) (p : Nat) : stepS F p 10 = F := rfl
/-- up to the end of a line -/
theorem fold2_line : ∀ (l : List Nat) (F : List Lf) (p : Nat) (m : List Nat), 10 ∉ l → fold2 false F p (l ++ 10 :: m) = fold2 false (foldS F p ((l ++ [10]).take (idx 35 (l ++ [10])))) (p + l.length + 1) m
  | [], F, p, m, _ => by
    show fold2 false (stepS F p 10) (p + 1) m = _
    rfl
  | c :: r, F, p, m, h => by
    have hc : c ≠ 10 := fun e => h (e ▸ List.mem_cons_self)
    have hr : 10 ∉ r := fun x => h (List.mem_cons_of_mem _ x)
    show fold2 (decide (c ≠ 10) && (false || decide (c = 35))) (if (decide (c ≠ 10) && (false || decide (c = 35))) = true then F else stepS F p c) (p + 1) (r ++ 10 :: m) = _
    by_cases e : c = 35
    · subst e
      show fold2 true F (p + 1) (r ++ 10 :: m) = _
      rw [fold2_rem r _ F (p + 1) hr]
      show fold2 false (stepS F (p + 1 + r.length) 10) (p + 1 + r.length + 1) m = fold2 false F (p + (r.length + 1) + 1) m
      rw [stepS_10]
      congr 1
      omega
    · have e1 : (decide (c ≠ 10) && (false || decide (c = 35))) = false := by simp [e]
      have e2 : idx 35 (c :: r ++ [10]) = idx 35 (r ++ [10]) + 1 := by show (if c = 35 then 0 else idx 35 (r ++ [10]) + 1) = _; rw [if_neg e]
      rw [e1, if_neg (by simp), fold2_line r _ (p + 1) m hr, e2, List.length_cons]
      show _ = fold2 false (foldS (stepS F p c) (p + 1) ((r ++ [10]).take (idx 35 (r ++ [10])))) _ m
      congr 1
      omega
/-- the last line, that has no end -/
theorem fold2_last : ∀ (l : List Nat) (F : List Lf) (p : Nat), 10 ∉ l → fold2 false F p l = foldS F p (l.take (idx 35 l))
  | [], F, p, _ => rfl
  | c :: r, F, p, h => by
    have hc : c ≠ 10 := fun e => h (e ▸ List.mem_cons_self)
    have hr : 10 ∉ r := fun x => h (List.mem_cons_of_mem _ x)
    show fold2 (decide (c ≠ 10) && (false || decide (c = 35))) (if (decide (c ≠ 10) && (false || decide (c = 35))) = true then F else stepS F p c) (p + 1) r = _
    by_cases e : c = 35
    · subst e
      show fold2 true F (p + 1) r = _
      have := fold2_rem r [] F (p + 1) hr
      rw [List.append_nil] at this
      rw [this]
      rfl
    · have e1 : (decide (c ≠ 10) && (false || decide (c = 35))) = false := by simp [e]
      have e2 : idx 35 (c :: r) = idx 35 r + 1 := by show (if c = 35 then 0 else idx 35 r + 1) = _; rw [if_neg e]
      rw [e1, if_neg (by simp), fold2_last r _ (p + 1) hr, e2]
      rfl
theorem Ok.far {F : List Lf} {p q : Nat} (h : Ok F p) (e : p < q) : ∀ w a, (w, a) ∈ F → a + w.length < q := fun w a m => by
  obtain ⟨_, y, _⟩ := h w a m
  omega
theorem ok_nil (p : Nat) : Ok [] p := fun _ _ m => nomatch m
theorem Ok.app {F G : List Lf} {p : Nat} (h : Ok F p) (g : Ok G p) : Ok (F ++ G) p := fun w q m => (List.mem_append.mp m).elim (h w q) (g w q)
theorem line_ok {b : Nat} {x : List Nat} (g : gdT x) : Ok (foldS [] b (x.take (idx 35 x))) (b + x.length) := 
  (Ok.fold (l := x.take (idx 35 x)) (ok_nil b) (g.take _)).mono (by rw [List.length_take]; omega)
theorem fold_line (F : List Lf) (b k : Nat) (acc : List Nat) : foldS F b ((acc ++ [10]).take k) = foldS F b (acc.take k) := by
  rw [List.take_append, foldS_app]
  cases k - acc.length with
  | zero => rfl
  | succ n => rw [List.take_succ_cons, List.take_nil]; rfl
theorem fold2_text : ∀ (l acc : List Nat) (F : List Lf) (b : Nat), 10 ∉ acc → gdT acc → gdT l → (∀ w q, (w, q) ∈ F → q + w.length < b) → fold2 false F b (acc ++ l) = F ++ lvs b (mkLines (spl1 10 acc l))
  | [], acc, F, b, ha, ga, _, hF => by
    rw [List.append_nil, fold2_last acc F b ha, foldS_far _ b hF]
    show _ = F ++ lvs b (if acc = [] then [] else [acc])
    by_cases e : acc = []
    · subst e; rfl
    · rw [if_neg e]
      show _ = F ++ (_ ++ [])
      rw [List.append_nil]
  | c :: r, acc, F, b, ha, ga, gl, hF => by
    have gr : gdT r := fun x m => gl x (List.mem_cons_of_mem _ m)
    by_cases e : c = 10
    · subst e
      rw [fold2_line acc F b r ha, foldS_far _ b hF]
      have es : spl1 10 acc (10 :: r) = acc :: spl1 10 [] r := if_pos rfl
      have o1 : Ok (foldS [] b ((acc ++ [10]).take (idx 35 (acc ++ [10])))) (b + acc.length) := by
        rw [fold_line]
        exact (Ok.fold (ok_nil b) (ga.take _)).mono (by rw [List.length_take]; omega)
      have ih := fold2_text r [] (F ++ foldS [] b ((acc ++ [10]).take (idx 35 (acc ++ [10])))) (b + acc.length + 1) (by simp) (fun _ m => nomatch m) gr (fun w q m => by
        rcases List.mem_append.mp m with m | m
        · have := hF w q m; omega
        · exact o1.far (by omega) w q m)
      rw [List.nil_append] at ih
      rw [ih, es]
      obtain ⟨y, t, et⟩ : ∃ y t, spl1 10 [] r = y :: t := List.exists_cons_of_ne_nil (spl1_ne _ _ _)
      rw [et]
      show _ = F ++ (_ ++ lvs (b + (acc ++ [10]).length) (mkLines (y :: t)))
      rw [List.append_assoc, List.length_append]
      rfl
    · have es : spl1 10 acc (c :: r) = spl1 10 (acc ++ [c]) r := if_neg e
      rw [es]
      have := fold2_text r (acc ++ [c]) F b (by simp [ha, Ne.symm e]) (ga.app (fun x m => by simp at m; subst m; exact gl _ List.mem_cons_self)) gr hF
      rw [List.append_assoc] at this
      exact this
theorem leaves_fold {l : List Nat} (g : gdT l) : fold2 false [] 0 l = leavesL l := fold2_text l [] [] 0 (by simp) (fun _ m => nomatch m) g (fun _ _ m => nomatch m)
theorem Ok.fold2 : ∀ {l : List Nat} {b : Bool} {F : List Lf} {p : Nat}, Ok F p → gdT l → Ok (fold2 b F p l) (p + l.length)
  | [], b, F, p, h, _ => h
  | c :: r, b, F, p, h, g => by
    have h1 : Ok (if (decide (c ≠ 10) && (b || decide (c = 35))) = true then F else stepS F p c) (p + 1) := by
      split
      · exact h.mono (by omega)
      · exact h.step (g c List.mem_cons_self)
    have := Ok.fold2 (l := r) (b := decide (c ≠ 10) && (b || decide (c = 35))) h1 (fun x m => g x (List.mem_cons_of_mem _ m))
    rw [List.length_cons]
    have e : p + 1 + r.length = p + (r.length + 1) := by omega
    rw [e] at this
    exact this
theorem leaves_ok {l : List Nat} (g : gdT l) : Ok (leavesL l) l.length := by
  have := Ok.fold2 (l := l) (b := false) (ok_nil 0) g
  rw [leaves_fold g, Nat.zero_add] at this
  exact this
theorem lines_len : ∀ l acc : List Nat, (mkLines (spl1 10 acc l)).flatten = acc ++ l
  | [], acc => by
    show (if acc = [] then [] else [acc]).flatten = _
    by_cases e : acc = []
    · subst e; rfl
    · rw [if_neg e]; simp
  | c :: r, acc => by
    by_cases e : c = 10
    · subst e
      have es : spl1 10 acc (10 :: r) = acc :: spl1 10 [] r := if_pos rfl
      have ih := lines_len r []
      rw [es]
      obtain ⟨y, t, et⟩ : ∃ y t, spl1 10 [] r = y :: t := List.exists_cons_of_ne_nil (spl1_ne _ _ _)
      rw [et] at ih ⊢
      show ((acc ++ [10]) ++ (mkLines (y :: t)).flatten) = _
      rw [ih]
      simp
    · have es : spl1 10 acc (c :: r) = spl1 10 (acc ++ [c]) r := if_neg e
      rw [es, lines_len r]
      simp
theorem lines_flat (l : List Nat) : (linesL l).flatten = l := lines_len l []
end PW
namespace PW
open PySem L2
theorem runTo_app (P : Nat → Bool) : ∀ (R t : List Nat), (∀ x y, t = x :: y → P x = false) → runTo P (R ++ t) = runTo P R
  | [], t, h => by
    cases t with
    | nil => rfl
    | cons x y => show (if P x then _ else 0) = 0; rw [if_neg (by rw [h x y rfl]; simp)]
  | c :: r, t, h => by
    show (if P c then runTo P (r ++ t) + 1 else 0) = if P c then runTo P r + 1 else 0
    rw [runTo_app P r t h]
theorem turn_word {g : Nat} (hg : g ≠ 0) {P : Nat → Bool} (hp : ∀ c, P c = true ↔ grp c = g) (hs : ∀ c, grp c = g → isSp c = false) {F : List Lf} {b p c : Nat} {r t l : List Nat}
    (hl : l.drop p = c :: (r ++ t)) (ht : ∀ x y, t = x :: y → P x = false) (nj : NJ F (b + p) (c :: r)) (hc : grp c = g) (ok : Ok F (b + p)) (hgd : gdT l) :
    ∃ k, k ≤ r.length ∧ runTo P (l.drop p) = k + 1 ∧ (l.take (p + (k + 1))).drop p = c :: r.take k ∧ l.drop (p + (k + 1)) = r.drop k ++ t ∧
      foldS F (b + p) (c :: r) = foldS (F ++ [(c :: r.take k, b + p)]) (b + (p + (k + 1))) (r.drop k) ∧ NJ (F ++ [(c :: r.take k, b + p)]) (b + (p + (k + 1))) (r.drop k) ∧ Ok (F ++ [(c :: r.take k, b + p)]) (b + (p + (k + 1))) := by
  have hk := runTo_le P r
  have hd : gdT (c :: (r ++ t)) := hl ▸ hgd.drop p
  obtain ⟨h1, h2⟩ := foldS_turn hg hp nj hc hs
  have e : b + p + 1 + runTo P r = b + (p + (runTo P r + 1)) := by omega
  rw [e] at h1 h2
  refine ⟨runTo P r, hk, ?_, ?_, ?_, h1, h2, ?_⟩
  · rw [hl]
    show (if P c then runTo P (r ++ t) + 1 else 0) = _
    rw [if_pos ((hp c).mpr hc), runTo_app P r t ht]
  · rw [List.drop_take, hl]
    have : p + (runTo P r + 1) - p = runTo P r + 1 := by omega
    rw [this, List.take_succ_cons, List.take_append_of_le_length hk]
  · rw [← List.drop_drop, hl, List.drop_succ_cons, List.drop_append_of_le_length hk]
  · refine (ok.mono (by omega)).app fun w q m => ?_
    have : (w, q) = (c :: r.take (runTo P r), b + p) := by simpa using m
    cases this
    refine ⟨by simp, ?_, ?_, fun z => absurd (hc.symm.trans z) hg⟩
    · rw [List.length_cons, List.length_take]; omega
    · intro x m
      refine hd x ?_
      rcases List.mem_cons.mp m with rfl | m
      · exact List.mem_cons_self
      · exact List.mem_cons_of_mem _ (List.mem_append_left _ (List.mem_of_mem_take m))
theorem turn_one {F : List Lf} {b p c : Nat} {r t l : List Nat} (hl : l.drop p = c :: (r ++ t)) (hc : grp c = 0) (hs : isSp c = false) (ok : Ok F (b + p)) (hgd : gdT l) :
    (l.take (p + 1)).drop p = [c] ∧ l.drop (p + 1) = r ++ t ∧ foldS F (b + p) (c :: r) = foldS (F ++ [([c], b + p)]) (b + (p + 1)) r ∧ NJ (F ++ [([c], b + p)]) (b + (p + 1)) r ∧ Ok (F ++ [([c], b + p)]) (b + (p + 1)) := by
  have hd : gdT (c :: (r ++ t)) := hl ▸ hgd.drop p
  refine ⟨?_, ?_, foldS_one hs hc, fun d s _ => ?_, ?_⟩
  · rw [List.drop_take, hl]
    have : p + 1 - p = 1 := by omega
    rw [this]; rfl
  · rw [← List.drop_drop, hl]; rfl
  · rw [joins_last]
    show (_ && decide (grp c = grp d) && decide (grp d ≠ 0)) = false
    rw [hc]
    by_cases z : grp d = 0
    · simp [z]
    · simp [Ne.symm z]
  · refine (ok.mono (by omega)).app fun w q m => ?_
    have : (w, q) = ([c], b + p) := by simpa using m
    cases this
    exact ⟨by simp, by simp; omega, fun x m => by simp at m; subst m; exact hd _ List.mem_cons_self, fun _ => rfl⟩
theorem turn_sp {F : List Lf} {b p c : Nat} {r t l : List Nat} (hl : l.drop p = c :: (r ++ t)) (hs : isSp c = true) (ok : Ok F (b + p)) :
    l.drop (p + 1) = r ++ t ∧ foldS F (b + p) (c :: r) = foldS F (b + (p + 1)) r ∧ NJ F (b + (p + 1)) r ∧ Ok F (b + (p + 1)) := by
  refine ⟨?_, foldS_sp hs, fun d s _ => nojoin_of (ok.far (by omega)), ok.mono (by omega)⟩
  rw [← List.drop_drop, hl]; rfl
theorem sp_grp {c : Nat} (h : isSp c = true) : isLet c = false ∧ isFig c = false := by
  unfold isSp at h
  simp only [Bool.or_eq_true, decide_eq_true_eq] at h
  rcases h with rfl | rfl <;> exact ⟨rfl, rfl⟩
theorem grp_0 {c : Nat} (h1 : isLet c = false) (h2 : isFig c = false) : grp c = 0 := by unfold grp; rw [h1, h2]; rfl
theorem get_of_drop {l : List Nat} {p c : Nat} {r : List Nat} (h : l.drop p = c :: r) : ∃ hp : p < l.length, l[p] = c := by
  have hp : p < l.length := by
    rcases Nat.lt_or_ge p l.length with h1 | h1
    · exact h1
    · rw [List.drop_of_length_le h1] at h; cases h
  refine ⟨hp, ?_⟩
  rw [List.drop_eq_getElem_cons hp] at h
  cases h
  rfl
end PW
namespace PW
theorem stepS_len (F : List Lf) (p c : Nat) : (stepS F p c).length ≤ F.length + 1 := by
  unfold stepS
  split
  · omega
  · split
    · split
      · rw [List.length_append, List.length_dropLast, List.length_cons, List.length_nil]; omega
      · omega
    · rw [List.length_append, List.length_cons, List.length_nil]; omega
theorem foldS_len : ∀ (l : List Nat) (F : List Lf) (p : Nat), (foldS F p l).length ≤ F.length + l.length
  | [], F, p => Nat.le_refl _
  | c :: r, F, p => by
    have h1 := foldS_len r (stepS F p c) (p + 1)
    have h2 := stepS_len F p c
    show (foldS (stepS F p c) (p + 1) r).length ≤ _
    rw [List.length_cons]
    omega
theorem flat_take {Ls : List (List Nat)} {j : Nat} (h : j < Ls.length) : ((Ls.take (j + 1)).flatten).length = ((Ls.take j).flatten).length + Ls[j].length ∧ ((Ls.take j).flatten).length + Ls[j].length ≤ Ls.flatten.length := by
  have e : Ls.take (j + 1) = Ls.take j ++ [Ls[j]] := by rw [List.take_add_one, List.getElem?_eq_getElem h]; rfl
  have e1 : ((Ls.take (j + 1)).flatten).length = ((Ls.take j).flatten).length + Ls[j].length := by
    rw [e, List.flatten_append, List.length_append]
    simp
  refine ⟨e1, ?_⟩
  have : Ls.flatten = (Ls.take (j + 1)).flatten ++ (Ls.drop (j + 1)).flatten := by rw [← List.flatten_append, List.take_append_drop]
  rw [← e1, this, List.length_append]
  omega
end PW

namespace PW
open PySem L2
def eqv_strs (x y : Str) : PyData.eqv (.str x) (.str y) = (x == y) := by simp [PyData.eqv]
/-- what sort a word is of -/
abbrev rowD : List PyData := [.str "let", .str "set", .str "say", .str "read", .str "fault", .str "do", .str "if", .str "else", .str "while", .str "block", .str "with", .str "helper", .str "try", .str "catch", .str "finally", .str "end"]
def kindS (w : List Nat) : Str :=
  if isLet (w.headD 0) then (if inD (dT w) rowD || PyData.eqv (dT w) (.str "not") then "word" else if w.length ≤ 8 then "name" else "odd")
  else if isFig (w.headD 0) then (if w.length ≤ 6 ∧ (w.headD 0 ≠ 48 ∨ w.length = 1) then "number" else "odd")
  else if decide (w.headD 0 ∈ ("()[],=+-*<" : Str).cps.toList) then "sign" else "odd"
def leafD (x : Lf) : PyData := .tuple [.str (kindS x.1), dT x.1, .int (x.2 : Nat)]
/-- what comes of a text, or of what is none -/
def NeedT (N G : Addr) (v : PV) (q : List Nat → Prop) (e : Addr → Prop) : Prop :=
  (∃ l, v = .d (dT l) ∧ l.length ≤ 1000000 ∧ (gdT l → l.length ≤ 2000 → q l) ∧ (gdT l → 2000 < l.length → e G) ∧ (¬ gdT l → e N)) ∨ (∃ x, v = .d x ∧ kitB (tyD x) "str" = some false ∧ e N) ∨ (∃ kvs, v = .dk kvs ∧ e N)
theorem NeedT.imp {N G : Addr} {v : PV} {q q' : List Nat → Prop} {e e' : Addr → Prop} (h : NeedT N G v q e) (f : ∀ l, v = .d (dT l) → gdT l → l.length ≤ 2000 → q l → q' l) (g : ∀ C, e C → e' C) : NeedT N G v q' e' := by
  rcases h with ⟨l, rfl, hl, a, b, c⟩ | ⟨x, rfl, hx, c⟩ | ⟨kvs, rfl, c⟩
  · exact .inl ⟨l, rfl, hl, fun x y => f l rfl x y (a x y), fun x y => g _ (b x y), fun x => g _ (c x)⟩
  · exact .inr (.inl ⟨x, rfl, hx, g _ c⟩)
  · exact .inr (.inr ⟨kvs, rfl, g _ c⟩)
theorem NeedT.ok {N G : Addr} {l : List Nat} {q : List Nat → Prop} {e : Addr → Prop} (hg : gdT l) (hl : l.length ≤ 2000) (h : q l) : NeedT N G (.d (dT l)) q e :=
  .inl ⟨l, rfl, by omega, fun _ _ => h, fun _ z => by omega, fun z => absurd hg z⟩
theorem NeedT.arg {N G : Addr} {v : PV} {q : List Nat → Prop} {e : Addr → Prop} (h : NeedT N G v q e) : (∃ x, v = .d x) ∨ ∃ kvs, v = .dk kvs := by
  rcases h with ⟨l, rfl, _⟩ | ⟨x, rfl, _⟩ | ⟨kvs, rfl, _⟩
  · exact .inl ⟨_, rfl⟩
  · exact .inl ⟨_, rfl⟩
  · exact .inr ⟨_, rfl⟩
theorem in_gd {c : Nat} (h : (isLet c || (isFig c || (decide (c ∈ ("ABCDEFGHIJKLMNOPQRSTUVWXYZ" : Str).cps.toList) || decide (c ∈ (" !\"#$&'()*+,-./:;<=>?\x40[\\]^_`{|}~\n" : Str).cps.toList)))) = true) : gd c = true := by
  have k1 : ∀ c ∈ ("ABCDEFGHIJKLMNOPQRSTUVWXYZ" : Str).cps.toList, gd c = true := by decide +kernel
  have k2 : ∀ c ∈ (" !\"#$&'()*+,-./:;<=>?\x40[\\]^_`{|}~\n" : Str).cps.toList, gd c = true := by decide +kernel
  simp only [Bool.or_eq_true, decide_eq_true_eq] at h
  rcases h with h | h | h | h
  · unfold isLet at h
    unfold gd
    simp only [Bool.or_eq_true, Bool.and_eq_true, decide_eq_true_eq, Bool.not_eq_true', decide_eq_false_iff_not] at h ⊢
    omega
  · unfold isFig at h
    unfold gd
    simp only [Bool.or_eq_true, Bool.and_eq_true, decide_eq_true_eq, Bool.not_eq_true', decide_eq_false_iff_not] at h ⊢
    omega
  · exact k1 c h
  · exact k2 c h
def S_need_text (N G : Addr) : FS := fun args o ret exc => ∃ v, args = [v] ∧ o = [] ∧ NeedT N G v (fun _ => ret (.d .none) []) (fun C => exc ⟨C, none⟩ [])
def S_lines_of (N G : Addr) : FS := fun args o ret exc => ∃ v, args = [v] ∧ o = [] ∧ NeedT N G v (fun l => ret (.new ((linesL l).map dT)) []) (fun C => exc ⟨C, none⟩ [])
def S_run_end : FS := fun args o ret exc => ∃ (l : List Nat) (sg : Str) (a : Nat), args = [.d (dT l), .d (.int a), .d (.str sg)] ∧ o = [] ∧ a ≤ l.length ∧ l.length ≤ 10000 ∧ ret (.d (.int ((a + runTo (fun c => decide (c ∈ sg.cps.toList)) (l.drop a) : Nat) : Int))) []
def WF (w : List Nat) : Prop := w ≠ [] ∧ w.length ≤ 10000 ∧ (grp (w.headD 0) = 0 → w.length = 1)
def S_kind_of : FS := fun args o ret exc => ∃ w, args = [.d (dT w)] ∧ o = [] ∧ WF w ∧ ret (.d (.str (kindS w))) []
def S_leaves_in : FS := fun args o ret exc => ∃ (l : List Nat) (b : Nat), args = [.d (dT l), .d (.int b)] ∧ o = [] ∧ gdT l ∧ l.length ≤ 2000 ∧ ret (.new ((foldS [] b (l.take (idx 35 l))).map leafD)) []
def S_leaves_of (N G : Addr) : FS := fun args o ret exc => ∃ v, args = [v] ∧ o = [] ∧ NeedT N G v (fun l => ret (.new ((leavesL l).map leafD)) []) (fun C => exc ⟨C, none⟩ [])
theorem lit_e : ("" : Str) = tx [] := rfl
theorem lit_0 : ("0" : Str) = tx [48] := by decide +kernel
theorem lit_nl : ("\n" : Str) = tx [10] := by decide +kernel
local macro_rules
  | `(tactic| walk_at "sz") => `(tactic| first | omega | (simp only [lit_nl, tx_len, List.length_append, List.length_map, List.length_cons, List.length_nil, List.length_take, List.length_drop] <;> omega))
  | `(tactic| walk_at "go") => `(tactic| repeat (first | refine ⟨_, rfl, ?_⟩ | refine ⟨_, rfl, rfl, ?_⟩ | refine ⟨_, _, rfl, rfl, ?_⟩ | refine ⟨rfl, ?_⟩ | refine ⟨trivial, ?_⟩ | refine ⟨_, ix_hd, ?_⟩ | refine br_t rfl ?_ | refine br_f rfl ?_ | (refine ⟨le_sz ?_, ?_⟩; focus walk_at "sz") | (refine ⟨lt_sz ?_, ?_⟩; focus walk_at "sz") | (refine ⟨strLe_tx ?_, ?_⟩; focus walk_at "sz") | refine ⟨cmul_r rfl, ?_⟩ | refine ⟨cmul_l rfl, ?_⟩ | refine ⟨pos_ok rfl, ?_⟩ | refine ⟨cdiv_ok rfl, ?_⟩ | refine ⟨_, _, _, _, rfl, rfl, rfl, rfl, ?_⟩ | refine ⟨_, _, rfl, ?_⟩))
def w_need_text (C_TooGreat : Addr) (C_NoText : Addr) : SW :=
 (wSeq (wIfS (wNot (wB (wIsi "str" (wVar 0))))
  (wRaise C_NoText)
  wNext)
 (wSeq (wFor (wSt (wVar 0)) (gN 1)
  (wIfS (wAnd (wB (wNotIn (wVar 1) (wC (.str "abcdefghijklmnopqrstuvwxyz")))) (wAnd (wB (wNotIn (wVar 1) (wC (.str "0123456789")))) (wAnd (wB (wNotIn (wVar 1) (wC (.str "ABCDEFGHIJKLMNOPQRSTUVWXYZ")))) (wB (wNotIn (wVar 1) (wC (.str " !\"#$&'()*+,-./:;<=>?\x40[\\]^_`{|}~\n")))))))
  (wRaise C_NoText)
  wNext))
 (wIfS (wB (wGt (wLen (wVar 0)) (wC (.int 2000))))
  (wRaise C_TooGreat)
  wNext)))
def w_lines_of (C_TooGreat : Addr) (C_NoText : Addr) : SW :=
 (wSeq (wDrop (wCall (S_need_text C_NoText C_TooGreat) (wCons (wVar 0) wNil)))
 (wSeq (wAsg (wM1L rSplitD (wVar 0) (wC (.str "\n"))) 1)
 (wSeq (wAsg (wLc (wL (wSl (wVar 1) wNoPart (wPart (wNeg (wC (.int 1)))))) (gN 3) wYes (wAdd (wVar 3) (wC (.str "\n"))) [3]) 2)
 (wSeq (wIfS (wB (wNe (wIx (wVar 1) (wNeg (wC (.int 1)))) (wC (.str ""))))
  (wDrop (wApp (wVar 2) (wIx (wVar 1) (wNeg (wC (.int 1))))))
  wNext)
 (wRet (wVar 2))))))
def w_run_end : SW :=
 (wSeq (wAsg (wVar 1) 3)
 (wSeq (wWh (wAnd (wB (wLt (wVar 3) (wLen (wVar 0)))) (wB (wIn (wIx (wVar 0) (wVar 3)) (wVar 2))))
  (wAsg (wAdd (wVar 3) (wC (.int 1))) 3))
 (wRet (wVar 3))))
def w_kind_of : SW :=
 (wSeq (wIfS (wB (wIn (wIx (wVar 0) (wC (.int 0))) (wC (.str "abcdefghijklmnopqrstuvwxyz"))))
  (wSeq (wIfS (wOr (wB (wIn (wVar 0) (wC (PyData.tuple [(PyData.str "let"), (PyData.str "set"), (PyData.str "say"), (PyData.str "read"), (PyData.str "fault"), (PyData.str "do"), (PyData.str "if"), (PyData.str "else"), (PyData.str "while"), (PyData.str "block"), (PyData.str "with"), (PyData.str "helper"), (PyData.str "try"), (PyData.str "catch"), (PyData.str "finally"), (PyData.str "end")])))) (wB (wEq (wVar 0) (wC (.str "not")))))
  (wRet (wC (.str "word")))
  wNext)
 (wRet (wIf (wB (wLe (wLen (wVar 0)) (wC (.int 8)))) (wC (.str "name")) (wC (.str "odd")))))
  wNext)
 (wSeq (wIfS (wB (wIn (wIx (wVar 0) (wC (.int 0))) (wC (.str "0123456789"))))
  (wSeq (wAsg (wAndV (wLe (wLen (wVar 0)) (wC (.int 6))) (wOrV (wNe (wIx (wVar 0) (wC (.int 0))) (wC (.str "0"))) (wEq (wVar 0) (wC (.str "0"))))) 1)
 (wRet (wIf (wB (wVar 1)) (wC (.str "number")) (wC (.str "odd")))))
  wNext)
 (wRet (wIf (wB (wIn (wVar 0) (wC (.str "()[],=+-*<")))) (wC (.str "sign")) (wC (.str "odd"))))))
def w_leaves_in : SW :=
 (wSeq (wAsg (wM1 rFindD (wVar 0) (wC (.str "#"))) 2)
 (wSeq (wIfS (wB (wLt (wVar 2) (wC (.int 0))))
  (wAsg (wLen (wVar 0)) 2)
  wNext)
 (wSeq (wAsg (wLst wNil) 3)
 (wSeq (wAsg (wC (.int 0)) 4)
 (wSeq (wWh (wB (wLt (wVar 4) (wVar 2)))
  (wSeq (wAsg (wAdd (wVar 4) (wC (.int 1))) 5)
 (wSeq (wIfS (wB (wIn (wIx (wVar 0) (wVar 4)) (wC (.str "abcdefghijklmnopqrstuvwxyz"))))
  (wAsg (wCall S_run_end (wCons (wVar 0) (wCons (wVar 4) (wCons (wC (.str "abcdefghijklmnopqrstuvwxyz")) wNil)))) 5)
  wNext)
 (wSeq (wIfS (wB (wIn (wIx (wVar 0) (wVar 4)) (wC (.str "0123456789"))))
  (wAsg (wCall S_run_end (wCons (wVar 0) (wCons (wVar 4) (wCons (wC (.str "0123456789")) wNil)))) 5)
  wNext)
 (wSeq (wIfS (wB (wNotIn (wIx (wVar 0) (wVar 4)) (wC (.str " \n"))))
  (wDrop (wApp (wVar 3) (wTup (wCons (wCall S_kind_of (wCons (wSl (wVar 0) (wPart (wVar 4)) (wPart (wVar 5))) wNil)) (wCons (wSl (wVar 0) (wPart (wVar 4)) (wPart (wVar 5))) (wCons (wAdd (wVar 1) (wVar 4)) wNil))))))
  wNext)
 (wAsg (wVar 5) 4))))))
 (wRet (wVar 3)))))))
def w_leaves_of (C_TooGreat : Addr) (C_NoText : Addr) : SW :=
 (wSeq (wAsg (wLst wNil) 1)
 (wSeq (wAsg (wC (.int 0)) 2)
 (wSeq (wFor (wL (wCall (S_lines_of C_NoText C_TooGreat) (wCons (wVar 0) wNil))) (gN 3)
  (wSeq (wDrop (wExt (wVar 1) (wCall S_leaves_in (wCons (wVar 3) (wCons (wVar 2) wNil)))))
 (wAsg (wAdd (wVar 2) (wLen (wVar 3))) 2)))
 (wRet (wVar 1)))))
theorem pure_run_end : ∀ args o ret exc, S_run_end args o ret exc → w_run_end (fun x s => exc x (cutL o.length s.o)) (pst0 args o 4) (bodyE o.length ret) := by
  rintro _ _ ret exc ⟨l, sg, a, rfl, rfl, ha, hz, h⟩
  walk_at "go"
  refine ⟨fun m s => ∃ e : Nat, s = ⟨[some (.d (dT l)), some (.d (.int a)), some (.d (.str sg)), some (.d (.int e))], []⟩ ∧ e ≤ l.length ∧ a + runTo (fun c => decide (c ∈ sg.cps.toList)) (l.drop a) = e + runTo (fun c => decide (c ∈ sg.cps.toList)) (l.drop e) ∧ m = l.length - e, ⟨_, a, rfl, ha, rfl, rfl⟩, ?_⟩
  rintro m _ ⟨e, rfl, he, hr, rfl⟩
  walk_at "go"
  rw [tx_len]
  refine ⟨fun h1 => ?_, fun h1 => ?_⟩
  · walk_at "go"
    have h2 : e < l.length := by simpa using h1
    refine ⟨_, ix_tx h2, ?_⟩
    walk_at "go"
    refine ⟨fun h3 => ?_, fun h3 => ?_⟩
    · walk_at "go"
      refine ⟨_, by omega, .inl ⟨e + 1, rfl, h2, ?_, rfl⟩⟩
      rw [hr, runTo_drop _ h2, if_pos (by simpa using h3)]
      omega
    · walk_at "go"
      have e0 : a + runTo (fun c => decide (c ∈ sg.cps.toList)) (l.drop a) = e := by
        rw [hr, runTo_drop _ h2, if_neg (by simpa using h3)]
        rfl
      rw [e0] at h
      exact h
  · walk_at "go"
    have h2 : e = l.length := by
      have : ¬ e < l.length := by simpa using h1
      omega
    have e0 : a + runTo (fun c => decide (c ∈ sg.cps.toList)) (l.drop a) = e := by
      rw [hr, h2, List.drop_of_length_le (Nat.le_refl _)]
      rfl
    rw [e0] at h
    exact h
theorem gds (c : Nat) : (isLet c || (isFig c || (decide (c ∈ ("ABCDEFGHIJKLMNOPQRSTUVWXYZ" : Str).cps.toList) || decide (c ∈ (" !\"#$&'()*+,-./:;<=>?\x40[\\]^_`{|}~\n" : Str).cps.toList)))) = gd c := by
  rw [Bool.eq_iff_iff]
  exact ⟨in_gd, gd_in⟩
theorem pure_need_text (G N : Addr) : ∀ args o ret exc, S_need_text N G args o ret exc → w_need_text G N (fun x s => exc x (cutL o.length s.o)) (pst0 args o 2) (bodyE o.length ret) := by
  rintro _ _ ret exc ⟨v, rfl, rfl, h⟩
  rcases h with ⟨l, rfl, hl, h1, h2, h3⟩ | ⟨x, rfl, hx, h⟩ | ⟨kvs, rfl, h⟩
  · walk_at "go"
    refine ⟨fun j s => ∃ x, s = ⟨[some (.d (dT l)), x], []⟩ ∧ ∀ i, i < j → ∀ c, l[i]? = some c → gd c = true, ⟨_, rfl, fun i z => by omega⟩, fun _ _ _ _ => trivial, ?_, ?_⟩
    · rintro j _ _ hx ⟨x, rfl, hgd⟩
      obtain ⟨hj0, rfl⟩ := map_get hx
      have hj : j < l.length := hj0
      have hc := gds l[j]
      have nx : gd l[j] = true → ∃ x, (⟨[some (.d (dT l)), some (.d (dT [l[j]]))], []⟩ : PSt) = ⟨[some (.d (dT l)), x], []⟩ ∧ ∀ i, i < j + 1 → ∀ c, l[i]? = some c → gd c = true := fun z => ⟨_, rfl, fun i hi c e => by
        rcases Nat.lt_or_ge i j with q | q
        · exact hgd i q c e
        · have : i = j := by omega
          subst this
          rw [List.getElem?_eq_getElem (show i < l.length from hj)] at e
          cases e
          exact z⟩
      walk_at "go"
      refine br_s (!isLet l[j]) (congrArg Bool.not (let_mem _)) (fun h1 => ?_) (fun h1 => ?_)
      · walk_at "go"
        refine br_s (!isFig l[j]) (congrArg Bool.not (fig_mem _)) (fun h2 => ?_) (fun h2 => ?_)
        · walk_at "go"
          refine br_s _ rfl (fun h3' => ?_) (fun h3' => ?_)
          · walk_at "go"
            refine br_s _ rfl (fun h4' => ?_) (fun h4' => ?_)
            · walk_at "go"
              refine h3 fun hg => ?_
              have h3' : (!decide (l[j] ∈ ("ABCDEFGHIJKLMNOPQRSTUVWXYZ" : Str).cps.toList)) = true := h3'
              have h4' : (!decide (l[j] ∈ (" !\"#$&'()*+,-./:;<=>?\x40[\\]^_`{|}~\n" : Str).cps.toList)) = true := h4'
              rw [Bool.not_eq_true'] at h1 h2 h3' h4'
              rw [h1, h2, h3', h4'] at hc
              exact absurd (hc.trans (hg _ (List.getElem_mem hj))) (by decide)
            · walk_at "go"
              refine .inl (nx ?_)
              have h4' : (!decide (l[j] ∈ (" !\"#$&'()*+,-./:;<=>?\x40[\\]^_`{|}~\n" : Str).cps.toList)) = false := h4'
              rw [Bool.not_eq_false'] at h4'
              rw [← hc, h4']
              simp
          · walk_at "go"
            refine .inl (nx ?_)
            have h3' : (!decide (l[j] ∈ ("ABCDEFGHIJKLMNOPQRSTUVWXYZ" : Str).cps.toList)) = false := h3'
            rw [Bool.not_eq_false'] at h3'
            rw [← hc, h3']
            simp
        · walk_at "go"
          refine .inl (nx ?_)
          rw [Bool.not_eq_false'] at h2
          rw [← hc, h2]
          simp
      · walk_at "go"
        refine .inl (nx ?_)
        rw [Bool.not_eq_false'] at h1
        rw [← hc, h1]
        simp
    · rintro _ ⟨x, rfl, hgd⟩
      have hg : gdT l := fun c m => by
        obtain ⟨i, hi, e⟩ := List.getElem_of_mem m
        exact hgd i (by rw [chars_len]; exact hi) c (by rw [List.getElem?_eq_getElem hi, e])
      walk_at "go"
      rw [tx_len]
      refine br_d (2000 < l.length) (by rw [decide_eq_true_eq]; omega) (fun h => ?_) (fun h => ?_)
      · walk_at "go"
        exact h2 hg h
      · exact h1 hg (by omega)
  · walk_at "go"
    refine ⟨_, _, rfl, hx, ?_⟩
    walk_at "go"
    exact h
  · walk_at "go"
    exact h
theorem pure_lines_of (G N : Addr) : ∀ args o ret exc, S_lines_of N G args o ret exc → w_lines_of G N (fun x s => exc x (cutL o.length s.o)) (pst0 args o 4) (bodyE o.length ret) := by
  rintro _ _ ret exc ⟨v, rfl, rfl, h⟩
  have h0 := h
  rcases h.arg with ⟨x, rfl⟩ | ⟨kvs, rfl⟩
  all_goals
    walk_at "go"
    refine h0.imp (fun l ev hg hl hq => ?_) fun C z => z
    first
      | (cases ev; done)
      | (injection ev with ev; subst ev)
  clear h0 h
  have h := hq
  clear hq
  have e : List.map PyData.str (Txt.split (tx l) ("\n" : Str)) = (spl1 10 [] l).map dT := by
    rw [lit_nl]
    exact split_tx l (by omega)
  obtain ⟨hf, hn⟩ := spl1_le 10 l []
  obtain ⟨ps, hps⟩ : ∃ ps, ps = spl1 10 [] l := ⟨_, rfl⟩
  have hne : ps ≠ [] := hps ▸ spl1_ne _ _ _
  rw [← hps] at e hf hn
  have hL : linesL l = mkLines ps := congrArg mkLines hps.symm
  rw [hL, mkLines_eq ps hne] at h
  have hdl : ps.dropLast.length ≤ 2000 := by rw [List.length_dropLast]; omega
  walk_at "go"
  rw [e, cutD_last]
  refine ⟨(fun S j acc s => s = S ∧ acc = (ps.dropLast.take j).map fun x => dT (x ++ [10])) _, ⟨rfl, rfl⟩, fun _ _ _ _ _ => trivial, ?_, ?_⟩
  · rintro j x acc s2 hx ho ⟨rfl, rfl⟩
    have hx' : (ps.dropLast.map dT)[j]? = some x := by
      rw [← hx, List.map_dropLast]
    obtain ⟨hj, rfl⟩ := map_get hx'
    have hz : ps.dropLast[j].length ≤ 2000 := by
      have := hf _ (List.dropLast_subset _ (List.getElem_mem hj))
      simp only [List.length_nil] at this
      omega
    clear hx hx'
    walk_at "go"
    rw [take_map_succ hj, lit_nl, tx_app]
  · rintro acc s2 ho ⟨rfl, rfl⟩
    have hX : (ps.dropLast.take (ps.map dT).dropLast.length).map (fun x => dT (x ++ [10])) = (ps.dropLast).map fun x => dT (x ++ [10]) := by
      rw [List.take_of_length_le (by rw [List.length_dropLast, List.length_dropLast, List.length_map]; omega)]
    rw [hX]
    walk_at "go"
    refine ⟨_, ix_last (by simpa using hne), ?_⟩
    rw [List.getLast_map, lit_e]
    walk_at "go"
    refine br_d (ps.getLast hne ≠ []) ?_ (fun h1 => ?_) (fun h1 => ?_)
    · show (!PyData.eqv _ _) = true ↔ _
      rw [eqv_tx]; simp
    · rw [if_neg h1] at h
      walk_at "go"
      refine ⟨_, ix_last (by simpa using hne), ?_⟩
      rw [List.getLast_map]
      walk_at "go"
      rw [List.map_append, List.map_map] at h
      exact ⟨Nat.zero_le _, _, rfl, h⟩
    · rw [if_pos (Decidable.not_not.mp h1), List.append_nil, List.map_map] at h
      walk_at "go"
      exact ⟨Nat.zero_le _, _, rfl, h⟩
theorem pure_kind_of : ∀ args o ret exc, S_kind_of args o ret exc → w_kind_of (fun x s => exc x (cutL o.length s.o)) (pst0 args o 2) (bodyE o.length ret) := by
  rintro _ _ ret exc ⟨w, rfl, rfl, ⟨hw, hl, hg⟩, h⟩
  cases w with
  | nil => exact absurd rfl hw
  | cons c r =>
  unfold kindS at h
  walk_at "go"
  refine br_s (isLet c) (let_mem c) (fun h1 => ?_) (fun h1 => ?_)
  · rw [if_pos (show isLet ((c :: r).headD 0) = true from h1)] at h
    walk_at "go"
    refine br_s _ rfl (fun h2 => ?_) (fun h2 => ?_)
    · walk_at "go"
      rw [show inD (dT (c :: r)) rowD = true from h2] at h
      exact h
    · have h2' : inD (dT (c :: r)) rowD = false := h2
      rw [h2'] at h
      walk_at "go"
      refine br_s _ rfl (fun h3 => ?_) (fun h3 => ?_)
      · rw [show PyData.eqv (dT (c :: r)) (.str "not") = true from h3] at h
        walk_at "go"
        exact h
      · rw [show PyData.eqv (dT (c :: r)) (.str "not") = false from h3] at h
        walk_at "go"
        rw [tx_len]
        refine br_d ((c :: r).length ≤ 8) (by rw [decide_eq_true_eq]; omega) (fun h4 => ?_) (fun h4 => ?_)
        · rw [if_pos h4] at h
          exact h
        · rw [if_neg h4] at h
          exact h
  · rw [if_neg (show ¬ isLet ((c :: r).headD 0) = true from by rw [show isLet ((c :: r).headD 0) = false from h1]; simp)] at h
    walk_at "go"
    refine br_s (isFig c) (fig_mem c) (fun h2 => ?_) (fun h2 => ?_)
    · rw [if_pos (show isFig ((c :: r).headD 0) = true from h2)] at h
      walk_at "go"
      rw [tx_len]
      refine br_d ((c :: r).length ≤ 6) (by rw [decide_eq_true_eq]; omega) (fun h3 => ?_) (fun h3 => ?_)
      · walk_at "go"
        rw [lit_0]
        refine br_d (c ≠ 48) (by show (!PyData.eqv (dT [c]) (dT [48])) = true ↔ _; rw [eqv_tx]; simp) (fun h4 => ?_) (fun h4 => ?_)
        · rw [if_pos ⟨h3, .inl h4⟩] at h
          walk_at "go"
          exact h
        · walk_at "go"
          have h4' : c = 48 := Decidable.not_not.mp h4
          refine br_d (r = []) (by show PyData.eqv (dT (c :: r)) (dT [48]) = true ↔ _; rw [eqv_tx, h4']; simp) (fun h5 => ?_) (fun h5 => ?_)
          · rw [if_pos ⟨h3, .inr (by rw [h5]; rfl)⟩] at h
            exact h
          · rw [if_neg (fun z => by
              rcases z.2 with z | z
              · exact h4 z
              · exact h5 (by simpa using z))] at h
            exact h
      · rw [if_neg (fun z => h3 z.1)] at h
        walk_at "go"
        exact h
    · rw [if_neg (show ¬ isFig ((c :: r).headD 0) = true from by rw [show isFig ((c :: r).headD 0) = false from h2]; simp)] at h
      have hr : r = [] := by
        have := hg (by show grp c = 0; unfold grp; rw [h1, h2]; rfl)
        simpa using this
      subst hr
      walk_at "go"
      refine br_s _ rfl (fun h3 => ?_) (fun h3 => ?_)
      · rw [if_pos (show decide (([c] : List Nat).headD 0 ∈ ("()[],=+-*<" : Str).cps.toList) = true from h3)] at h
        walk_at "go"
        exact h
      · rw [if_neg (show ¬ decide (([c] : List Nat).headD 0 ∈ ("()[],=+-*<" : Str).cps.toList) = true from by rw [show decide (([c] : List Nat).headD 0 ∈ ("()[],=+-*<" : Str).cps.toList) = false from h3]; simp)] at h
        walk_at "go"
        exact h
theorem let_grp (c : Nat) : isLet c = true ↔ grp c = 1 := ⟨fun h => (grp_let h).1, grp_1⟩
theorem fig_grp (c : Nat) : isFig c = true ↔ grp c = 2 := ⟨fun h => (grp_fig h).1, grp_2⟩
theorem letf : (fun c => decide (c ∈ ("abcdefghijklmnopqrstuvwxyz" : Str).cps.toList)) = isLet := funext let_mem
theorem figf : (fun c => decide (c ∈ ("0123456789" : Str).cps.toList)) = isFig := funext fig_mem
def w_loop : SW := (wSeq (wWh (wB (wLt (wVar 4) (wVar 2)))
  (wSeq (wAsg (wAdd (wVar 4) (wC (.int 1))) 5)
 (wSeq (wIfS (wB (wIn (wIx (wVar 0) (wVar 4)) (wC (.str "abcdefghijklmnopqrstuvwxyz"))))
  (wAsg (wCall S_run_end (wCons (wVar 0) (wCons (wVar 4) (wCons (wC (.str "abcdefghijklmnopqrstuvwxyz")) wNil)))) 5)
  wNext)
 (wSeq (wIfS (wB (wIn (wIx (wVar 0) (wVar 4)) (wC (.str "0123456789"))))
  (wAsg (wCall S_run_end (wCons (wVar 0) (wCons (wVar 4) (wCons (wC (.str "0123456789")) wNil)))) 5)
  wNext)
 (wSeq (wIfS (wB (wNotIn (wIx (wVar 0) (wVar 4)) (wC (.str " \n"))))
  (wDrop (wApp (wVar 3) (wTup (wCons (wCall S_kind_of (wCons (wSl (wVar 0) (wPart (wVar 4)) (wPart (wVar 5))) wNil)) (wCons (wSl (wVar 0) (wPart (wVar 4)) (wPart (wVar 5))) (wCons (wAdd (wVar 1) (wVar 4)) wNil))))))
  wNext)
 (wAsg (wVar 5) 4))))))
 (wRet (wVar 3)))
theorem leaves_loop {ret : RV → List OC → Prop} {kx : KX} {l : List Nat} {b : Nat} (hg : gdT l) (hl : l.length ≤ 2000) (h : ret (RV.new (List.map leafD (foldS [] b (l.take (idx 35 l))))) [])
    (key : ∀ x y, l.drop (idx 35 l) = x :: y → x = 35) (hi : idx 35 l ≤ l.length) : w_loop kx ⟨[some (.d (dT l)), some (.d (.int b)), some (.d (.int (idx 35 l : Nat))), some (.own 0), some (.d (.int 0)), none], [.dl []]⟩ (bodyE 0 ret) := by
  generalize ht : l.drop (idx 35 l) = t at key
  generalize hT : foldS [] b (l.take (idx 35 l)) = T at h
  have hk1 : ∀ x y, t = x :: y → isLet x = false := fun x y e => by rw [key x y e]; rfl
  have hk2 : ∀ x y, t = x :: y → isFig x = false := fun x y e => by rw [key x y e]; rfl
  generalize hst : idx 35 l = stop at *
  refine ⟨fun m s => ∃ (p : Nat) (F : List Lf) (x : Option PV) (R : List Nat), s = ⟨[some (.d (dT l)), some (.d (.int b)), some (.d (.int (stop : Nat))), some (.own 0), some (.d (.int p)), x], [.dl (F.map leafD)]⟩ ∧ p + R.length = stop ∧ l.drop p = R ++ t ∧ Ok F (b + p) ∧ NJ F (b + p) R ∧ foldS F (b + p) R = T ∧ F.length ≤ p ∧ m = stop - p,
    ⟨_, 0, [], none, l.take stop, rfl, ?_, ?_, ok_nil _, fun _ _ _ => rfl, hT, Nat.le_refl _, rfl⟩, ?_⟩
  · rw [List.length_take]; omega
  · rw [← ht, List.take_append_drop]; rfl
  rintro m _ ⟨p, F, x, R, rfl, hR, hd, hok, hnj, hf, hF, rfl⟩
  walk_at "go"
  refine br_d (p < stop) (by rw [decide_eq_true_eq]; omega) (fun h1 => ?_) (fun h1 => ?_)
  · cases R with
    | nil => exfalso; simp at hR; omega
    | cons c r =>
    have hd' : l.drop p = c :: (r ++ t) := hd
    obtain ⟨hp, hc⟩ := get_of_drop hd'
    rw [List.length_cons] at hR
    have hix : ixD (dT l) (p : Int) = some (dT [c]) := by rw [ix_tx hp, hc]
    walk_at "go"
    refine ⟨_, hix, ?_⟩
    walk_at "go"
    refine br_s (isLet c) (let_mem c) (fun h2 => ?_) (fun h2 => ?_)
    · obtain ⟨k, hk, e1, e2, e3, e4, e5, e6⟩ := turn_word (g := 1) (by omega) let_grp (fun c z => (grp_let (grp_1 z)).2.1) hd' hk1 hnj (grp_let h2).1 hok hg
      obtain ⟨_, h3, h4⟩ := grp_let h2
      walk_at "go"
      refine ⟨l, _, p, rfl, rfl, by omega, by omega, ?_⟩
      rw [letf, e1]
      walk_at "go"
      refine ⟨_, hix, ?_⟩
      walk_at "go"
      refine br_f ((fig_mem c).trans h4) ?_
      walk_at "go"
      refine ⟨_, hix, ?_⟩
      walk_at "go"
      refine br_t (congrArg Bool.not ((sp_mem c).trans h3)) ?_
      have hC : cutS (tx l) (some (p : Int)) (some ((p + (k + 1) : Nat) : Int)) = tx (c :: r.take k) := (cut_tx l p (p + (k + 1))).trans (congrArg tx e2)
      have hC2 := tx_inj (a := (cutS (tx l) (some (p : Int)) (some ((p + (k + 1) : Nat) : Int))).cps.toList) ((tx_eq _).symm.trans hC)
      dsimp only [cutS] at hC2
      walk_at "go"
      rw [hC2]
      refine ⟨⟨by simp, by rw [List.length_cons, List.length_take]; omega, fun z => by rw [show grp ((c :: r.take k).headD 0) = 1 from (grp_let h2).1] at z; omega⟩, ?_⟩
      walk_at "go"
      rw [hC]
      walk_at "go"
      refine ⟨_, by omega, .inl ⟨p + (k + 1), F ++ [(c :: r.take k, b + p)], some (.d (.int ((p + (k + 1) : Nat) : Int))), r.drop k, ?_, by rw [List.length_drop]; omega, e3, e6, e5, e4.symm.trans hf, by rw [List.length_append, List.length_cons, List.length_nil]; omega, rfl⟩⟩
      rw [List.map_append]
      rfl
    · walk_at "go"
      refine ⟨_, hix, ?_⟩
      walk_at "go"
      refine br_s (isFig c) (fig_mem c) (fun h3 => ?_) (fun h3 => ?_)
      · obtain ⟨k, hk, e1, e2, e3, e4, e5, e6⟩ := turn_word (g := 2) (by omega) fig_grp (fun c z => (grp_fig (grp_2 z)).2.1) hd' hk2 hnj (grp_fig h3).1 hok hg
        obtain ⟨_, h4, _⟩ := grp_fig h3
        walk_at "go"
        refine ⟨l, _, p, rfl, rfl, by omega, by omega, ?_⟩
        rw [figf, e1]
        walk_at "go"
        refine ⟨_, hix, ?_⟩
        walk_at "go"
        refine br_t (congrArg Bool.not ((sp_mem c).trans h4)) ?_
        have hC : cutS (tx l) (some (p : Int)) (some ((p + (k + 1) : Nat) : Int)) = tx (c :: r.take k) := (cut_tx l p (p + (k + 1))).trans (congrArg tx e2)
        have hC2 := tx_inj (a := (cutS (tx l) (some (p : Int)) (some ((p + (k + 1) : Nat) : Int))).cps.toList) ((tx_eq _).symm.trans hC)
        dsimp only [cutS] at hC2
        walk_at "go"
        rw [hC2]
        refine ⟨⟨by simp, by rw [List.length_cons, List.length_take]; omega, fun z => by rw [show grp ((c :: r.take k).headD 0) = 2 from (grp_fig h3).1] at z; omega⟩, ?_⟩
        walk_at "go"
        rw [hC]
        walk_at "go"
        refine ⟨_, by omega, .inl ⟨p + (k + 1), F ++ [(c :: r.take k, b + p)], some (.d (.int ((p + (k + 1) : Nat) : Int))), r.drop k, ?_, by rw [List.length_drop]; omega, e3, e6, e5, e4.symm.trans hf, by rw [List.length_append, List.length_cons, List.length_nil]; omega, rfl⟩⟩
        rw [List.map_append]
        rfl
      · walk_at "go"
        refine ⟨_, hix, ?_⟩
        walk_at "go"
        have g0 := grp_0 h2 h3
        refine br_s (!isSp c) (congrArg Bool.not (sp_mem c)) (fun h4 => ?_) (fun h4 => ?_)
        · have h4' : isSp c = false := by simpa using h4
          obtain ⟨e2, e3, e4, e5, e6⟩ := turn_one (F := F) (b := b) hd' g0 h4' hok hg
          have hC : cutS (tx l) (some (p : Int)) (some ((p : Int) + 1)) = tx [c] := (cut_tx l p (p + 1)).trans (congrArg tx e2)
          have hC2 := tx_inj (a := (cutS (tx l) (some (p : Int)) (some ((p : Int) + 1))).cps.toList) ((tx_eq _).symm.trans hC)
          dsimp only [cutS] at hC2
          walk_at "go"
          rw [hC2]
          refine ⟨⟨by simp, by simp, fun _ => rfl⟩, ?_⟩
          walk_at "go"
          rw [hC]
          walk_at "go"
          refine ⟨_, by omega, .inl ⟨p + 1, F ++ [([c], b + p)], some (.d (.int ((p : Int) + 1))), r, ?_, by omega, e3, e6, e5, e4.symm.trans hf, by rw [List.length_append, List.length_cons, List.length_nil]; omega, rfl⟩⟩
          rw [List.map_append]
          rfl
        · have h4' : isSp c = true := by simpa using h4
          obtain ⟨e3, e4, e5, e6⟩ := turn_sp (F := F) (b := b) hd' h4' hok
          walk_at "go"
          exact ⟨_, by omega, .inl ⟨p + 1, F, some (.d (.int ((p : Int) + 1))), r, rfl, by omega, e3, e6, e5, e4.symm.trans hf, by omega, rfl⟩⟩
  · have h2 : R = [] := by
      cases R with
      | nil => rfl
      | cons c r => rw [List.length_cons] at hR; omega
    subst h2
    have hf' : F = T := hf
    rw [← hf'] at h
    walk_at "go"
    exact ⟨Nat.zero_le _, _, rfl, h⟩
theorem pure_leaves_in : ∀ args o ret exc, S_leaves_in args o ret exc → w_leaves_in (fun x s => exc x (cutL o.length s.o)) (pst0 args o 6) (bodyE o.length ret) := by
  rintro _ _ ret exc ⟨l, b, rfl, rfl, hg, hl, h⟩
  have hi := idx_le 35 l
  walk_at "go"
  rw [show Txt.find (tx l) ("#" : Str) = _ from find_tx l 35]
  have key : ∀ x y, l.drop (idx 35 l) = x :: y → x = 35 := fun x y e => by
    obtain ⟨hp, e2⟩ := get_of_drop e
    have := idx_lt_get 35 l hp
    rw [List.getElem?_eq_getElem hp, e2] at this
    exact Option.some.inj this
  refine br_s (!decide (idx 35 l < l.length)) (by
    split
    · rename_i h1; rw [decide_eq_true h1]; exact decide_eq_false (by omega)
    · rename_i h1; rw [decide_eq_false h1]; rfl) (fun h1 => ?_) (fun h1 => ?_)
  all_goals walk_at "go"
  · rw [if_neg (by simpa using h1), tx_len, show l.length = idx 35 l from by
      have : ¬ idx 35 l < l.length := by simpa using h1
      omega]
    exact leaves_loop hg hl h key hi
  · rw [if_pos (by simpa using h1)]
    exact leaves_loop hg hl h key hi
theorem pure_leaves_of (G N : Addr) : ∀ args o ret exc, S_leaves_of N G args o ret exc → w_leaves_of G N (fun x s => exc x (cutL o.length s.o)) (pst0 args o 4) (bodyE o.length ret) := by
  rintro _ _ ret exc ⟨v, rfl, rfl, h⟩
  have h0 := h
  rcases h.arg with ⟨x, rfl⟩ | ⟨kvs, rfl⟩
  all_goals
    walk_at "go"
    refine h0.imp (fun l ev hg hl hq => ?_) fun C z => z
    first
      | (cases ev; done)
      | (injection ev with ev; subst ev)
  clear h0 h
  have h := hq
  clear hq
  have hfl := lines_flat l
  walk_at "go"
  unfold leavesL at h
  have hB : ∀ x ∈ linesL l, gdT x ∧ x.length ≤ 2000 := fun x m => by
    refine ⟨fun c mc => hg c (hfl ▸ List.mem_flatten.mpr ⟨x, m, mc⟩), ?_⟩
    have := (List.sublist_flatten_of_mem m).length_le
    rw [hfl] at this
    omega
  generalize hLs : linesL l = Ls at *
  refine ⟨(fun O j s => ∃ (b : Nat) (F : List Lf) (x : Option PV), s = ⟨[some (.d (dT l)), some (.own 0), some (.d (.int b)), x], .dl (F.map leafD) :: O⟩ ∧ lvs 0 Ls = F ++ lvs b (Ls.drop j) ∧ F.length ≤ b ∧ b = ((Ls.take j).flatten).length) _, ⟨0, [], _, rfl, rfl, Nat.le_refl _, rfl⟩, fun _ _ _ _ => trivial, ?_, ?_⟩
  · rintro j x s1 hx ⟨b, F, y, rfl, hF, hn, hb⟩
    obtain ⟨hj, rfl⟩ := map_get hx
    obtain ⟨hg1, hl1⟩ := hB _ (List.getElem_mem hj)
    obtain ⟨e1, e2⟩ := flat_take hj
    rw [hfl] at e2
    have hnew : (foldS [] b (Ls[j].take (idx 35 Ls[j]))).length ≤ Ls[j].length := by
      have := foldS_len (Ls[j].take (idx 35 Ls[j])) [] b
      rw [List.length_take, List.length_nil] at this
      omega
    walk_at "go"
    refine ⟨hg1, hl1, ?_⟩
    walk_at "go"
    refine .inr ⟨b + Ls[j].length, F ++ foldS [] b (Ls[j].take (idx 35 Ls[j])), some (.d (dT Ls[j])), ?_, ?_, ?_, ?_⟩
    · rw [List.map_append, tx_len]; rfl
    · rw [hF, List.drop_eq_getElem_cons hj, List.append_assoc]; rfl
    · rw [List.length_append]; omega
    · rw [e1, hb]
  · rintro s1 ⟨b, F, y, rfl, hF, hn⟩
    rw [List.length_map, List.drop_of_length_le (Nat.le_refl _)] at hF
    have hF' : lvs 0 Ls = F := by rw [hF]; exact List.append_nil _
    rw [hF'] at h
    walk_at "go"
    exact ⟨Nat.zero_le _, _, rfl, h⟩
end PW

namespace K13
open PySem L2 PW
/-- back over bare lines -/
def back (C : List Nat) : Nat → Nat
  | 0 => 0
  | a + 1 => if C[a]? = some 0 then back C a else a + 1
theorem back_le (C : List Nat) : ∀ i, back C i ≤ i
  | 0 => Nat.le_refl _
  | a + 1 => by
    unfold back
    split
    · exact Nat.le_succ_of_le (back_le C a)
    · exact Nat.le_refl _
theorem back_zero (C : List Nat) : ∀ i j, back C i ≤ j → j < i → C[j]? = some 0
  | 0, j, _, h => by omega
  | a + 1, j, h1, h2 => by
    unfold back at h1
    split at h1
    · rename_i e
      rcases Nat.lt_or_ge j a with h | h
      · exact back_zero C a j h1 h
      · have : j = a := by omega
        rw [this]; exact e
    · omega
theorem back_stop (C : List Nat) : ∀ i, back C i = 0 ∨ C[back C i - 1]? ≠ some 0
  | 0 => .inl rfl
  | a + 1 => by
    unfold back
    split
    · exact back_stop C a
    · rename_i e
      exact .inr e
theorem back_eq (C : List Nat) (a : Nat) (hs : a = 0 ∨ C[a - 1]? ≠ some 0) : ∀ i, a ≤ i → (∀ j, a ≤ j → j < i → C[j]? = some 0) → back C i = a
  | 0, h, _ => by have : a = 0 := by omega
                  rw [this]; rfl
  | i + 1, h, z => by
    rcases Nat.lt_or_ge i a with h1 | h1
    · have e : a = i + 1 := by omega
      unfold back
      rcases hs with hs | hs
      · omega
      · rw [e, Nat.add_sub_cancel] at hs
        rw [if_neg hs, e]
    · unfold back
      rw [if_pos (z i h1 (by omega))]
      exact back_eq C a hs i h1 fun j x y => z j x (by omega)
/-- the next line that is not bare -/
def ahead (C : List Nat) (a : Nat) : Nat := a + runTo (fun c => decide (c = 0)) (C.drop a)
def beg (C : List Nat) (a : Nat) : Bool := decide (a = 0) || (!decide (C[a - 1]? = some 0) && (decide (ahead C a = C.length) || decide (C[ahead C a]? = some 1)))
theorem ahead_le {C : List Nat} {a : Nat} (h : a ≤ C.length) : ahead C a ≤ C.length := by
  have := runTo_le (fun c => decide (c = 0)) (C.drop a)
  rw [List.length_drop] at this
  unfold ahead
  omega
theorem ahead_zero {C : List Nat} {a j : Nat} (h1 : a ≤ j) (h2 : j < ahead C a) : C[j]? = some 0 := by
  unfold ahead at h2
  have hl := runTo_le (fun c => decide (c = 0)) (C.drop a)
  rw [List.length_drop] at hl
  have hj : j < C.length := by omega
  have hm : C[j] ∈ (C.drop a).take (runTo (fun c => decide (c = 0)) (C.drop a)) := by
    rw [List.mem_iff_getElem]
    refine ⟨j - a, by rw [List.length_take, List.length_drop]; omega, ?_⟩
    rw [List.getElem_take, List.getElem_drop]
    congr 1
    omega
  have := runTo_all _ _ _ hm
  rw [List.getElem?_eq_getElem hj]
  simpa using this
theorem ahead_eq {C : List Nat} {a i : Nat} (h : a ≤ i) (hi : i ≤ C.length) (z : ∀ j, a ≤ j → j < i → C[j]? = some 0) (e : C[i]? ≠ some 0) : ahead C a = i := by
  have h1 : ¬ ahead C a < i := fun hlt => by
    have hl : a + runTo (fun c => decide (c = 0)) (C.drop a) < i := hlt
    have hj : a + runTo (fun c => decide (c = 0)) (C.drop a) < C.length := by omega
    have hd : (C.drop a).drop (runTo (fun c => decide (c = 0)) (C.drop a)) = C[a + runTo (fun c => decide (c = 0)) (C.drop a)] :: C.drop (a + runTo (fun c => decide (c = 0)) (C.drop a) + 1) := by
      rw [List.drop_drop, List.drop_eq_getElem_cons hj]
    have hs := runTo_stop _ _ _ _ hd
    have hz := z _ (by omega) hl
    rw [List.getElem?_eq_getElem hj] at hz
    have hz' := Option.some.inj hz
    rw [hz'] at hs
    simp at hs
  have h2 : ¬ i < ahead C a := fun hlt => e (ahead_zero h hlt)
  omega
/-- where a unit begins: the keys of the program's dict -/
theorem key_iff {C : List Nat} {x : Nat} (hn : 0 < C.length) : ((x = 0 ∨ ∃ i, i < C.length ∧ C[i]? = some 1 ∧ back C i = x) ∨ (back C C.length = x ∧ x < C.length)) ↔ x < C.length ∧ beg C x = true := by
  unfold beg
  rw [Bool.or_eq_true, decide_eq_true_eq, Bool.and_eq_true, Bool.or_eq_true, Bool.not_eq_true', decide_eq_false_iff_not, decide_eq_true_eq, decide_eq_true_eq]
  constructor
  · rintro ((rfl | ⟨i, hi, h1, rfl⟩) | ⟨rfl, hx⟩)
    · exact ⟨hn, .inl rfl⟩
    · have hle := back_le C i
      refine ⟨by omega, ?_⟩
      rcases back_stop C i with h0 | h0
      · exact .inl h0
      · refine .inr ⟨h0, .inr ?_⟩
        rw [ahead_eq hle (by omega) (fun j a b => back_zero C i j a b) (by rw [h1]; simp)]
        exact h1
    · refine ⟨hx, ?_⟩
      rcases back_stop C C.length with h0 | h0
      · exact .inl h0
      · exact .inr ⟨h0, .inl (ahead_eq (back_le C _) (Nat.le_refl _) (fun j a b => back_zero C _ j a b) (by simp))⟩
  · rintro ⟨hx, rfl | ⟨h0, h1⟩⟩
    · exact .inl (.inl rfl)
    · rcases h1 with h1 | h1
      · refine .inr ⟨back_eq C x (.inr h0) _ (by omega) fun j a b => ahead_zero a (by omega), hx⟩
      · have hi : ahead C x < C.length := by
          rcases Nat.lt_or_ge (ahead C x) C.length with h | h
          · exact h
          · rw [List.getElem?_eq_none h] at h1; cases h1
        exact .inl (.inr ⟨_, hi, h1, back_eq C x (.inr h0) _ (Nat.le_add_right _ _) fun j a b => ahead_zero a b⟩)
/-- rising lists with the same members -/
theorem rise_eq : ∀ {a b : List Int}, a.Pairwise (· < ·) → b.Pairwise (· < ·) → (∀ x, x ∈ a ↔ x ∈ b) → a = b
  | [], [], _, _, _ => rfl
  | [], y :: r, _, _, h => absurd ((h y).mpr List.mem_cons_self) (by simp)
  | x :: r, [], _, _, h => absurd ((h x).mp List.mem_cons_self) (by simp)
  | x :: r, y :: t, ha, hb, h => by
    rw [List.pairwise_cons] at ha hb
    have e : x = y := by
      rcases List.mem_cons.mp ((h x).mp List.mem_cons_self) with e | m
      · exact e
      · rcases List.mem_cons.mp ((h y).mpr List.mem_cons_self) with e | m2
        · exact e.symm
        · have h1 := hb.1 x m
          have h2 := ha.1 y m2
          omega
    subst e
    rw [rise_eq ha.2 hb.2 fun z => ⟨fun m => by
      rcases List.mem_cons.mp ((h z).mp (List.mem_cons_of_mem _ m)) with e | m2
      · have := ha.1 z m; omega
      · exact m2, fun m => by
      rcases List.mem_cons.mp ((h z).mpr (List.mem_cons_of_mem _ m)) with e | m2
      · have := hb.1 z m; omega
      · exact m2⟩]
theorem rise_of {ys : List Int} {ks : List Nat} (hp : ys.Perm (ks.map fun k : Nat => (k : Int))) (hs : ys.Pairwise (· ≤ ·)) (nd : ks.Nodup) : ys.Pairwise (· < ·) := by
  have nd2 : (ks.map fun k : Nat => (k : Int)).Nodup := by
    rw [List.nodup_iff_pairwise_ne] at nd ⊢
    exact List.pairwise_map.mpr (nd.imp fun h e => h (Int.ofNat.inj e))
  have nd3 : ys.Nodup := hp.nodup_iff.mpr nd2
  rw [List.nodup_iff_pairwise_ne] at nd3
  exact hs.imp₂ (fun a b h1 h2 => by omega) nd3
/-- the pieces between the begins; the last goes up to e -/
def pcs (L : List (List Nat)) : List Nat → Nat → List (List Nat)
  | [], _ => []
  | [b], e => [((L.take e).drop b).flatten]
  | b :: c :: r, e => ((L.take c).drop b).flatten :: pcs L (c :: r) e
theorem pcs_snoc (L : List (List Nat)) (j e : Nat) : ∀ B : List Nat, B ≠ [] → pcs L (B ++ [j]) e = pcs L B j ++ [((L.take e).drop j).flatten]
  | [b], _ => rfl
  | b :: c :: r, _ => by
    show _ :: pcs L ((c :: r) ++ [j]) e = _ :: pcs L (c :: r) j ++ _
    rw [pcs_snoc L j e (c :: r) (by simp)]
    rfl
theorem pcs_ne (L : List (List Nat)) (e : Nat) : ∀ B : List Nat, B ≠ [] → pcs L B e ≠ []
  | [b], _ => by simp [pcs]
  | b :: c :: r, _ => by simp [pcs]
theorem pcs_grow (L : List (List Nat)) {j : Nat} (hj : j < L.length) : ∀ B : List Nat, (h : B ≠ []) → (∀ b ∈ B, b ≤ j) → pcs L B (j + 1) = (pcs L B j).dropLast ++ [(pcs L B j).getLast (pcs_ne L j B h) ++ L[j]]
  | [b], _, hb => by
    have hbj := hb b (by simp)
    show [((L.take (j + 1)).drop b).flatten] = [((L.take j).drop b).flatten ++ L[j]]
    have e : L.take (j + 1) = L.take j ++ [L[j]] := by rw [List.take_add_one, List.getElem?_eq_getElem hj]; rfl
    rw [e, List.drop_append_of_le_length (by rw [List.length_take]; omega), List.flatten_append]
    simp
  | b :: c :: r, _, hb => by
    have ih := pcs_grow L hj (c :: r) (by simp) fun x m => hb x (List.mem_cons_of_mem _ m)
    obtain ⟨y, t, e⟩ : ∃ y t, pcs L (c :: r) j = y :: t := List.exists_cons_of_ne_nil (pcs_ne L j (c :: r) (by simp))
    show _ :: pcs L (c :: r) (j + 1) = _
    rw [ih]
    simp only [pcs, e]
    rfl
theorem pcs_last (L : List (List Nat)) (j e : Nat) (B : List Nat) (h : B ≠ []) : True := trivial
def begs (C : List Nat) (n : Nat) : List Nat := (List.range n).filter (beg C)
theorem begs_succ (C : List Nat) (j : Nat) : begs C (j + 1) = begs C j ++ (if beg C j = true then [j] else []) := by
  unfold begs
  rw [List.range_succ, List.filter_append]
  congr 1
  by_cases h : beg C j = true
  · rw [if_pos h]; simp [h]
  · rw [if_neg h]; simp [h]
theorem begs_ne (C : List Nat) {j : Nat} (h : 0 < j) : begs C j ≠ [] := by
  intro e
  have : 0 ∈ begs C j := by
    unfold begs
    rw [List.mem_filter]
    exact ⟨List.mem_range.mpr h, rfl⟩
  rw [e] at this
  cases this
theorem begs_le (C : List Nat) (j : Nat) : ∀ b ∈ begs C j, b ≤ j := fun b m => by
  have := List.mem_range.mp (List.mem_filter.mp m).1
  omega
/-- what the law gathers, line by line -/
def due (L : List (List Nat)) (C : List Nat) (j : Nat) : List (List Nat) := pcs L (begs C j) j
theorem due_new (L : List (List Nat)) (C : List Nat) {j : Nat} (hj : j < L.length) (h : beg C j = true) : due L C (j + 1) = due L C j ++ [L[j]] := by
  unfold due
  rw [begs_succ, if_pos h]
  have e1 : ((L.take (j + 1)).drop j).flatten = L[j] := by
    have e : L.take (j + 1) = L.take j ++ [L[j]] := by rw [List.take_add_one, List.getElem?_eq_getElem hj]; rfl
    rw [e, List.drop_append_of_le_length (by rw [List.length_take]; omega), List.drop_of_length_le (by rw [List.length_take]; omega)]
    simp
  cases hB : begs C j with
  | nil => show [((L.take (j + 1)).drop j).flatten] = [L[j]]; rw [e1]
  | cons b r => rw [pcs_snoc L j (j + 1) (b :: r) (by simp), e1]
theorem due_old (L : List (List Nat)) (C : List Nat) {j : Nat} (hj : j < L.length) (h : beg C j = false) : ∃ hne : due L C j ≠ [], due L C (j + 1) = (due L C j).dropLast ++ [(due L C j).getLast hne ++ L[j]] := by
  have hj0 : 0 < j := by
    rcases Nat.eq_zero_or_pos j with e | e
    · subst e; cases h
    · exact e
  have hb := begs_ne C hj0
  refine ⟨pcs_ne L j _ hb, ?_⟩
  unfold due
  rw [begs_succ, if_neg (by rw [h]; simp), List.append_nil]
  exact pcs_grow L hj _ hb (begs_le C j)
/-- all pieces together are all lines together -/
theorem due_flat (L : List (List Nat)) (C : List Nat) : ∀ j, j ≤ L.length → (due L C j).flatten = (L.take j).flatten
  | 0, _ => rfl
  | j + 1, h => by
    have ih := due_flat L C j (by omega)
    have hj : j < L.length := by omega
    have e : L.take (j + 1) = L.take j ++ [L[j]] := by rw [List.take_add_one, List.getElem?_eq_getElem hj]; rfl
    rw [e, List.flatten_append, ← ih]
    cases hb : beg C j with
    | true => rw [due_new L C hj hb, List.flatten_append]
    | false =>
      obtain ⟨hne, e2⟩ := due_old L C hj hb
      rw [e2, List.flatten_append]
      conv => rhs; rw [← List.dropLast_concat_getLast hne]
      simp
end K13

namespace PW
open PySem L2
local macro_rules
  | `(tactic| walk_at "sz") => `(tactic| first | omega | (simp only [lit_nl, tx_len, List.length_append, List.length_map, List.length_cons, List.length_nil, List.length_take, List.length_drop] <;> omega))
  | `(tactic| walk_at "go") => `(tactic| repeat (first | refine ⟨_, rfl, ?_⟩ | refine ⟨_, rfl, rfl, ?_⟩ | refine ⟨_, _, rfl, rfl, ?_⟩ | refine ⟨rfl, ?_⟩ | refine ⟨trivial, ?_⟩ | refine ⟨_, ix_hd, ?_⟩ | refine br_t rfl ?_ | refine br_f rfl ?_ | (refine ⟨le_sz ?_, ?_⟩; focus walk_at "sz") | (refine ⟨lt_sz ?_, ?_⟩; focus walk_at "sz") | (refine ⟨strLe_tx ?_, ?_⟩; focus walk_at "sz") | refine ⟨cmul_r rfl, ?_⟩ | refine ⟨cmul_l rfl, ?_⟩ | refine ⟨pos_ok rfl, ?_⟩ | refine ⟨cdiv_ok rfl, ?_⟩ | refine ⟨_, _, _, _, rfl, rfl, rfl, rfl, ?_⟩ | refine ⟨_, _, rfl, ?_⟩))
theorem kindS_ok (w : List Nat) : (PyData.str (kindS w)).canLay0 = true := by
  unfold kindS
  repeat' split
  all_goals decide +kernel
theorem leaf_ok {F : List Lf} {p : Nat} (h : Ok F p) : ∀ x ∈ F.map leafD, x.canLay0 = true ∧ x.depth ≤ 60 := fun x m => by
  obtain ⟨⟨w, q⟩, hw, rfl⟩ := List.mem_map.mp m
  obtain ⟨_, _, g, _⟩ := h w q hw
  refine ⟨?_, ?_⟩
  · show ((PyData.str (kindS w)).canLay0 && ((dT w).canLay0 && _)) = true
    rw [g.ok, kindS_ok]
    rfl
  · show PyData.depth (.tuple _) ≤ 60
    simp [PyData.depth, PyData.depthAll]
end PW
namespace K13
open PySem L2 PW
/-- the class of a line: 0 bare, 1 word, 2 other -/
def clsN (l : List Nat) : Nat := match leavesL l with
  | [] => 0
  | x :: _ => if inD (dT x.1) rowD = true then 1 else 2
def clsS : Nat → Str
  | 0 => "bare"
  | 1 => "word"
  | _ => "other"
abbrev clsD (C : List Nat) : List PyData := C.map fun c => .str (clsS c)
/-- a line of a text -/
def IsLine (l : List Nat) : Prop := gdT l ∧ l.length ≤ 2000 ∧ leavesL l = foldS [] 0 (l.take (idx 35 l))
def S_class_of : FS := fun args o ret exc => ∃ l, args = [.d (dT l)] ∧ o = [] ∧ IsLine l ∧ ret (.d (.str (clsS (clsN l)))) []
def S_back_over : FS := fun args o ret exc => ∃ (C : List Nat) (a : Nat), args = [.d (.list (clsD C)), .d (.int a)] ∧ o = [] ∧ a ≤ C.length ∧ (∀ c ∈ C, c ≤ 2) ∧ ret (.d (.int (back C a))) []
def S_beginnings : FS := fun args o ret exc => ∃ (C : List Nat), args = [.d (.list (clsD C))] ∧ o = [] ∧ (∀ c ∈ C, c ≤ 2) ∧ 0 < C.length ∧ C.length ≤ 2001 ∧ ret (.new ((begs C C.length).map fun (b : Nat) => PyData.int b)) []
def unitsL (l : List Nat) : List (List Nat) := due (linesL l) ((linesL l).map clsN) (linesL l).length
def S_units_of (N G : Addr) : FS := fun args o ret exc => ∃ v, args = [v] ∧ o = [] ∧ NeedT N G v (fun l => ret (.new ((unitsL l).map dT)) []) (fun C => exc ⟨C, none⟩ [])
local macro_rules
  | `(tactic| walk_at "sz") => `(tactic| first | omega | (simp only [lit_nl, tx_len, List.length_append, List.length_map, List.length_cons, List.length_nil, List.length_take, List.length_drop] <;> omega))
  | `(tactic| walk_at "go") => `(tactic| repeat (first | refine ⟨_, rfl, ?_⟩ | refine ⟨_, rfl, rfl, ?_⟩ | refine ⟨_, _, rfl, rfl, ?_⟩ | refine ⟨rfl, ?_⟩ | refine ⟨trivial, ?_⟩ | refine ⟨_, ix_hd, ?_⟩ | refine br_t rfl ?_ | refine br_f rfl ?_ | (refine ⟨le_sz ?_, ?_⟩; focus walk_at "sz") | (refine ⟨lt_sz ?_, ?_⟩; focus walk_at "sz") | (refine ⟨strLe_tx ?_, ?_⟩; focus walk_at "sz") | refine ⟨cmul_r rfl, ?_⟩ | refine ⟨cmul_l rfl, ?_⟩ | refine ⟨pos_ok rfl, ?_⟩ | refine ⟨cdiv_ok rfl, ?_⟩ | refine ⟨_, _, _, _, rfl, rfl, rfl, rfl, ?_⟩ | refine ⟨_, _, rfl, ?_⟩))
def w_class_of : SW :=
 (wSeq (wAsg (wCall S_leaves_in (wCons (wVar 0) (wCons (wC (.int 0)) wNil))) 1)
 (wSeq (wIfS (wB (wEq (wVar 1) (wLst wNil)))
  (wRet (wC (.str "bare")))
  wNext)
 (wRet (wIf (wB (wIn (wIx (wIx (wVar 1) (wC (.int 0))) (wC (.int 1))) (wC (PyData.tuple [(PyData.str "let"), (PyData.str "set"), (PyData.str "say"), (PyData.str "read"), (PyData.str "fault"), (PyData.str "do"), (PyData.str "if"), (PyData.str "else"), (PyData.str "while"), (PyData.str "block"), (PyData.str "with"), (PyData.str "helper"), (PyData.str "try"), (PyData.str "catch"), (PyData.str "finally"), (PyData.str "end")])))) (wC (.str "word")) (wC (.str "other"))))))
def w_back_over : SW :=
 (wSeq (wWh (wAnd (wB (wGt (wVar 1) (wC (.int 0)))) (wB (wEq (wIx (wVar 0) (wSub (wVar 1) (wC (.int 1)))) (wC (.str "bare")))))
  (wAsg (wSub (wVar 1) (wC (.int 1))) 1))
 (wRet (wVar 1)))
def w_beginnings : SW :=
 (wSeq (wAsg (wDict1 (wC (.int 0)) (wC (.bool true))) 1)
 (wSeq (wFor (wRg1 (wLen (wVar 0))) (gN 2)
  (wIfS (wB (wEq (wIx (wVar 0) (wVar 2)) (wC (.str "word"))))
  (wSetK (wC (.bool true)) (wVar 1) (wCall S_back_over (wCons (wVar 0) (wCons (wVar 2) wNil))))
  wNext))
 (wSeq (wAsg (wCall S_back_over (wCons (wVar 0) (wCons (wLen (wVar 0)) wNil))) 3)
 (wSeq (wIfS (wB (wLt (wVar 3) (wLen (wVar 0))))
  (wSetK (wC (.bool true)) (wVar 1) (wVar 3))
  wNext)
 (wRet (wSortedD (wVar 1)))))))
def w_units_of (C_TooGreat : Addr) (C_NoText : Addr) : SW :=
 (wSeq (wAsg (wCall (S_lines_of C_NoText C_TooGreat) (wCons (wVar 0) wNil)) 1)
 (wSeq (wIfS (wB (wEq (wVar 1) (wLst wNil)))
  (wRet (wLst wNil))
  wNext)
 (wSeq (wAsg (wCall S_beginnings (wCons (wLc (wL (wVar 1)) (gN 4) wYes (wCall S_class_of (wCons (wVar 4) wNil)) [4]) wNil)) 2)
 (wSeq (wAsg (wCat (wSl (wVar 2) (wPart (wC (.int 1))) wNoPart) (wLst (wCons (wLen (wVar 1)) wNil))) 3)
 (wRet (wLc (wZp (wVar 2) (wVar 3)) (gT 2 (gsCons (gN 5) (gsCons (gN 6) gsNil))) wYes (wM1 rJoinD (wC (.str "")) (wSl (wVar 1) (wPart (wVar 5)) (wPart (wVar 6)))) [5, 6]))))))
theorem cls_le (l : List Nat) : clsN l ≤ 2 := by
  unfold clsN
  split
  · omega
  · split <;> omega
theorem cls_bare {c : Nat} (h : c ≤ 2) : PyData.eqv (.str (clsS c)) (.str "bare") = decide (c = 0) := by
  have : c = 0 ∨ c = 1 ∨ c = 2 := by omega
  rcases this with rfl | rfl | rfl <;> decide +kernel
theorem cls_word {c : Nat} (h : c ≤ 2) : PyData.eqv (.str (clsS c)) (.str "word") = decide (c = 1) := by
  have : c = 0 ∨ c = 1 ∨ c = 2 := by omega
  rcases this with rfl | rfl | rfl <;> decide +kernel
theorem cls_ix {C : List Nat} {i : Nat} (h : i < C.length) : ixD (.list (clsD C)) (i : Int) = some (.str (clsS C[i])) := by
  rw [ix_list (by rw [List.length_map]; exact h), List.getElem_map]
theorem pure_back_over : ∀ args o ret exc, S_back_over args o ret exc → w_back_over (fun x s => exc x (cutL o.length s.o)) (pst0 args o 2) (bodyE o.length ret) := by
  rintro _ _ ret exc ⟨C, a, rfl, rfl, ha, hC, h⟩
  walk_at "go"
  refine ⟨fun m s => ∃ e : Nat, s = ⟨[some (.d (.list (clsD C))), some (.d (.int e))], []⟩ ∧ e ≤ C.length ∧ back C a = back C e ∧ m = e, ⟨_, a, rfl, ha, rfl, rfl⟩, ?_⟩
  rintro m _ ⟨e, rfl, he, hb, hm⟩
  walk_at "go"
  refine br_d (0 < e) (by rw [decide_eq_true_eq]; omega) (fun h1 => ?_) (fun h1 => ?_)
  · have hx : ((e : Int) - 1) = ((e - 1 : Nat) : Int) := by omega
    have he1 : e - 1 < C.length := by omega
    walk_at "go"
    refine ⟨_, by rw [hx]; exact cls_ix he1, ?_⟩
    walk_at "go"
    refine br_d (C[e - 1] = 0) (by show PyData.eqv _ _ = true ↔ _; rw [cls_bare (hC _ (List.getElem_mem he1))]; simp) (fun h2 => ?_) (fun h2 => ?_)
    · walk_at "go"
      refine ⟨e - 1, by omega, .inl ⟨e - 1, ?_, by omega, ?_, rfl⟩⟩
      · rw [hx]; rfl
      · rw [hb]
        obtain ⟨k, rfl⟩ : ∃ k, e = k + 1 := ⟨e - 1, by omega⟩
        show (if C[k]? = some 0 then back C k else k + 1) = _
        rw [if_pos (show C[k]? = some 0 from (List.getElem?_eq_getElem he1).trans (congrArg some h2))]
        rfl
    · walk_at "go"
      have e0 : back C a = e := by
        rw [hb]
        obtain ⟨k, rfl⟩ : ∃ k, e = k + 1 := ⟨e - 1, by omega⟩
        show (if C[k]? = some 0 then back C k else k + 1) = _
        rw [if_neg (show ¬ C[k]? = some 0 from fun z => h2 (Option.some.inj ((List.getElem?_eq_getElem he1).symm.trans z)))]
      rw [e0] at h
      exact h
  · walk_at "go"
    have e0 : back C a = e := by
      have : e = 0 := by omega
      rw [hb, this]; rfl
    rw [e0] at h
    exact h
theorem leaves_nil (X : List Lf) : PyData.eqv (.list (X.map leafD)) (.list []) = true ↔ X = [] := by
  cases X <;> simp [PyData.eqv, PyData.eqvAll]
theorem row_word (w : List Nat) (h : inD (dT w) rowD = true) : isLet (w.headD 0) = true ∧ PyData.eqv (dT w) (.str "not") = false := by
  have h' := h
  unfold inD at h
  rw [List.any_eq_true] at h
  obtain ⟨z, hz, he⟩ := h
  have hall : rowD.all (fun z => match z with | .str x => isLet (x.cps.toList.headD 0) && !PyData.eqv z (.str "not") | _ => false) = true := by decide +kernel
  rw [List.all_eq_true] at hall
  have := hall z hz
  cases z <;> try cases this
  rename_i x
  rw [eqv_strs, beq_iff_eq] at he
  subst he
  simp only [Bool.and_eq_true, Bool.not_eq_true'] at this
  exact this
/-- the kind tells a row word -/
theorem kind_word (w : List Nat) : (kindS w = "word" ∧ PyData.eqv (dT w) (.str "not") = false) ↔ inD (dT w) rowD = true := by
  have e1 : ("name" : Str) ≠ "word" := by decide +kernel
  have e2 : ("odd" : Str) ≠ "word" := by decide +kernel
  have e3 : ("number" : Str) ≠ "word" := by decide +kernel
  have e4 : ("sign" : Str) ≠ "word" := by decide +kernel
  constructor
  · rintro ⟨h, g⟩
    unfold kindS at h
    split at h
    · split at h
      · rename_i h1
        rw [g, Bool.or_false] at h1
        exact h1
      · split at h
        · exact absurd h e1
        · exact absurd h e2
    · split at h
      · split at h
        · exact absurd h e3
        · exact absurd h e2
      · split at h
        · exact absurd h e4
        · exact absurd h e2
  · intro h
    obtain ⟨h1, h2⟩ := row_word w h
    refine ⟨?_, h2⟩
    unfold kindS
    rw [if_pos h1, h]
    rfl
theorem pure_class_of : ∀ args o ret exc, S_class_of args o ret exc → w_class_of (fun x s => exc x (cutL o.length s.o)) (pst0 args o 2) (bodyE o.length ret) := by
  rintro _ _ ret exc ⟨l, rfl, rfl, ⟨hg, hl, hlv⟩, h⟩
  unfold clsN at h
  have hok := leaves_ok hg
  have hsl := shaped_list (leaf_ok hok)
  walk_at "go"
  refine ⟨hg, hl, ?_⟩
  rw [← hlv]
  walk_at "go"
  refine ⟨eqOk_of hsl rfl, ?_⟩
  walk_at "go"
  refine br_d _ (leaves_nil _) (fun h1 => ?_) (fun h1 => ?_)
  · rw [h1] at h
    exact h
  · obtain ⟨⟨w, q⟩, r, hX⟩ : ∃ x r, leavesL l = x :: r := List.exists_cons_of_ne_nil h1
    rw [hX] at h ⊢
    have h' : ret (RV.d (PyData.str (clsS (if inD (dT w) rowD = true then 1 else 2)))) [] := h
    have hx0 : ixD (.list (((w, q) :: r).map leafD)) 0 = some (.tuple [.str (kindS w), dT w, .int (q : Nat)]) := ix_hdl
    walk_at "go"
    refine ⟨_, hx0, ?_⟩
    walk_at "go"
    refine br_s (inD (dT w) rowD) rfl (fun h2 => ?_) (fun h2 => ?_)
    · rw [h2] at h'
      walk_at "go"
      exact h'
    · rw [h2] at h'
      walk_at "go"
      exact h'
def kf (k : Nat) : Key × PyData := (.inl (k : Int), .bool true)
theorem put_kf (ks : List Nat) (k : Nat) : putD (ks.map kf) (.inl (k : Int)) (.bool true) = (if k ∈ ks then ks else ks ++ [k]).map kf := by
  have ha : ((ks.map kf).any fun kv => decide (kv.1 = Sum.inl (k : Int))) = decide (k ∈ ks) := by
    rw [List.any_map]
    rw [Bool.eq_iff_iff, List.any_eq_true, decide_eq_true_eq]
    constructor
    · rintro ⟨x, hx, e⟩
      have e2 : (Sum.inl (x : Int) : Key) = Sum.inl (k : Int) := of_decide_eq_true e
      have : x = k := Int.ofNat.inj (Sum.inl.inj e2)
      exact this ▸ hx
    · intro m
      exact ⟨k, m, by simp [kf]⟩
  unfold putD
  rw [ha]
  by_cases h : k ∈ ks
  · rw [if_pos (decide_eq_true h), if_pos h, List.map_map]
    apply List.map_congr_left
    intro x _
    show (if (kf x).1 = Sum.inl (k : Int) then ((kf x).1, PyData.bool true) else kf x) = kf x
    by_cases e : (kf x).1 = Sum.inl (k : Int)
    · rw [if_pos e]; rfl
    · rw [if_neg e]
  · rw [if_neg (by rw [decide_eq_false h]; simp), if_neg h, List.map_append]
    rfl
theorem put_mem {ks : List Nat} {k x : Nat} : x ∈ (if k ∈ ks then ks else ks ++ [k]) ↔ x ∈ ks ∨ x = k := by
  by_cases h : k ∈ ks
  · rw [if_pos h]
    exact ⟨.inl, fun z => z.elim id fun e => e ▸ h⟩
  · rw [if_neg h]; simp
theorem put_nd {ks : List Nat} {k : Nat} (nd : ks.Nodup) : (if k ∈ ks then ks else ks ++ [k]).Nodup := by
  by_cases h : k ∈ ks
  · rw [if_pos h]; exact nd
  · rw [if_neg h, List.nodup_append]
    exact ⟨nd, by simp, fun a ha b hb => by simp at hb; rintro rfl; exact h (hb ▸ ha)⟩
theorem put_len {ks : List Nat} {k : Nat} : (if k ∈ ks then ks else ks ++ [k]).length ≤ ks.length + 1 := by
  split
  · omega
  · simp
/-- the keys, sorted -/
theorem sorted_begs {C ks : List Nat} {ys : List Int} (hp : ys.Perm (ks.map fun k : Nat => (k : Int))) (hs : ys.Pairwise (· ≤ ·)) (nd : ks.Nodup) (hm : ∀ x, x ∈ ks ↔ x < C.length ∧ beg C x = true) : ys = (begs C C.length).map fun b : Nat => (b : Int) := by
  refine rise_eq (rise_of hp hs nd) ?_ fun x => ?_
  · refine List.pairwise_map.mpr (List.Pairwise.imp (fun h => Int.ofNat_lt.mpr h) ?_)
    exact List.Pairwise.filter _ (List.pairwise_lt_range)
  · rw [hp.mem_iff, List.mem_map, List.mem_map]
    constructor
    · rintro ⟨k, hk, rfl⟩
      exact ⟨k, List.mem_filter.mpr ⟨List.mem_range.mpr ((hm k).mp hk).1, ((hm k).mp hk).2⟩, rfl⟩
    · rintro ⟨k, hk, rfl⟩
      obtain ⟨h1, h2⟩ := List.mem_filter.mp hk
      exact ⟨k, (hm k).mpr ⟨List.mem_range.mp h1, h2⟩, rfl⟩
theorem pure_beginnings : ∀ args o ret exc, S_beginnings args o ret exc → w_beginnings (fun x s => exc x (cutL o.length s.o)) (pst0 args o 4) (bodyE o.length ret) := by
  rintro _ _ ret exc ⟨C, rfl, rfl, hC, hn, hn2, h⟩
  walk_at "go"
  rw [List.length_map]
  refine ⟨by omega, by omega, ?_⟩
  refine ⟨fun j s => ∃ (ks : List Nat) (x : Option PV), s = ⟨[some (.d (.list (clsD C))), some (.own 0), x, none], [.di (ks.map kf)]⟩ ∧ ks.Nodup ∧ (∀ x, x ∈ ks ↔ x = 0 ∨ ∃ i, i < j ∧ C[i]? = some 1 ∧ back C i = x) ∧ ks.length ≤ j + 1, ⟨[0], none, rfl, by simp, fun x => ⟨fun m => .inl (by simpa using m), fun m => m.elim (fun e => by simp [e]) fun ⟨i, hi, _⟩ => by omega⟩, Nat.le_refl _⟩, fun _ _ _ _ => trivial, ?_, ?_⟩
  · rintro j _ _ hx ⟨ks, x, rfl, hnd, hm, hl⟩
    obtain ⟨hj0, rfl⟩ := ints_get hx
    have hj : j < C.length := by omega
    have hix : ixD (.list (clsD C)) (0 + (j : Nat)) = some (.str (clsS C[j])) := by
      rw [show ((0 : Int) + (j : Nat)) = (j : Int) by omega, cls_ix hj]
    clear hx
    have hl2 : (ks.map kf).length ≤ 3000 := by rw [List.length_map]; omega
    walk_at "go"
    refine ⟨_, hix, ?_⟩
    walk_at "go"
    refine br_d (C[j] = 1) (by show PyData.eqv _ _ = true ↔ _; rw [cls_word (hC _ (List.getElem_mem hj))]; simp) (fun h1 => ?_) (fun h1 => ?_)
    · walk_at "go"
      refine ⟨(show 0 + j ≤ C.length by omega), hC, ?_⟩
      walk_at "go"
      refine .inl ⟨(if back C j ∈ ks then ks else ks ++ [back C j]), some (.d (.int (0 + (j : Nat)))), ?_, put_nd hnd, fun x => ?_, Nat.le_trans put_len (by omega)⟩
      · exact (congrArg (fun k : Nat => (⟨[some (.d (.list (clsD C))), some (.own 0), some (.d (.int (0 + (j : Nat)))), none], [.di (putD (ks.map kf) (.inl ((back C k : Nat) : Int)) (.bool true))]⟩ : PSt)) (Nat.zero_add j)).trans (by rw [put_kf])
      · rw [put_mem, hm x]
        constructor
        · rintro ((e | ⟨i, a, b⟩) | e)
          · exact .inl e
          · exact .inr ⟨i, by omega, b⟩
          · exact .inr ⟨j, by omega, by rw [List.getElem?_eq_getElem hj, h1], e.symm⟩
        · rintro (e | ⟨i, a, b, c⟩)
          · exact .inl (.inl e)
          · rcases Nat.lt_or_ge i j with h2 | h2
            · exact .inl (.inr ⟨i, h2, b, c⟩)
            · have : i = j := by omega
              subst this
              exact .inr c.symm
    · walk_at "go"
      refine .inl ⟨ks, _, rfl, hnd, fun x => ?_, by omega⟩
      rw [hm x]
      refine or_congr Iff.rfl ⟨fun ⟨i, a, b⟩ => ⟨i, by omega, b⟩, fun ⟨i, a, b, c⟩ => ⟨i, ?_, b, c⟩⟩
      rcases Nat.lt_or_ge i j with h2 | h2
      · exact h2
      · have : i = j := by omega
        subst this
        rw [List.getElem?_eq_getElem hj] at b
        exact absurd (Option.some.inj b) h1
  · rintro _ ⟨ks, x, rfl, hnd, hm, hl⟩
    rw [ints_len] at hm hl
    have hl2 : (ks.map kf).length ≤ 3000 := by rw [List.length_map]; omega
    have hm' : ∀ x, x ∈ ks ↔ x = 0 ∨ ∃ i, i < C.length ∧ C[i]? = some 1 ∧ back C i = x := hm
    have fin : ∀ ks2 : List Nat, ks2.Nodup → (∀ x, x ∈ ks2 ↔ x < C.length ∧ beg C x = true) → ∀ ys : List Int, ys.Perm (ks2.map fun k : Nat => (k : Int)) → ys.Pairwise (· ≤ ·) → ret (RV.new (ys.map PyData.int)) [] := fun ks2 a b ys p1 p2 => by
      rw [sorted_begs p1 p2 a b, List.map_map]
      exact h
    walk_at "go"
    refine ⟨(by rw [List.length_map]; exact Nat.le_refl _), hC, ?_⟩
    rw [List.length_map]
    walk_at "go"
    rw [List.length_map]
    refine br_d (back C C.length < C.length) (by rw [decide_eq_true_eq]; omega) (fun h1 => ?_) (fun h1 => ?_)
    · walk_at "go"
      rw [put_kf]
      refine ⟨0, _, ((if back C C.length ∈ ks then ks else ks ++ [back C C.length]).map fun k : Nat => (k : Int)), rfl, rfl, by rw [List.map_map, List.map_map]; rfl, fun ys p1 p2 => ?_⟩
      refine ⟨Nat.zero_le _, _, rfl, ?_⟩
      refine fin _ (put_nd hnd) (fun x => ?_) ys p1 p2
      rw [put_mem, hm' x, ← key_iff hn]
      constructor
      · rintro (e | e)
        · exact .inl e
        · exact .inr ⟨e.symm, by rw [e]; exact h1⟩
      · rintro (e | ⟨e, _⟩)
        · exact .inl e
        · exact .inr e.symm
    · walk_at "go"
      refine ⟨0, _, (ks.map fun k : Nat => (k : Int)), rfl, rfl, by rw [List.map_map, List.map_map]; rfl, fun ys p1 p2 => ?_⟩
      refine ⟨Nat.zero_le _, _, rfl, ?_⟩
      refine fin ks hnd (fun x => ?_) ys p1 p2
      rw [hm' x, ← key_iff hn]
      constructor
      · exact .inl
      · rintro (e | ⟨e, hx⟩)
        · exact e
        · rw [← e] at hx; exact absurd hx h1
end K13

namespace K13
open PySem L2 PW
local macro_rules
  | `(tactic| walk_at "sz") => `(tactic| first | omega | (simp only [lit_nl, tx_len, List.length_append, List.length_map, List.length_cons, List.length_nil, List.length_take, List.length_drop] <;> omega))
  | `(tactic| walk_at "go") => `(tactic| repeat (first | refine ⟨rfl, ?_⟩ | refine ⟨trivial, ?_⟩ | refine ⟨_, rfl, ?_⟩ | refine ⟨_, rfl, rfl, ?_⟩ | refine ⟨_, _, rfl, rfl, ?_⟩ | refine ⟨_, ix_hd, ?_⟩ | refine br_t rfl ?_ | refine br_f rfl ?_ | (refine ⟨le_sz ?_, ?_⟩; focus walk_at "sz") | (refine ⟨lt_sz ?_, ?_⟩; focus walk_at "sz") | (refine ⟨strLe_tx ?_, ?_⟩; focus walk_at "sz") | refine ⟨cmul_r rfl, ?_⟩ | refine ⟨cmul_l rfl, ?_⟩ | refine ⟨pos_ok rfl, ?_⟩ | refine ⟨cdiv_ok rfl, ?_⟩ | refine ⟨_, _, _, _, rfl, rfl, rfl, rfl, ?_⟩ | refine ⟨_, _, rfl, ?_⟩))
theorem lines_form : ∀ (l acc : List Nat), 10 ∉ acc → ∀ (j : Nat) (x : List Nat), (mkLines (spl1 10 acc l))[j]? = some x → ∃ p, 10 ∉ p ∧ (x = p ++ [10] ∨ (x = p ∧ p ≠ [] ∧ j + 1 = (mkLines (spl1 10 acc l)).length))
  | [], acc, ha, j, x, h => by
    have e : mkLines (spl1 10 acc []) = if acc = [] then [] else [acc] := rfl
    rw [e] at h ⊢
    by_cases z : acc = []
    · rw [if_pos z] at h; cases h
    · rw [if_neg z] at h ⊢
      cases j with
      | zero => cases h; exact ⟨acc, ha, .inr ⟨rfl, z, rfl⟩⟩
      | succ j => cases h
  | c :: r, acc, ha, j, x, h => by
    by_cases e : c = 10
    · subst e
      have es : spl1 10 acc (10 :: r) = acc :: spl1 10 [] r := if_pos rfl
      rw [es] at h ⊢
      obtain ⟨y, t, et⟩ : ∃ y t, spl1 10 [] r = y :: t := List.exists_cons_of_ne_nil (spl1_ne _ _ _)
      have ih := lines_form r [] (by simp)
      rw [et] at h ih ⊢
      have em : mkLines (acc :: y :: t) = (acc ++ [10]) :: mkLines (y :: t) := rfl
      rw [em] at h ⊢
      cases j with
      | zero => cases h; exact ⟨acc, ha, .inl rfl⟩
      | succ j =>
        obtain ⟨p, hp, hx⟩ := ih j x h
        refine ⟨p, hp, hx.imp id fun ⟨a, b, d⟩ => ⟨a, b, ?_⟩⟩
        rw [List.length_cons, ← d]
    · have es : spl1 10 acc (c :: r) = spl1 10 (acc ++ [c]) r := if_neg e
      rw [es] at h ⊢
      exact lines_form r (acc ++ [c]) (by simp [ha, Ne.symm e]) j x h
theorem mkLines_le : ∀ ps : List (List Nat), (mkLines ps).length ≤ ps.length
  | [] => Nat.le_refl _
  | [x] => by
    show (if x = [] then [] else [x]).length ≤ 1
    split <;> simp
  | x :: y :: r => by
    have := mkLines_le (y :: r)
    show (mkLines (y :: r)).length + 1 ≤ (y :: r).length + 1
    omega
theorem joinL_flat : ∀ L : List (List Nat), TL.joinL [] L = L.flatten
  | [] => rfl
  | [p] => by simp [TL.joinL]
  | p :: q :: r => by
    show p ++ ([] ++ TL.joinL [] (q :: r)) = _
    rw [joinL_flat (q :: r), List.nil_append]
    rfl
theorem spl1_free : ∀ (p acc m : List Nat), 10 ∉ p → spl1 10 acc (p ++ 10 :: m) = (acc ++ p) :: spl1 10 [] m
  | [], acc, m, _ => by rw [List.append_nil]; rfl
  | c :: r, acc, m, h => by
    have hc : ¬ c = 10 := fun e => h (e ▸ List.mem_cons_self)
    show (if c = 10 then _ else spl1 10 (acc ++ [c]) (r ++ 10 :: m)) = _
    rw [if_neg hc, spl1_free r (acc ++ [c]) m fun x => h (List.mem_cons_of_mem _ x), List.append_assoc]
    rfl
theorem spl1_all : ∀ (p acc : List Nat), 10 ∉ p → spl1 10 acc p = [acc ++ p]
  | [], acc, _ => by rw [List.append_nil]; rfl
  | c :: r, acc, h => by
    have hc : ¬ c = 10 := fun e => h (e ▸ List.mem_cons_self)
    show (if c = 10 then _ else spl1 10 (acc ++ [c]) r) = _
    rw [if_neg hc, spl1_all r (acc ++ [c]) fun x => h (List.mem_cons_of_mem _ x), List.append_assoc]
    rfl
theorem line_of {l x : List Nat} (hg : gdT l) (hl : l.length ≤ 2000) (hx : x ∈ linesL l) : IsLine x := by
  have hfl := lines_flat l
  have hg1 : gdT x := fun c mc => hg c (hfl ▸ List.mem_flatten.mpr ⟨x, hx, mc⟩)
  have hl1 : x.length ≤ 2000 := by
    have := (List.sublist_flatten_of_mem hx).length_le
    rw [hfl] at this
    omega
  refine ⟨hg1, hl1, ?_⟩
  obtain ⟨j, hj⟩ := List.mem_iff_getElem?.mp hx
  obtain ⟨p, hp, hform⟩ := lines_form l [] (by simp) j x hj
  have e : linesL x = [x] := by
    unfold linesL
    rcases hform with e | ⟨e, h2, _⟩
    · rw [e, spl1_free p [] [] hp]; rfl
    · subst e
      rw [spl1_all _ [] hp]
      show (if [] ++ x = [] then [] else [[] ++ x]) = [x]
      rw [List.nil_append, if_neg h2]
  unfold leavesL
  rw [e]
  exact List.append_nil _
theorem pcs_zip (L : List (List Nat)) (n : Nat) : ∀ B : List Nat, pcs L B n = (B.zip (B.drop 1 ++ [n])).map fun x => ((L.take x.2).drop x.1).flatten
  | [] => rfl
  | [b] => rfl
  | b :: c :: r => by
    show _ :: pcs L (c :: r) n = _
    rw [pcs_zip L n (c :: r)]
    rfl
theorem zipD_ints : ∀ (A D : List Nat), zipD (A.map fun b : Nat => PyData.int b) (D.map fun b : Nat => PyData.int b) = (A.zip D).map fun x => .tuple [.int (x.1 : Nat), .int (x.2 : Nat)]
  | [], _ => rfl
  | _ :: _, [] => rfl
  | a :: A, d :: D => by
    show _ :: zipD _ _ = _
    rw [zipD_ints A D]
    rfl
theorem pure_units_of (G N : Addr) : ∀ args o ret exc, S_units_of N G args o ret exc → w_units_of G N (fun x s => exc x (cutL o.length s.o)) (pst0 args o 7) (bodyE o.length ret) := by
  rintro _ _ ret exc ⟨v, rfl, rfl, h⟩
  have h0 := h
  unfold w_units_of
  rw [lit_e]
  rcases h.arg with ⟨x, rfl⟩ | ⟨kvs, rfl⟩
  all_goals
    walk_at "go"
    refine h0.imp (fun l ev hg hl hq => ?_) fun C z => z
    first
      | (cases ev; done)
      | (injection ev with ev; subst ev)
  clear h0 h
  have h := hq
  clear hq
  have hline : ∀ x ∈ linesL l, IsLine x := fun x m => line_of hg hl m
  have hfl := lines_flat l
  have hLn : (linesL l).length ≤ 2001 := by
    have h1 := mkLines_le (spl1 10 [] l)
    have h2 := (spl1_le 10 l []).2
    show (mkLines (spl1 10 [] l)).length ≤ 2001
    omega
  unfold unitsL at h
  generalize hL : linesL l = L at *
  have hsh : SeqAt.shaped (.list (L.map dT)) = true := shaped_list fun x m => by
    obtain ⟨w, hw, rfl⟩ := List.mem_map.mp m
    exact ⟨(hline w hw).1.ok, Nat.zero_le _⟩
  walk_at "go"
  refine ⟨eqOk_of hsh rfl, ?_⟩
  walk_at "go"
  refine br_d (L = []) (by cases L <;> simp [PyData.eqv, PyData.eqvAll]) (fun h1 => ?_) (fun h1 => ?_)
  · subst h1
    walk_at "go"
    exact ⟨Nat.zero_le _, _, rfl, h⟩
  have hn : 0 < L.length := List.length_pos_iff.mpr h1
  walk_at "go"
  refine ⟨(fun j acc s => s = (⟨[some (.d (dT l)), some (.d (.list (L.map dT))), none, none, none, none, none], [.no, .dl []]⟩ : PSt) ∧ acc = (L.take j).map fun x => PyData.str (clsS (clsN x))), ⟨rfl, rfl⟩, fun _ _ _ _ _ => trivial, ?_, ?_⟩
  · rintro j x acc s2 hx ho ⟨rfl, rfl⟩
    obtain ⟨hj, rfl⟩ := map_get hx
    have hFl : (L.take j).length ≤ 3000 := by rw [List.length_take]; omega
    clear hx ho
    walk_at "go"
    refine ⟨hline _ (List.getElem_mem hj), ?_⟩
    walk_at "go"
    exact (take_map_succ hj).symm
  rintro acc s2 ho ⟨rfl, rfl⟩
  clear ho
  rw [List.length_map, List.take_of_length_le (Nat.le_refl _)]
  have hCd : (L.map fun x => PyData.str (clsS (clsN x))) = clsD (L.map clsN) := by
    show _ = (L.map clsN).map fun c => PyData.str (clsS c)
    rw [List.map_map]; rfl
  rw [hCd]
  have hC : ∀ c ∈ L.map clsN, c ≤ 2 := fun c m => by
    obtain ⟨x, _, rfl⟩ := List.mem_map.mp m
    exact cls_le x
  have hCl : (L.map clsN).length = L.length := List.length_map ..
  rw [show L.length = (L.map clsN).length from hCl.symm] at h
  have hBl : (begs (L.map clsN) (L.map clsN).length).length ≤ 2001 := by
    unfold begs
    have := List.length_filter_le (beg (L.map clsN)) (List.range (L.map clsN).length)
    rw [List.length_range] at this
    omega
  unfold due at h
  walk_at "go"
  refine ⟨hC, by rw [hCl]; exact hn, by rw [hCl]; exact hLn, ?_⟩
  generalize hB : begs (L.map clsN) (L.map clsN).length = B at h hBl ⊢
  rw [hCl] at h
  have hCut : cutD (B.map fun b : Nat => PyData.int b) (some 1) none = (B.drop 1).map fun b : Nat => PyData.int b := by
    rw [show (1 : Int) = ((1 : Nat) : Int) from rfl, cutD_from, List.map_drop]
  have hE : ((B.drop 1).map fun b : Nat => PyData.int b) ++ [PyData.int ((L.map dT).length : Nat)] = (B.drop 1 ++ [L.length]).map fun b : Nat => PyData.int b := by rw [List.map_append, List.length_map]; rfl
  walk_at "go"
  rw [hCut, hE]
  refine ⟨by rw [List.length_map, List.length_drop]; exact le_sz (by simp; omega), ?_⟩
  walk_at "go"
  rw [pcs_zip] at h
  have hzip := zipD_ints B (B.drop 1 ++ [L.length])
  have hZl : (B.zip (B.drop 1 ++ [L.length])).length ≤ 2001 := by rw [List.length_zip]; omega
  generalize hZ : B.zip (B.drop 1 ++ [L.length]) = Z at h hZl hzip
  refine ⟨(fun j acc s => s = (⟨[some (.d (dT l)), some (.d (.list (L.map dT))), some (.d (.list (B.map fun b : Nat => PyData.int b))), some (.d (.list ((B.drop 1 ++ [L.length]).map fun b : Nat => PyData.int b))), none, none, none], [.no, .dl [], .no, .no, .dl ((B.drop 1).map fun b : Nat => PyData.int b), .dl [PyData.int ((L.map dT).length : Nat)], .no]⟩ : PSt) ∧ acc = (Z.take j).map fun x => dT ((L.take x.2).drop x.1).flatten), ⟨?_, rfl⟩, fun _ _ _ _ _ => trivial, ?_, ?_⟩
  · first | rfl | (rw [← hE]; rfl)
  · rintro j x acc s2 hx ho ⟨rfl, rfl⟩
    rw [hzip] at hx
    obtain ⟨hj, rfl⟩ := map_get hx
    have hFl : (Z.take j).length ≤ 3000 := by rw [List.length_take]; omega
    have hcd : cutD (L.map dT) (some (Z[j].1 : Int)) (some (Z[j].2 : Int)) = ((L.take Z[j].2).drop Z[j].1).map dT := by rw [cutD_nat, List.map_drop, List.map_take]
    clear hx ho
    walk_at "go"
    rw [hcd]
    have hmem : ∀ w ∈ (L.take Z[j].2).drop Z[j].1, w.length ≤ 2000 := fun w m => (hline w (List.mem_of_mem_take (List.mem_of_mem_drop m))).2.1
    have hle : ((L.take Z[j].2).drop Z[j].1).length ≤ 2001 := by rw [List.length_drop, List.length_take]; omega
    refine ⟨_, strsOf_tx _, ?_, ?_⟩
    · have h1 := sum_tx hmem
      rw [tx_len, List.length_nil]
      omega
    rw [join_tx, joinL_flat]
    walk_at "go"
    exact (take_map_succ hj).symm
  rintro acc s2 ho ⟨rfl, hacc⟩
  clear ho
  rw [hzip, List.length_map, List.take_of_length_le (Nat.le_refl _)] at hacc
  subst hacc
  walk_at "go"
  rw [List.map_map] at h
  exact ⟨Nat.zero_le _, _, rfl, h⟩
end K13

namespace PW
open PySem L2
/-! ### expressions: knots, and how they are read -/
inductive Kn where
  | num (n : Nat)
  | name (w : List Nat) (k : Nat)
  | br (a : Kn)
  | row (l : List Kn)
  | look (a : Kn) (l : List Kn)
  | not_ (a : Kn)
  | minus (a : Kn)
  | times (l : List Kn)
  | sum (s : List Bool) (l : List Kn)
  | less (a b : Kn)
  | same (a b : Kn)
def sgD : Bool → PyData
  | true => .str "+"
  | false => .str "-"
def zipS : List Bool → List PyData → List PyData
  | b :: bs, x :: xs => .tuple [sgD b, x] :: zipS bs xs
  | _, _ => []
mutual
def knD : Kn → PyData
  | .num n => .tuple [.str "number", .int (n : Nat)]
  | .name w k => .tuple [.str "name", dT w, .int (k : Nat)]
  | .br a => .tuple [.str "bracket", knD a]
  | .row l => .tuple [.str "row", .tuple (knsD l)]
  | .look a l => .tuple [.str "look", knD a, .tuple (knsD l)]
  | .not_ a => .tuple [.str "not", knD a]
  | .minus a => .tuple [.str "minus", knD a]
  | .times l => .tuple [.str "times", .tuple (knsD l)]
  | .sum s l => .tuple [.str "sum", .tuple (zipS s (knsD l))]
  | .less a b => .tuple [.str "less", knD a, knD b]
  | .same a b => .tuple [.str "same", knD a, knD b]
def knsD : List Kn → List PyData
  | [] => []
  | a :: r => knD a :: knsD r
end
theorem knsD_map : ∀ l, knsD l = l.map knD
  | [] => rfl
  | a :: r => by rw [knsD, knsD_map r]; rfl
theorem knsD_len (l : List Kn) : (knsD l).length = l.length := by rw [knsD_map, List.length_map]
mutual
/-- how deep things stand in one another -/
def dpt : Kn → Nat
  | .num _ => 1
  | .name _ _ => 1
  | .br a => 1 + dpt a
  | .row l => 1 + dpts l
  | .look a l => 1 + max (dpt a) (dpts l)
  | .not_ a => 1 + dpt a
  | .minus a => 1 + dpt a
  | .times l => dpts l
  | .sum _ l => dpts l
  | .less a b => max (dpt a) (dpt b)
  | .same a b => max (dpt a) (dpt b)
def dpts : List Kn → Nat
  | [] => 0
  | a :: r => max (dpt a) (dpts r)
end
mutual
/-- how high a knot is -/
def hgt : Kn → Nat
  | .num _ => 1
  | .name _ _ => 1
  | .br a => 1 + hgt a
  | .row l => 1 + hgts l
  | .look a l => 1 + max (hgt a) (hgts l)
  | .not_ a => 1 + hgt a
  | .minus a => 1 + hgt a
  | .times l => 1 + hgts l
  | .sum _ l => 1 + hgts l
  | .less a b => 1 + max (hgt a) (hgt b)
  | .same a b => 1 + max (hgt a) (hgt b)
def hgts : List Kn → Nat
  | [] => 0
  | a :: r => max (hgt a) (hgts r)
end
theorem hgts_le {n : Nat} : ∀ {l : List Kn}, (∀ a ∈ l, hgt a ≤ n) → hgts l ≤ n
  | [], _ => Nat.zero_le _
  | a :: r, h => by
    have h1 := h a List.mem_cons_self
    have h2 := hgts_le fun x m => h x (List.mem_cons_of_mem _ m)
    rw [hgts]
    omega
theorem hgts_of {n : Nat} : ∀ {l : List Kn}, hgts l ≤ n → ∀ a ∈ l, hgt a ≤ n
  | [], _, a, m => nomatch m
  | b :: r, h, a, m => by
    rw [hgts] at h
    rcases List.mem_cons.mp m with e | m
    · rw [e]; omega
    · exact hgts_of (by omega) a m
/-! the words of leaves; what stands at a number -/
abbrev Wd' := List (List Nat)
def isS (W : Wd') (at_ : Nat) (sg : List Nat) : Bool := match W[at_]? with
  | some [c] => decide (c ∈ sg)
  | _ => false
abbrev Res := Option (Kn × Nat)
def joinW (one : List Kn → Kn) : List Kn → Kn
  | [a] => a
  | l => one l
/-- things with * between; f tells the thing at a number -/
def mulL (W : Wd') (f : Nat → Res) : Nat → Nat → List Kn → Res
  | 0, _, _ => none
  | m + 1, a, acc => match f a with
    | none => none
    | some (k, b) => if isS W b [42] then mulL W f m (b + 1) (acc ++ [k]) else some (joinW .times (acc ++ [k]), b)
def sumOf (s : List Bool) (l : List Kn) : Kn := joinW (.sum s) l
/-- things with + or - between -/
def addL (W : Wd') (f : Nat → Res) : Nat → Nat → Bool → List Bool → List Kn → Res
  | 0, _, _, _, _ => none
  | m + 1, a, s, ss, acc => match f a with
    | none => none
    | some (k, b) => if isS W b [43, 45] then addL W f m (b + 1) (isS W b [43]) (ss ++ [s]) (acc ++ [k]) else some (sumOf (ss ++ [s]) (acc ++ [k]), b)
/-- places of looks -/
def lokL (W : Wd') (f : Nat → Res) : Nat → Nat → List Kn → Option (List Kn × Nat)
  | 0, _, _ => none
  | m + 1, a, acc => if isS W a [91] then (match f (a + 1) with
    | none => none
    | some (k, b) => if isS W b [93] then lokL W f m (b + 1) (acc ++ [k]) else none) else some (acc, a)
/-- things with commas up to a closing sign -/
def sevL (W : Wd') (f : Nat → Res) (cl : Nat) : Nat → Nat → List Kn → Option (List Kn × Nat)
  | 0, _, _ => none
  | m + 1, a, acc => match f a with
    | none => none
    | some (k, b) => if isS W b [cl] then some (acc ++ [k], b + 1) else if isS W b [44] then sevL W f cl m (b + 1) (acc ++ [k]) else none
def kdW (w : List Nat) : Str := kindS w
def valW (w : List Nat) : Nat := NumText.digitsVal w
mutual
def begF (W : Wd') : Nat → Nat → Nat → Res
  | 0, _, _ => none
  | n + 1, a, room => match W[a]? with
    | none => none
    | some w => if room < 1 then none
      else if kindS w = "number" then some (.num (valW w), a + 1)
      else if kindS w = "name" then some (.name w a, a + 1)
      else if w = [40] then (match cmpF W n (a + 1) (room - 1) with
        | none => none
        | some (k, b) => if isS W b [41] then some (.br k, b + 1) else none)
      else if w = [91] then (match sevF W n (a + 1) (room - 1) 93 with
        | none => none
        | some (l, b) => some (.row l, b))
      else none
def sevF (W : Wd') : Nat → Nat → Nat → Nat → Option (List Kn × Nat)
  | 0, _, _, _ => none
  | n + 1, a, room, cl => if isS W a [cl] then some ([], a + 1) else sevL W (fun x => cmpF W n x room) cl (W.length + 1) a []
def lokF (W : Wd') : Nat → Nat → Nat → Res
  | 0, _, _ => none
  | n + 1, a, room => match begF W n a room with
    | none => none
    | some (k, b) => match lokL W (fun x => cmpF W n x (room - 1)) (W.length + 1) b [] with
      | none => none
      | some ([], c) => some (k, c)
      | some (p :: ps, c) => if dpt k < room then some (.look k (p :: ps), c) else none
def sgnF (W : Wd') : Nat → Nat → Nat → Res
  | 0, _, _ => none
  | n + 1, a, room => if isS W a [45] then (if room > 1 then (match sgnF W n (a + 1) (room - 1) with
        | none => none
        | some (k, b) => some (.minus k, b)) else none)
      else if W[a]? = some [110, 111, 116] then (if room > 1 then (match sgnF W n (a + 1) (room - 1) with
        | none => none
        | some (k, b) => some (.not_ k, b)) else none)
      else lokF W n a room
def mulF (W : Wd') : Nat → Nat → Nat → Res
  | 0, _, _ => none
  | n + 1, a, room => mulL W (fun x => sgnF W n x room) (W.length + 1) a []
def addF (W : Wd') : Nat → Nat → Nat → Res
  | 0, _, _ => none
  | n + 1, a, room => addL W (fun x => mulF W n x room) (W.length + 1) a true [] []
def cmpF (W : Wd') : Nat → Nat → Nat → Res
  | 0, _, _ => none
  | n + 1, a, room => match addF W n a room with
    | none => none
    | some (k, b) => if isS W b [60, 61] then (match addF W n (b + 1) room with
        | none => none
        | some (j, c) => some (if isS W b [60] then .less k j else .same k j, c)) else some (k, b)
end
end PW

namespace PW
open PySem L2
/-! ### what reading gives: good knots -/
mutual
def okK : Kn → Prop
  | .num _ => True
  | .name _ _ => True
  | .br a => okK a
  | .row l => okKs l
  | .look a l => okK a ∧ 1 ≤ l.length ∧ okKs l
  | .not_ a => okK a
  | .minus a => okK a
  | .times l => 2 ≤ l.length ∧ okKs l
  | .sum s l => s.length = l.length ∧ 2 ≤ l.length ∧ okKs l
  | .less a b => okK a ∧ okK b
  | .same a b => okK a ∧ okK b
def okKs : List Kn → Prop
  | [] => True
  | a :: r => okK a ∧ okKs r
end
mutual
def szK : Kn → Nat
  | .num _ => 1
  | .name _ _ => 1
  | .br a => 1 + szK a
  | .row l => 1 + szKs l
  | .look a l => 1 + szK a + szKs l
  | .not_ a => 1 + szK a
  | .minus a => 1 + szK a
  | .times l => 1 + szKs l
  | .sum _ l => 1 + szKs l
  | .less a b => 1 + szK a + szK b
  | .same a b => 1 + szK a + szK b
def szKs : List Kn → Nat
  | [] => 0
  | a :: r => szK a + szKs r
end
theorem szK_pos (k : Kn) : 1 ≤ szK k := by cases k <;> simp [szK] <;> omega
theorem szKs_app : ∀ (l m : List Kn), szKs (l ++ m) = szKs l + szKs m
  | [], m => by simp [szKs]
  | a :: r, m => by rw [List.cons_append, szKs, szKs_app r m, szKs]; omega
theorem szKs_len : ∀ l : List Kn, l.length ≤ szKs l
  | [] => Nat.zero_le _
  | a :: r => by
    have := szKs_len r
    have := szK_pos a
    rw [szKs, List.length_cons]
    omega
theorem okKs_app : ∀ {l m : List Kn}, okKs l → okKs m → okKs (l ++ m)
  | [], _, _, h => h
  | a :: r, m, ⟨h, g⟩, k => ⟨h, okKs_app g k⟩
theorem okKs_of : ∀ {l : List Kn}, okKs l → ∀ a ∈ l, okK a
  | [], _, a, m => nomatch m
  | b :: r, ⟨h, g⟩, a, m => by
    rcases List.mem_cons.mp m with e | m
    · rw [e]; exact h
    · exact okKs_of g a m
theorem hgts_app : ∀ (l m : List Kn), hgts (l ++ m) = max (hgts l) (hgts m)
  | [], m => by simp [hgts]
  | a :: r, m => by rw [List.cons_append, hgts, hgts_app r m, hgts]; omega
theorem isS_lt {W : Wd'} {a : Nat} {sg : List Nat} (h : isS W a sg = true) : a < W.length := by
  unfold isS at h
  rcases Nat.lt_or_ge a W.length with g | g
  · exact g
  · rw [List.getElem?_eq_none g] at h
    cases h
def GoodK (n a : Nat) (W : Wd') (k : Kn) (b : Nat) : Prop := okK k ∧ hgt k ≤ n ∧ a + szK k ≤ b ∧ b ≤ W.length
def GoodF (n : Nat) (W : Wd') (f : Nat → Res) : Prop := ∀ a k b, f a = some (k, b) → GoodK n a W k b
theorem mulL_good {n : Nat} {W : Wd'} {f : Nat → Res} (hf : GoodF n W f) {a0 : Nat} : ∀ (m a : Nat) (acc : List Kn) (k : Kn) (b : Nat), okKs acc → hgts acc ≤ n → a0 + szKs acc + acc.length ≤ a → mulL W f m a acc = some (k, b) → GoodK (n + 1) a0 W k b
  | 0, a, acc, k, b, _, _, _, h => by simp [mulL] at h
  | m + 1, a, acc, k, b, h1, h2, h3, h => by
    rw [mulL] at h
    cases hk : f a with
    | none => rw [hk] at h; cases h
    | some r =>
      obtain ⟨k1, b1⟩ := r
      rw [hk] at h
      obtain ⟨g1, g2, g3, g4⟩ := hf a k1 b1 hk
      have o1 : okKs (acc ++ [k1]) := okKs_app h1 ⟨g1, trivial⟩
      have o2 : hgts (acc ++ [k1]) ≤ n := by rw [hgts_app, hgts, hgts]; omega
      have o3 : szKs (acc ++ [k1]) = szKs acc + szK k1 := by rw [szKs_app, szKs, szKs]; omega
      simp only at h
      split at h
      · rename_i hs
        exact mulL_good hf m (b1 + 1) _ k b o1 o2 (by rw [o3, List.length_append]; simp; omega) h
      · simp only [Option.some.injEq, Prod.mk.injEq] at h
        obtain ⟨rfl, rfl⟩ := h
        cases acc with
        | nil => exact ⟨g1, by show hgt k1 ≤ _; omega, by show a0 + szK k1 ≤ _; simp [szKs] at h3; omega, g4⟩
        | cons x r =>
          have e : joinW .times ((x :: r) ++ [k1]) = .times ((x :: r) ++ [k1]) := by cases r <;> rfl
          rw [e]
          refine ⟨⟨by simp, o1⟩, by rw [hgt]; omega, by rw [szK, o3]; simp at h3; omega, g4⟩
theorem addL_good {n : Nat} {W : Wd'} {f : Nat → Res} (hf : GoodF n W f) {a0 : Nat} : ∀ (m a : Nat) (s : Bool) (ss : List Bool) (acc : List Kn) (k : Kn) (b : Nat), ss.length = acc.length → okKs acc → hgts acc ≤ n → a0 + szKs acc + acc.length ≤ a → addL W f m a s ss acc = some (k, b) → GoodK (n + 1) a0 W k b
  | 0, a, s, ss, acc, k, b, _, _, _, _, h => by simp [addL] at h
  | m + 1, a, s, ss, acc, k, b, h0, h1, h2, h3, h => by
    rw [addL] at h
    cases hk : f a with
    | none => rw [hk] at h; cases h
    | some r =>
      obtain ⟨k1, b1⟩ := r
      rw [hk] at h
      obtain ⟨g1, g2, g3, g4⟩ := hf a k1 b1 hk
      have o1 : okKs (acc ++ [k1]) := okKs_app h1 ⟨g1, trivial⟩
      have o2 : hgts (acc ++ [k1]) ≤ n := by rw [hgts_app, hgts, hgts]; omega
      have o3 : szKs (acc ++ [k1]) = szKs acc + szK k1 := by rw [szKs_app, szKs, szKs]; omega
      simp only at h
      split at h
      · rename_i hs
        exact addL_good hf m (b1 + 1) _ _ _ k b (by simp [h0]) o1 o2 (by rw [o3, List.length_append]; simp; omega) h
      · simp only [Option.some.injEq, Prod.mk.injEq] at h
        obtain ⟨rfl, rfl⟩ := h
        cases acc with
        | nil => exact ⟨g1, by show hgt k1 ≤ _; omega, by show a0 + szK k1 ≤ _; simp [szKs] at h3; omega, g4⟩
        | cons x r =>
          have e : sumOf (ss ++ [s]) ((x :: r) ++ [k1]) = .sum (ss ++ [s]) ((x :: r) ++ [k1]) := by cases r <;> rfl
          rw [e]
          refine ⟨⟨by simp at h0 ⊢; omega, by simp, o1⟩, by rw [hgt]; omega, by rw [szK, o3]; simp at h3; omega, g4⟩
def GoodL (n a : Nat) (W : Wd') (l : List Kn) (b : Nat) : Prop := okKs l ∧ hgts l ≤ n ∧ a + szKs l + l.length ≤ b ∧ b ≤ W.length
theorem lokL_good {n : Nat} {W : Wd'} {f : Nat → Res} (hf : GoodF n W f) {a0 : Nat} : ∀ (m a : Nat) (acc l : List Kn) (b : Nat), okKs acc → hgts acc ≤ n → a0 + szKs acc + acc.length ≤ a → a ≤ W.length → lokL W f m a acc = some (l, b) → GoodL n a0 W l b
  | 0, a, acc, l, b, _, _, _, _, h => by simp [lokL] at h
  | m + 1, a, acc, l, b, h1, h2, h3, h4, h => by
    rw [lokL] at h
    split at h
    · cases hk : f (a + 1) with
      | none => rw [hk] at h; cases h
      | some r =>
        obtain ⟨k1, b1⟩ := r
        rw [hk] at h
        obtain ⟨g1, g2, g3, g4⟩ := hf (a + 1) k1 b1 hk
        simp only at h
        split at h
        · rename_i hs
          have := isS_lt hs
          exact lokL_good hf m (b1 + 1) _ l b (okKs_app h1 (show okKs [k1] from ⟨g1, trivial⟩)) (by rw [hgts_app, hgts, hgts]; omega) (by rw [szKs_app, szKs, szKs, List.length_append]; simp; omega) this h
        · cases h
    · simp only [Option.some.injEq, Prod.mk.injEq] at h
      obtain ⟨rfl, rfl⟩ := h
      exact ⟨h1, h2, h3, h4⟩
theorem sevL_good {n : Nat} {W : Wd'} {f : Nat → Res} {cl : Nat} (hf : GoodF n W f) {a0 : Nat} : ∀ (m a : Nat) (acc l : List Kn) (b : Nat), okKs acc → hgts acc ≤ n → a0 + szKs acc + acc.length ≤ a → sevL W f cl m a acc = some (l, b) → GoodL n a0 W l b
  | 0, a, acc, l, b, _, _, _, h => by simp [sevL] at h
  | m + 1, a, acc, l, b, h1, h2, h3, h => by
    rw [sevL] at h
    cases hk : f a with
    | none => rw [hk] at h; cases h
    | some r =>
      obtain ⟨k1, b1⟩ := r
      rw [hk] at h
      obtain ⟨g1, g2, g3, g4⟩ := hf a k1 b1 hk
      simp only at h
      have o1 : okKs (acc ++ [k1]) := okKs_app h1 ⟨g1, trivial⟩
      have o2 : hgts (acc ++ [k1]) ≤ n := by rw [hgts_app, hgts, hgts]; omega
      have o3 : szKs (acc ++ [k1]) = szKs acc + szK k1 := by rw [szKs_app, szKs, szKs]; omega
      split at h
      · rename_i hs
        simp only [Option.some.injEq, Prod.mk.injEq] at h
        obtain ⟨rfl, rfl⟩ := h
        exact ⟨o1, o2, by rw [o3, List.length_append]; simp; omega, isS_lt hs⟩
      · split at h
        · rename_i hs
          exact sevL_good hf m (b1 + 1) _ l b o1 o2 (by rw [o3, List.length_append]; simp; omega) h
        · cases h
def GoodSev (n a : Nat) (W : Wd') (l : List Kn) (b : Nat) : Prop := okKs l ∧ hgts l ≤ n ∧ a + szKs l + 1 ≤ b ∧ b ≤ W.length
theorem good_all (W : Wd') : ∀ n : Nat,
    (∀ a room k b, begF W n a room = some (k, b) → GoodK n a W k b) ∧ (∀ a room cl l b, sevF W n a room cl = some (l, b) → GoodSev n a W l b) ∧
    (∀ a room k b, lokF W n a room = some (k, b) → GoodK n a W k b) ∧ (∀ a room k b, sgnF W n a room = some (k, b) → GoodK n a W k b) ∧
    (∀ a room k b, mulF W n a room = some (k, b) → GoodK n a W k b) ∧ (∀ a room k b, addF W n a room = some (k, b) → GoodK n a W k b) ∧
    (∀ a room k b, cmpF W n a room = some (k, b) → GoodK n a W k b)
  | 0 => by refine ⟨?_, ?_, ?_, ?_, ?_, ?_, ?_⟩ <;> intros <;> simp_all [begF, sevF, lokF, sgnF, mulF, addF, cmpF]
  | n + 1 => by
    obtain ⟨hb, hs, hl, hg, hm, ha, hc⟩ := good_all W n
    refine ⟨?_, ?_, ?_, ?_, ?_, ?_, ?_⟩
    · intro a room k b h
      rw [begF] at h
      cases hw : W[a]? with
      | none => rw [hw] at h; cases h
      | some w =>
        have hal := (List.getElem?_eq_some_iff.mp hw).1
        rw [hw] at h
        simp only at h
        split at h
        · cases h
        split at h
        · simp only [Option.some.injEq, Prod.mk.injEq] at h
          obtain ⟨rfl, rfl⟩ := h
          exact ⟨trivial, by simp [hgt], by simp [szK], hal⟩
        split at h
        · simp only [Option.some.injEq, Prod.mk.injEq] at h
          obtain ⟨rfl, rfl⟩ := h
          exact ⟨trivial, by simp [hgt], by simp [szK], hal⟩
        split at h
        · cases hk : cmpF W n (a + 1) (room - 1) with
          | none => rw [hk] at h; cases h
          | some r =>
            obtain ⟨k1, b1⟩ := r
            rw [hk] at h
            obtain ⟨g1, g2, g3, g4⟩ := hc _ _ _ _ hk
            simp only at h
            split at h
            · rename_i hi
              simp only [Option.some.injEq, Prod.mk.injEq] at h
              obtain ⟨rfl, rfl⟩ := h
              exact ⟨g1, by rw [hgt]; omega, by rw [szK]; omega, isS_lt hi⟩
            · cases h
        split at h
        · cases hk : sevF W n (a + 1) (room - 1) 93 with
          | none => rw [hk] at h; cases h
          | some r =>
            obtain ⟨k1, b1⟩ := r
            rw [hk] at h
            obtain ⟨g1, g2, g3, g4⟩ := hs _ _ _ _ _ hk
            simp only [Option.some.injEq, Prod.mk.injEq] at h
            obtain ⟨rfl, rfl⟩ := h
            exact ⟨g1, by rw [hgt]; omega, by rw [szK]; omega, g4⟩
        · cases h
    · intro a room cl l b h
      rw [sevF] at h
      split at h
      · rename_i hi
        simp only [Option.some.injEq, Prod.mk.injEq] at h
        obtain ⟨rfl, rfl⟩ := h
        exact ⟨trivial, by simp [hgts], by simp [szKs], isS_lt hi⟩
      · have g := sevL_good (n := n) (f := fun x => cmpF W n x room) (fun a k b h => hc a room k b h) (a0 := a) _ _ _ _ _ (show okKs [] from trivial) (by simp [hgts]) (by simp [szKs]) h
        obtain ⟨g1, g2, g3, g4⟩ := g
        refine ⟨g1, by omega, ?_, g4⟩
        cases l with
        | nil =>
          exfalso
          have key : ∀ (m a : Nat) (acc : List Kn), sevL W (fun x => cmpF W n x room) cl m a acc = some ([], b) → False := by
            intro m
            induction m with
            | zero => intro a acc h; simp [sevL] at h
            | succ m ih =>
              intro a acc h
              rw [sevL] at h
              split at h
              · cases h
              · split at h
                · simp at h
                · split at h
                  · exact ih _ _ h
                  · cases h
          exact key _ _ _ h
        | cons x r => simp at g3; omega
    · intro a room k b h
      rw [lokF] at h
      cases hk : begF W n a room with
      | none => rw [hk] at h; cases h
      | some r =>
        obtain ⟨k1, b1⟩ := r
        rw [hk] at h
        obtain ⟨g1, g2, g3, g4⟩ := hb _ _ _ _ hk
        simp only at h
        cases hp : lokL W (fun x => cmpF W n x (room - 1)) (W.length + 1) b1 [] with
        | none => rw [hp] at h; cases h
        | some r =>
          obtain ⟨ps, c⟩ := r
          rw [hp] at h
          obtain ⟨q1, q2, q3, q4⟩ := lokL_good (n := n) (f := fun x => cmpF W n x (room - 1)) (fun a k b h => hc a (room - 1) k b h) (a0 := b1) _ _ _ _ _ (show okKs [] from trivial) (by simp [hgts]) (by simp [szKs]) g4 hp
          cases ps with
          | nil =>
            simp only [Option.some.injEq, Prod.mk.injEq] at h
            obtain ⟨rfl, rfl⟩ := h
            exact ⟨g1, by omega, by simp [szKs] at q3; omega, q4⟩
          | cons p ps =>
            simp only at h
            split at h
            · simp only [Option.some.injEq, Prod.mk.injEq] at h
              obtain ⟨rfl, rfl⟩ := h
              exact ⟨⟨g1, by simp, q1⟩, by rw [hgt]; omega, by rw [szK]; simp at q3; omega, q4⟩
            · cases h
    · intro a room k b h
      rw [sgnF] at h
      split at h
      · split at h
        · cases hk : sgnF W n (a + 1) (room - 1) with
          | none => rw [hk] at h; cases h
          | some r =>
            obtain ⟨k1, b1⟩ := r
            rw [hk] at h
            obtain ⟨g1, g2, g3, g4⟩ := hg _ _ _ _ hk
            simp only [Option.some.injEq, Prod.mk.injEq] at h
            obtain ⟨rfl, rfl⟩ := h
            exact ⟨g1, by rw [hgt]; omega, by rw [szK]; omega, g4⟩
        · cases h
      split at h
      · split at h
        · cases hk : sgnF W n (a + 1) (room - 1) with
          | none => rw [hk] at h; cases h
          | some r =>
            obtain ⟨k1, b1⟩ := r
            rw [hk] at h
            obtain ⟨g1, g2, g3, g4⟩ := hg _ _ _ _ hk
            simp only [Option.some.injEq, Prod.mk.injEq] at h
            obtain ⟨rfl, rfl⟩ := h
            exact ⟨g1, by rw [hgt]; omega, by rw [szK]; omega, g4⟩
        · cases h
      · obtain ⟨g1, g2, g3, g4⟩ := hl _ _ _ _ h
        exact ⟨g1, by omega, g3, g4⟩
    · intro a room k b h
      rw [mulF] at h
      exact mulL_good (n := n) (fun a k b h => hg a room k b h) _ _ _ _ _ (show okKs [] from trivial) (by simp [hgts]) (by simp [szKs]) h
    · intro a room k b h
      rw [addF] at h
      exact addL_good (n := n) (fun a k b h => hm a room k b h) _ _ _ _ _ _ _ rfl (show okKs [] from trivial) (by simp [hgts]) (by simp [szKs]) h
    · intro a room k b h
      rw [cmpF] at h
      cases hk : addF W n a room with
      | none => rw [hk] at h; cases h
      | some r =>
        obtain ⟨k1, b1⟩ := r
        rw [hk] at h
        obtain ⟨g1, g2, g3, g4⟩ := ha _ _ _ _ hk
        simp only at h
        split at h
        · cases hj : addF W n (b1 + 1) room with
          | none => rw [hj] at h; cases h
          | some r =>
            obtain ⟨j, c⟩ := r
            rw [hj] at h
            obtain ⟨q1, q2, q3, q4⟩ := ha _ _ _ _ hj
            simp only [Option.some.injEq, Prod.mk.injEq] at h
            obtain ⟨rfl, rfl⟩ := h
            split
            · exact ⟨⟨g1, q1⟩, by rw [hgt]; omega, by rw [szK]; omega, q4⟩
            · exact ⟨⟨g1, q1⟩, by rw [hgt]; omega, by rw [szK]; omega, q4⟩
        · simp only [Option.some.injEq, Prod.mk.injEq] at h
          obtain ⟨rfl, rfl⟩ := h
          exact ⟨g1, by omega, g3, g4⟩
end PW

namespace PW
open PySem L2
local macro_rules
  | `(tactic| walk_at "sz") => `(tactic| first | omega | (simp only [tx_len, List.length_append, List.length_map, List.length_cons, List.length_nil, List.length_take, List.length_drop] <;> omega))
  | `(tactic| walk_at "go") => `(tactic| repeat (first | refine ⟨rfl, ?_⟩ | refine ⟨trivial, ?_⟩ | refine ⟨_, rfl, ?_⟩ | refine ⟨_, rfl, rfl, ?_⟩ | refine ⟨_, _, rfl, rfl, ?_⟩ | refine ⟨_, ix_hd, ?_⟩ | refine br_t rfl ?_ | refine br_f rfl ?_ | (refine ⟨le_sz ?_, ?_⟩; focus walk_at "sz") | (refine ⟨lt_sz ?_, ?_⟩; focus walk_at "sz") | (refine ⟨strLe_tx ?_, ?_⟩; focus walk_at "sz") | refine ⟨cmul_r rfl, ?_⟩ | refine ⟨cmul_l rfl, ?_⟩ | refine ⟨pos_ok rfl, ?_⟩ | refine ⟨cdiv_ok rfl, ?_⟩ | refine ⟨_, _, _, _, rfl, rfl, rfl, rfl, ?_⟩ | refine ⟨_, _, rfl, ?_⟩ | refine ⟨_, _, _, rfl, rfl, rfl, ?_⟩ | refine ⟨_, _, _, rfl, rfl, ?_⟩))
/-! ### the readers walked -/
def Run2 (w : List Nat) : Prop := isFig (w.headD 0) = true → ∀ c ∈ w, isFig c = true
def LvOk (L : List Lf) : Prop := (∀ x ∈ L, WF x.1 ∧ Run2 x.1 ∧ gdT x.1) ∧ L.length ≤ 2000
def wds (L : List Lf) : Wd' := L.map (·.1)
abbrev lvD (L : List Lf) : PyData := .list (L.map leafD)
def signsL : List Nat := [40, 41, 91, 93, 44, 61, 43, 45, 42, 60]
def SgOk (sg : Str) : Prop := ∀ c ∈ sg.cps.toList, c ∈ signsL
def resD : Res → PyData
  | none => .none
  | some (k, b) => .tuple [knD k, .int (b : Nat)]
def sevD : Option (List Kn × Nat) → PyData
  | none => .none
  | some (l, b) => .tuple [.list (knsD l), .int (b : Nat)]
def S_is_sign : FS := fun args o ret exc => ∃ (L : List Lf) (a : Nat) (sg : Str), args = [.d (lvD L), .d (.int a), .d (.str sg)] ∧ o = [] ∧ LvOk L ∧ SgOk sg ∧ ret (.d (.bool (isS (wds L) a sg.cps.toList))) []
def S_deep (n : Nat) : FS := fun args o ret exc => ∃ (e : Kn), args = [.d (knD e)] ∧ o = [] ∧ okK e ∧ hgt e ≤ n ∧ szK e ≤ 100000 ∧ ret (.d (.int (dpt e))) []
def S_several (n : Nat) : FS := fun args o ret exc => ∃ (L : List Lf) (a room cl : Nat), args = [.d (lvD L), .d (.int a), .d (.int room), .d (dT [cl])] ∧ o = [] ∧ LvOk L ∧ (cl = 41 ∨ cl = 93) ∧ room ≤ 6 ∧ 7 * room + 7 ≤ n ∧ n ≤ 50 ∧ ret (.d (sevD (sevF (wds L) n a room cl))) []
def S_begun (n : Nat) : FS := fun args o ret exc => ∃ (L : List Lf) (a room : Nat), args = [.d (lvD L), .d (.int a), .d (.int room)] ∧ o = [] ∧ LvOk L ∧ room ≤ 6 ∧ 7 * room + 1 ≤ n ∧ n ≤ 50 ∧ ret (.d (resD (begF (wds L) n a room))) []
def S_looked (n : Nat) : FS := fun args o ret exc => ∃ (L : List Lf) (a room : Nat), args = [.d (lvD L), .d (.int a), .d (.int room)] ∧ o = [] ∧ LvOk L ∧ room ≤ 6 ∧ 7 * room + 2 ≤ n ∧ n ≤ 50 ∧ ret (.d (resD (lokF (wds L) n a room))) []
def S_signed (n : Nat) : FS := fun args o ret exc => ∃ (L : List Lf) (a room : Nat), args = [.d (lvD L), .d (.int a), .d (.int room)] ∧ o = [] ∧ LvOk L ∧ room ≤ 6 ∧ 7 * room + 3 ≤ n ∧ n ≤ 50 ∧ ret (.d (resD (sgnF (wds L) n a room))) []
def S_multiplied (n : Nat) : FS := fun args o ret exc => ∃ (L : List Lf) (a room : Nat), args = [.d (lvD L), .d (.int a), .d (.int room)] ∧ o = [] ∧ LvOk L ∧ room ≤ 6 ∧ 7 * room + 4 ≤ n ∧ n ≤ 50 ∧ ret (.d (resD (mulF (wds L) n a room))) []
def S_added (n : Nat) : FS := fun args o ret exc => ∃ (L : List Lf) (a room : Nat), args = [.d (lvD L), .d (.int a), .d (.int room)] ∧ o = [] ∧ LvOk L ∧ room ≤ 6 ∧ 7 * room + 5 ≤ n ∧ n ≤ 50 ∧ ret (.d (resD (addF (wds L) n a room))) []
def S_compared (n : Nat) : FS := fun args o ret exc => ∃ (L : List Lf) (a room : Nat), args = [.d (lvD L), .d (.int a), .d (.int room)] ∧ o = [] ∧ LvOk L ∧ room ≤ 6 ∧ 7 * room + 6 ≤ n ∧ n ≤ 50 ∧ ret (.d (resD (cmpF (wds L) n a room))) []
def S_expression : FS := fun args o ret exc => ∃ (L : List Lf) (a : Nat), args = [.d (lvD L), .d (.int a)] ∧ o = [] ∧ LvOk L ∧ ret (.d (resD (cmpF (wds L) 50 a 6))) []
theorem hgt_pos (k : Kn) : 1 ≤ hgt k := by cases k <;> simp [hgt] <;> omega
theorem zero_deep : ∀ args o r e, ¬ S_deep 0 args o r e := by
  rintro args o r e ⟨k, _, _, _, h, _⟩
  have := hgt_pos k
  omega
theorem zero_begun : ∀ args o r e, ¬ S_begun 0 args o r e := by
  rintro args o r e ⟨L, a, room, _, _, _, _, h, _⟩
  omega
theorem zero_looked : ∀ args o r e, ¬ S_looked 0 args o r e := by
  rintro args o r e ⟨L, a, room, _, _, _, _, h, _⟩
  omega
theorem zero_signed : ∀ args o r e, ¬ S_signed 0 args o r e := by
  rintro args o r e ⟨L, a, room, _, _, _, _, h, _⟩
  omega
theorem zero_multiplied : ∀ args o r e, ¬ S_multiplied 0 args o r e := by
  rintro args o r e ⟨L, a, room, _, _, _, _, h, _⟩
  omega
theorem zero_added : ∀ args o r e, ¬ S_added 0 args o r e := by
  rintro args o r e ⟨L, a, room, _, _, _, _, h, _⟩
  omega
theorem zero_compared : ∀ args o r e, ¬ S_compared 0 args o r e := by
  rintro args o r e ⟨L, a, room, _, _, _, _, h, _⟩
  omega
theorem zero_several : ∀ args o r e, ¬ S_several 0 args o r e := by
  rintro args o r e ⟨L, a, room, cl, _, _, _, _, _, h, _⟩
  omega
def w_is_sign : SW :=
 (wRet (wAndV (wLt (wVar 1) (wLen (wVar 0))) (wAndV (wEq (wIx (wIx (wVar 0) (wVar 1)) (wC (.int 0))) (wC (.str "sign"))) (wIn (wIx (wIx (wVar 0) (wVar 1)) (wC (.int 1))) (wVar 2)))))
def w_deep (R_deep : FS) : SW :=
 (wSeq (wIfS (wB (wIn (wIx (wVar 0) (wC (.int 0))) (wTup (wCons (wC (.str "number")) (wCons (wC (.str "name")) wNil)))))
  (wRet (wC (.int 1)))
  wNext)
 (wSeq (wIfS (wB (wIn (wIx (wVar 0) (wC (.int 0))) (wTup (wCons (wC (.str "bracket")) (wCons (wC (.str "not")) (wCons (wC (.str "minus")) wNil))))))
  (wRet (wAdd (wC (.int 1)) (wCall R_deep (wCons (wIx (wVar 0) (wC (.int 1))) wNil))))
  wNext)
 (wSeq (wIfS (wB (wEq (wIx (wVar 0) (wC (.int 0))) (wC (.str "row"))))
  (wRet (wAdd (wC (.int 1)) (wMaxDf (wLc (wTp (wIx (wVar 0) (wC (.int 1)))) (gN 1) wYes (wCall R_deep (wCons (wVar 1) wNil)) [1]) 0)))
  wNext)
 (wSeq (wIfS (wB (wEq (wIx (wVar 0) (wC (.int 0))) (wC (.str "look"))))
  (wRet (wAdd (wC (.int 1)) (wMaxL (wLc (wTp (wCatT (wTup (wCons (wIx (wVar 0) (wC (.int 1))) wNil)) (wIx (wVar 0) (wC (.int 2))))) (gN 1) wYes (wCall R_deep (wCons (wVar 1) wNil)) [1]))))
  wNext)
 (wSeq (wIfS (wB (wEq (wIx (wVar 0) (wC (.int 0))) (wC (.str "times"))))
  (wRet (wMaxL (wLc (wTp (wIx (wVar 0) (wC (.int 1)))) (gN 1) wYes (wCall R_deep (wCons (wVar 1) wNil)) [1])))
  wNext)
 (wSeq (wIfS (wB (wEq (wIx (wVar 0) (wC (.int 0))) (wC (.str "sum"))))
  (wRet (wMaxL (wLc (wTp (wIx (wVar 0) (wC (.int 1)))) (gN 2) wYes (wCall R_deep (wCons (wIx (wVar 2) (wC (.int 1))) wNil)) [2])))
  wNext)
 (wRet (wMax2 (wCall R_deep (wCons (wIx (wVar 0) (wC (.int 1))) wNil)) (wCall R_deep (wCons (wIx (wVar 0) (wC (.int 2))) wNil))))))))))
def w_several (R_compared : FS) : SW :=
 (wSeq (wAsg (wLst wNil) 4)
 (wSeq (wIfS (wB (wCall S_is_sign (wCons (wVar 0) (wCons (wVar 1) (wCons (wVar 3) wNil)))))
  (wRet (wTup (wCons (wVar 4) (wCons (wAdd (wVar 1) (wC (.int 1))) wNil))))
  wNext)
 (wWh (wB (wC (.bool true)))
  (wSeq (wAsg (wCall R_compared (wCons (wVar 0) (wCons (wVar 1) (wCons (wVar 2) wNil)))) 5)
 (wSeq (wIfS (wB (wIsN (wVar 5)))
  (wRet (wC .none))
  wNext)
 (wSeq (wDrop (wApp (wVar 4) (wIx (wVar 5) (wC (.int 0)))))
 (wSeq (wAsg (wIx (wVar 5) (wC (.int 1))) 1)
 (wSeq (wIfS (wB (wCall S_is_sign (wCons (wVar 0) (wCons (wVar 1) (wCons (wVar 3) wNil)))))
  (wRet (wTup (wCons (wVar 4) (wCons (wAdd (wVar 1) (wC (.int 1))) wNil))))
  wNext)
 (wSeq (wIfS (wNot (wB (wCall S_is_sign (wCons (wVar 0) (wCons (wVar 1) (wCons (wC (.str ",")) wNil))))))
  (wRet (wC .none))
  wNext)
 (wAsg (wAdd (wVar 1) (wC (.int 1))) 1))))))))))
def w_begun (R_several : FS) (R_compared : FS) : SW :=
 (wSeq (wIfS (wOr (wB (wGe (wVar 1) (wLen (wVar 0)))) (wB (wLt (wVar 2) (wC (.int 1)))))
  (wRet (wC .none))
  wNext)
 (wSeq (wUnp (wIx (wVar 0) (wVar 1)) (gT 3 (gsCons (gN 3) (gsCons (gN 4) (gsCons (gN 5) gsNil)))))
 (wSeq (wIfS (wB (wEq (wVar 3) (wC (.str "number"))))
  (wRet (wTup (wCons (wTup (wCons (wC (.str "number")) (wCons (wIntS (wVar 4)) wNil))) (wCons (wAdd (wVar 1) (wC (.int 1))) wNil))))
  wNext)
 (wSeq (wIfS (wB (wEq (wVar 3) (wC (.str "name"))))
  (wRet (wTup (wCons (wTup (wCons (wC (.str "name")) (wCons (wVar 4) (wCons (wVar 1) wNil)))) (wCons (wAdd (wVar 1) (wC (.int 1))) wNil))))
  wNext)
 (wSeq (wIfS (wB (wCall S_is_sign (wCons (wVar 0) (wCons (wVar 1) (wCons (wC (.str "(")) wNil)))))
  (wSeq (wAsg (wCall R_compared (wCons (wVar 0) (wCons (wAdd (wVar 1) (wC (.int 1))) (wCons (wSub (wVar 2) (wC (.int 1))) wNil)))) 6)
 (wSeq (wIfS (wOr (wB (wIsN (wVar 6))) (wNot (wB (wCall S_is_sign (wCons (wVar 0) (wCons (wIx (wVar 6) (wC (.int 1))) (wCons (wC (.str ")")) wNil)))))))
  (wRet (wC .none))
  wNext)
 (wRet (wTup (wCons (wTup (wCons (wC (.str "bracket")) (wCons (wIx (wVar 6) (wC (.int 0))) wNil))) (wCons (wAdd (wIx (wVar 6) (wC (.int 1))) (wC (.int 1))) wNil))))))
  wNext)
 (wSeq (wIfS (wB (wCall S_is_sign (wCons (wVar 0) (wCons (wVar 1) (wCons (wC (.str "[")) wNil)))))
  (wSeq (wAsg (wCall R_several (wCons (wVar 0) (wCons (wAdd (wVar 1) (wC (.int 1))) (wCons (wSub (wVar 2) (wC (.int 1))) (wCons (wC (.str "]")) wNil))))) 7)
 (wRet (wIf (wB (wIsN (wVar 7))) (wC .none) (wTup (wCons (wTup (wCons (wC (.str "row")) (wCons (wTupOf (wIx (wVar 7) (wC (.int 0)))) wNil))) (wCons (wIx (wVar 7) (wC (.int 1))) wNil))))))
  wNext)
 (wRet (wC .none))))))))
def w_looked (R_compared : FS) (R_begun : FS) : SW :=
 (wSeq (wAsg (wCall R_begun (wCons (wVar 0) (wCons (wVar 1) (wCons (wVar 2) wNil)))) 3)
 (wSeq (wIfS (wB (wIsN (wVar 3)))
  (wRet (wC .none))
  wNext)
 (wSeq (wUnp (wVar 3) (gT 2 (gsCons (gN 4) (gsCons (gN 1) gsNil))))
 (wSeq (wAsg (wLst wNil) 5)
 (wSeq (wWh (wB (wCall S_is_sign (wCons (wVar 0) (wCons (wVar 1) (wCons (wC (.str "[")) wNil)))))
  (wSeq (wAsg (wCall R_compared (wCons (wVar 0) (wCons (wAdd (wVar 1) (wC (.int 1))) (wCons (wSub (wVar 2) (wC (.int 1))) wNil)))) 6)
 (wSeq (wIfS (wOr (wB (wIsN (wVar 6))) (wNot (wB (wCall S_is_sign (wCons (wVar 0) (wCons (wIx (wVar 6) (wC (.int 1))) (wCons (wC (.str "]")) wNil)))))))
  (wRet (wC .none))
  wNext)
 (wSeq (wDrop (wApp (wVar 5) (wIx (wVar 6) (wC (.int 0)))))
 (wAsg (wAdd (wIx (wVar 6) (wC (.int 1))) (wC (.int 1))) 1)))))
 (wSeq (wIfS (wB (wEq (wVar 5) (wLst wNil)))
  (wRet (wTup (wCons (wVar 4) (wCons (wVar 1) wNil))))
  wNext)
 (wRet (wIf (wB (wLt (wCall (S_deep 60) (wCons (wVar 4) wNil)) (wVar 2))) (wTup (wCons (wTup (wCons (wC (.str "look")) (wCons (wVar 4) (wCons (wTupOf (wVar 5)) wNil)))) (wCons (wVar 1) wNil))) (wC .none)))))))))
def w_signed (R_signed : FS) (R_looked : FS) : SW :=
 (wSeq (wAsg (wC .none) 3)
 (wSeq (wIfS (wAnd (wB (wLt (wVar 1) (wLen (wVar 0)))) (wB (wEq (wIx (wIx (wVar 0) (wVar 1)) (wC (.int 1))) (wC (.str "not")))))
  (wAsg (wC (.str "not")) 3)
  wNext)
 (wSeq (wIfS (wB (wCall S_is_sign (wCons (wVar 0) (wCons (wVar 1) (wCons (wC (.str "-")) wNil)))))
  (wAsg (wC (.str "minus")) 3)
  wNext)
 (wSeq (wIfS (wB (wIsN (wVar 3)))
  (wRet (wCall R_looked (wCons (wVar 0) (wCons (wVar 1) (wCons (wVar 2) wNil)))))
  wNext)
 (wSeq (wAsg (wIf (wB (wGt (wVar 2) (wC (.int 1)))) (wCall R_signed (wCons (wVar 0) (wCons (wAdd (wVar 1) (wC (.int 1))) (wCons (wSub (wVar 2) (wC (.int 1))) wNil)))) (wC .none)) 4)
 (wRet (wIf (wB (wIsN (wVar 4))) (wC .none) (wTup (wCons (wTup (wCons (wVar 3) (wCons (wIx (wVar 4) (wC (.int 0))) wNil))) (wCons (wIx (wVar 4) (wC (.int 1))) wNil))))))))))
def w_multiplied (R_signed : FS) : SW :=
 (wSeq (wAsg (wCall R_signed (wCons (wVar 0) (wCons (wVar 1) (wCons (wVar 2) wNil)))) 3)
 (wSeq (wAsg (wLst wNil) 4)
 (wSeq (wWh (wB (wNotN (wVar 3)))
  (wSeq (wDrop (wApp (wVar 4) (wIx (wVar 3) (wC (.int 0)))))
 (wSeq (wAsg (wIx (wVar 3) (wC (.int 1))) 1)
 (wSeq (wIfS (wNot (wB (wCall S_is_sign (wCons (wVar 0) (wCons (wVar 1) (wCons (wC (.str "*")) wNil))))))
  (wRet (wTup (wCons (wIf (wB (wEq (wLen (wVar 4)) (wC (.int 1)))) (wIx (wVar 4) (wC (.int 0))) (wTup (wCons (wC (.str "times")) (wCons (wTupOf (wVar 4)) wNil)))) (wCons (wVar 1) wNil))))
  wNext)
 (wAsg (wCall R_signed (wCons (wVar 0) (wCons (wAdd (wVar 1) (wC (.int 1))) (wCons (wVar 2) wNil)))) 3)))))
 (wRet (wC .none)))))
def w_added (R_multiplied : FS) : SW :=
 (wSeq (wAsg (wCall R_multiplied (wCons (wVar 0) (wCons (wVar 1) (wCons (wVar 2) wNil)))) 3)
 (wSeq (wAsg (wLst wNil) 4)
 (wSeq (wAsg (wC (.str "+")) 5)
 (wSeq (wWh (wB (wNotN (wVar 3)))
  (wSeq (wDrop (wApp (wVar 4) (wTup (wCons (wVar 5) (wCons (wIx (wVar 3) (wC (.int 0))) wNil)))))
 (wSeq (wAsg (wIx (wVar 3) (wC (.int 1))) 1)
 (wSeq (wIfS (wNot (wB (wCall S_is_sign (wCons (wVar 0) (wCons (wVar 1) (wCons (wC (.str "+-")) wNil))))))
  (wRet (wTup (wCons (wIf (wB (wEq (wLen (wVar 4)) (wC (.int 1)))) (wIx (wIx (wVar 4) (wC (.int 0))) (wC (.int 1))) (wTup (wCons (wC (.str "sum")) (wCons (wTupOf (wVar 4)) wNil)))) (wCons (wVar 1) wNil))))
  wNext)
 (wSeq (wAsg (wIx (wIx (wVar 0) (wVar 1)) (wC (.int 1))) 5)
 (wAsg (wCall R_multiplied (wCons (wVar 0) (wCons (wAdd (wVar 1) (wC (.int 1))) (wCons (wVar 2) wNil)))) 3))))))
 (wRet (wC .none))))))
def w_compared (R_added : FS) : SW :=
 (wSeq (wAsg (wCall R_added (wCons (wVar 0) (wCons (wVar 1) (wCons (wVar 2) wNil)))) 3)
 (wSeq (wIfS (wOr (wB (wIsN (wVar 3))) (wNot (wB (wCall S_is_sign (wCons (wVar 0) (wCons (wIx (wVar 3) (wC (.int 1))) (wCons (wC (.str "<=")) wNil)))))))
  (wRet (wVar 3))
  wNext)
 (wSeq (wAsg (wCall R_added (wCons (wVar 0) (wCons (wAdd (wIx (wVar 3) (wC (.int 1))) (wC (.int 1))) (wCons (wVar 2) wNil)))) 4)
 (wSeq (wIfS (wB (wIsN (wVar 4)))
  (wRet (wC .none))
  wNext)
 (wSeq (wAsg (wIf (wB (wEq (wIx (wIx (wVar 0) (wIx (wVar 3) (wC (.int 1)))) (wC (.int 1))) (wC (.str "<")))) (wC (.str "less")) (wC (.str "same"))) 5)
 (wRet (wTup (wCons (wTup (wCons (wVar 5) (wCons (wIx (wVar 3) (wC (.int 0))) (wCons (wIx (wVar 4) (wC (.int 0))) wNil)))) (wCons (wIx (wVar 4) (wC (.int 1))) wNil)))))))))
def w_expression : SW :=
 (wRet (wCall (S_compared 50) (wCons (wVar 0) (wCons (wVar 1) (wCons (wC (.int 6)) wNil)))))

theorem kind_sign {w : List Nat} (hw : WF w) (h : kindS w = "sign") : ∃ c, w = [c] := by
  unfold kindS at h
  by_cases h1 : isLet (w.headD 0) = true
  · rw [if_pos h1] at h
    split at h
    · exact absurd h (by decide +kernel)
    · split at h <;> exact absurd h (by decide +kernel)
  · rw [if_neg h1] at h
    by_cases h2 : isFig (w.headD 0) = true
    · rw [if_pos h2] at h
      split at h <;> exact absurd h (by decide +kernel)
    · have e : grp (w.headD 0) = 0 := by unfold grp; rw [if_neg h1, if_neg h2]
      have l := hw.2.2 e
      match w, l with
      | [c], _ => exact ⟨c, rfl⟩
theorem sg_kind : ∀ c ∈ signsL, kindS [c] = "sign" := by decide +kernel
theorem wds_get (L : List Lf) (a : Nat) : (wds L)[a]? = (L[a]?).map (·.1) := by unfold wds; rw [List.getElem?_map]
theorem isS_sign {W : Wd'} {a : Nat} {w : List Nat} {sg : List Nat} (e : W[a]? = some w) (hs : ∀ c ∈ sg, c ∈ signsL) (h : kindS w ≠ "sign") : isS W a sg = false := by
  unfold isS
  rw [e]
  match w, h with
  | [], _ => rfl
  | [c], h =>
    show decide (c ∈ sg) = false
    rw [decide_eq_false_iff_not]
    exact fun m => h (sg_kind c (hs c m))
  | _ :: _ :: _, _ => rfl
theorem pure_is_sign : ∀ args o ret exc, S_is_sign args o ret exc → w_is_sign (fun x s => exc x (cutL o.length s.o)) (pst0 args o 3) (bodyE o.length ret) := by
  rintro _ _ ret exc ⟨L, a, sg, rfl, rfl, hL, hs, h⟩
  walk_at "go"
  refine br_p (fun q => ?_) (fun q => ?_)
  · have ha : a < (L.map leafD).length := by omega
    have ha' : a < L.length := by simpa using ha
    walk_at "go"
    refine ⟨_, PW.ix_list ha, ?_⟩
    rw [List.getElem_map]
    have hw := hL.1 _ (List.getElem_mem ha')
    have e : (wds L)[a]? = some L[a].1 := by rw [wds_get, List.getElem?_eq_getElem ha']; rfl
    walk_at "go"
    refine br_d (kindS L[a].1 = "sign") (by rw [if_neg (by decide), eqv_strs]; simp) (fun q2 => ?_) (fun q2 => ?_)
    · obtain ⟨c, hc⟩ := kind_sign hw.1 q2
      walk_at "go"
      refine ⟨_, PW.ix_list ha, ?_⟩
      rw [List.getElem_map]
      walk_at "go"
      refine ⟨c, by rw [hc]; rfl, ?_⟩
      unfold isS at h
      rw [e, hc] at h
      exact h
    · rw [isS_sign e hs q2] at h
      exact h
  · unfold isS at h
    rw [wds_get, List.getElem?_eq_none (by simpa using q)] at h
    exact h
theorem c_lp : ("(" : Str).cps.toList = [40] := by decide +kernel
theorem c_rp : (")" : Str).cps.toList = [41] := by decide +kernel
theorem c_lb : ("[" : Str).cps.toList = [91] := by decide +kernel
theorem c_rb : ("]" : Str).cps.toList = [93] := by decide +kernel
theorem c_cm : ("," : Str).cps.toList = [44] := by decide +kernel
theorem c_eq : ("=" : Str).cps.toList = [61] := by decide +kernel
theorem c_mi : ("-" : Str).cps.toList = [45] := by decide +kernel
theorem c_st : ("*" : Str).cps.toList = [42] := by decide +kernel
theorem c_pm : ("+-" : Str).cps.toList = [43, 45] := by decide +kernel
theorem c_le : ("<=" : Str).cps.toList = [60, 61] := by decide +kernel
theorem s_lp : SgOk "(" := by unfold SgOk; decide +kernel
theorem s_rp : SgOk ")" := by unfold SgOk; decide +kernel
theorem s_lb : SgOk "[" := by unfold SgOk; decide +kernel
theorem s_rb : SgOk "]" := by unfold SgOk; decide +kernel
theorem s_cm : SgOk "," := by unfold SgOk; decide +kernel
theorem s_eq : SgOk "=" := by unfold SgOk; decide +kernel
theorem s_mi : SgOk "-" := by unfold SgOk; decide +kernel
theorem s_st : SgOk "*" := by unfold SgOk; decide +kernel
theorem s_pm : SgOk "+-" := by unfold SgOk; decide +kernel
theorem s_le : SgOk "<=" := by unfold SgOk; decide +kernel
end PW

namespace PW
open PySem L2
local macro_rules
  | `(tactic| walk_at "sz") => `(tactic| first | omega | (simp only [tx_len, List.length_append, List.length_map, List.length_cons, List.length_nil, List.length_take, List.length_drop] <;> omega))
  | `(tactic| walk_at "go") => `(tactic| repeat (first | refine ⟨rfl, ?_⟩ | refine ⟨trivial, ?_⟩ | refine ⟨_, rfl, ?_⟩ | refine ⟨_, rfl, rfl, ?_⟩ | refine ⟨_, _, rfl, rfl, ?_⟩ | refine ⟨_, ix_hd, ?_⟩ | refine br_t rfl ?_ | refine br_f rfl ?_ | (refine ⟨le_sz ?_, ?_⟩; focus walk_at "sz") | (refine ⟨lt_sz ?_, ?_⟩; focus walk_at "sz") | (refine ⟨strLe_tx ?_, ?_⟩; focus walk_at "sz") | refine ⟨cmul_r rfl, ?_⟩ | refine ⟨cmul_l rfl, ?_⟩ | refine ⟨pos_ok rfl, ?_⟩ | refine ⟨cdiv_ok rfl, ?_⟩ | refine ⟨_, _, _, _, rfl, rfl, rfl, rfl, ?_⟩ | refine ⟨_, _, rfl, ?_⟩ | refine ⟨_, _, _, rfl, rfl, rfl, ?_⟩ | refine ⟨_, _, _, rfl, rfl, ?_⟩))
theorem isS_true {W : Wd'} {a : Nat} {sg : List Nat} (h : isS W a sg = true) : ∃ c, W[a]? = some [c] ∧ c ∈ sg := by
  unfold isS at h
  split at h
  · rename_i c e
    exact ⟨c, e, of_decide_eq_true h⟩
  · cases h
theorem isS_at {W : Wd'} {a c : Nat} {sg : List Nat} (e : W[a]? = some [c]) : isS W a sg = decide (c ∈ sg) := by unfold isS; rw [e]
theorem wds_at {L : List Lf} {a : Nat} (h : a < L.length) : (wds L)[a]? = some L[a].1 := by rw [wds_get, List.getElem?_eq_getElem h]; rfl
theorem br_tx {l m : List Nat} {s : Str} {A B : Prop} (e : s = tx m) (a : l = m → A) (b : l ≠ m → B) : (PyData.eqv (dT l) (.str s) = true → A) ∧ (PyData.eqv (dT l) (.str s) = false → B) := by
  have e2 : PyData.eqv (dT l) (.str s) = decide (l = m) := by
    rw [eqv_strs, e, Bool.eq_iff_iff]
    simp only [beq_iff_eq, decide_eq_true_eq]
    exact ⟨tx_inj, fun z => by rw [z]⟩
  rw [e2]
  exact br_p a b
theorem x_lt : ("<" : Str) = tx [60] := by decide +kernel
theorem x_not : ("not" : Str) = tx [110, 111, 116] := by decide +kernel
theorem int_pred (r : Nat) : ((r + 1 : Nat) : Int) - 1 = (r : Int) := by omega
theorem pure_expression : ∀ args o ret exc, S_expression args o ret exc → w_expression (fun x s => exc x (cutL o.length s.o)) (pst0 args o 2) (bodyE o.length ret) := by
  rintro _ _ ret exc ⟨L, a, rfl, rfl, hL, h⟩
  walk_at "go"
  exact ⟨hL, by decide, by decide, by decide, h⟩
theorem pure_compared (n : Nat) : ∀ args o ret exc, S_compared (n + 1) args o ret exc → w_compared (S_added n) (fun x s => exc x (cutL o.length s.o)) (pst0 args o 6) (bodyE o.length ret) := by
  rintro _ _ ret exc ⟨L, a, room, rfl, rfl, hL, hr, hn, hn2, h⟩
  rw [cmpF] at h
  walk_at "go"
  refine ⟨hL, hr, by omega, by omega, ?_⟩
  cases e1 : addF (wds L) n a room with
  | none =>
    rw [e1] at h
    walk_at "go"
    exact h
  | some r =>
    obtain ⟨k1, b⟩ := r
    rw [e1] at h
    simp only at h
    walk_at "go"
    refine ⟨hL, s_le, ?_⟩
    rw [c_le]
    cases e2 : isS (wds L) b [60, 61] with
    | false =>
      rw [e2] at h
      walk_at "go"
      exact h
    | true =>
      rw [e2] at h
      walk_at "go"
      refine ⟨hL, hr, by omega, by omega, ?_⟩
      simp only [if_true] at h
      cases e3 : addF (wds L) n (b + 1) room with
      | none =>
        rw [e3] at h
        walk_at "go"
        exact h
      | some r =>
        obtain ⟨k2, c⟩ := r
        rw [e3] at h
        simp only at h
        have hb := isS_lt e2
        have hb' : b < L.length := by simpa [wds] using hb
        walk_at "go"
        refine ⟨_, PW.ix_list (l := L.map leafD) (i := b) (by simpa using hb'), ?_⟩
        rw [List.getElem_map]
        obtain ⟨ch, q1, q2⟩ := isS_true e2
        rw [wds_at hb'] at q1
        have q1 := Option.some.inj q1
        rw [isS_at (c := ch) (by rw [wds_at hb', q1])] at h
        walk_at "go"
        rw [q1]
        refine br_tx x_lt (fun q3 => ?_) (fun q3 => ?_)
        · rw [if_pos (by simpa using q3)] at h
          walk_at "go"
          exact h
        · rw [if_neg (by simpa using q3)] at h
          walk_at "go"
          exact h
def w_sg2 (R_signed : FS) : SW :=
 (wSeq (wAsg (wIf (wB (wGt (wVar 2) (wC (.int 1)))) (wCall R_signed (wCons (wVar 0) (wCons (wAdd (wVar 1) (wC (.int 1))) (wCons (wSub (wVar 2) (wC (.int 1))) wNil)))) (wC .none)) 4)
 (wRet (wIf (wB (wIsN (wVar 4))) (wC .none) (wTup (wCons (wTup (wCons (wVar 3) (wCons (wIx (wVar 4) (wC (.int 0))) wNil))) (wCons (wIx (wVar 4) (wC (.int 1))) wNil))))))
theorem sg2 {n : Nat} {L : List Lf} {a room : Nat} {wd : Str} {kx : KX} {ret : RV → List OC → Prop} (f : Kn → Kn) (hf : ∀ k, knD (f k) = .tuple [.str wd, knD k]) (hL : LvOk L) (hr : room ≤ 6) (hn : 7 * room + 3 ≤ n + 1) (hn2 : n + 1 ≤ 50)
    (h : ret (.d (resD (if room > 1 then (match sgnF (wds L) n (a + 1) (room - 1) with | none => none | some (k, b) => some (f k, b)) else none))) []) :
    w_sg2 (S_signed n) kx ⟨[some (.d (lvD L)), some (.d (.int a)), some (.d (.int room)), some (.d (.str wd)), none], []⟩ (bodyE 0 ret) := by
  unfold w_sg2
  walk_at "go"
  refine br_p (fun q => ?_) (fun q => ?_)
  · rw [if_pos (by omega)] at h
    walk_at "go"
    refine ⟨L, a + 1, room - 1, by rw [show ((room - 1 : Nat) : Int) = (room : Int) - 1 by omega]; rfl, rfl, hL, by omega, by omega, by omega, ?_⟩
    cases e : sgnF (wds L) n (a + 1) (room - 1) with
    | none =>
      rw [e] at h
      walk_at "go"
      exact h
    | some r =>
      obtain ⟨k, b⟩ := r
      rw [e] at h
      simp only [resD] at h
      rw [hf] at h
      walk_at "go"
      exact h
  · rw [if_neg (by omega)] at h
    walk_at "go"
    exact h
theorem pure_signed (n : Nat) : ∀ args o ret exc, S_signed (n + 1) args o ret exc → w_signed (S_signed n) (S_looked n) (fun x s => exc x (cutL o.length s.o)) (pst0 args o 5) (bodyE o.length ret) := by
  rintro _ _ ret exc ⟨L, a, room, rfl, rfl, hL, hr, hn, hn2, h⟩
  rw [sgnF] at h
  walk_at "go"
  refine br_p (fun q => ?_) (fun q => ?_)
  · have ha' : a < L.length := by simpa using q
    have ha : a < (L.map leafD).length := by simpa using q
    have e := wds_at ha'
    walk_at "go"
    refine ⟨_, PW.ix_list ha, ?_⟩
    rw [List.getElem_map]
    walk_at "go"
    refine br_tx x_not (fun q2 => ?_) (fun q2 => ?_)
    · rw [q2] at e
      have e1 : isS (wds L) a [45] = false := by unfold isS; rw [e]
      rw [e1, if_neg (by decide), if_pos e] at h
      walk_at "go"
      refine ⟨hL, s_mi, ?_⟩
      rw [c_mi, e1]
      refine ⟨_, rfl, ?_⟩
      refine br_f rfl ?_
      refine ⟨_, rfl, ?_⟩
      refine ⟨_, rfl, ?_⟩
      refine ⟨_, rfl, ?_⟩
      refine br_f rfl ?_
      exact sg2 .not_ (fun _ => rfl) hL hr hn hn2 h
    · walk_at "go"
      refine ⟨hL, s_mi, ?_⟩
      rw [c_mi]
      cases e1 : isS (wds L) a [45] with
      | true =>
        rw [e1, if_pos rfl] at h
        refine ⟨_, rfl, ?_⟩
        refine br_t rfl ?_
        refine ⟨_, rfl, ?_⟩
        refine ⟨_, rfl, ?_⟩
        refine ⟨_, rfl, ?_⟩
        refine br_f rfl ?_
        exact sg2 .minus (fun _ => rfl) hL hr hn hn2 h
      | false =>
        rw [e1, if_neg (by decide), if_neg (by rw [e]; simpa using q2)] at h
        walk_at "go"
        exact ⟨hL, hr, by omega, by omega, h⟩
  · have e : (wds L)[a]? = none := by rw [wds_get, List.getElem?_eq_none (by simpa using q)]; rfl
    have e1 : isS (wds L) a [45] = false := by unfold isS; rw [e]
    rw [e1, if_neg (by decide), if_neg (by rw [e]; simp)] at h
    walk_at "go"
    refine ⟨hL, s_mi, ?_⟩
    rw [c_mi, e1]
    walk_at "go"
    exact ⟨hL, hr, by omega, by omega, h⟩
end PW

namespace PW
open PySem L2
local macro_rules
  | `(tactic| walk_at "sz") => `(tactic| first | omega | (simp only [tx_len, List.length_append, List.length_map, List.length_cons, List.length_nil, List.length_take, List.length_drop] <;> omega))
  | `(tactic| walk_at "go") => `(tactic| repeat (first | refine ⟨rfl, ?_⟩ | refine ⟨trivial, ?_⟩ | refine ⟨_, rfl, ?_⟩ | refine ⟨_, rfl, rfl, ?_⟩ | refine ⟨_, _, rfl, rfl, ?_⟩ | refine ⟨_, ix_hd, ?_⟩ | refine br_t rfl ?_ | refine br_f rfl ?_ | (refine ⟨le_sz ?_, ?_⟩; focus walk_at "sz") | (refine ⟨lt_sz ?_, ?_⟩; focus walk_at "sz") | (refine ⟨strLe_tx ?_, ?_⟩; focus walk_at "sz") | refine ⟨cmul_r rfl, ?_⟩ | refine ⟨cmul_l rfl, ?_⟩ | refine ⟨pos_ok rfl, ?_⟩ | refine ⟨cdiv_ok rfl, ?_⟩ | refine ⟨_, _, _, _, rfl, rfl, rfl, rfl, ?_⟩ | refine ⟨_, _, rfl, ?_⟩ | refine ⟨_, _, _, rfl, rfl, rfl, ?_⟩ | refine ⟨_, _, _, rfl, rfl, ?_⟩))
theorem knsD_app (l m : List Kn) : knsD (l ++ m) = knsD l ++ knsD m := by rw [knsD_map, knsD_map, knsD_map, List.map_append]
theorem knsD_snoc (l : List Kn) (k : Kn) : knsD (l ++ [k]) = knsD l ++ [knD k] := by rw [knsD_app]; rfl
theorem wds_len (L : List Lf) : (wds L).length = L.length := by unfold wds; rw [List.length_map]
theorem zipS_snoc : ∀ (ss : List Bool) (xs : List PyData) (s : Bool) (x : PyData), ss.length = xs.length → zipS (ss ++ [s]) (xs ++ [x]) = zipS ss xs ++ [.tuple [sgD s, x]]
  | [], [], s, x, _ => rfl
  | b :: ss, y :: xs, s, x, h => by
    show _ :: zipS (ss ++ [s]) (xs ++ [x]) = _
    rw [zipS_snoc ss xs s x (by simpa using h)]
    rfl
  | [], _ :: _, _, _, h => by simp at h
  | _ :: _, [], _, _, h => by simp at h
theorem zipS_len : ∀ (ss : List Bool) (xs : List PyData), ss.length = xs.length → (zipS ss xs).length = xs.length
  | [], [], _ => rfl
  | b :: ss, y :: xs, h => congrArg Nat.succ (zipS_len ss xs (by simpa using h))
  | [], _ :: _, h => by simp at h
  | _ :: _, [], h => by simp at h
theorem good_sgn {W : Wd'} {n room a b : Nat} {k : Kn} (h : sgnF W n a room = some (k, b)) : a < b ∧ b ≤ W.length := by
  obtain ⟨_, _, g, l⟩ := (good_all W n).2.2.2.1 a room k b h
  have := szK_pos k
  exact ⟨by omega, l⟩
theorem good_mul {W : Wd'} {n room a b : Nat} {k : Kn} (h : mulF W n a room = some (k, b)) : a < b ∧ b ≤ W.length := by
  obtain ⟨_, _, g, l⟩ := (good_all W n).2.2.2.2.1 a room k b h
  have := szK_pos k
  exact ⟨by omega, l⟩
theorem good_cmp {W : Wd'} {n room a b : Nat} {k : Kn} (h : cmpF W n a room = some (k, b)) : a < b ∧ b ≤ W.length := by
  obtain ⟨_, _, g, l⟩ := (good_all W n).2.2.2.2.2.2 a room k b h
  have := szK_pos k
  exact ⟨by omega, l⟩
theorem pure_multiplied (n : Nat) : ∀ args o ret exc, S_multiplied (n + 1) args o ret exc → w_multiplied (S_signed n) (fun x s => exc x (cutL o.length s.o)) (pst0 args o 5) (bodyE o.length ret) := by
  rintro _ _ ret exc ⟨L, a, room, rfl, rfl, hL, hr, hn, hn2, h⟩
  have hWl : (wds L).length ≤ 2000 := by rw [wds_len]; exact hL.2
  rw [mulF] at h
  walk_at "go"
  refine ⟨hL, hr, by omega, by omega, ?_⟩
  generalize hR : mulL (wds L) (fun x => sgnF (wds L) n x room) ((wds L).length + 1) a [] = R at h
  walk_at "go"
  refine ⟨fun m s => ∃ (a1 : Nat) (a' : Nat) (acc : List Kn), s = ⟨[some (.d (lvD L)), some (.d (.int a1)), some (.d (.int room)), some (.d (resD (sgnF (wds L) n a' room))), some (.own 0)], [.dl (knsD acc)]⟩ ∧ mulL (wds L) (fun x => sgnF (wds L) n x room) m a' acc = R ∧ (wds L).length + 1 ≤ m + a' ∧ acc.length + m = (wds L).length + 1,
    ⟨(wds L).length + 1, a, a, [], rfl, hR, by omega, by simp⟩, ?_⟩
  rintro m s ⟨a1, a', acc, rfl, hm, hb, hc⟩
  cases e : sgnF (wds L) n a' room with
  | none =>
    have eR : R = none := by
      cases m with
      | zero => exact hm.symm
      | succ m => rw [mulL] at hm; simp only [e] at hm; exact hm.symm
    rw [eR] at h
    walk_at "go"
    exact h
  | some r =>
    obtain ⟨k, b⟩ := r
    have hg := good_sgn e
    obtain ⟨m', rfl⟩ : ∃ m', m = m' + 1 := ⟨m - 1, by omega⟩
    rw [mulL] at hm
    simp only [e] at hm
    have hacc : (knsD acc).length ≤ 2001 := by rw [knsD_len]; omega
    walk_at "go"
    refine ⟨hL, s_st, ?_⟩
    rw [c_st]
    cases e2 : isS (wds L) b [42] with
    | true =>
      rw [e2, if_pos rfl] at hm
      walk_at "go"
      refine ⟨hL, hr, by omega, by omega, ?_⟩
      refine ⟨m', by omega, .inl ⟨b, b + 1, acc ++ [k], ?_, hm, by omega, by rw [List.length_append]; simp; omega⟩⟩
      rw [knsD_snoc]
      rfl
    | false =>
      rw [e2, if_neg (by decide)] at hm
      rw [← hm] at h
      walk_at "go"
      refine br_eqI (fun q => ?_) (fun q => ?_)
      · cases acc with
        | nil =>
          walk_at "go"
          exact h
        | cons x r => simp [knsD_len] at q; omega
      · cases acc with
        | nil => simp [knsD] at q
        | cons x r =>
          have ej : joinW .times ((x :: r) ++ [k]) = .times ((x :: r) ++ [k]) := by cases r <;> rfl
          rw [ej] at h
          walk_at "go"
          refine ⟨_, .inl rfl, ?_⟩
          walk_at "go"
          rw [resD, knD, knsD_snoc] at h
          exact h
theorem sg_word {W : Wd'} {b c : Nat} (e : W[b]? = some [c]) (h : c ∈ [43, 45]) : sgD (isS W b [43]) = dT [c] := by
  rw [isS_at e]
  simp only [List.mem_cons, List.not_mem_nil, or_false] at h
  rcases h with rfl | rfl
  · show PyData.str "+" = dT [43]
    rw [show ("+" : Str) = tx [43] by decide +kernel]
  · show PyData.str "-" = dT [45]
    rw [show ("-" : Str) = tx [45] by decide +kernel]
theorem pure_added (n : Nat) : ∀ args o ret exc, S_added (n + 1) args o ret exc → w_added (S_multiplied n) (fun x s => exc x (cutL o.length s.o)) (pst0 args o 6) (bodyE o.length ret) := by
  rintro _ _ ret exc ⟨L, a, room, rfl, rfl, hL, hr, hn, hn2, h⟩
  have hWl : (wds L).length ≤ 2000 := by rw [wds_len]; exact hL.2
  rw [addF] at h
  walk_at "go"
  refine ⟨hL, hr, by omega, by omega, ?_⟩
  generalize hR : addL (wds L) (fun x => mulF (wds L) n x room) ((wds L).length + 1) a true [] [] = R at h
  walk_at "go"
  refine ⟨fun m s => ∃ (a1 : Nat) (a' : Nat) (sg : Bool) (ss : List Bool) (acc : List Kn), s = ⟨[some (.d (lvD L)), some (.d (.int a1)), some (.d (.int room)), some (.d (resD (mulF (wds L) n a' room))), some (.own 0), some (.d (sgD sg))], [.dl (zipS ss (knsD acc))]⟩ ∧ ss.length = acc.length ∧ addL (wds L) (fun x => mulF (wds L) n x room) m a' sg ss acc = R ∧ (wds L).length + 1 ≤ m + a' ∧ acc.length + m = (wds L).length + 1,
    ⟨(wds L).length + 1, a, a, true, [], [], rfl, rfl, hR, by omega, by simp⟩, ?_⟩
  rintro m s ⟨a1, a', sg, ss, acc, rfl, hss, hm, hb, hc⟩
  cases e : mulF (wds L) n a' room with
  | none =>
    have eR : R = none := by
      cases m with
      | zero => exact hm.symm
      | succ m => rw [addL] at hm; simp only [e] at hm; exact hm.symm
    rw [eR] at h
    walk_at "go"
    exact h
  | some r =>
    obtain ⟨k, b⟩ := r
    have hg := good_mul e
    obtain ⟨m', rfl⟩ : ∃ m', m = m' + 1 := ⟨m - 1, by omega⟩
    rw [addL] at hm
    simp only [e] at hm
    have hz : ss.length = (knsD acc).length := by rw [knsD_len]; exact hss
    have hacc : (zipS ss (knsD acc)).length ≤ 2001 := by rw [zipS_len _ _ hz, knsD_len]; omega
    have esn : zipS ss (knsD acc) ++ [.tuple [sgD sg, knD k]] = zipS (ss ++ [sg]) (knsD (acc ++ [k])) := by rw [knsD_snoc, zipS_snoc _ _ _ _ hz]
    walk_at "go"
    refine ⟨hL, s_pm, ?_⟩
    rw [c_pm]
    cases e2 : isS (wds L) b [43, 45] with
    | true =>
      rw [e2, if_pos rfl] at hm
      obtain ⟨ch, q1, q2⟩ := isS_true e2
      have hb' : b < L.length := by have := isS_lt e2; rw [wds_len] at this; exact this
      have hw := sg_word q1 q2
      rw [wds_at hb'] at q1
      have q1 := Option.some.inj q1
      walk_at "go"
      refine ⟨_, PW.ix_list (l := L.map leafD) (i := b) (by simpa using hb'), ?_⟩
      rw [List.getElem_map]
      walk_at "go"
      refine ⟨hL, hr, by omega, by omega, ?_⟩
      refine ⟨m', by omega, .inl ⟨b, b + 1, isS (wds L) b [43], ss ++ [sg], acc ++ [k], ?_, by simp [hss], hm, by omega, by rw [List.length_append]; simp; omega⟩⟩
      rw [← esn, hw, ← q1]
      rfl
    | false =>
      rw [e2, if_neg (by decide)] at hm
      rw [← hm] at h
      walk_at "go"
      refine br_eqI (fun q => ?_) (fun q => ?_)
      · cases acc with
        | nil =>
          cases ss with
          | cons _ _ => simp at hss
          | nil =>
            walk_at "go"
            exact h
        | cons x r => simp [zipS_len _ _ hz, knsD_len] at q; omega
      · cases acc with
        | nil =>
          cases ss with
          | cons _ _ => simp at hss
          | nil => simp [zipS, knsD] at q
        | cons x r =>
          have ej : sumOf (ss ++ [sg]) ((x :: r) ++ [k]) = .sum (ss ++ [sg]) ((x :: r) ++ [k]) := by cases r <;> rfl
          rw [ej] at h
          walk_at "go"
          refine ⟨_, .inl rfl, ?_⟩
          walk_at "go"
          rw [esn]
          rw [resD, knD] at h
          exact h
end PW

namespace PW
open PySem L2
local macro_rules
  | `(tactic| walk_at "sz") => `(tactic| first | omega | (simp only [tx_len, List.length_append, List.length_map, List.length_cons, List.length_nil, List.length_take, List.length_drop] <;> omega))
  | `(tactic| walk_at "go") => `(tactic| repeat (first | refine ⟨rfl, ?_⟩ | refine ⟨trivial, ?_⟩ | refine ⟨_, rfl, ?_⟩ | refine ⟨_, rfl, rfl, ?_⟩ | refine ⟨_, _, rfl, rfl, ?_⟩ | refine ⟨_, ix_hd, ?_⟩ | refine br_t rfl ?_ | refine br_f rfl ?_ | (refine ⟨le_sz ?_, ?_⟩; focus walk_at "sz") | (refine ⟨lt_sz ?_, ?_⟩; focus walk_at "sz") | (refine ⟨strLe_tx ?_, ?_⟩; focus walk_at "sz") | refine ⟨cmul_r rfl, ?_⟩ | refine ⟨cmul_l rfl, ?_⟩ | refine ⟨pos_ok rfl, ?_⟩ | refine ⟨cdiv_ok rfl, ?_⟩ | refine ⟨_, _, _, _, rfl, rfl, rfl, rfl, ?_⟩ | refine ⟨_, _, rfl, ?_⟩ | refine ⟨_, _, _, rfl, rfl, rfl, ?_⟩ | refine ⟨_, _, _, rfl, rfl, ?_⟩))
theorem sg_cl {cl : Nat} (h : cl = 41 ∨ cl = 93) : SgOk (tx [cl]) := by
  rcases h with rfl | rfl
  · unfold SgOk; decide +kernel
  · unfold SgOk; decide +kernel
theorem pure_several (n : Nat) : ∀ args o ret exc, S_several (n + 1) args o ret exc → w_several (S_compared n) (fun x s => exc x (cutL o.length s.o)) (pst0 args o 6) (bodyE o.length ret) := by
  rintro _ _ ret exc ⟨L, a, room, cl, rfl, rfl, hL, hcl, hr, hn, hn2, h⟩
  have hWl : (wds L).length ≤ 2000 := by rw [wds_len]; exact hL.2
  have hsg := sg_cl hcl
  rw [sevF] at h
  walk_at "go"
  refine ⟨hL, hsg, ?_⟩
  rw [tx_cps]
  cases e0 : isS (wds L) a [cl] with
  | true =>
    rw [e0, if_pos rfl] at h
    walk_at "go"
    exact h
  | false =>
    rw [e0, if_neg (by decide)] at h
    generalize hR : sevL (wds L) (fun x => cmpF (wds L) n x room) cl ((wds L).length + 1) a [] = R at h
    walk_at "go"
    refine ⟨fun m s => ∃ (a' : Nat) (acc : List Kn) (x5 : Option PV), s = ⟨[some (.d (lvD L)), some (.d (.int a')), some (.d (.int room)), some (.d (dT [cl])), some (.own 0), x5], [.dl (knsD acc)]⟩ ∧ sevL (wds L) (fun x => cmpF (wds L) n x room) cl m a' acc = R ∧ (wds L).length + 1 ≤ m + a' ∧ acc.length + m = (wds L).length + 1,
      ⟨(wds L).length + 1, a, [], none, rfl, hR, by omega, by simp⟩, ?_⟩
    rintro m s ⟨a', acc, x5, rfl, hm, hb, hc⟩
    walk_at "go"
    refine ⟨hL, hr, by omega, by omega, ?_⟩
    cases e : cmpF (wds L) n a' room with
    | none =>
      have eR : R = none := by
        cases m with
        | zero => exact hm.symm
        | succ m => rw [sevL] at hm; simp only [e] at hm; exact hm.symm
      rw [eR] at h
      walk_at "go"
      exact h
    | some r =>
      obtain ⟨k, b⟩ := r
      have hg := good_cmp e
      obtain ⟨m', rfl⟩ : ∃ m', m = m' + 1 := ⟨m - 1, by omega⟩
      rw [sevL] at hm
      simp only [e] at hm
      have hacc : (knsD acc).length ≤ 2001 := by rw [knsD_len]; omega
      walk_at "go"
      refine ⟨hL, hsg, ?_⟩
      rw [tx_cps]
      cases e2 : isS (wds L) b [cl] with
      | true =>
        rw [e2, if_pos rfl] at hm
        rw [← hm, sevD, knsD_snoc] at h
        walk_at "go"
        exact h
      | false =>
        rw [e2, if_neg (by decide)] at hm
        walk_at "go"
        refine ⟨hL, s_cm, ?_⟩
        rw [c_cm]
        cases e3 : isS (wds L) b [44] with
        | true =>
          rw [e3, if_pos rfl] at hm
          walk_at "go"
          refine ⟨m', by omega, .inl ⟨b + 1, acc ++ [k], some (.d (resD (some (k, b)))), ?_, hm, by omega, by rw [List.length_append]; simp; omega⟩⟩
          rw [knsD_snoc]
          rfl
        | false =>
          rw [e3, if_neg (by decide)] at hm
          rw [← hm] at h
          walk_at "go"
          exact h
theorem isS_one {W : Wd'} {a c : Nat} {w : List Nat} (e : W[a]? = some w) : isS W a [c] = decide (w = [c]) := by
  unfold isS
  rw [e]
  match w with
  | [] => rfl
  | [d] =>
    show decide (d ∈ [c]) = decide ([d] = [c])
    simp
  | _ :: _ :: _ => simp
theorem kind_num {w : List Nat} (hw : WF w) (hr : Run2 w) (h : kindS w = "number") : PySem.intText? (tx w) = some ((valW w : Nat) : Int) ∧ (tx w).length ≤ 640 := by
  have hl : isFig (w.headD 0) = true ∧ w.length ≤ 6 := by
    unfold kindS at h
    by_cases h1 : isLet (w.headD 0) = true
    · rw [if_pos h1] at h
      split at h
      · exact absurd h (by decide +kernel)
      · split at h <;> exact absurd h (by decide +kernel)
    · rw [if_neg h1] at h
      by_cases h2 : isFig (w.headD 0) = true
      · refine ⟨h2, ?_⟩
        rw [if_pos h2] at h
        split at h
        · rename_i hh; exact hh.1
        · exact absurd h (by decide +kernel)
      · rw [if_neg h2] at h
        split at h <;> exact absurd h (by decide +kernel)
  have hz : (tx w).length ≤ 640 := by rw [tx_len]; omega
  refine ⟨?_, hz⟩
  have hd : NumText.AllDigits (tx w).cps.toList := fun c m => by
    have := hr hl.1 c m
    unfold isFig at this
    simp only [Bool.and_eq_true, decide_eq_true_eq] at this
    exact this
  exact PySem.intText_digits hd hw.1 (by omega)
theorem x_rb : (PyData.str "]") = dT [93] := by show PyData.str _ = PyData.str _; rw [show ("]" : Str) = tx [93] by decide +kernel]
theorem pure_begun (n : Nat) : ∀ args o ret exc, S_begun (n + 1) args o ret exc → w_begun (S_several n) (S_compared n) (fun x s => exc x (cutL o.length s.o)) (pst0 args o 8) (bodyE o.length ret) := by
  rintro _ _ ret exc ⟨L, a, room, rfl, rfl, hL, hr, hn, hn2, h⟩
  rw [begF] at h
  walk_at "go"
  refine br_p (fun q => ?_) (fun q => ?_)
  · rw [wds_get, List.getElem?_eq_none (by simp at q; omega)] at h
    walk_at "go"
    exact h
  have ha' : a < L.length := by simp at q; omega
  have ha : a < (L.map leafD).length := by simpa using ha'
  have e := wds_at ha'
  have hw := hL.1 _ (List.getElem_mem ha')
  rw [e] at h
  simp only at h
  walk_at "go"
  refine br_p (fun q2 => ?_) (fun q2 => ?_)
  · rw [if_pos (by omega)] at h
    walk_at "go"
    exact h
  rw [if_neg (by omega)] at h
  walk_at "go"
  refine ⟨_, PW.ix_list ha, ?_⟩
  rw [List.getElem_map]
  generalize hwd : L[a] = lf at h hw e ⊢
  obtain ⟨w, p⟩ := lf
  simp only at h hw e
  walk_at "go"
  refine br_d (kindS w = "number") (by rw [if_neg (by decide), eqv_strs]; simp) (fun q3 => ?_) (fun q3 => ?_)
  · obtain ⟨z1, z2⟩ := kind_num hw.1 hw.2.1 q3
    rw [if_pos q3] at h
    walk_at "go"
    refine ⟨_, _, rfl, z1, z2, ?_⟩
    walk_at "go"
    exact h
  rw [if_neg q3] at h
  walk_at "go"
  refine br_d (kindS w = "name") (by rw [if_neg (by decide), eqv_strs]; simp) (fun q4 => ?_) (fun q4 => ?_)
  · rw [if_pos q4] at h
    walk_at "go"
    exact h
  rw [if_neg q4] at h
  walk_at "go"
  refine ⟨hL, s_lp, ?_⟩
  rw [c_lp, isS_one e]
  have er : ((room - 1 : Nat) : Int) = (room : Int) - 1 := by omega
  walk_at "go"
  refine br_p (fun q5 => ?_) (fun q5 => ?_)
  · rw [if_pos q5] at h
    walk_at "go"
    refine ⟨L, a + 1, room - 1, by rw [er]; rfl, rfl, hL, by omega, by omega, by omega, ?_⟩
    cases e1 : cmpF (wds L) n (a + 1) (room - 1) with
    | none =>
      rw [e1] at h
      walk_at "go"
      exact h
    | some r =>
      obtain ⟨k, b⟩ := r
      rw [e1] at h
      simp only at h
      walk_at "go"
      refine ⟨hL, s_rp, ?_⟩
      rw [c_rp]
      cases e2 : isS (wds L) b [41] with
      | true =>
        rw [e2, if_pos rfl] at h
        walk_at "go"
        exact h
      | false =>
        rw [e2, if_neg (by decide)] at h
        walk_at "go"
        exact h
  rw [if_neg q5] at h
  walk_at "go"
  refine ⟨hL, s_lb, ?_⟩
  rw [c_lb, isS_one e]
  walk_at "go"
  refine br_p (fun q6 => ?_) (fun q6 => ?_)
  · rw [if_pos q6] at h
    walk_at "go"
    refine ⟨L, a + 1, room - 1, 93, by rw [er, ← x_rb]; rfl, rfl, hL, .inr rfl, by omega, by omega, by omega, ?_⟩
    cases e1 : sevF (wds L) n (a + 1) (room - 1) 93 with
    | none =>
      rw [e1] at h
      walk_at "go"
      exact h
    | some r =>
      obtain ⟨l, b⟩ := r
      rw [e1] at h
      walk_at "go"
      refine ⟨_, .inl rfl, ?_⟩
      walk_at "go"
      exact h
  · rw [if_neg q6] at h
    walk_at "go"
    exact h
end PW

namespace PW
open PySem L2
local macro_rules
  | `(tactic| walk_at "sz") => `(tactic| first | omega | (simp only [tx_len, List.length_append, List.length_map, List.length_cons, List.length_nil, List.length_take, List.length_drop] <;> omega))
  | `(tactic| walk_at "go") => `(tactic| repeat (first | refine ⟨rfl, ?_⟩ | refine ⟨trivial, ?_⟩ | refine ⟨_, rfl, ?_⟩ | refine ⟨_, rfl, rfl, ?_⟩ | refine ⟨_, _, rfl, rfl, ?_⟩ | refine ⟨_, ix_hd, ?_⟩ | refine br_t rfl ?_ | refine br_f rfl ?_ | (refine ⟨le_sz ?_, ?_⟩; focus walk_at "sz") | (refine ⟨lt_sz ?_, ?_⟩; focus walk_at "sz") | (refine ⟨strLe_tx ?_, ?_⟩; focus walk_at "sz") | refine ⟨cmul_r rfl, ?_⟩ | refine ⟨cmul_l rfl, ?_⟩ | refine ⟨pos_ok rfl, ?_⟩ | refine ⟨cdiv_ok rfl, ?_⟩ | refine ⟨_, _, _, _, rfl, rfl, rfl, rfl, ?_⟩ | refine ⟨_, _, rfl, ?_⟩ | refine ⟨_, _, _, rfl, rfl, rfl, ?_⟩ | refine ⟨_, _, _, rfl, rfl, ?_⟩))
/-! ### knots can be laid out and compared -/
def LayD (m : Nat) (x : PyData) : Prop := x.canLay0 = true ∧ x.depth ≤ m
theorem LayD.mono {m m' : Nat} {x : PyData} (h : LayD m x) (e : m ≤ m') : LayD m' x := ⟨h.1, Nat.le_trans h.2 e⟩
theorem layD_all {m : Nat} : ∀ {xs : List PyData}, (∀ x ∈ xs, LayD m x) → PyData.canLayAll0 xs = true ∧ PyData.depthAll xs ≤ m
  | [], _ => ⟨rfl, Nat.zero_le _⟩
  | x :: r, h => by
    obtain ⟨a, b⟩ := layD_all fun y z => h y (List.mem_cons_of_mem _ z)
    obtain ⟨c, d⟩ := h x List.mem_cons_self
    exact ⟨by rw [PyData.canLayAll0, c, a]; rfl, by rw [PyData.depthAll]; exact Nat.max_le.mpr ⟨d, b⟩⟩
theorem LayD.tup {m : Nat} {xs : List PyData} (h : ∀ x ∈ xs, LayD m x) : LayD (m + 1) (.tuple xs) := by
  obtain ⟨a, b⟩ := layD_all h
  exact ⟨by rw [PyData.canLay0]; exact a, by rw [PyData.depth]; omega⟩
theorem LayD.lst {m : Nat} {xs : List PyData} (h : ∀ x ∈ xs, LayD m x) : LayD (m + 1) (.list xs) := by
  obtain ⟨a, b⟩ := layD_all h
  exact ⟨by rw [PyData.canLay0]; exact a, by rw [PyData.depth]; omega⟩
theorem LayD.int {m : Nat} (i : Int) : LayD m (.int i) := ⟨rfl, Nat.zero_le _⟩
theorem LayD.str {m : Nat} {s : Str} (h : (PyData.str s).canLay0 = true) : LayD m (.str s) := ⟨h, Nat.zero_le _⟩
theorem LayD.shaped {m : Nat} {x : PyData} (h : LayD m x) (e : m ≤ 64) : SeqAt.shaped x = true := by
  unfold SeqAt.shaped
  rw [h.1, Bool.true_and, decide_eq_true_eq]
  exact Nat.le_trans h.2 e
theorem l1 {m : Nat} {a b : PyData} (h : LayD m a) (g : LayD m b) : ∀ x ∈ [a, b], LayD m x := fun x q => by
  simp only [List.mem_cons, List.not_mem_nil, or_false] at q
  rcases q with rfl | rfl
  · exact h
  · exact g
theorem l3 {m : Nat} {a b c : PyData} (h : LayD m a) (g : LayD m b) (f : LayD m c) : ∀ x ∈ [a, b, c], LayD m x := fun x q => by
  simp only [List.mem_cons, List.not_mem_nil, or_false] at q
  rcases q with rfl | rfl | rfl
  · exact h
  · exact g
  · exact f
abbrev LayK (m : Nat) (k : Kn) : Prop := LayD m (knD k)
theorem lay_kns {m : Nat} {l : List Kn} (h : ∀ a ∈ l, LayK m a) : ∀ x ∈ knsD l, LayD m x := fun x q => by
  rw [knsD_map] at q
  obtain ⟨a, ha, rfl⟩ := List.mem_map.mp q
  exact h a ha
theorem lay_zip {m : Nat} : ∀ (ss : List Bool) {xs : List PyData}, (∀ x ∈ xs, LayD m x) → ∀ x ∈ zipS ss xs, LayD (m + 1) x
  | [], xs, _, x, q => by cases xs <;> exact nomatch q
  | b :: ss, [], _, x, q => nomatch q
  | b :: ss, y :: xs, h, x, q => by
    rcases List.mem_cons.mp q with e | q
    · rw [e]
      refine LayD.tup (l1 ?_ (h y List.mem_cons_self))
      cases b
      · exact LayD.str (by decide +kernel)
      · exact LayD.str (by decide +kernel)
    · exact lay_zip ss (fun z w => h z (List.mem_cons_of_mem _ w)) x q
theorem lay_num (n : Nat) : LayK 1 (.num n) := LayD.tup (m := 0) (l1 (LayD.str (by decide +kernel)) (LayD.int _))
theorem lay_name {w : List Nat} (h : gdT w) (k : Nat) : LayK 1 (.name w k) := LayD.tup (m := 0) (l3 (LayD.str (by decide +kernel)) (LayD.str h.ok) (LayD.int _))
theorem lay_br {m : Nat} {a : Kn} (h : LayK m a) : LayK (m + 1) (.br a) := LayD.tup (l1 (LayD.str (by decide +kernel)) h)
theorem lay_not {m : Nat} {a : Kn} (h : LayK m a) : LayK (m + 1) (.not_ a) := LayD.tup (l1 (LayD.str (by decide +kernel)) h)
theorem lay_minus {m : Nat} {a : Kn} (h : LayK m a) : LayK (m + 1) (.minus a) := LayD.tup (l1 (LayD.str (by decide +kernel)) h)
theorem lay_row {m : Nat} {l : List Kn} (h : ∀ a ∈ l, LayK m a) : LayK (m + 2) (.row l) := LayD.tup (l1 (LayD.str (by decide +kernel)) (LayD.tup (lay_kns h)))
theorem lay_times {m : Nat} {l : List Kn} (h : ∀ a ∈ l, LayK m a) : LayK (m + 2) (.times l) := LayD.tup (l1 (LayD.str (by decide +kernel)) (LayD.tup (lay_kns h)))
theorem lay_sum {m : Nat} {s : List Bool} {l : List Kn} (h : ∀ a ∈ l, LayK m a) : LayK (m + 3) (.sum s l) := LayD.tup (l1 (LayD.str (by decide +kernel)) (LayD.tup (lay_zip s (lay_kns h))))
theorem lay_look {m : Nat} {a : Kn} {l : List Kn} (g : LayK (m + 1) a) (h : ∀ a ∈ l, LayK m a) : LayK (m + 2) (.look a l) := LayD.tup (l3 (LayD.str (by decide +kernel)) g (LayD.tup (lay_kns h)))
theorem lay_less {m : Nat} {a b : Kn} (h : LayK m a) (g : LayK m b) : LayK (m + 1) (.less a b) := LayD.tup (l3 (LayD.str (by decide +kernel)) h g)
theorem lay_same {m : Nat} {a b : Kn} (h : LayK m a) (g : LayK m b) : LayK (m + 1) (.same a b) := LayD.tup (l3 (LayD.str (by decide +kernel)) h g)
def AllL (m : Nat) (f : Nat → Res) : Prop := ∀ a k b, f a = some (k, b) → LayK m k
theorem lay_snoc {m : Nat} {acc : List Kn} {k : Kn} (h : ∀ a ∈ acc, LayK m a) (g : LayK m k) : ∀ a ∈ acc ++ [k], LayK m a := fun a q => by
  rcases List.mem_append.mp q with q | q
  · exact h a q
  · rw [List.mem_singleton] at q
    rw [q]; exact g
theorem mulL_lay {m : Nat} {W : Wd'} {f : Nat → Res} (hf : AllL m f) : ∀ (z a : Nat) (acc : List Kn) (k : Kn) (b : Nat), (∀ a ∈ acc, LayK m a) → mulL W f z a acc = some (k, b) → LayK (m + 2) k
  | 0, a, acc, k, b, _, h => by simp [mulL] at h
  | z + 1, a, acc, k, b, h1, h => by
    rw [mulL] at h
    cases hk : f a with
    | none => rw [hk] at h; cases h
    | some r =>
      obtain ⟨k1, b1⟩ := r
      rw [hk] at h
      have g := hf a k1 b1 hk
      simp only at h
      split at h
      · exact mulL_lay hf z (b1 + 1) _ k b (lay_snoc h1 g) h
      · simp only [Option.some.injEq, Prod.mk.injEq] at h
        obtain ⟨rfl, rfl⟩ := h
        cases acc with
        | nil => exact LayD.mono g (by omega)
        | cons x r =>
          have e : joinW .times ((x :: r) ++ [k1]) = .times ((x :: r) ++ [k1]) := by cases r <;> rfl
          rw [e]
          exact lay_times (lay_snoc h1 g)
theorem addL_lay {m : Nat} {W : Wd'} {f : Nat → Res} (hf : AllL m f) : ∀ (z a : Nat) (s : Bool) (ss : List Bool) (acc : List Kn) (k : Kn) (b : Nat), (∀ a ∈ acc, LayK m a) → addL W f z a s ss acc = some (k, b) → LayK (m + 3) k
  | 0, a, s, ss, acc, k, b, _, h => by simp [addL] at h
  | z + 1, a, s, ss, acc, k, b, h1, h => by
    rw [addL] at h
    cases hk : f a with
    | none => rw [hk] at h; cases h
    | some r =>
      obtain ⟨k1, b1⟩ := r
      rw [hk] at h
      have g := hf a k1 b1 hk
      simp only at h
      split at h
      · exact addL_lay hf z (b1 + 1) _ _ _ k b (lay_snoc h1 g) h
      · simp only [Option.some.injEq, Prod.mk.injEq] at h
        obtain ⟨rfl, rfl⟩ := h
        cases acc with
        | nil => exact LayD.mono g (by omega)
        | cons x r =>
          have e : sumOf (ss ++ [s]) ((x :: r) ++ [k1]) = .sum (ss ++ [s]) ((x :: r) ++ [k1]) := by cases r <;> rfl
          rw [e]
          exact lay_sum (lay_snoc h1 g)
theorem lokL_lay {m : Nat} {W : Wd'} {f : Nat → Res} (hf : AllL m f) : ∀ (z a : Nat) (acc l : List Kn) (b : Nat), (∀ a ∈ acc, LayK m a) → lokL W f z a acc = some (l, b) → ∀ a ∈ l, LayK m a
  | 0, a, acc, l, b, _, h => by simp [lokL] at h
  | z + 1, a, acc, l, b, h1, h => by
    rw [lokL] at h
    split at h
    · cases hk : f (a + 1) with
      | none => rw [hk] at h; cases h
      | some r =>
        obtain ⟨k1, b1⟩ := r
        rw [hk] at h
        have g := hf (a + 1) k1 b1 hk
        simp only at h
        split at h
        · exact lokL_lay hf z (b1 + 1) _ l b (lay_snoc h1 g) h
        · cases h
    · simp only [Option.some.injEq, Prod.mk.injEq] at h
      obtain ⟨rfl, rfl⟩ := h
      exact h1
theorem sevL_lay {m : Nat} {W : Wd'} {f : Nat → Res} {cl : Nat} (hf : AllL m f) : ∀ (z a : Nat) (acc l : List Kn) (b : Nat), (∀ a ∈ acc, LayK m a) → sevL W f cl z a acc = some (l, b) → ∀ a ∈ l, LayK m a
  | 0, a, acc, l, b, _, h => by simp [sevL] at h
  | z + 1, a, acc, l, b, h1, h => by
    rw [sevL] at h
    cases hk : f a with
    | none => rw [hk] at h; cases h
    | some r =>
      obtain ⟨k1, b1⟩ := r
      rw [hk] at h
      have g := hf a k1 b1 hk
      simp only at h
      split at h
      · simp only [Option.some.injEq, Prod.mk.injEq] at h
        obtain ⟨rfl, rfl⟩ := h
        exact lay_snoc h1 g
      · split at h
        · exact sevL_lay hf z (b1 + 1) _ l b (lay_snoc h1 g) h
        · cases h
theorem lay_nil {m : Nat} : ∀ a ∈ ([] : List Kn), LayK m a := fun _ q => nomatch q
/-- with no room there is nothing -/
theorem no_room (W : Wd') : ∀ n a, begF W n a 0 = none ∧ lokF W n a 0 = none ∧ sgnF W n a 0 = none ∧ mulF W n a 0 = none ∧ addF W n a 0 = none ∧ cmpF W n a 0 = none
  | 0, a => by simp [begF, lokF, sgnF, mulF, addF, cmpF]
  | n + 1, a => by
    have h := no_room W n
    refine ⟨?_, ?_, ?_, ?_, ?_, ?_⟩
    · rw [begF]
      cases W[a]? with
      | none => rfl
      | some w => simp
    · rw [lokF, (h a).1]
    · rw [sgnF]
      split
      · simp
      · split
        · simp
        · exact (h a).2.1
    · rw [mulF, mulL, (h a).2.2.1]
    · rw [addF, addL, (h a).2.2.2.1]
    · rw [cmpF, (h a).2.2.2.2.1]
theorem lay_all (W : Wd') (hW : ∀ w ∈ W, gdT w) : ∀ n r : Nat,
    (∀ a k b, begF W n a (r + 1) = some (k, b) → LayK (9 * r + 2) k) ∧ (∀ a cl l b, sevF W n a r cl = some (l, b) → ∀ k ∈ l, LayK (9 * r) k) ∧
    (∀ a k b, lokF W n a (r + 1) = some (k, b) → LayK (9 * r + 3) k) ∧ (∀ a k b, sgnF W n a (r + 1) = some (k, b) → LayK (9 * r + 3) k) ∧
    (∀ a k b, mulF W n a (r + 1) = some (k, b) → LayK (9 * r + 5) k) ∧ (∀ a k b, addF W n a (r + 1) = some (k, b) → LayK (9 * r + 8) k) ∧
    (∀ a k b, cmpF W n a (r + 1) = some (k, b) → LayK (9 * r + 9) k)
  | 0, r => by refine ⟨?_, ?_, ?_, ?_, ?_, ?_, ?_⟩ <;> intros <;> simp_all [begF, sevF, lokF, sgnF, mulF, addF, cmpF]
  | n + 1, r => by
    obtain ⟨hb, _, hl, hg, hm, ha, _⟩ := lay_all W hW n r
    have hs := (lay_all W hW n r).2.1
    have hc : ∀ a k b, cmpF W n a r = some (k, b) → LayK (9 * r) k := by
      intro a k b h
      cases r with
      | zero => rw [(no_room W n a).2.2.2.2.2] at h; cases h
      | succ r => exact LayD.mono ((lay_all W hW n r).2.2.2.2.2.2 a k b h) (by omega)
    have hg' : ∀ a k b, sgnF W n a r = some (k, b) → LayK (9 * r + 2) k := by
      intro a k b h
      cases r with
      | zero => rw [(no_room W n a).2.2.1] at h; cases h
      | succ r => exact LayD.mono ((lay_all W hW n r).2.2.2.1 a k b h) (by omega)
    have er : r + 1 - 1 = r := by omega
    refine ⟨?_, ?_, ?_, ?_, ?_, ?_, ?_⟩
    · intro a k b h
      rw [begF, er] at h
      cases hw : W[a]? with
      | none => rw [hw] at h; cases h
      | some w =>
        have hgw := hW w (List.mem_of_getElem? hw)
        rw [hw] at h
        simp only at h
        split at h
        · cases h
        split at h
        · simp only [Option.some.injEq, Prod.mk.injEq] at h
          obtain ⟨rfl, rfl⟩ := h
          exact LayD.mono (lay_num _) (by omega)
        split at h
        · simp only [Option.some.injEq, Prod.mk.injEq] at h
          obtain ⟨rfl, rfl⟩ := h
          exact LayD.mono (lay_name hgw _) (by omega)
        split at h
        · cases hk : cmpF W n (a + 1) r with
          | none => rw [hk] at h; cases h
          | some q =>
            obtain ⟨k1, b1⟩ := q
            rw [hk] at h
            simp only at h
            split at h
            · simp only [Option.some.injEq, Prod.mk.injEq] at h
              obtain ⟨rfl, rfl⟩ := h
              exact LayD.mono (lay_br (hc _ _ _ hk)) (by omega)
            · cases h
        split at h
        · cases hk : sevF W n (a + 1) r 93 with
          | none => rw [hk] at h; cases h
          | some q =>
            obtain ⟨k1, b1⟩ := q
            rw [hk] at h
            simp only [Option.some.injEq, Prod.mk.injEq] at h
            obtain ⟨rfl, rfl⟩ := h
            exact lay_row (hs _ _ _ _ hk)
        · cases h
    · intro a cl l b h
      rw [sevF] at h
      split at h
      · simp only [Option.some.injEq, Prod.mk.injEq] at h
        obtain ⟨rfl, rfl⟩ := h
        exact lay_nil
      · exact sevL_lay (f := fun x => cmpF W n x r) (fun a k b h => hc a k b h) _ _ _ _ _ lay_nil h
    · intro a k b h
      rw [lokF, er] at h
      cases hk : begF W n a (r + 1) with
      | none => rw [hk] at h; cases h
      | some q =>
        obtain ⟨k1, b1⟩ := q
        rw [hk] at h
        simp only at h
        cases hp : lokL W (fun x => cmpF W n x r) (W.length + 1) b1 [] with
        | none => rw [hp] at h; cases h
        | some q =>
          obtain ⟨ps, c⟩ := q
          rw [hp] at h
          have hps := lokL_lay (f := fun x => cmpF W n x r) (fun a k b h => hc a k b h) _ _ _ _ _ lay_nil hp
          cases ps with
          | nil =>
            simp only [Option.some.injEq, Prod.mk.injEq] at h
            obtain ⟨rfl, rfl⟩ := h
            exact LayD.mono (hb _ _ _ hk) (by omega)
          | cons p ps =>
            simp only at h
            split at h
            · simp only [Option.some.injEq, Prod.mk.injEq] at h
              obtain ⟨rfl, rfl⟩ := h
              exact lay_look (m := 9 * r + 1) (hb _ _ _ hk) (fun a q => LayD.mono (hps a q) (by omega))
            · cases h
    · intro a k b h
      rw [sgnF, er] at h
      split at h
      · split at h
        · cases hk : sgnF W n (a + 1) r with
          | none => rw [hk] at h; cases h
          | some q =>
            obtain ⟨k1, b1⟩ := q
            rw [hk] at h
            simp only [Option.some.injEq, Prod.mk.injEq] at h
            obtain ⟨rfl, rfl⟩ := h
            exact lay_minus (hg' _ _ _ hk)
        · cases h
      split at h
      · split at h
        · cases hk : sgnF W n (a + 1) r with
          | none => rw [hk] at h; cases h
          | some q =>
            obtain ⟨k1, b1⟩ := q
            rw [hk] at h
            simp only [Option.some.injEq, Prod.mk.injEq] at h
            obtain ⟨rfl, rfl⟩ := h
            exact lay_not (hg' _ _ _ hk)
        · cases h
      · exact hl _ _ _ h
    · intro a k b h
      rw [mulF] at h
      exact mulL_lay (f := fun x => sgnF W n x (r + 1)) (fun a k b h => hg a k b h) _ _ _ _ _ lay_nil h
    · intro a k b h
      rw [addF] at h
      exact addL_lay (f := fun x => mulF W n x (r + 1)) (fun a k b h => hm a k b h) _ _ _ _ _ _ _ lay_nil h
    · intro a k b h
      rw [cmpF] at h
      cases hk : addF W n a (r + 1) with
      | none => rw [hk] at h; cases h
      | some q =>
        obtain ⟨k1, b1⟩ := q
        rw [hk] at h
        have g := ha _ _ _ hk
        simp only at h
        split at h
        · cases hj : addF W n (b1 + 1) (r + 1) with
          | none => rw [hj] at h; cases h
          | some q =>
            obtain ⟨j, c⟩ := q
            rw [hj] at h
            simp only [Option.some.injEq, Prod.mk.injEq] at h
            obtain ⟨rfl, rfl⟩ := h
            split
            · exact lay_less g (ha _ _ _ hj)
            · exact lay_same g (ha _ _ _ hj)
        · simp only [Option.some.injEq, Prod.mk.injEq] at h
          obtain ⟨rfl, rfl⟩ := h
          exact LayD.mono g (by omega)
theorem lay_cmp {W : Wd'} (hW : ∀ w ∈ W, gdT w) {n a room b : Nat} {k : Kn} (h : cmpF W n a room = some (k, b)) : LayK (9 * room) k := by
  cases room with
  | zero => rw [(no_room W n a).2.2.2.2.2] at h; cases h
  | succ r => exact LayD.mono ((lay_all W hW n r).2.2.2.2.2.2 a k b h) (by omega)
theorem lv_gd {L : List Lf} (h : LvOk L) : ∀ w ∈ wds L, gdT w := fun w m => by
  obtain ⟨x, hx, rfl⟩ := List.mem_map.mp m
  exact (h.1 x hx).2.2
end PW

namespace PW
open PySem L2
local macro_rules
  | `(tactic| walk_at "sz") => `(tactic| first | omega | (simp only [tx_len, List.length_append, List.length_map, List.length_cons, List.length_nil, List.length_take, List.length_drop] <;> omega))
  | `(tactic| walk_at "go") => `(tactic| repeat (first | refine ⟨rfl, ?_⟩ | refine ⟨trivial, ?_⟩ | refine ⟨_, rfl, ?_⟩ | refine ⟨_, rfl, rfl, ?_⟩ | refine ⟨_, _, rfl, rfl, ?_⟩ | refine ⟨_, ix_hd, ?_⟩ | refine br_t rfl ?_ | refine br_f rfl ?_ | (refine ⟨le_sz ?_, ?_⟩; focus walk_at "sz") | (refine ⟨lt_sz ?_, ?_⟩; focus walk_at "sz") | (refine ⟨strLe_tx ?_, ?_⟩; focus walk_at "sz") | refine ⟨cmul_r rfl, ?_⟩ | refine ⟨cmul_l rfl, ?_⟩ | refine ⟨pos_ok rfl, ?_⟩ | refine ⟨cdiv_ok rfl, ?_⟩ | refine ⟨_, _, _, _, rfl, rfl, rfl, rfl, ?_⟩ | refine ⟨_, _, rfl, ?_⟩ | refine ⟨_, _, _, rfl, rfl, rfl, ?_⟩ | refine ⟨_, _, _, rfl, rfl, ?_⟩))
theorem take_map_succ' {α β : Type} {f : α → β} {L : List α} {j : Nat} (h : j < L.length) : (L.take (j + 1)).map f = (L.take j).map f ++ [f L[j]] := by
  rw [List.take_add_one, List.getElem?_eq_getElem h, List.map_append]; rfl
theorem pure_looked (n : Nat) : ∀ args o ret exc, S_looked (n + 1) args o ret exc → w_looked (S_compared n) (S_begun n) (fun x s => exc x (cutL o.length s.o)) (pst0 args o 7) (bodyE o.length ret) := by
  rintro _ _ ret exc ⟨L, a, room, rfl, rfl, hL, hr, hn, hn2, h⟩
  have hWl : (wds L).length ≤ 2000 := by rw [wds_len]; exact hL.2
  have hgd := lv_gd hL
  rw [lokF] at h
  walk_at "go"
  refine ⟨hL, hr, by omega, by omega, ?_⟩
  cases e : begF (wds L) n a room with
  | none =>
    rw [e] at h
    walk_at "go"
    exact h
  | some r =>
    obtain ⟨k, b⟩ := r
    obtain ⟨g1, g2, g3, g4⟩ := (good_all (wds L) n).1 _ _ _ _ e
    have hsz : szK k ≤ 100000 := by omega
    have hr1 : room ≠ 0 := by
      rintro rfl
      rw [(no_room (wds L) n a).1] at e
      cases e
    have er : ((room - 1 : Nat) : Int) = (room : Int) - 1 := by omega
    rw [e] at h
    simp only at h
    generalize hP : lokL (wds L) (fun x => cmpF (wds L) n x (room - 1)) ((wds L).length + 1) b [] = P at h
    walk_at "go"
    refine ⟨fun m s => ∃ (a' : Nat) (acc : List Kn) (x6 : Option PV), s = ⟨[some (.d (lvD L)), some (.d (.int a')), some (.d (.int room)), some (.d (resD (some (k, b)))), some (.d (knD k)), some (.own 0), x6], [.dl (knsD acc)]⟩ ∧ lokL (wds L) (fun x => cmpF (wds L) n x (room - 1)) m a' acc = P ∧ (wds L).length + 1 ≤ m + a' ∧ acc.length + m = (wds L).length + 1 ∧ a' ≤ (wds L).length ∧ ∀ k ∈ acc, LayK 50 k,
      ⟨(wds L).length + 1, b, [], none, rfl, hP, by omega, by simp, g4, lay_nil⟩, ?_⟩
    rintro m s ⟨a', acc, x6, rfl, hm, hb, hc, hal, hlay⟩
    obtain ⟨m', rfl⟩ : ∃ m', m = m' + 1 := ⟨m - 1, by omega⟩
    rw [lokL] at hm
    have hacc : (knsD acc).length ≤ 2001 := by rw [knsD_len]; omega
    walk_at "go"
    refine ⟨hL, s_lb, ?_⟩
    rw [c_lb]
    cases e2 : isS (wds L) a' [91] with
    | true =>
      rw [e2, if_pos rfl] at hm
      walk_at "go"
      refine ⟨L, a' + 1, room - 1, by rw [er]; rfl, rfl, hL, by omega, by omega, by omega, ?_⟩
      cases e3 : cmpF (wds L) n (a' + 1) (room - 1) with
      | none =>
        simp only [e3] at hm
        rw [← hm] at h
        walk_at "go"
        exact h
      | some r =>
        obtain ⟨j, c⟩ := r
        have hg := good_cmp e3
        have hj := lay_cmp hgd e3
        simp only [e3] at hm
        walk_at "go"
        refine ⟨hL, s_rb, ?_⟩
        rw [c_rb]
        cases e4 : isS (wds L) c [93] with
        | true =>
          have := isS_lt e4
          rw [e4, if_pos rfl] at hm
          walk_at "go"
          refine ⟨m', by omega, .inl ⟨c + 1, acc ++ [j], some (.d (resD (some (j, c)))), ?_, hm, by omega, by rw [List.length_append]; simp; omega, by omega, lay_snoc hlay (LayD.mono hj (by omega))⟩⟩
          rw [knsD_snoc]
          rfl
        | false =>
          rw [e4, if_neg (by decide)] at hm
          rw [← hm] at h
          walk_at "go"
          exact h
    | false =>
      rw [e2, if_neg (by decide)] at hm
      rw [← hm] at h
      have hsh : SeqAt.shaped (.list (knsD acc)) = true := LayD.shaped (LayD.lst (lay_kns hlay)) (by decide)
      walk_at "go"
      refine ⟨eqOk_of hsh rfl, ?_⟩
      refine ⟨_, rfl, ?_⟩
      cases acc with
      | nil =>
        walk_at "go"
        exact h
      | cons p ps =>
        refine br_f rfl ?_
        walk_at "go"
        refine ⟨g1, by omega, hsz, ?_⟩
        walk_at "go"
        refine br_p (fun q => ?_) (fun q => ?_)
        · simp only at h
          rw [if_pos (by omega)] at h
          walk_at "go"
          refine ⟨_, .inl rfl, ?_⟩
          walk_at "go"
          exact h
        · simp only at h
          rw [if_neg (by omega)] at h
          walk_at "go"
          exact h
theorem dpts_mem : ∀ {l : List Kn} {a : Kn}, a ∈ l → dpt a ≤ dpts l
  | b :: r, a, m => by
    rw [dpts]
    rcases List.mem_cons.mp m with e | m
    · rw [e]; omega
    · have := dpts_mem m; omega
theorem dpts_ex : ∀ {l : List Kn}, l ≠ [] → ∃ a ∈ l, dpt a = dpts l
  | [], h => (h rfl).elim
  | [a], _ => ⟨a, by simp, by simp [dpts]⟩
  | a :: b :: r, _ => by
    obtain ⟨c, hc, e⟩ := dpts_ex (l := b :: r) (by simp)
    rw [dpts]
    by_cases h : dpt a ≤ dpts (b :: r)
    · exact ⟨c, List.mem_cons_of_mem _ hc, by omega⟩
    · exact ⟨a, by simp, by omega⟩
abbrev dI (l : List Kn) : List Int := l.map fun a => (dpt a : Int)
theorem dI_max {l : List Kn} {m : Int} (h : m ∈ dI l) (g : ∀ y ∈ dI l, y ≤ m) : m = (dpts l : Int) := by
  obtain ⟨a, ha, rfl⟩ := List.mem_map.mp h
  have hne : l ≠ [] := fun z => by rw [z] at ha; exact nomatch ha
  obtain ⟨b, hb, e⟩ := dpts_ex hne
  have h1 := dpts_mem ha
  have h2 := g (dpt b : Int) (List.mem_map.mpr ⟨b, hb, rfl⟩)
  omega
theorem szKs_of : ∀ {l : List Kn} {a : Kn}, a ∈ l → szK a ≤ szKs l
  | b :: r, a, m => by
    rw [szKs]
    rcases List.mem_cons.mp m with e | m
    · rw [e]; omega
    · have := szKs_of m; omega
theorem zipS_at : ∀ (ss : List Bool) (xs : List PyData) (j : Nat) (x : PyData), ss.length = xs.length → (zipS ss xs)[j]? = some x → ∃ s y, xs[j]? = some y ∧ x = .tuple [sgD s, y]
  | [], [], j, x, _, h => by simp [zipS] at h
  | b :: ss, y :: xs, 0, x, _, h => by cases h; exact ⟨b, y, rfl, rfl⟩
  | b :: ss, y :: xs, j + 1, x, e, h => zipS_at ss xs j x (by simpa using e) h
  | [], _ :: _, _, _, h, _ => by simp at h
  | _ :: _, [], _, _, h, _ => by simp at h
theorem pure_deep (n : Nat) : ∀ args o ret exc, S_deep (n + 1) args o ret exc → w_deep (S_deep n) (fun x s => exc x (cutL o.length s.o)) (pst0 args o 3) (bodyE o.length ret) := by
  rintro _ _ ret exc ⟨e, rfl, rfl, hok, hh, hz, h⟩
  cases e with
  | num i => walk_at "go"; exact h
  | name w k => walk_at "go"; exact h
  | br a =>
    rw [hgt] at hh; rw [szK] at hz
    walk_at "go"
    refine ⟨hok, by omega, by omega, ?_⟩
    rw [dpt] at h
    walk_at "go"
    rw [show ((1 + dpt a : Nat) : Int) = (1 : Int) + (dpt a : Int) by omega] at h
    exact h
  | not_ a =>
    rw [hgt] at hh; rw [szK] at hz
    walk_at "go"
    refine ⟨hok, by omega, by omega, ?_⟩
    rw [dpt] at h
    walk_at "go"
    rw [show ((1 + dpt a : Nat) : Int) = (1 : Int) + (dpt a : Int) by omega] at h
    exact h
  | minus a =>
    rw [hgt] at hh; rw [szK] at hz
    walk_at "go"
    refine ⟨hok, by omega, by omega, ?_⟩
    rw [dpt] at h
    walk_at "go"
    rw [show ((1 + dpt a : Nat) : Int) = (1 : Int) + (dpt a : Int) by omega] at h
    exact h
  | row l =>
    rw [hgt] at hh; rw [szK] at hz; rw [dpt] at h
    have hll := szKs_len l
    walk_at "go"
    refine ⟨fun j acc s => s = (⟨[some (.d (knD (.row l))), none, none], []⟩ : PSt) ∧ acc = ((dI l).take j).map PyData.int, ⟨rfl, rfl⟩, fun _ _ _ _ _ => trivial, ?_, ?_⟩
    · rintro j x acc s2 hx ho ⟨rfl, rfl⟩
      rw [knsD_map] at hx
      obtain ⟨hj, rfl⟩ := map_get hx
      have hma := List.getElem_mem hj
      have hoa := okKs_of hok _ hma
      have hha := hgts_of (Nat.le_refl _) _ hma
      have hza := szKs_of hma
      clear hx ho
      walk_at "go"
      refine ⟨hoa, by omega, by omega, ?_⟩
      walk_at "go"
      rw [take_map_succ' (f := PyData.int) (L := dI l) (by rw [List.length_map]; exact hj), List.getElem_map]
    rintro acc s2 ho ⟨rfl, rfl⟩
    clear ho
    rw [show (knsD l).length = (dI l).length by rw [knsD_len, List.length_map], List.take_length]
    refine ⟨dI l, rfl, fun z => ?_, fun m hm hg => ?_⟩
    · have hl : l = [] := by simpa using z
      subst hl
      walk_at "go"
      exact h
    · rw [dI_max hm hg]
      walk_at "go"
      rw [show ((1 + dpts l : Nat) : Int) = (1 : Int) + (dpts l : Int) by omega] at h
      exact h
  | look a l =>
    rw [hgt] at hh; rw [szK] at hz; rw [dpt] at h
    have hll := szKs_len l
    have hab : okKs (a :: l) := ⟨hok.1, hok.2.2⟩
    have hsa : szKs (a :: l) = szK a + szKs l := rfl
    have hga : hgts (a :: l) = max (hgt a) (hgts l) := rfl
    walk_at "go"
    refine ⟨le_sz (by simp [knsD_len]; omega), ?_⟩
    walk_at "go"
    refine ⟨fun j acc s => s = (⟨[some (.d (knD (.look a l))), none, none], []⟩ : PSt) ∧ acc = ((dI (a :: l)).take j).map PyData.int, ⟨rfl, rfl⟩, fun _ _ _ _ _ => trivial, ?_, ?_⟩
    · rintro j x acc s2 hx ho ⟨rfl, rfl⟩
      have hx : (knsD (a :: l))[j]? = some x := hx
      rw [knsD_map] at hx
      obtain ⟨hj, rfl⟩ := map_get hx
      have hma := List.getElem_mem hj
      have hoa := okKs_of hab _ hma
      have hha := hgts_of (Nat.le_refl _) _ hma
      have hza := szKs_of hma
      clear hx ho
      walk_at "go"
      refine ⟨hoa, by omega, by omega, ?_⟩
      walk_at "go"
      rw [take_map_succ' (f := PyData.int) (L := dI (a :: l)) (by rw [List.length_map]; exact hj), List.getElem_map]
    rintro acc s2 ho ⟨rfl, rfl⟩
    clear ho
    rw [show ([knD a] ++ knsD l).length = (dI (a :: l)).length by simp [knsD_len], List.take_length]
    refine ⟨dI (a :: l), rfl, by simp, fun m hm hg => ?_⟩
    rw [dI_max hm hg]
    walk_at "go"
    rw [show ((1 + max (dpt a) (dpts l) : Nat) : Int) = (1 : Int) + (dpts (a :: l) : Int) by rw [dpts] <;> omega] at h
    exact h
  | times l =>
    rw [hgt] at hh; rw [szK] at hz; rw [dpt] at h
    have hll := szKs_len l
    walk_at "go"
    refine ⟨fun j acc s => s = (⟨[some (.d (knD (.times l))), none, none], []⟩ : PSt) ∧ acc = ((dI l).take j).map PyData.int, ⟨rfl, rfl⟩, fun _ _ _ _ _ => trivial, ?_, ?_⟩
    · rintro j x acc s2 hx ho ⟨rfl, rfl⟩
      rw [knsD_map] at hx
      obtain ⟨hj, rfl⟩ := map_get hx
      have hma := List.getElem_mem hj
      have hoa := okKs_of hok.2 _ hma
      have hha := hgts_of (Nat.le_refl _) _ hma
      have hza := szKs_of hma
      clear hx ho
      walk_at "go"
      refine ⟨hoa, by omega, by omega, ?_⟩
      walk_at "go"
      rw [take_map_succ' (f := PyData.int) (L := dI l) (by rw [List.length_map]; exact hj), List.getElem_map]
    rintro acc s2 ho ⟨rfl, rfl⟩
    clear ho
    rw [show (knsD l).length = (dI l).length by rw [knsD_len, List.length_map], List.take_length]
    refine ⟨dI l, rfl, by rw [List.length_map]; have := hok.1; omega, fun m hm hg => ?_⟩
    rw [dI_max hm hg]
    exact h
  | sum ss l =>
    rw [hgt] at hh; rw [szK] at hz; rw [dpt] at h
    have hll := szKs_len l
    have hz2 : ss.length = (knsD l).length := by rw [knsD_len]; exact hok.1
    walk_at "go"
    refine ⟨fun j acc s => s = (⟨[some (.d (knD (.sum ss l))), none, none], []⟩ : PSt) ∧ acc = ((dI l).take j).map PyData.int, ⟨rfl, rfl⟩, fun _ _ _ _ _ => trivial, ?_, ?_⟩
    · rintro j x acc s2 hx ho ⟨rfl, rfl⟩
      obtain ⟨sb, y, hy, rfl⟩ := zipS_at _ _ _ _ hz2 hx
      rw [knsD_map] at hy
      obtain ⟨hj, rfl⟩ := map_get hy
      have hma := List.getElem_mem hj
      have hoa := okKs_of hok.2.2 _ hma
      have hha := hgts_of (Nat.le_refl _) _ hma
      have hza := szKs_of hma
      clear hy
      clear hx ho
      walk_at "go"
      refine ⟨hoa, by omega, by omega, ?_⟩
      walk_at "go"
      rw [take_map_succ' (f := PyData.int) (L := dI l) (by rw [List.length_map]; exact hj), List.getElem_map]
    rintro acc s2 ho ⟨rfl, rfl⟩
    clear ho
    rw [show (zipS ss (knsD l)).length = (dI l).length by rw [zipS_len _ _ hz2, knsD_len, List.length_map], List.take_length]
    refine ⟨dI l, rfl, by rw [List.length_map]; have := hok.2.1; omega, fun m hm hg => ?_⟩
    rw [dI_max hm hg]
    exact h
  | less a b =>
    rw [hgt] at hh; rw [szK] at hz; rw [dpt] at h
    walk_at "go"
    refine ⟨hok.1, by omega, by omega, ?_⟩
    walk_at "go"
    refine ⟨hok.2, by omega, by omega, ?_⟩
    walk_at "go"
    rw [show ((max (dpt a) (dpt b) : Nat) : Int) = (if ((dpt b : Nat) : Int) > ((dpt a : Nat) : Int) then ((dpt b : Nat) : Int) else ((dpt a : Nat) : Int)) by split <;> omega] at h
    exact h
  | same a b =>
    rw [hgt] at hh; rw [szK] at hz; rw [dpt] at h
    walk_at "go"
    refine ⟨hok.1, by omega, by omega, ?_⟩
    walk_at "go"
    refine ⟨hok.2, by omega, by omega, ?_⟩
    walk_at "go"
    rw [show ((max (dpt a) (dpt b) : Nat) : Int) = (if ((dpt b : Nat) : Int) > ((dpt a : Nat) : Int) then ((dpt b : Nat) : Int) else ((dpt a : Nat) : Int)) by split <;> omega] at h
    exact h
end PW

namespace PW
open PySem L2 K13
local macro_rules
  | `(tactic| walk_at "sz") => `(tactic| first | omega | (simp only [tx_len, List.length_append, List.length_map, List.length_cons, List.length_nil, List.length_take, List.length_drop] <;> omega))
  | `(tactic| walk_at "go") => `(tactic| repeat (first | refine ⟨rfl, ?_⟩ | refine ⟨trivial, ?_⟩ | refine ⟨_, rfl, ?_⟩ | refine ⟨_, rfl, rfl, ?_⟩ | refine ⟨_, _, rfl, rfl, ?_⟩ | refine ⟨_, ix_hd, ?_⟩ | refine br_t rfl ?_ | refine br_f rfl ?_ | (refine ⟨le_sz ?_, ?_⟩; focus walk_at "sz") | (refine ⟨lt_sz ?_, ?_⟩; focus walk_at "sz") | (refine ⟨strLe_tx ?_, ?_⟩; focus walk_at "sz") | refine ⟨cmul_r rfl, ?_⟩ | refine ⟨cmul_l rfl, ?_⟩ | refine ⟨pos_ok rfl, ?_⟩ | refine ⟨cdiv_ok rfl, ?_⟩ | refine ⟨_, _, _, _, rfl, rfl, rfl, rfl, ?_⟩ | refine ⟨_, _, rfl, ?_⟩ | refine ⟨_, _, _, rfl, rfl, rfl, ?_⟩ | refine ⟨_, _, _, rfl, rfl, ?_⟩))
/-! ### rows -/
def k_let : List Nat := [108, 101, 116]
theorem kx_let : ("let" : Str) = tx k_let := by decide +kernel
def k_set : List Nat := [115, 101, 116]
theorem kx_set : ("set" : Str) = tx k_set := by decide +kernel
def k_say : List Nat := [115, 97, 121]
theorem kx_say : ("say" : Str) = tx k_say := by decide +kernel
def k_fault : List Nat := [102, 97, 117, 108, 116]
theorem kx_fault : ("fault" : Str) = tx k_fault := by decide +kernel
def k_if : List Nat := [105, 102]
theorem kx_if : ("if" : Str) = tx k_if := by decide +kernel
def k_while : List Nat := [119, 104, 105, 108, 101]
theorem kx_while : ("while" : Str) = tx k_while := by decide +kernel
def k_read : List Nat := [114, 101, 97, 100]
theorem kx_read : ("read" : Str) = tx k_read := by decide +kernel
def k_catch : List Nat := [99, 97, 116, 99, 104]
theorem kx_catch : ("catch" : Str) = tx k_catch := by decide +kernel
def k_do : List Nat := [100, 111]
theorem kx_do : ("do" : Str) = tx k_do := by decide +kernel
def k_with : List Nat := [119, 105, 116, 104]
theorem kx_with : ("with" : Str) = tx k_with := by decide +kernel
def k_helper : List Nat := [104, 101, 108, 112, 101, 114]
theorem kx_helper : ("helper" : Str) = tx k_helper := by decide +kernel
def k_block : List Nat := [98, 108, 111, 99, 107]
theorem kx_block : ("block" : Str) = tx k_block := by decide +kernel
def k_try : List Nat := [116, 114, 121]
theorem kx_try : ("try" : Str) = tx k_try := by decide +kernel
def k_else : List Nat := [101, 108, 115, 101]
theorem kx_else : ("else" : Str) = tx k_else := by decide +kernel
def k_finally : List Nat := [102, 105, 110, 97, 108, 108, 121]
theorem kx_finally : ("finally" : Str) = tx k_finally := by decide +kernel
def k_end : List Nat := [101, 110, 100]
theorem kx_end : ("end" : Str) = tx k_end := by decide +kernel
inductive Row where
  | put (w nm : List Nat) (e : Kn)
  | one (w : List Nat) (e : Kn)
  | nam (w nm : List Nat)
  | do_ (nm : List Nat) (l : List Kn)
  | with_ (l : List (List Nat × Nat × Kn))
  | helper (nm : List Nat) (l : List (List Nat × Nat))
  | word (w : List Nat)
  | bare
def withD (x : List Nat × Nat × Kn) : PyData := .tuple [dT x.1, .int (x.2.1 : Nat), knD x.2.2]
def helpD (x : List Nat × Nat) : PyData := .tuple [dT x.1, .int (x.2 : Nat)]
def rwD : Row → PyData
  | .put w nm e => .tuple [dT w, dT nm, .int 1, knD e]
  | .one w e => .tuple [dT w, knD e]
  | .nam w nm => .tuple [dT w, dT nm, .int 1]
  | .do_ nm l => .tuple [.str "do", dT nm, .int 1, .tuple (knsD l)]
  | .with_ l => .tuple [.str "with", .tuple (l.map withD)]
  | .helper nm l => .tuple [.str "helper", dT nm, .int 1, .tuple (l.map helpD)]
  | .word w => .tuple [dT w]
  | .bare => .tuple [.str "bare"]
def rowO : Option Row → PyData
  | none => .none
  | some r => rwD r
def optK : Option Kn → PyData
  | none => .none
  | some k => knD k
def isN (W : Wd') (a : Nat) : Bool := match W[a]? with
  | some w => decide (kindS w = "name")
  | none => false
def wholeF (W : Wd') (a : Nat) : Option Kn := match cmpF W 50 a 6 with
  | none => none
  | some (k, b) => if b < W.length then none else some k
def putF (W : Wd') : Option Row := if isN W 1 = true ∧ isS W 2 [61] = true then (match wholeF W 3 with
  | none => none
  | some k => some (.put (W.getD 0 []) (W.getD 1 []) k)) else none
def oneF (W : Wd') : Option Row := match wholeF W 1 with
  | none => none
  | some k => some (.one (W.getD 0 []) k)
def namF (W : Wd') : Option Row := if isN W 1 = true ∧ ¬ 2 < W.length then some (.nam (W.getD 0 []) (W.getD 1 [])) else none
def doF (W : Wd') : Option Row := if isN W 1 = true ∧ isS W 2 [40] = true then (match sevF W 50 3 6 41 with
  | none => none
  | some (l, b) => if b < W.length ∨ 6 < l.length then none else some (.do_ (W.getD 1 []) l)) else none
def withL (W : Wd') : Nat → Nat → List (List Nat × Nat × Kn) → Option Row
  | 0, _, _ => none
  | m + 1, a, acc => if isN W a = true ∧ isS W (a + 1) [61] = true then (match cmpF W 50 (a + 2) 6 with
    | none => none
    | some (k, b) => if b = W.length then (if acc.length + 1 ≤ 6 ∧ ((acc ++ [(W.getD a [], a, k)]).map (·.1)).Nodup then some (.with_ (acc ++ [(W.getD a [], a, k)])) else none)
      else if isS W b [44] = true then withL W m (b + 1) (acc ++ [(W.getD a [], a, k)]) else none) else none
def withF (W : Wd') : Option Row := withL W (W.length + 1) 1 []
def helpL (W : Wd') : Nat → Nat → List (List Nat × Nat) → Option (List (List Nat × Nat))
  | 0, _, acc => some acc
  | m + 1, a, acc => if a % 2 = 1 then (if isN W a = true then helpL W m (a + 1) (acc ++ [(W.getD a [], a)]) else none) else if isS W a [44] = true then helpL W m (a + 1) acc else none
def helperF (W : Wd') : Option Row := if isN W 1 = true ∧ isS W 2 [40] = true ∧ isS W (W.length - 1) [41] = true then (match helpL W (W.length - 1 - 3) 3 [] with
  | none => none
  | some l => if (4 < W.length ∧ W.length % 2 = 0) ∨ 6 < l.length then none else if (l.map (·.1)).Nodup then some (.helper (W.getD 1 []) l) else none) else none
def rowF (W : Wd') : Option Row :=
  if W.getD 0 [] ∈ [k_let, k_set] then putF W else if W.getD 0 [] ∈ [k_say, k_fault, k_if, k_while] then oneF W else if W.getD 0 [] ∈ [k_read, k_catch] then namF W
  else if W.getD 0 [] = k_do then doF W else if W.getD 0 [] = k_with then withF W else if W.getD 0 [] = k_helper then helperF W
  else if W.getD 0 [] ∈ [k_block, k_try, k_else, k_finally, k_end] ∧ W.length = 1 then some (.word (W.getD 0 [])) else none
/-- the row of a text -/
def rowT (l : List Nat) : Option Row := if leavesL l = [] then some .bare else rowF (wds (leavesL l))
def S_whole : FS := fun args o ret exc => ∃ (L : List Lf) (a : Nat), args = [.d (lvD L), .d (.int a)] ∧ o = [] ∧ LvOk L ∧ ret (.d (optK (wholeF (wds L) a))) []
def S_is_name : FS := fun args o ret exc => ∃ (L : List Lf) (a : Nat), args = [.d (lvD L), .d (.int a)] ∧ o = [] ∧ LvOk L ∧ ret (.d (.bool (isN (wds L) a))) []
def S_put_row : FS := fun args o ret exc => ∃ (L : List Lf), args = [.d (lvD L)] ∧ o = [] ∧ LvOk L ∧ 1 ≤ L.length ∧ ret (.d (rowO (putF (wds L)))) []
def S_one_row : FS := fun args o ret exc => ∃ (L : List Lf), args = [.d (lvD L)] ∧ o = [] ∧ LvOk L ∧ 1 ≤ L.length ∧ ret (.d (rowO (oneF (wds L)))) []
def S_name_row : FS := fun args o ret exc => ∃ (L : List Lf), args = [.d (lvD L)] ∧ o = [] ∧ LvOk L ∧ 1 ≤ L.length ∧ ret (.d (rowO (namF (wds L)))) []
def S_do_row : FS := fun args o ret exc => ∃ (L : List Lf), args = [.d (lvD L)] ∧ o = [] ∧ LvOk L ∧ 1 ≤ L.length ∧ ret (.d (rowO (doF (wds L)))) []
def S_with_row : FS := fun args o ret exc => ∃ (L : List Lf), args = [.d (lvD L)] ∧ o = [] ∧ LvOk L ∧ 1 ≤ L.length ∧ ret (.d (rowO (withF (wds L)))) []
def S_helper_row : FS := fun args o ret exc => ∃ (L : List Lf), args = [.d (lvD L)] ∧ o = [] ∧ LvOk L ∧ 1 ≤ L.length ∧ ret (.d (rowO (helperF (wds L)))) []
def S_row_by : FS := fun args o ret exc => ∃ (L : List Lf), args = [.d (lvD L)] ∧ o = [] ∧ LvOk L ∧ 1 ≤ L.length ∧ ret (.d (rowO (rowF (wds L)))) []
def S_are_unlike : FS := fun args o ret exc => ∃ (l : List (List Nat)), args = [.d (.list (l.map dT))] ∧ o = [] ∧ (∀ w ∈ l, gdT w) ∧ l.length ≤ 3000 ∧ ret (.d (.bool (decide l.Nodup))) []
def S_row_of (N G : Addr) : FS := fun args o ret exc => ∃ v, args = [v] ∧ o = [] ∧ NeedT N G v (fun l => ret (.d (rowO (rowT l))) []) (fun C => exc ⟨C, none⟩ [])
def S_rows_of (N G : Addr) : FS := fun args o ret exc => ∃ l, args = [.d (dT l)] ∧ o = [] ∧ gdT l ∧ l.length ≤ 2000 ∧ ret (.new ((unitsL l).map fun u => rowO (rowT u))) []
def w_whole : SW :=
 (wSeq (wAsg (wCall S_expression (wCons (wVar 0) (wCons (wVar 1) wNil))) 2)
 (wSeq (wIfS (wOr (wB (wIsN (wVar 2))) (wB (wLt (wIx (wVar 2) (wC (.int 1))) (wLen (wVar 0)))))
  (wRet (wC .none))
  wNext)
 (wRet (wIx (wVar 2) (wC (.int 0))))))
def w_is_name : SW :=
 (wRet (wAndV (wLt (wVar 1) (wLen (wVar 0))) (wEq (wIx (wIx (wVar 0) (wVar 1)) (wC (.int 0))) (wC (.str "name")))))
def w_put_row : SW :=
 (wSeq (wIfS (wOr (wNot (wB (wCall S_is_name (wCons (wVar 0) (wCons (wC (.int 1)) wNil))))) (wNot (wB (wCall S_is_sign (wCons (wVar 0) (wCons (wC (.int 2)) (wCons (wC (.str "=")) wNil)))))))
  (wRet (wC .none))
  wNext)
 (wSeq (wAsg (wCall S_whole (wCons (wVar 0) (wCons (wC (.int 3)) wNil))) 1)
 (wRet (wIf (wB (wIsN (wVar 1))) (wC .none) (wTup (wCons (wIx (wIx (wVar 0) (wC (.int 0))) (wC (.int 1))) (wCons (wIx (wIx (wVar 0) (wC (.int 1))) (wC (.int 1))) (wCons (wC (.int 1)) (wCons (wVar 1) wNil)))))))))
def w_one_row : SW :=
 (wSeq (wAsg (wCall S_whole (wCons (wVar 0) (wCons (wC (.int 1)) wNil))) 1)
 (wRet (wIf (wB (wIsN (wVar 1))) (wC .none) (wTup (wCons (wIx (wIx (wVar 0) (wC (.int 0))) (wC (.int 1))) (wCons (wVar 1) wNil))))))
def w_name_row : SW :=
 (wSeq (wIfS (wOr (wNot (wB (wCall S_is_name (wCons (wVar 0) (wCons (wC (.int 1)) wNil))))) (wB (wGt (wLen (wVar 0)) (wC (.int 2)))))
  (wRet (wC .none))
  wNext)
 (wRet (wTup (wCons (wIx (wIx (wVar 0) (wC (.int 0))) (wC (.int 1))) (wCons (wIx (wIx (wVar 0) (wC (.int 1))) (wC (.int 1))) (wCons (wC (.int 1)) wNil))))))
def w_do_row : SW :=
 (wSeq (wIfS (wOr (wNot (wB (wCall S_is_name (wCons (wVar 0) (wCons (wC (.int 1)) wNil))))) (wNot (wB (wCall S_is_sign (wCons (wVar 0) (wCons (wC (.int 2)) (wCons (wC (.str "(")) wNil)))))))
  (wRet (wC .none))
  wNext)
 (wSeq (wAsg (wCall (S_several 50) (wCons (wVar 0) (wCons (wC (.int 3)) (wCons (wC (.int 6)) (wCons (wC (.str ")")) wNil))))) 1)
 (wSeq (wIfS (wOr (wB (wIsN (wVar 1))) (wOr (wB (wLt (wIx (wVar 1) (wC (.int 1))) (wLen (wVar 0)))) (wB (wGt (wLen (wIx (wVar 1) (wC (.int 0)))) (wC (.int 6))))))
  (wRet (wC .none))
  wNext)
 (wRet (wTup (wCons (wC (.str "do")) (wCons (wIx (wIx (wVar 0) (wC (.int 1))) (wC (.int 1))) (wCons (wC (.int 1)) (wCons (wTupOf (wIx (wVar 1) (wC (.int 0)))) wNil)))))))))
def w_are_unlike : SW :=
 (wRet (wAll (wLc (wEn (wVar 0)) (gT 2 (gsCons (gN 1) (gsCons (gN 2) gsNil))) wYes (wNotIn (wVar 2) (wSl (wVar 0) wNoPart (wPart (wVar 1)))) [1, 2])))
def w_with_row : SW :=
 (wSeq (wAsg (wLst wNil) 1)
 (wSeq (wAsg (wC (.int 1)) 2)
 (wSeq (wWh (wAnd (wB (wCall S_is_name (wCons (wVar 0) (wCons (wVar 2) wNil)))) (wB (wCall S_is_sign (wCons (wVar 0) (wCons (wAdd (wVar 2) (wC (.int 1))) (wCons (wC (.str "=")) wNil))))))
  (wSeq (wAsg (wCall S_expression (wCons (wVar 0) (wCons (wAdd (wVar 2) (wC (.int 2))) wNil))) 3)
 (wSeq (wIfS (wB (wIsN (wVar 3)))
  (wRet (wC .none))
  wNext)
 (wSeq (wDrop (wApp (wVar 1) (wTup (wCons (wIx (wIx (wVar 0) (wVar 2)) (wC (.int 1))) (wCons (wVar 2) (wCons (wIx (wVar 3) (wC (.int 0))) wNil))))))
 (wSeq (wAsg (wIx (wVar 3) (wC (.int 1))) 2)
 (wSeq (wIfS (wB (wEq (wVar 2) (wLen (wVar 0))))
  (wSeq (wAsg (wAndV (wLe (wLen (wVar 1)) (wC (.int 6))) (wCall S_are_unlike (wCons (wLc (wL (wVar 1)) (gN 5) wYes (wIx (wVar 5) (wC (.int 0))) [5]) wNil))) 4)
 (wRet (wIf (wB (wVar 4)) (wTup (wCons (wC (.str "with")) (wCons (wTupOf (wVar 1)) wNil))) (wC .none))))
  wNext)
 (wSeq (wIfS (wNot (wB (wCall S_is_sign (wCons (wVar 0) (wCons (wVar 2) (wCons (wC (.str ",")) wNil))))))
  (wRet (wC .none))
  wNext)
 (wAsg (wAdd (wVar 2) (wC (.int 1))) 2))))))))
 (wRet (wC .none)))))
def w_helper_row : SW :=
 (wSeq (wIfS (wOr (wNot (wB (wCall S_is_name (wCons (wVar 0) (wCons (wC (.int 1)) wNil))))) (wOr (wNot (wB (wCall S_is_sign (wCons (wVar 0) (wCons (wC (.int 2)) (wCons (wC (.str "(")) wNil)))))) (wNot (wB (wCall S_is_sign (wCons (wVar 0) (wCons (wSub (wLen (wVar 0)) (wC (.int 1))) (wCons (wC (.str ")")) wNil))))))))
  (wRet (wC .none))
  wNext)
 (wSeq (wAsg (wLst wNil) 1)
 (wSeq (wFor (wRg2 (wC (.int 3)) (wSub (wLen (wVar 0)) (wC (.int 1)))) (gN 2)
  (wIfS (wB (wEq (wMod (wVar 2) (wC (.int 2))) (wC (.int 1))))
  (wSeq (wIfS (wNot (wB (wCall S_is_name (wCons (wVar 0) (wCons (wVar 2) wNil)))))
  (wRet (wC .none))
  wNext)
 (wDrop (wApp (wVar 1) (wTup (wCons (wIx (wIx (wVar 0) (wVar 2)) (wC (.int 1))) (wCons (wVar 2) wNil))))))
  (wIfS (wNot (wB (wCall S_is_sign (wCons (wVar 0) (wCons (wVar 2) (wCons (wC (.str ",")) wNil))))))
  (wRet (wC .none))
  wNext)))
 (wSeq (wIfS (wOr (wAnd (wB (wGt (wLen (wVar 0)) (wC (.int 4)))) (wB (wEq (wMod (wLen (wVar 0)) (wC (.int 2))) (wC (.int 0))))) (wB (wGt (wLen (wVar 1)) (wC (.int 6)))))
  (wRet (wC .none))
  wNext)
 (wRet (wIf (wB (wCall S_are_unlike (wCons (wLc (wL (wVar 1)) (gN 3) wYes (wIx (wVar 3) (wC (.int 0))) [3]) wNil))) (wTup (wCons (wC (.str "helper")) (wCons (wIx (wIx (wVar 0) (wC (.int 1))) (wC (.int 1))) (wCons (wC (.int 1)) (wCons (wTupOf (wVar 1)) wNil))))) (wC .none)))))))
def w_row_by : SW :=
 (wSeq (wAsg (wIx (wIx (wVar 0) (wC (.int 0))) (wC (.int 1))) 1)
 (wSeq (wIfS (wB (wIn (wVar 1) (wTup (wCons (wC (.str "let")) (wCons (wC (.str "set")) wNil)))))
  (wRet (wCall S_put_row (wCons (wVar 0) wNil)))
  wNext)
 (wSeq (wIfS (wB (wIn (wVar 1) (wTup (wCons (wC (.str "say")) (wCons (wC (.str "fault")) (wCons (wC (.str "if")) (wCons (wC (.str "while")) wNil)))))))
  (wRet (wCall S_one_row (wCons (wVar 0) wNil)))
  wNext)
 (wSeq (wIfS (wB (wIn (wVar 1) (wTup (wCons (wC (.str "read")) (wCons (wC (.str "catch")) wNil)))))
  (wRet (wCall S_name_row (wCons (wVar 0) wNil)))
  wNext)
 (wSeq (wIfS (wB (wEq (wVar 1) (wC (.str "do"))))
  (wRet (wCall S_do_row (wCons (wVar 0) wNil)))
  wNext)
 (wSeq (wIfS (wB (wEq (wVar 1) (wC (.str "with"))))
  (wRet (wCall S_with_row (wCons (wVar 0) wNil)))
  wNext)
 (wSeq (wIfS (wB (wEq (wVar 1) (wC (.str "helper"))))
  (wRet (wCall S_helper_row (wCons (wVar 0) wNil)))
  wNext)
 (wSeq (wIfS (wAnd (wB (wIn (wVar 1) (wTup (wCons (wC (.str "block")) (wCons (wC (.str "try")) (wCons (wC (.str "else")) (wCons (wC (.str "finally")) (wCons (wC (.str "end")) wNil)))))))) (wB (wEq (wLen (wVar 0)) (wC (.int 1)))))
  (wRet (wTup (wCons (wVar 1) wNil)))
  wNext)
 (wRet (wC .none))))))))))
def w_row_of (C_TooGreat : Addr) (C_NoText : Addr) : SW :=
 (wSeq (wAsg (wCall (S_leaves_of C_NoText C_TooGreat) (wCons (wVar 0) wNil)) 1)
 (wSeq (wIfS (wB (wEq (wVar 1) (wLst wNil)))
  (wRet (wTup (wCons (wC (.str "bare")) wNil)))
  wNext)
 (wRet (wCall S_row_by (wCons (wVar 1) wNil)))))
def w_rows_of (C_TooGreat : Addr) (C_NoText : Addr) : SW :=
 (wRet (wLc (wL (wCall (S_units_of C_NoText C_TooGreat) (wCons (wVar 0) wNil))) (gN 1) wYes (wCall (S_row_of C_NoText C_TooGreat) (wCons (wVar 1) wNil)) [1]))

theorem wds_0 {L : List Lf} (h : 1 ≤ L.length) : ∃ x r, L = x :: r ∧ (wds L).getD 0 [] = x.1 := by
  cases L with
  | nil => simp at h
  | cons x r => exact ⟨x, r, rfl, rfl⟩
theorem wds_d {L : List Lf} {a : Nat} (h : a < L.length) : (wds L).getD a [] = L[a].1 := by
  rw [List.getD_eq_getElem?_getD, wds_at h]; rfl
theorem isN_lt {L : List Lf} {a : Nat} (h : isN (wds L) a = true) : a < L.length := by
  unfold isN at h
  rw [wds_get] at h
  rcases Nat.lt_or_ge a L.length with g | g
  · exact g
  · rw [List.getElem?_eq_none g] at h; cases h
theorem pure_is_name : ∀ args o ret exc, S_is_name args o ret exc → w_is_name (fun x s => exc x (cutL o.length s.o)) (pst0 args o 2) (bodyE o.length ret) := by
  rintro _ _ ret exc ⟨L, a, rfl, rfl, hL, h⟩
  unfold isN at h
  walk_at "go"
  refine br_p (fun q => ?_) (fun q => ?_)
  · have ha' : a < L.length := by simpa using q
    have ha : a < (L.map leafD).length := by simpa using q
    rw [wds_at ha'] at h
    walk_at "go"
    refine ⟨_, PW.ix_list ha, ?_⟩
    rw [List.getElem_map]
    walk_at "go"
    have e : (if false = true then !PyData.eqv (.str (kindS L[a].1)) (.str "name") else PyData.eqv (.str (kindS L[a].1)) (.str "name")) = decide (kindS L[a].1 = "name") := by
      rw [if_neg (by decide), eqv_strs, Bool.eq_iff_iff]; simp
    rw [e]
    exact h
  · rw [wds_get, List.getElem?_eq_none (by simpa using q)] at h
    walk_at "go"
    exact h
theorem pure_whole : ∀ args o ret exc, S_whole args o ret exc → w_whole (fun x s => exc x (cutL o.length s.o)) (pst0 args o 3) (bodyE o.length ret) := by
  rintro _ _ ret exc ⟨L, a, rfl, rfl, hL, h⟩
  unfold wholeF at h
  walk_at "go"
  refine ⟨hL, ?_⟩
  have hlen := wds_len L
  cases e : cmpF (wds L) 50 a 6 with
  | none =>
    rw [e] at h
    walk_at "go"
    exact h
  | some r =>
    obtain ⟨k, b⟩ := r
    rw [e] at h
    simp only at h
    walk_at "go"
    refine br_p (fun q => ?_) (fun q => ?_)
    · rw [if_pos (by simp at q; omega)] at h
      walk_at "go"
      exact h
    · rw [if_neg (by simp at q; omega)] at h
      walk_at "go"
      exact h
theorem pure_one_row : ∀ args o ret exc, S_one_row args o ret exc → w_one_row (fun x s => exc x (cutL o.length s.o)) (pst0 args o 2) (bodyE o.length ret) := by
  rintro _ _ ret exc ⟨L, rfl, rfl, hL, h0, h⟩
  unfold oneF at h
  obtain ⟨x, r, rfl, e0⟩ := wds_0 h0
  rw [e0] at h
  walk_at "go"
  refine ⟨hL, ?_⟩
  cases e : wholeF (wds (x :: r)) 1 with
  | none =>
    rw [e] at h
    walk_at "go"
    exact h
  | some k =>
    rw [e] at h
    have hk : isNoneD (knD k) = false := by cases k <;> rfl
    walk_at "go"
    refine br_f hk ?_
    walk_at "go"
    refine ⟨_, ix_hdl, ?_⟩
    walk_at "go"
    exact h
theorem isS_ltL {L : List Lf} {a : Nat} {sg : List Nat} (h : isS (wds L) a sg = true) : a < L.length := by have := isS_lt h; rw [wds_len] at this; exact this
theorem pure_put_row : ∀ args o ret exc, S_put_row args o ret exc → w_put_row (fun x s => exc x (cutL o.length s.o)) (pst0 args o 2) (bodyE o.length ret) := by
  rintro _ _ ret exc ⟨L, rfl, rfl, hL, h0, h⟩
  unfold putF at h
  walk_at "go"
  refine ⟨hL, ?_⟩
  cases e1 : isN (wds L) 1 with
  | false =>
    rw [e1, if_neg (by simp)] at h
    walk_at "go"
    exact h
  | true =>
    have h1 := isN_lt e1
    walk_at "go"
    refine ⟨hL, s_eq, ?_⟩
    rw [c_eq]
    cases e2 : isS (wds L) 2 [61] with
    | false =>
      rw [e2, if_neg (by simp)] at h
      walk_at "go"
      exact h
    | true =>
      rw [e1, e2, if_pos ⟨rfl, rfl⟩, wds_d h1] at h
      obtain ⟨x, r, rfl, e0⟩ := wds_0 h0
      rw [e0] at h
      walk_at "go"
      refine ⟨hL, ?_⟩
      cases e : wholeF (wds (x :: r)) 3 with
      | none =>
        rw [e] at h
        walk_at "go"
        exact h
      | some k =>
        rw [e] at h
        have hk : isNoneD (knD k) = false := by cases k <;> rfl
        walk_at "go"
        refine br_f hk ?_
        walk_at "go"
        refine ⟨_, ix_hdl, ?_⟩
        walk_at "go"
        refine ⟨_, PW.ix_list (l := (x :: r).map leafD) (i := 1) (by simpa using h1), ?_⟩
        rw [List.getElem_map]
        walk_at "go"
        exact h
theorem pure_name_row : ∀ args o ret exc, S_name_row args o ret exc → w_name_row (fun x s => exc x (cutL o.length s.o)) (pst0 args o 1) (bodyE o.length ret) := by
  rintro _ _ ret exc ⟨L, rfl, rfl, hL, h0, h⟩
  unfold namF at h
  have hlen := wds_len L
  walk_at "go"
  refine ⟨hL, ?_⟩
  cases e1 : isN (wds L) 1 with
  | false =>
    rw [e1, if_neg (by simp)] at h
    walk_at "go"
    exact h
  | true =>
    have h1 := isN_lt e1
    walk_at "go"
    refine br_p (fun q => ?_) (fun q => ?_)
    · rw [e1, if_neg (by simp at q ⊢; omega)] at h
      walk_at "go"
      exact h
    · rw [e1, if_pos ⟨rfl, by simp at q ⊢; omega⟩, wds_d h1] at h
      obtain ⟨x, r, rfl, e0⟩ := wds_0 h0
      rw [e0] at h
      walk_at "go"
      refine ⟨_, ix_hdl, ?_⟩
      walk_at "go"
      refine ⟨_, PW.ix_list (l := (x :: r).map leafD) (i := 1) (by simpa using h1), ?_⟩
      rw [List.getElem_map]
      walk_at "go"
      exact h
theorem x_rp : (PyData.str ")") = dT [41] := by show PyData.str _ = PyData.str _; rw [show (")" : Str) = tx [41] by decide +kernel]
theorem pure_do_row : ∀ args o ret exc, S_do_row args o ret exc → w_do_row (fun x s => exc x (cutL o.length s.o)) (pst0 args o 2) (bodyE o.length ret) := by
  rintro _ _ ret exc ⟨L, rfl, rfl, hL, h0, h⟩
  unfold doF at h
  have hlen := wds_len L
  walk_at "go"
  refine ⟨hL, ?_⟩
  cases e1 : isN (wds L) 1 with
  | false =>
    rw [e1, if_neg (by simp)] at h
    walk_at "go"
    exact h
  | true =>
    have h1 := isN_lt e1
    walk_at "go"
    refine ⟨hL, s_lp, ?_⟩
    rw [c_lp]
    cases e2 : isS (wds L) 2 [40] with
    | false =>
      rw [e2, if_neg (by simp)] at h
      walk_at "go"
      exact h
    | true =>
      rw [e1, e2, if_pos ⟨rfl, rfl⟩, wds_d h1] at h
      walk_at "go"
      refine ⟨L, 3, 6, 41, by rw [← x_rp]; rfl, rfl, hL, .inl rfl, by decide, by decide, by decide, ?_⟩
      cases e : sevF (wds L) 50 3 6 41 with
      | none =>
        rw [e] at h
        walk_at "go"
        exact h
      | some p =>
        obtain ⟨l, b⟩ := p
        rw [e] at h
        simp only at h
        walk_at "go"
        refine br_p (fun q => ?_) (fun q => ?_)
        · rw [if_pos (.inl (by simp at q; omega))] at h
          walk_at "go"
          exact h
        walk_at "go"
        refine br_p (fun q2 => ?_) (fun q2 => ?_)
        · rw [if_pos (.inr (by simp [knsD_len] at q2; omega))] at h
          walk_at "go"
          exact h
        · rw [if_neg (by simp [knsD_len] at q q2 ⊢; omega)] at h
          walk_at "go"
          refine ⟨_, PW.ix_list (l := L.map leafD) (i := 1) (by simpa using h1), ?_⟩
          rw [List.getElem_map]
          walk_at "go"
          refine ⟨_, .inl rfl, ?_⟩
          walk_at "go"
          exact h
end PW

namespace PW
open PySem L2 K13
local macro_rules
  | `(tactic| walk_at "sz") => `(tactic| first | omega | (simp only [tx_len, List.length_append, List.length_map, List.length_cons, List.length_nil, List.length_take, List.length_drop] <;> omega))
  | `(tactic| walk_at "go") => `(tactic| repeat (first | refine ⟨rfl, ?_⟩ | refine ⟨trivial, ?_⟩ | refine ⟨_, rfl, ?_⟩ | refine ⟨_, rfl, rfl, ?_⟩ | refine ⟨_, _, rfl, rfl, ?_⟩ | refine ⟨_, ix_hd, ?_⟩ | refine br_t rfl ?_ | refine br_f rfl ?_ | (refine ⟨le_sz ?_, ?_⟩; focus walk_at "sz") | (refine ⟨lt_sz ?_, ?_⟩; focus walk_at "sz") | (refine ⟨strLe_tx ?_, ?_⟩; focus walk_at "sz") | refine ⟨cmul_r rfl, ?_⟩ | refine ⟨cmul_l rfl, ?_⟩ | refine ⟨pos_ok rfl, ?_⟩ | refine ⟨cdiv_ok rfl, ?_⟩ | refine ⟨_, _, _, _, rfl, rfl, rfl, rfl, ?_⟩ | refine ⟨_, _, rfl, ?_⟩ | refine ⟨_, _, _, rfl, rfl, rfl, ?_⟩ | refine ⟨_, _, _, rfl, rfl, ?_⟩))
theorem inD_dT (w : List Nat) : ∀ ls : List (List Nat), inD (dT w) (ls.map dT) = decide (w ∈ ls)
  | [] => rfl
  | x :: r => by
    have ih := inD_dT w r
    unfold inD at ih ⊢
    rw [List.map_cons, List.any_cons, ih, eqv_strs, Bool.eq_iff_iff]
    simp only [Bool.or_eq_true, beq_iff_eq, decide_eq_true_eq, List.mem_cons]
    constructor
    · rintro (e | e)
      · exact .inl (tx_inj e).symm
      · exact .inr e
    · rintro (e | e)
      · exact .inl (by rw [e])
      · exact .inr e
theorem br_in {w : List Nat} {ds : List PyData} {ws : List (List Nat)} {A B : Prop} (e : ds = ws.map dT) (a : w ∈ ws → A) (b : w ∉ ws → B) : (inD (dT w) ds = true → A) ∧ (inD (dT w) ds = false → B) := by
  rw [e, inD_dT]
  exact br_p a b
def ndA (l : List (List Nat)) (j : Nat) : Bool := match l[j]? with
  | some w => decide (w ∉ l.take j)
  | none => true
theorem nd_all (l : List (List Nat)) : ((List.range l.length).map (ndA l)).all id = decide l.Nodup := by
  rw [Bool.eq_iff_iff]
  simp only [List.all_eq_true, List.mem_map, List.mem_range, decide_eq_true_eq, id]
  unfold List.Nodup
  rw [List.pairwise_iff_getElem]
  constructor
  · intro h i j hi hj hij e
    have := h (ndA l j) ⟨j, hj, rfl⟩
    unfold ndA at this
    rw [List.getElem?_eq_getElem hj] at this
    simp only [decide_eq_true_eq] at this
    refine this ?_
    rw [← e]
    exact List.mem_take_iff_getElem.mpr ⟨i, by omega, rfl⟩
  · rintro h b ⟨j, hj, rfl⟩
    unfold ndA
    rw [List.getElem?_eq_getElem hj]
    simp only [decide_eq_true_eq]
    intro m
    obtain ⟨i, hi, e⟩ := List.mem_take_iff_getElem.mp m
    exact h i j (by omega) hj (by omega) e
theorem shaped_dTs {l : List (List Nat)} (h : ∀ w ∈ l, gdT w) : SeqAt.shaped (.list (l.map dT)) = true := shaped_list fun x m => by
  obtain ⟨w, hw, rfl⟩ := List.mem_map.mp m
  exact ⟨(h w hw).ok, Nat.zero_le _⟩
theorem shaped_dT {w : List Nat} (h : gdT w) : SeqAt.shaped (dT w) = true := by
  unfold SeqAt.shaped
  rw [h.ok]
  rfl
theorem pure_are_unlike : ∀ args o ret exc, S_are_unlike args o ret exc → w_are_unlike (fun x s => exc x (cutL o.length s.o)) (pst0 args o 3) (bodyE o.length ret) := by
  rintro _ _ ret exc ⟨l, rfl, rfl, hg, hl, h⟩
  walk_at "go"
  refine ⟨fun j acc s => s = (⟨[some (.d (.list (l.map dT))), none, none], []⟩ : PSt) ∧ acc = ((List.range j).map (ndA l)).map PyData.bool, ⟨rfl, rfl⟩, fun _ _ _ _ _ => trivial, ?_, ?_⟩
  · rintro j x acc s2 hx ho ⟨rfl, rfl⟩
    rw [enumD_get, Option.map_eq_some_iff] at hx
    obtain ⟨y, hy, rfl⟩ := hx
    obtain ⟨hj, rfl⟩ := map_get hy
    clear hy ho
    have ec : cutD (l.map dT) none (some ((j : Nat) : Int)) = (l.take j).map dT := by rw [cutD_to, List.map_take]
    have e0 : (((0 + j : Nat) : Nat) : Int) = (j : Int) := by omega
    rw [e0]
    have s1 := shaped_dT (hg _ (List.getElem_mem hj))
    have s2 := shaped_dTs fun w m => hg w (List.mem_of_mem_take (i := j) m)
    have ea : ndA l j = !decide (l[j] ∈ l.take j) := by unfold ndA; rw [List.getElem?_eq_getElem hj]; simp
    walk_at "go"
    rw [ec]
    refine ⟨s1, s2, ?_⟩
    walk_at "go"
    refine ⟨lt_sz (by simp; omega), ?_⟩
    walk_at "go"
    rw [inD_dT, List.range_succ, List.map_append, List.map_append]
    show _ = _ ++ [PyData.bool (ndA l j)]
    rw [ea]
    rfl
  rintro acc s2 ho ⟨rfl, rfl⟩
  clear ho
  rw [enumD_len, List.length_map]
  refine ⟨_, rfl, ?_⟩
  rw [nd_all]
  exact h
theorem pure_with_row : ∀ args o ret exc, S_with_row args o ret exc → w_with_row (fun x s => exc x (cutL o.length s.o)) (pst0 args o 6) (bodyE o.length ret) := by
  rintro _ _ ret exc ⟨L, rfl, rfl, hL, h0, h⟩
  have hWl := wds_len L
  have hLl := hL.2
  unfold withF at h
  generalize hR : withL (wds L) ((wds L).length + 1) 1 [] = R at h
  walk_at "go"
  refine ⟨fun m s => ∃ (a : Nat) (acc : List (List Nat × Nat × Kn)) (x3 : Option PV), s = ⟨[some (.d (lvD L)), some (.own 0), some (.d (.int a)), x3, none, none], [.dl (acc.map withD)]⟩ ∧ withL (wds L) m a acc = R ∧ (wds L).length + 1 ≤ m + a ∧ acc.length + m = (wds L).length + 1 ∧ ∀ x ∈ acc, gdT x.1,
    ⟨(wds L).length + 1, 1, [], none, rfl, hR, by omega, by simp, fun _ z => nomatch z⟩, ?_⟩
  rintro m s ⟨a, acc, x3, rfl, hm, hb, hc, hgd⟩
  have hacc : (acc.map withD).length ≤ 2001 := by rw [List.length_map]; omega
  walk_at "go"
  refine ⟨hL, ?_⟩
  cases e1 : isN (wds L) a with
  | false =>
    have eR : R = none := by
      rw [← hm]
      cases m with
      | zero => rfl
      | succ m => rw [withL, e1, if_neg (by simp)]
    rw [eR] at h
    walk_at "go"
    exact h
  | true =>
    have ha := isN_lt e1
    obtain ⟨m', rfl⟩ : ∃ m', m = m' + 1 := ⟨m - 1, by omega⟩
    rw [withL, e1] at hm
    walk_at "go"
    refine ⟨hL, s_eq, ?_⟩
    rw [c_eq]
    cases e2 : isS (wds L) (a + 1) [61] with
    | false =>
      rw [e2, if_neg (by simp)] at hm
      rw [← hm] at h
      walk_at "go"
      exact h
    | true =>
      rw [e2, if_pos ⟨rfl, rfl⟩, wds_d ha] at hm
      walk_at "go"
      refine ⟨hL, ?_⟩
      cases e : cmpF (wds L) 50 (a + 2) 6 with
      | none =>
        rw [e] at hm
        rw [← hm] at h
        walk_at "go"
        exact h
      | some r =>
        obtain ⟨k, b⟩ := r
        have hg := good_cmp e
        rw [e] at hm
        simp only at hm
        have eL : ∀ x : List Nat × Nat × Kn, acc.map withD ++ [withD x] = (acc ++ [x]).map withD := fun x => by rw [List.map_append]; rfl
        have hgn : ∀ x ∈ acc ++ [(L[a].1, a, k)], gdT x.1 := fun x q => by
          rcases List.mem_append.mp q with q | q
          · exact hgd x q
          · rw [List.mem_singleton] at q
            subst q
            exact (hL.1 _ (List.getElem_mem ha)).2.2
        have hlen2 : (acc ++ [(L[a].1, a, k)]).length = acc.length + 1 := by simp
        walk_at "go"
        refine ⟨_, PW.ix_list (l := L.map leafD) (i := a) (by simpa using ha), ?_⟩
        rw [List.getElem_map]
        walk_at "go"
        refine br_eqI (fun q => ?_) (fun q => ?_)
        · have q' : b = (wds L).length := by simp at q; omega
          rw [if_pos q'] at hm
          generalize hA : acc ++ [(L[a].1, a, k)] = acc' at hm eL hgn hlen2
          have eA : acc.map withD ++ [withD (L[a].1, a, k)] = acc'.map withD := by rw [← hA, List.map_append]; rfl
          have eA' : acc.map withD ++ [.tuple [dT L[a].1, .int (a : Nat), knD k]] = acc'.map withD := eA
          walk_at "go"
          rw [eA']
          refine br_p (fun q2 => ?_) (fun q2 => ?_)
          · have q2' : acc.length + 1 ≤ 6 := by rw [List.length_map, hlen2] at q2; omega
            walk_at "go"
            refine ⟨fun j ac s => s = (⟨[some (.d (lvD L)), some (.d (.list (acc'.map withD))), some (.d (.int b)), some (.d (resD (some (k, b)))), none, none], [.no]⟩ : PSt) ∧ ac = ((acc'.map (·.1)).take j).map dT, ⟨rfl, rfl⟩, fun _ _ _ _ _ => trivial, ?_, ?_⟩
            · rintro j x ac s2 hx ho ⟨rfl, rfl⟩
              obtain ⟨hj, rfl⟩ := map_get hx
              clear hx ho
              walk_at "go"
              rw [take_map_succ' (f := dT) (L := acc'.map (·.1)) (by rw [List.length_map]; exact hj), List.getElem_map]
            rintro ac s2 ho ⟨rfl, rfl⟩
            clear ho
            rw [List.length_map, show acc'.length = (acc'.map (·.1)).length by rw [List.length_map], List.take_length]
            walk_at "go"
            refine ⟨fun w m => ?_, by rw [List.length_map]; omega, ?_⟩
            · obtain ⟨x, hx, rfl⟩ := List.mem_map.mp m
              exact hgn x hx
            by_cases hnd : (acc'.map (·.1)).Nodup
            · rw [if_pos ⟨q2', hnd⟩] at hm
              rw [← hm] at h
              rw [decide_eq_true hnd]
              walk_at "go"
              refine ⟨_, .inl rfl, ?_⟩
              walk_at "go"
              exact h
            · rw [if_neg (fun z => hnd z.2)] at hm
              rw [← hm] at h
              rw [decide_eq_false hnd]
              walk_at "go"
              exact h
          · rw [if_neg (fun z => q2 (by rw [List.length_map, hlen2]; have := z.1; omega))] at hm
            rw [← hm] at h
            walk_at "go"
            exact h
        · have q' : ¬ b = (wds L).length := by simp at q; omega
          rw [if_neg q'] at hm
          walk_at "go"
          refine ⟨hL, s_cm, ?_⟩
          rw [c_cm]
          cases e3 : isS (wds L) b [44] with
          | false =>
            rw [e3, if_neg (by simp)] at hm
            rw [← hm] at h
            walk_at "go"
            exact h
          | true =>
            rw [e3, if_pos rfl] at hm
            walk_at "go"
            refine ⟨m', by omega, .inl ⟨b + 1, acc ++ [(L[a].1, a, k)], some (.d (resD (some (k, b)))), ?_, hm, by omega, by omega, hgn⟩⟩
            rw [← eL]
            rfl
def w_help2 : SW :=
 (wRet (wIf (wB (wCall S_are_unlike (wCons (wLc (wL (wVar 1)) (gN 3) wYes (wIx (wVar 3) (wC (.int 0))) [3]) wNil))) (wTup (wCons (wC (.str "helper")) (wCons (wIx (wIx (wVar 0) (wC (.int 1))) (wC (.int 1))) (wCons (wC (.int 1)) (wCons (wTupOf (wVar 1)) wNil))))) (wC .none)))
theorem pure_helper_row : ∀ args o ret exc, S_helper_row args o ret exc → w_helper_row (fun x s => exc x (cutL o.length s.o)) (pst0 args o 4) (bodyE o.length ret) := by
  rintro _ _ ret exc ⟨L, rfl, rfl, hL, h0, h⟩
  have hWl := wds_len L
  have hLl := hL.2
  unfold helperF at h
  walk_at "go"
  refine ⟨hL, ?_⟩
  cases e1 : isN (wds L) 1 with
  | false =>
    rw [e1, if_neg (by simp)] at h
    walk_at "go"
    exact h
  | true =>
    have h1 := isN_lt e1
    walk_at "go"
    refine ⟨hL, s_lp, ?_⟩
    rw [c_lp]
    cases e2 : isS (wds L) 2 [40] with
    | false =>
      rw [e2, if_neg (by simp)] at h
      walk_at "go"
      exact h
    | true =>
      have h2 := isS_ltL e2
      have en : ((L.length - 1 : Nat) : Int) = ((L.map leafD).length : Int) - 1 := by rw [List.length_map]; omega
      walk_at "go"
      refine ⟨L, L.length - 1, ")", by rw [en], rfl, hL, s_rp, ?_⟩
      rw [c_rp]
      rw [hWl] at h
      cases e3 : isS (wds L) (L.length - 1) [41] with
      | false =>
        rw [e3, if_neg (by simp)] at h
        walk_at "go"
        exact h
      | true =>
        rw [e1, e2, e3, if_pos ⟨rfl, rfl, rfl⟩, wds_d h1] at h
        generalize hR : helpL (wds L) (L.length - 1 - 3) 3 [] = R at h
        have enx : (((L.map leafD).length : Int) - 1 - 3).toNat = L.length - 1 - 3 := by rw [List.length_map]; omega
        walk_at "go"
        refine ⟨⟨by omega, by omega, by rw [List.length_map]; omega, by rw [List.length_map]; omega⟩, ?_⟩
        rw [enx]
        refine ⟨fun j s => ∃ (acc : List (List Nat × Nat)) (x2 : Option PV), s = ⟨[some (.d (lvD L)), some (.own 0), x2, none], [.dl (acc.map helpD)]⟩ ∧ helpL (wds L) (L.length - 1 - 3 - j) (3 + j) acc = R ∧ acc.length ≤ j ∧ (∀ x ∈ acc, gdT x.1) ∧ ∀ n, cutP n x2 = x2,
          ⟨[], none, rfl, hR, by simp, ⟨(fun _ z => nomatch z), fun _ => rfl⟩⟩, fun _ _ _ _ => trivial, ?_, ?_⟩
        · rintro j x s hx ⟨acc, x2, rfl, hm, hc, hgd, hx2⟩
          obtain ⟨hj, rfl⟩ := PW.ints_get hx
          clear hx
          have ej : (3 : Int) + (j : Int) = ((3 + j : Nat) : Int) := by omega
          rw [ej]
          obtain ⟨m', hm'⟩ : ∃ m', L.length - 1 - 3 - j = m' + 1 := ⟨L.length - 1 - 3 - j - 1, by omega⟩
          have hm'' : L.length - 1 - 3 - (j + 1) = m' := by omega
          have hjl : 3 + j < L.length := by omega
          have hacc : (acc.map helpD).length ≤ 2001 := by rw [List.length_map]; omega
          rw [hm', helpL] at hm
          walk_at "go"
          refine br_eqI (fun q => ?_) (fun q => ?_)
          · have q' : (3 + j) % 2 = 1 := by omega
            rw [if_pos q'] at hm
            walk_at "go"
            refine ⟨hL, ?_⟩
            cases e4 : isN (wds L) (3 + j) with
            | false =>
              rw [e4, if_neg (by simp)] at hm
              rw [← hm] at h
              walk_at "go"
              exact h
            | true =>
              rw [e4, if_pos rfl, wds_d hjl] at hm
              walk_at "go"
              refine ⟨_, PW.ix_list (l := L.map leafD) (i := 3 + j) (by simpa using hjl), ?_⟩
              rw [List.getElem_map]
              walk_at "go"
              refine .inl ⟨acc ++ [(L[3 + j].1, 3 + j)], some (.d (.int ((3 + j : Nat) : Int))), ?_, by rw [hm'']; exact hm, by simp; omega, fun x q => ?_, fun _ => rfl⟩
              · rw [List.map_append]
                rfl
              · rcases List.mem_append.mp q with q | q
                · exact hgd x q
                · rw [List.mem_singleton] at q
                  subst q
                  exact (hL.1 _ (List.getElem_mem hjl)).2.2
          · have q' : ¬ (3 + j) % 2 = 1 := by omega
            rw [if_neg q'] at hm
            walk_at "go"
            refine ⟨hL, s_cm, ?_⟩
            rw [c_cm]
            cases e4 : isS (wds L) (3 + j) [44] with
            | false =>
              rw [e4, if_neg (by simp)] at hm
              rw [← hm] at h
              walk_at "go"
              exact h
            | true =>
              rw [e4, if_pos rfl] at hm
              walk_at "go"
              exact .inl ⟨acc, some (.d (.int ((3 + j : Nat) : Int))), rfl, by rw [hm'']; exact hm, by omega, hgd, fun _ => rfl⟩
        rintro s ⟨acc, x2, rfl, hm, hc, hgd, hx2⟩
        rw [PW.ints_len] at hm hc
        rw [Nat.sub_self, helpL] at hm
        rw [← hm] at h
        simp only at h
        have tail : ∀ (kx : KX), ¬ ((4 < L.length ∧ L.length % 2 = 0) ∨ 6 < acc.length) → w_help2 kx ⟨[some (.d (lvD L)), some (.own 0), x2, none], [.dl (acc.map helpD)]⟩ (bodyE 0 ret) := by
          intro kx q
          rw [if_neg q] at h
          unfold w_help2
          walk_at "go"
          refine ⟨fun j ac s => s = (⟨[some (.d (lvD L)), some (.d (.list (acc.map helpD))), x2, none], [.no]⟩ : PSt) ∧ ac = ((acc.map (·.1)).take j).map dT, ⟨?_, rfl⟩, fun _ _ _ _ _ => trivial, ?_, ?_⟩
          · cases x2 with
            | none => rfl
            | some v =>
              cases v with
              | own n => have := hx2 0; simp [cutP] at this
              | _ => rfl
          · rintro j x ac s2 hx ho ⟨rfl, rfl⟩
            obtain ⟨hj, rfl⟩ := map_get hx
            clear hx ho
            have e2 := hx2 1
            walk_at "go"
            refine ⟨?_, ?_⟩
            · show (⟨[some (.d (lvD L)), some (.d (.list (acc.map helpD))), cutP 1 x2, none], [.no]⟩ : PSt) = _
              rw [e2]
            rw [take_map_succ' (f := dT) (L := acc.map (·.1)) (by rw [List.length_map]; exact hj), List.getElem_map]
          · rintro ac s2 ho ⟨rfl, rfl⟩
            clear ho
            rw [List.length_map, show acc.length = (acc.map (·.1)).length by rw [List.length_map], List.take_length]
            walk_at "go"
            refine ⟨fun w m => ?_, by rw [List.length_map]; omega, ?_⟩
            · obtain ⟨x, hx, rfl⟩ := List.mem_map.mp m
              exact hgd x hx
            by_cases hnd : (acc.map (·.1)).Nodup
            · rw [if_pos hnd] at h
              rw [decide_eq_true hnd]
              walk_at "go"
              refine ⟨_, PW.ix_list (l := L.map leafD) (i := 1) (by simpa using h1), ?_⟩
              rw [List.getElem_map]
              walk_at "go"
              refine ⟨_, .inl rfl, ?_⟩
              walk_at "go"
              exact h
            · rw [if_neg hnd] at h
              rw [decide_eq_false hnd]
              walk_at "go"
              exact h
        walk_at "go"
        refine br_p (fun q => ?_) (fun q => ?_)
        · walk_at "go"
          refine br_eqI (fun q2 => ?_) (fun q2 => ?_)
          · rw [if_pos (.inl ⟨by rw [List.length_map] at q; omega, by rw [List.length_map] at q2; omega⟩)] at h
            walk_at "go"
            exact h
          · walk_at "go"
            refine br_p (fun q3 => ?_) (fun q3 => ?_)
            · rw [if_pos (.inr (by rw [List.length_map] at q3; omega))] at h
              walk_at "go"
              exact h
            · exact tail _ (by rw [List.length_map] at q q2 q3; omega)
        · walk_at "go"
          refine br_p (fun q3 => ?_) (fun q3 => ?_)
          · rw [if_pos (.inr (by rw [List.length_map] at q3; omega))] at h
            walk_at "go"
            exact h
          · exact tail _ (by rw [List.length_map] at q q3; omega)
theorem pure_row_by : ∀ args o ret exc, S_row_by args o ret exc → w_row_by (fun x s => exc x (cutL o.length s.o)) (pst0 args o 2) (bodyE o.length ret) := by
  rintro _ _ ret exc ⟨L, rfl, rfl, hL, h0, h⟩
  unfold rowF at h
  obtain ⟨x, r, rfl, e0⟩ := wds_0 h0
  rw [e0] at h
  walk_at "go"
  refine ⟨_, ix_hdl, ?_⟩
  walk_at "go"
  refine br_in (ws := [k_let, k_set]) (by simp only [kx_let, kx_set]; rfl) (fun q => ?_) (fun q => ?_)
  · rw [if_pos q] at h
    walk_at "go"
    exact ⟨hL, h0, h⟩
  rw [if_neg q] at h
  walk_at "go"
  refine br_in (ws := [k_say, k_fault, k_if, k_while]) (by simp only [kx_say, kx_fault, kx_if, kx_while]; rfl) (fun q => ?_) (fun q => ?_)
  · rw [if_pos q] at h
    walk_at "go"
    exact ⟨hL, h0, h⟩
  rw [if_neg q] at h
  walk_at "go"
  refine br_in (ws := [k_read, k_catch]) (by simp only [kx_read, kx_catch]; rfl) (fun q => ?_) (fun q => ?_)
  · rw [if_pos q] at h
    walk_at "go"
    exact ⟨hL, h0, h⟩
  rw [if_neg q] at h
  walk_at "go"
  refine br_tx kx_do (fun q => ?_) (fun q => ?_)
  · rw [if_pos q] at h
    walk_at "go"
    exact ⟨hL, h0, h⟩
  rw [if_neg q] at h
  walk_at "go"
  refine br_tx kx_with (fun q => ?_) (fun q => ?_)
  · rw [if_pos q] at h
    walk_at "go"
    exact ⟨hL, h0, h⟩
  rw [if_neg q] at h
  walk_at "go"
  refine br_tx kx_helper (fun q => ?_) (fun q => ?_)
  · rw [if_pos q] at h
    walk_at "go"
    exact ⟨hL, h0, h⟩
  rw [if_neg q] at h
  have hWl := wds_len (x :: r)
  walk_at "go"
  refine br_in (ws := [k_block, k_try, k_else, k_finally, k_end]) (by simp only [kx_block, kx_try, kx_else, kx_finally, kx_end]; rfl) (fun q => ?_) (fun q => ?_)
  · walk_at "go"
    refine br_eqI (fun q2 => ?_) (fun q2 => ?_)
    · rw [if_pos ⟨q, by rw [hWl]; rw [List.length_map] at q2; omega⟩] at h
      walk_at "go"
      exact h
    · rw [if_neg (fun z => q2 (by have := z.2; rw [hWl] at this; rw [List.length_map]; omega))] at h
      walk_at "go"
      exact h
  · rw [if_neg (fun z => q z.1)] at h
    walk_at "go"
    exact h
end PW

namespace PW
open PySem L2 K13
local macro_rules
  | `(tactic| walk_at "sz") => `(tactic| first | omega | (simp only [tx_len, List.length_append, List.length_map, List.length_cons, List.length_nil, List.length_take, List.length_drop] <;> omega))
  | `(tactic| walk_at "go") => `(tactic| repeat (first | refine ⟨rfl, ?_⟩ | refine ⟨trivial, ?_⟩ | refine ⟨_, rfl, ?_⟩ | refine ⟨_, rfl, rfl, ?_⟩ | refine ⟨_, _, rfl, rfl, ?_⟩ | refine ⟨_, ix_hd, ?_⟩ | refine br_t rfl ?_ | refine br_f rfl ?_ | (refine ⟨le_sz ?_, ?_⟩; focus walk_at "sz") | (refine ⟨lt_sz ?_, ?_⟩; focus walk_at "sz") | (refine ⟨strLe_tx ?_, ?_⟩; focus walk_at "sz") | refine ⟨cmul_r rfl, ?_⟩ | refine ⟨cmul_l rfl, ?_⟩ | refine ⟨pos_ok rfl, ?_⟩ | refine ⟨cdiv_ok rfl, ?_⟩ | refine ⟨_, _, _, _, rfl, rfl, rfl, rfl, ?_⟩ | refine ⟨_, _, rfl, ?_⟩ | refine ⟨_, _, _, rfl, rfl, rfl, ?_⟩ | refine ⟨_, _, _, rfl, rfl, ?_⟩))
def Rn (F : List Lf) : Prop := ∀ x ∈ F, ∀ c ∈ x.1, grp c = grp (x.1.headD 0)
theorem Rn.step {F : List Lf} {p c : Nat} (h : Rn F) : Rn (stepS F p c) := by
  unfold stepS
  split
  · exact h
  · split
    · rename_i hj
      split
      · rename_i w q e
        have hne : F ≠ [] := by rintro rfl; cases e
        rw [List.getLast?_eq_some_getLast hne] at e
        have e' : F.getLast hne = (w, q) := Option.some.inj e
        have hm : (w, q) ∈ F := e' ▸ List.getLast_mem hne
        have hw := h _ hm
        unfold joins at hj
        rw [List.getLast?_eq_some_getLast hne, e'] at hj
        simp only [Bool.and_eq_true, decide_eq_true_eq] at hj
        intro x m
        rcases List.mem_append.mp m with m | m
        · exact h x (List.dropLast_subset _ m)
        · rw [List.mem_singleton] at m
          subst m
          intro d hd
          cases w with
          | nil =>
            have : d = c := by simpa using hd
            rw [this]; rfl
          | cons y r =>
            rcases List.mem_append.mp hd with hd | hd
            · exact hw d hd
            · rw [List.mem_singleton] at hd
              rw [hd]
              exact hj.1.2.symm
      · exact h
    · intro x m
      rcases List.mem_append.mp m with m | m
      · exact h x m
      · rw [List.mem_singleton] at m
        subst m
        intro d hd
        have : d = c := by simpa using hd
        rw [this]; rfl
theorem Rn.fold : ∀ {l : List Nat} {F : List Lf} {p : Nat}, Rn F → Rn (foldS F p l)
  | [], _, _, h => h
  | c :: r, F, p, h => Rn.fold (l := r) h.step
theorem rn_lvs : ∀ (Ls : List (List Nat)) (b : Nat), Rn (lvs b Ls)
  | [], _ => fun _ m => nomatch m
  | x :: r, b => fun y m => by
    rcases List.mem_append.mp m with m | m
    · exact Rn.fold (F := []) (fun _ z => nomatch z) y m
    · exact rn_lvs r _ y m
theorem lvs_len : ∀ (Ls : List (List Nat)) (b : Nat), (lvs b Ls).length ≤ Ls.flatten.length
  | [], _ => Nat.zero_le _
  | x :: r, b => by
    have h1 := foldS_len (x.take (idx 35 x)) [] b
    have h2 := lvs_len r (b + x.length)
    show (foldS [] b (x.take (idx 35 x)) ++ lvs (b + x.length) r).length ≤ (x ++ r.flatten).length
    rw [List.length_append, List.length_append]
    rw [List.length_take, List.length_nil] at h1
    omega
theorem leaves_len (l : List Nat) : (leavesL l).length ≤ l.length := by
  have := lvs_len (linesL l) 0
  rw [lines_flat] at this
  exact this
theorem lvOk {l : List Nat} (hg : gdT l) (hl : l.length ≤ 2000) : LvOk (leavesL l) := by
  refine ⟨fun x m => ?_, Nat.le_trans (leaves_len l) hl⟩
  obtain ⟨w, q⟩ := x
  obtain ⟨a, b, c, d⟩ := leaves_ok hg w q m
  refine ⟨⟨a, by show w.length ≤ 10000; omega, d⟩, fun hf ch hc => ?_, c⟩
  have hr := rn_lvs (linesL l) 0 _ m ch hc
  have h2 : grp (w.headD 0) = 2 := (grp_fig hf).1
  have hr : grp ch = 2 := by rw [hr]; exact h2
  exact grp_2 hr
theorem unit_ok {l u : List Nat} (hg : gdT l) (hl : l.length ≤ 2000) (hu : u ∈ unitsL l) : gdT u ∧ u.length ≤ 2000 := by
  have hf := due_flat (linesL l) ((linesL l).map clsN) _ (Nat.le_refl _)
  rw [List.take_length, lines_flat] at hf
  have hs := List.sublist_flatten_of_mem hu
  have hf' : (unitsL l).flatten = l := hf
  rw [hf'] at hs
  exact ⟨fun c m => hg c (hs.subset m), Nat.le_trans hs.length_le hl⟩
theorem units_len {l : List Nat} (hl : l.length ≤ 2000) : (unitsL l).length ≤ 2001 := by
  have h1 := mkLines_le (spl1 10 [] l)
  have h2 := (spl1_le 10 l []).2
  have h3 : (linesL l).length ≤ 2001 := by
    show (mkLines (spl1 10 [] l)).length ≤ 2001
    omega
  have h4 : (begs ((linesL l).map clsN) (linesL l).length).length ≤ (linesL l).length := by
    unfold begs
    have := List.length_filter_le (beg ((linesL l).map clsN)) (List.range (linesL l).length)
    rw [List.length_range] at this
    exact this
  show (pcs (linesL l) (begs ((linesL l).map clsN) (linesL l).length) (linesL l).length).length ≤ 2001
  rw [pcs_zip, List.length_map, List.length_zip]
  omega
theorem pure_row_of (G N : Addr) : ∀ args o ret exc, S_row_of N G args o ret exc → w_row_of G N (fun x s => exc x (cutL o.length s.o)) (pst0 args o 2) (bodyE o.length ret) := by
  rintro _ _ ret exc ⟨v, rfl, rfl, h⟩
  have h0 := h
  rcases h.arg with ⟨x, rfl⟩ | ⟨kvs, rfl⟩
  all_goals
    walk_at "go"
    refine h0.imp (fun l ev hg hl hq => ?_) fun C z => z
    first
      | (cases ev; done)
      | (injection ev with ev; subst ev)
  clear h0 h
  have h := hq
  clear hq
  have hL := lvOk hg hl
  have hsh : SeqAt.shaped (.list ((leavesL l).map leafD)) = true := shaped_list fun x m => by
    obtain ⟨w, hw, rfl⟩ := List.mem_map.mp m
    have hk : (PyData.str (kindS w.1)).canLay0 = true := by
      unfold kindS
      split
      · split
        · decide +kernel
        · split <;> decide +kernel
      · split
        · split <;> decide +kernel
        · split <;> decide +kernel
    have := LayD.tup (m := 0) (l3 (LayD.str hk) (LayD.str (hL.1 _ hw).2.2.ok) (LayD.int ((w.2 : Nat) : Int)))
    exact ⟨this.1, Nat.le_trans this.2 (by decide)⟩
  unfold rowT at h
  walk_at "go"
  refine ⟨eqOk_of hsh rfl, ?_⟩
  refine ⟨_, rfl, ?_⟩
  refine br_d (leavesL l = []) (by cases leavesL l <;> simp [PyData.eqv, PyData.eqvAll]) (fun q => ?_) (fun q => ?_)
  · rw [if_pos q] at h
    walk_at "go"
    exact h
  · rw [if_neg q] at h
    walk_at "go"
    exact ⟨hL, List.length_pos_iff.mpr q, h⟩
theorem pure_rows_of (G N : Addr) : ∀ args o ret exc, S_rows_of N G args o ret exc → w_rows_of G N (fun x s => exc x (cutL o.length s.o)) (pst0 args o 2) (bodyE o.length ret) := by
  rintro _ _ ret exc ⟨l, rfl, rfl, hg, hl, h⟩
  walk_at "go"
  refine NeedT.ok hg hl ?_
  walk_at "go"
  refine ⟨fun j acc s => s = (⟨[some (.d (dT l)), none], [.no]⟩ : PSt) ∧ acc = ((unitsL l).take j).map fun u => rowO (rowT u), ⟨rfl, rfl⟩, fun _ _ _ _ _ => trivial, ?_, ?_⟩
  · rintro j x acc s2 hx ho ⟨rfl, rfl⟩
    obtain ⟨hj, rfl⟩ := map_get hx
    clear hx ho
    have hu := unit_ok hg hl (List.getElem_mem hj)
    have hz := units_len hl
    walk_at "go"
    refine NeedT.ok hu.1 hu.2 ?_
    walk_at "go"
    rw [take_map_succ' (f := fun u => rowO (rowT u)) hj]
  rintro acc s2 ho ⟨rfl, rfl⟩
  clear ho
  rw [List.length_map, List.take_length]
  exact ⟨Nat.zero_le _, _, rfl, h⟩
end PW

namespace PW
open PySem L2
/-! ### knots of rules -/
def kids : Kn → List Kn
  | .num _ => [] | .name _ _ => [] | .br a => [a] | .row l => l | .look a l => a :: l | .not_ a => [a] | .minus a => [a] | .times l => l | .sum _ l => l | .less a b => [a, b] | .same a b => [a, b]
def kwS : Kn → Str
  | .num _ => "number" | .name _ _ => "name" | .br _ => "bracket" | .row _ => "row" | .look _ _ => "look" | .not_ _ => "not" | .minus _ => "minus" | .times _ => "times" | .sum _ _ => "sum" | .less _ _ => "less" | .same _ _ => "same"
mutual
def allK : Kn → Bool
  | .num _ => true | .name _ _ => true | .br a => allK a | .row _ => false | .look _ _ => false | .not_ _ => false | .minus a => allK a | .times l => allKs l | .sum _ l => allKs l | .less _ _ => false | .same _ _ => false
def allKs : List Kn → Bool
  | [] => true
  | a :: r => allK a && allKs r
end
def unbr : Kn → Kn
  | .br a => unbr a
  | e => e
mutual
/-- the words of the names, each once -/
def blk : Kn → List (List Nat)
  | .num _ => [] | .name w _ => [w] | .br a => blk a | .row _ => [] | .look _ _ => [] | .not_ _ => [] | .minus a => blk a | .times l => blks [] l | .sum _ l => blks [] l | .less _ _ => [] | .same _ _ => []
def blks (acc : List (List Nat)) : List Kn → List (List Nat)
  | [] => acc
  | a :: r => blks (acc ++ (blk a).filter fun w => decide (w ∉ acc)) r
end
mutual
def deg (w : List Nat) : Kn → Nat
  | .num _ => 0 | .name x _ => if x = w then 1 else 0 | .br a => deg w a | .row _ => 0 | .look _ _ => 0 | .not_ _ => 0 | .minus a => deg w a | .times l => degS w l | .sum _ l => degM w l | .less _ _ => 0 | .same _ _ => 0
def degS (w : List Nat) : List Kn → Nat
  | [] => 0
  | a :: r => deg w a + degS w r
def degM (w : List Nat) : List Kn → Nat
  | [] => 0
  | a :: r => max (deg w a) (degM w r)
end
abbrev KSd : List PyData := [.str "number", .str "name", .str "bracket", .str "minus", .str "times", .str "sum"]
def S_parts_of : FS := fun args o ret exc => ∃ e, args = [.d (knD e)] ∧ o = [] ∧ okK e ∧ szK e ≤ 100000 ∧ ret (.new (knsD (kids e))) []
def S_are_all (n : Nat) : FS := fun args o ret exc => ∃ e, args = [.d (knD e), .d (.tuple KSd)] ∧ o = [] ∧ okK e ∧ hgt e ≤ n ∧ szK e ≤ 100000 ∧ ret (.d (.bool (allK e))) []
def S_unbracketed : FS := fun args o ret exc => ∃ e, args = [.d (knD e)] ∧ o = [] ∧ ret (.d (knD (unbr e))) []
def S_blanks_in (n : Nat) : FS := fun args o ret exc => ∃ e, args = [.d (knD e)] ∧ o = [] ∧ okK e ∧ allK e = true ∧ hgt e ≤ n ∧ szK e ≤ 1000 ∧ (knD e).canLay0 = true ∧ ret (.new ((blk e).map dT)) []
def S_degree (n : Nat) : FS := fun args o ret exc => ∃ e w, args = [.d (knD e), .d (dT w)] ∧ o = [] ∧ okK e ∧ allK e = true ∧ hgt e ≤ n ∧ szK e ≤ 1000 ∧ ret (.d (.int (deg w e : Nat))) []
theorem zero_are_all : ∀ args o r e, ¬ S_are_all 0 args o r e := by
  rintro _ _ r x ⟨e, _, _, _, h, _⟩
  have := hgt_pos e
  omega
theorem zero_blanks_in : ∀ args o r e, ¬ S_blanks_in 0 args o r e := by
  rintro _ _ r x ⟨e, _, _, _, _, h, _⟩
  have := hgt_pos e
  omega
theorem zero_degree : ∀ args o r e, ¬ S_degree 0 args o r e := by
  rintro _ _ r x ⟨e, w, _, _, _, _, h, _⟩
  have := hgt_pos e
  omega
local macro_rules
  | `(tactic| walk_at "sz") => `(tactic| first | omega | (simp only [lit_nl, tx_len, List.length_append, List.length_map, List.length_cons, List.length_nil, List.length_take, List.length_drop] <;> omega))
  | `(tactic| walk_at "go") => `(tactic| repeat (first | refine ⟨rfl, ?_⟩ | refine ⟨trivial, ?_⟩ | refine ⟨_, rfl, ?_⟩ | refine ⟨_, rfl, rfl, ?_⟩ | refine ⟨_, _, rfl, rfl, ?_⟩ | refine ⟨_, ix_hd, ?_⟩ | refine br_t rfl ?_ | refine br_f rfl ?_ | (refine ⟨le_sz ?_, ?_⟩; focus walk_at "sz") | (refine ⟨lt_sz ?_, ?_⟩; focus walk_at "sz") | (refine ⟨strLe_tx ?_, ?_⟩; focus walk_at "sz") | refine ⟨cmul_r rfl, ?_⟩ | refine ⟨cmul_l rfl, ?_⟩ | refine ⟨pos_ok rfl, ?_⟩ | refine ⟨cdiv_ok rfl, ?_⟩ | refine ⟨_, _, _, _, rfl, rfl, rfl, rfl, ?_⟩ | refine ⟨_, _, rfl, ?_⟩ | refine ⟨_, _, _, rfl, rfl, rfl, ?_⟩ | refine ⟨_, _, _, rfl, rfl, ?_⟩))
def w_parts_of : SW :=
 (wSeq (wIfS (wB (wIn (wIx (wVar 0) (wC (.int 0))) (wTup (wCons (wC (.str "number")) (wCons (wC (.str "name")) wNil)))))
  (wRet (wLst wNil))
  wNext)
 (wSeq (wIfS (wB (wIn (wIx (wVar 0) (wC (.int 0))) (wTup (wCons (wC (.str "row")) (wCons (wC (.str "times")) wNil)))))
  (wRet (wListOf (wIx (wVar 0) (wC (.int 1)))))
  wNext)
 (wSeq (wIfS (wB (wEq (wIx (wVar 0) (wC (.int 0))) (wC (.str "sum"))))
  (wRet (wLc (wTp (wIx (wVar 0) (wC (.int 1)))) (gN 1) wYes (wIx (wVar 1) (wC (.int 1))) [1]))
  wNext)
 (wSeq (wIfS (wB (wEq (wIx (wVar 0) (wC (.int 0))) (wC (.str "look"))))
  (wRet (wCat (wLst (wCons (wIx (wVar 0) (wC (.int 1))) wNil)) (wListOf (wIx (wVar 0) (wC (.int 2))))))
  wNext)
 (wRet (wListOf (wSl (wVar 0) (wPart (wC (.int 1))) wNoPart)))))))
def w_are_all (R_are_all : FS) : SW :=
 (wRet (wAndV (wIn (wIx (wVar 0) (wC (.int 0))) (wVar 1)) (wAll (wLc (wL (wCall S_parts_of (wCons (wVar 0) wNil))) (gN 2) wYes (wCall R_are_all (wCons (wVar 2) (wCons (wVar 1) wNil))) [2]))))
def w_unbracketed : SW :=
 (wSeq (wWh (wB (wEq (wIx (wVar 0) (wC (.int 0))) (wC (.str "bracket"))))
  (wAsg (wIx (wVar 0) (wC (.int 1))) 0))
 (wRet (wVar 0)))
def w_blanks_in (R_blanks_in : FS) : SW :=
 (wSeq (wIfS (wB (wEq (wIx (wVar 0) (wC (.int 0))) (wC (.str "name"))))
  (wRet (wLst (wCons (wIx (wVar 0) (wC (.int 1))) wNil)))
  wNext)
 (wSeq (wAsg (wLst wNil) 1)
 (wSeq (wFor (wL (wCall S_parts_of (wCons (wVar 0) wNil))) (gN 2)
  (wDrop (wExt (wVar 1) (wLc (wL (wCall R_blanks_in (wCons (wVar 2) wNil))) (gN 3) (wB (wNotIn (wVar 3) (wVar 1))) (wVar 3) [3]))))
 (wRet (wVar 1)))))
def w_degree (R_degree : FS) : SW :=
 (wSeq (wIfS (wB (wEq (wIx (wVar 0) (wC (.int 0))) (wC (.str "name"))))
  (wRet (wInt1 (wEq (wIx (wVar 0) (wC (.int 1))) (wVar 1))))
  wNext)
 (wSeq (wAsg (wLc (wL (wCall S_parts_of (wCons (wVar 0) wNil))) (gN 3) wYes (wCall R_degree (wCons (wVar 3) (wCons (wVar 1) wNil))) [3]) 2)
 (wRet (wIf (wB (wEq (wIx (wVar 0) (wC (.int 0))) (wC (.str "times")))) (wSum (wVar 2)) (wMaxDf (wVar 2) 0)))))
theorem kids_all {e : Kn} (h : allK e = true) : ∀ x ∈ kids e, allK x = true := by
  have key : ∀ l : List Kn, allKs l = true → ∀ x ∈ l, allK x = true := by
    intro l
    induction l with
    | nil => intro _ x m; exact nomatch m
    | cons a r ih =>
      intro h x m
      rw [allKs, Bool.and_eq_true] at h
      rcases List.mem_cons.mp m with e | m
      · rw [e]; exact h.1
      · exact ih h.2 x m
  cases e <;> simp [allK] at h <;> simp [kids]
  · exact h
  · exact h
  · exact key _ h
  · exact key _ h
theorem kids_ok {e : Kn} (h : okK e) : ∀ x ∈ kids e, okK x := by
  cases e with
  | num _ => intro x m; exact nomatch m
  | name _ _ => intro x m; exact nomatch m
  | br a => intro x m; rw [List.mem_singleton.mp m]; exact h
  | not_ a => intro x m; rw [List.mem_singleton.mp m]; exact h
  | minus a => intro x m; rw [List.mem_singleton.mp m]; exact h
  | row l => exact okKs_of h
  | times l => exact okKs_of h.2
  | sum s l => exact okKs_of h.2.2
  | look a l =>
    intro x m
    rcases List.mem_cons.mp m with e | m
    · rw [e]; exact h.1
    · exact okKs_of h.2.2 x m
  | less a b =>
    intro x m
    rcases List.mem_cons.mp m with e | m
    · rw [e]; exact h.1
    · rw [List.mem_singleton.mp m]; exact h.2
  | same a b =>
    intro x m
    rcases List.mem_cons.mp m with e | m
    · rw [e]; exact h.1
    · rw [List.mem_singleton.mp m]; exact h.2
theorem kids_hgt {e : Kn} {n : Nat} (h : hgt e ≤ n + 1) : ∀ x ∈ kids e, hgt x ≤ n := by
  cases e with
  | num _ => intro x m; exact nomatch m
  | name _ _ => intro x m; exact nomatch m
  | br a => intro x m; rw [List.mem_singleton.mp m]; rw [hgt] at h; omega
  | not_ a => intro x m; rw [List.mem_singleton.mp m]; rw [hgt] at h; omega
  | minus a => intro x m; rw [List.mem_singleton.mp m]; rw [hgt] at h; omega
  | row l => rw [hgt] at h; exact hgts_of (l := l) (by omega)
  | times l => rw [hgt] at h; exact hgts_of (l := l) (by omega)
  | sum s l => rw [hgt] at h; exact hgts_of (l := l) (by omega)
  | look a l =>
    intro x m
    rw [hgt] at h
    rcases List.mem_cons.mp m with e | m
    · rw [e]; omega
    · exact hgts_of (l := l) (by omega) x m
  | less a b =>
    intro x m
    rw [hgt] at h
    rcases List.mem_cons.mp m with e | m
    · rw [e]; omega
    · rw [List.mem_singleton.mp m]; omega
  | same a b =>
    intro x m
    rw [hgt] at h
    rcases List.mem_cons.mp m with e | m
    · rw [e]; omega
    · rw [List.mem_singleton.mp m]; omega
theorem kids_szs (e : Kn) : szKs (kids e) < szK e := by
  cases e <;> simp only [kids, szK, szKs] <;> omega
theorem kids_sz (e : Kn) : ∀ x ∈ kids e, szK x < szK e := fun x m => by
  have := szKs_of m
  have := kids_szs e
  omega
theorem kids_len (e : Kn) : (kids e).length < szK e := by
  have := szKs_len (kids e)
  have := kids_szs e
  omega
theorem knD_hd (e : Kn) : ∃ r, knD e = .tuple (.str (kwS e) :: r) := by
  cases e <;> exact ⟨_, rfl⟩
theorem ix_kn (e : Kn) : ixD (knD e) 0 = some (.str (kwS e)) := by cases e <;> rfl
theorem strLe_kn (e : Kn) : strLe (knD e) := by cases e <;> exact trivial
theorem kw_name (e : Kn) : (∃ w k, e = .name w k) ∨ PyData.eqv (.str (kwS e)) (.str "name") = false := by
  cases e with
  | name w k => exact .inl ⟨w, k, rfl⟩
  | _ => exact .inr (by simp only [kwS]; decide +kernel)
theorem pure_parts_of : ∀ args o ret exc, S_parts_of args o ret exc → w_parts_of (fun x s => exc x (cutL o.length s.o)) (pst0 args o 2) (bodyE o.length ret) := by
  rintro _ _ ret exc ⟨e, rfl, rfl, hok, hz, h⟩
  have hl := kids_len e
  cases e with
  | num i => walk_at "go"; exact ⟨Nat.zero_le _, _, rfl, h⟩
  | name w k => walk_at "go"; exact ⟨Nat.zero_le _, _, rfl, h⟩
  | br a => walk_at "go"; refine ⟨_, .inr rfl, ?_⟩; exact ⟨Nat.zero_le _, _, rfl, h⟩
  | not_ a => walk_at "go"; refine ⟨_, .inr rfl, ?_⟩; exact ⟨Nat.zero_le _, _, rfl, h⟩
  | minus a => walk_at "go"; refine ⟨_, .inr rfl, ?_⟩; exact ⟨Nat.zero_le _, _, rfl, h⟩
  | row l => walk_at "go"; refine ⟨_, .inr rfl, ?_⟩; exact ⟨Nat.zero_le _, _, rfl, h⟩
  | times l => walk_at "go"; refine ⟨_, .inr rfl, ?_⟩; exact ⟨Nat.zero_le _, _, rfl, h⟩
  | less a b => walk_at "go"; refine ⟨_, .inr rfl, ?_⟩; exact ⟨Nat.zero_le _, _, rfl, h⟩
  | same a b => walk_at "go"; refine ⟨_, .inr rfl, ?_⟩; exact ⟨Nat.zero_le _, _, rfl, h⟩
  | look a l =>
    walk_at "go"
    refine ⟨_, .inr rfl, ?_⟩
    have hl : (a :: l).length < _ := hl
    walk_at "go"
    refine ⟨le_sz (by rw [knsD_len, List.length_singleton]; rw [List.length_cons] at hl; omega), ?_⟩
    exact ⟨Nat.zero_le _, _, rfl, h⟩
  | sum ss l =>
    have hz2 : ss.length = (knsD l).length := by rw [knsD_len]; exact hok.1
    have hl' : l.length < szK (.sum ss l) := hl
    walk_at "go"
    refine ⟨fun j acc s => s = (⟨[some (.d (knD (.sum ss l))), none], []⟩ : PSt) ∧ acc = ((l.take j).map knD), ⟨rfl, rfl⟩, fun _ _ _ _ _ => trivial, ?_, ?_⟩
    · rintro j x acc s2 hx ho ⟨rfl, rfl⟩
      obtain ⟨sb, y, hy, rfl⟩ := zipS_at _ _ _ _ hz2 hx
      rw [knsD_map] at hy
      obtain ⟨hj, rfl⟩ := map_get hy
      clear hy hx ho
      walk_at "go"
      rw [take_map_succ' hj]
    rintro acc s2 ho ⟨rfl, rfl⟩
    clear ho
    rw [show (zipS ss (knsD l)).length = l.length by rw [zipS_len _ _ hz2, knsD_len], List.take_length, ← knsD_map]
    exact ⟨Nat.zero_le _, _, rfl, h⟩
theorem allKs_all : ∀ l : List Kn, allKs l = l.all allK
  | [] => rfl
  | a :: r => by rw [allKs, allKs_all r, List.all_cons]
theorem allK_eq (e : Kn) : allK e = (inD (.str (kwS e)) KSd && (kids e).all allK) := by
  have t : ∀ b, (true && b) = b := fun b => by cases b <;> rfl
  cases e with
  | num _ => rfl
  | name _ _ => rfl
  | br a => rw [show inD (.str (kwS (.br a))) KSd = true from (show inD (.str "bracket") KSd = true by decide +kernel), t, kids, List.all_cons, List.all_nil, Bool.and_true, allK]
  | minus a => rw [show inD (.str (kwS (.minus a))) KSd = true from (show inD (.str "minus") KSd = true by decide +kernel), t, kids, List.all_cons, List.all_nil, Bool.and_true, allK]
  | times l => rw [show inD (.str (kwS (.times l))) KSd = true from (show inD (.str "times") KSd = true by decide +kernel), t, kids, allK, allKs_all]
  | sum s l => rw [show inD (.str (kwS (.sum s l))) KSd = true from (show inD (.str "sum") KSd = true by decide +kernel), t, kids, allK, allKs_all]
  | row l => rw [show inD (.str (kwS (.row l))) KSd = false from (show inD (.str "row") KSd = false by decide +kernel), Bool.false_and, allK]
  | look a l => rw [show inD (.str (kwS (.look a l))) KSd = false from (show inD (.str "look") KSd = false by decide +kernel), Bool.false_and, allK]
  | not_ a => rw [show inD (.str (kwS (.not_ a))) KSd = false from (show inD (.str "not") KSd = false by decide +kernel), Bool.false_and, allK]
  | less a b => rw [show inD (.str (kwS (.less a b))) KSd = false from (show inD (.str "less") KSd = false by decide +kernel), Bool.false_and, allK]
  | same a b => rw [show inD (.str (kwS (.same a b))) KSd = false from (show inD (.str "same") KSd = false by decide +kernel), Bool.false_and, allK]
theorem flatK : KSd.all flatD = true := rfl
theorem pure_are_all (n : Nat) : ∀ args o ret exc, S_are_all (n + 1) args o ret exc → w_are_all (S_are_all n) (fun x s => exc x (cutL o.length s.o)) (pst0 args o 3) (bodyE o.length ret) := by
  rintro _ _ ret exc ⟨e, rfl, rfl, hok, hh, hz, h⟩
  have hl := kids_len e
  rw [allK_eq] at h
  walk_at "go"
  refine ⟨strLe_kn e, _, ix_kn e, ?_⟩
  walk_at "go"
  refine ⟨fun hc => ?_, fun hc => ?_⟩
  · have hc : inD (.str (kwS e)) KSd = true := hc
    rw [hc, Bool.true_and] at h
    walk_at "go"
    refine ⟨hok, by omega, ?_⟩
    walk_at "go"
    refine ⟨fun j acc s => s = (⟨[some (.d (knD e)), some (.d (.tuple KSd)), none], [.no]⟩ : PSt) ∧ acc = (((kids e).take j).map allK).map PyData.bool, ⟨rfl, rfl⟩, fun _ _ _ _ _ => trivial, ?_, ?_⟩
    · rintro j x acc s2 hx ho ⟨rfl, rfl⟩
      rw [knsD_map] at hx
      obtain ⟨hj, rfl⟩ := map_get hx
      have hma := List.getElem_mem hj
      have h1 := kids_ok hok _ hma
      have h2 := kids_hgt hh _ hma
      have h3 := kids_sz e _ hma
      clear hx ho
      walk_at "go"
      refine ⟨h1, h2, by omega, ?_⟩
      walk_at "go"
      rw [List.map_map, List.map_map, take_map_succ' hj]
      rfl
    rintro acc s2 ho ⟨rfl, rfl⟩
    clear ho
    refine ⟨_, rfl, ?_⟩
    rw [knsD_len, List.take_length, show ((kids e).map allK).all id = (kids e).all allK by rw [List.all_map]; rfl]
    exact h
  · have hc : inD (.str (kwS e)) KSd = false := hc
    rw [hc, Bool.false_and] at h
    exact h
theorem pure_unbracketed : ∀ args o ret exc, S_unbracketed args o ret exc → w_unbracketed (fun x s => exc x (cutL o.length s.o)) (pst0 args o 1) (bodyE o.length ret) := by
  rintro _ _ ret exc ⟨e, rfl, rfl, h⟩
  walk_at "go"
  refine ⟨fun m s => ∃ a, s = ⟨[some (.d (knD a))], []⟩ ∧ unbr a = unbr e ∧ m = szK a, ⟨_, e, rfl, rfl, rfl⟩, ?_⟩
  rintro m _ ⟨a, rfl, ha, rfl⟩
  walk_at "go"
  refine ⟨strLe_kn a, _, ix_kn a, ?_⟩
  cases a with
  | br b =>
    walk_at "go"
    refine ⟨_, ?_, .inl ⟨b, rfl, ha, rfl⟩⟩
    rw [szK]; omega
  | _ =>
    walk_at "go"
    rw [← ha] at h
    exact h
theorem blk_eq {e : Kn} (h : allK e = true) : (∃ w k, e = .name w k) ∨ blk e = blks [] (kids e) := by
  have one : ∀ a : Kn, blks [] [a] = blk a := fun a => by
    rw [blks, blks, List.nil_append, List.filter_eq_self.mpr]
    intro x _
    simp
  cases e with
  | name w k => exact .inl ⟨w, k, rfl⟩
  | num _ => exact .inr rfl
  | br a => exact .inr (by rw [kids, one, blk])
  | minus a => exact .inr (by rw [kids, one, blk])
  | times l => exact .inr (by rw [kids, blk])
  | sum s l => exact .inr (by rw [kids, blk])
  | _ => simp [allK] at h
theorem blks_take {l : List Kn} {acc : List (List Nat)} : ∀ {j : Nat} (hj : j < l.length), blks acc (l.take (j + 1)) = blks acc (l.take j) ++ (blk l[j]).filter fun w => decide (w ∉ blks acc (l.take j)) := by
  induction l generalizing acc with
  | nil => intro j hj; exact absurd hj (by simp)
  | cons a r ih =>
    intro j hj
    cases j with
    | zero => rw [List.take_succ_cons, List.take_zero, List.take_zero, blks, blks, blks]; rfl
    | succ j => rw [List.take_succ_cons, List.take_succ_cons, blks, blks, ih (by simpa using hj)]; rfl
mutual
theorem blk_len : ∀ e : Kn, (blk e).length ≤ szK e
  | .num _ => by simp [blk]
  | .name _ _ => by simp [blk, szK]
  | .br a => by rw [blk, szK]; have := blk_len a; omega
  | .row _ => by simp [blk]
  | .look _ _ => by simp [blk]
  | .not_ _ => by simp [blk]
  | .minus a => by rw [blk, szK]; have := blk_len a; omega
  | .times l => by rw [blk, szK]; have := blks_len [] l; simp at this; omega
  | .sum _ l => by rw [blk, szK]; have := blks_len [] l; simp at this; omega
  | .less _ _ => by simp [blk]
  | .same _ _ => by simp [blk]
theorem blks_len (acc : List (List Nat)) : ∀ l : List Kn, (blks acc l).length ≤ acc.length + szKs l
  | [] => by simp [blks]
  | a :: r => by
    rw [blks, szKs]
    have h1 := blks_len (acc ++ (blk a).filter fun w => decide (w ∉ acc)) r
    have h2 := blk_len a
    have h3 := List.length_filter_le (fun w => decide (w ∉ acc)) (blk a)
    rw [List.length_append] at h1
    omega
end
theorem inD_words (w : List Nat) : ∀ l : List (List Nat), inD (dT w) (l.map dT) = decide (w ∈ l)
  | [] => by simp [inD]
  | a :: r => by
    have ih := inD_words w r
    unfold inD at ih ⊢
    rw [List.map_cons, List.any_cons, ih, eqv_tx]
    rw [Bool.eq_iff_iff]
    simp
    constructor
    · rintro (h | h)
      · exact .inl h.symm
      · exact .inr h
    · rintro (h | h)
      · exact .inl h.symm
      · exact .inr h
theorem canAll {xs : List PyData} (h : PyData.canLayAll0 xs = true) : ∀ x ∈ xs, x.canLay0 = true := by
  induction xs with
  | nil => intro x m; exact nomatch m
  | cons a r ih =>
    rw [PyData.canLayAll0, Bool.and_eq_true] at h
    intro x m
    rcases List.mem_cons.mp m with e | m
    · rw [e]; exact h.1
    · exact ih h.2 x m
theorem canT {xs : List PyData} (h : (PyData.tuple xs).canLay0 = true) : ∀ x ∈ xs, x.canLay0 = true := canAll (by rw [PyData.canLay0] at h; exact h)
theorem canKs {l : List Kn} (h : (PyData.tuple (knsD l)).canLay0 = true) : ∀ a ∈ l, (knD a).canLay0 = true := fun a m => canT h _ (by rw [knsD_map]; exact List.mem_map_of_mem m)
theorem canZ : ∀ {s : List Bool} {l : List Kn}, s.length = l.length → (PyData.tuple (zipS s (knsD l))).canLay0 = true → ∀ a ∈ l, (knD a).canLay0 = true
  | [], [], _, _ => fun a m => nomatch m
  | b :: s, a :: l, e, h => fun x m => by
    have h : PyData.canLayAll0 (.tuple [sgD b, knD a] :: zipS s (knsD l)) = true := by rw [PyData.canLay0] at h; exact h
    rw [PyData.canLayAll0, Bool.and_eq_true] at h
    rcases List.mem_cons.mp m with z | m
    · rw [z]; exact canT h.1 _ (List.mem_cons_of_mem _ List.mem_cons_self)
    · exact canZ (s := s) (l := l) (by simpa using e) (by rw [PyData.canLay0]; exact h.2) x m
  | [], _ :: _, e, _ => by simp at e
  | _ :: _, [], e, _ => by simp at e
theorem kids_can {e : Kn} (hok : okK e) (hall : allK e = true) (h : (knD e).canLay0 = true) : ∀ a ∈ kids e, (knD a).canLay0 = true := by
  cases e with
  | num _ => intro a m; exact nomatch m
  | name _ _ => intro a m; exact nomatch m
  | br b => intro a m; rw [List.mem_singleton.mp m]; exact canT h _ (List.mem_cons_of_mem _ List.mem_cons_self)
  | minus b => intro a m; rw [List.mem_singleton.mp m]; exact canT h _ (List.mem_cons_of_mem _ List.mem_cons_self)
  | times l => exact canKs (canT h _ (List.mem_cons_of_mem _ List.mem_cons_self))
  | sum s l => exact canZ hok.1 (canT h _ (List.mem_cons_of_mem _ List.mem_cons_self))
  | _ => simp [allK] at hall
theorem blk_can (n : Nat) : ∀ e : Kn, szK e ≤ n → okK e → allK e = true → (knD e).canLay0 = true → ∀ w ∈ blk e, (dT w).canLay0 = true := by
  induction n with
  | zero => intro e h; have := szK_pos e; omega
  | succ n ih =>
    intro e hz hok hall h w hw
    rcases blk_eq hall with ⟨x, k, rfl⟩ | hb
    · rw [blk, List.mem_singleton] at hw
      rw [hw]
      exact canT h _ (List.mem_cons_of_mem _ List.mem_cons_self)
    · rw [hb] at hw
      have hk : ∀ a ∈ kids e, ∀ w ∈ blk a, (dT w).canLay0 = true := fun a m => ih a (by have := kids_sz e a m; omega) (kids_ok hok a m) (kids_all hall a m) (kids_can hok hall h a m)
      have key : ∀ (l : List Kn) (acc : List (List Nat)), (∀ w ∈ acc, (dT w).canLay0 = true) → (∀ a ∈ l, ∀ w ∈ blk a, (dT w).canLay0 = true) → ∀ w ∈ blks acc l, (dT w).canLay0 = true := by
        intro l
        induction l with
        | nil => intro acc h1 _ w hw; rw [blks] at hw; exact h1 w hw
        | cons a r ih2 =>
          intro acc h1 h2 w hw
          rw [blks] at hw
          refine ih2 _ (fun v hv => ?_) (fun b m => h2 b (List.mem_cons_of_mem _ m)) w hw
          rcases List.mem_append.mp hv with hv | hv
          · exact h1 v hv
          · exact h2 a List.mem_cons_self v (List.mem_filter.mp hv).1
      exact key _ [] (fun w m => nomatch m) hk w hw
theorem shaped_ws {l : List (List Nat)} (h : ∀ w ∈ l, (dT w).canLay0 = true) : SeqAt.shaped (.list (l.map dT)) = true := shaped_list fun x m => by
  obtain ⟨w, hw, rfl⟩ := List.mem_map.mp m
  exact ⟨h w hw, Nat.zero_le _⟩
theorem shaped_w {w : List Nat} (h : (dT w).canLay0 = true) : SeqAt.shaped (dT w) = true := by
  unfold SeqAt.shaped
  rw [h]; rfl
theorem filter_take {α : Type} {p : α → Bool} {l : List α} {j : Nat} (h : j < l.length) : (l.take (j + 1)).filter p = (l.take j).filter p ++ (if p l[j] then [l[j]] else []) := by
  rw [List.take_add_one, List.getElem?_eq_getElem h, List.filter_append]
  congr 1
  show List.filter p [l[j]] = _
  rw [List.filter_cons, List.filter_nil]
theorem blks_taken {e : Kn} {j : Nat} : (blks [] ((kids e).take j)).length ≤ szK e := by
  have h1 := blks_len [] ((kids e).take j)
  have h2 : szKs ((kids e).take j) ≤ szKs (kids e) := by
    have := szKs_app ((kids e).take j) ((kids e).drop j)
    rw [List.take_append_drop] at this
    omega
  have := kids_szs e
  simp at h1
  omega
theorem blks_in {w : List Nat} : ∀ (m : List Kn) (acc : List (List Nat)), w ∈ acc → w ∈ blks acc m
  | [], acc, h => by rw [blks]; exact h
  | a :: r, acc, h => by rw [blks]; exact blks_in r _ (List.mem_append_left _ h)
theorem blks_more {w : List Nat} : ∀ (l m : List Kn) (acc : List (List Nat)), w ∈ blks acc l → w ∈ blks acc (l ++ m)
  | [], m, acc, h => by rw [blks] at h; exact blks_in m acc h
  | a :: r, m, acc, h => by rw [List.cons_append, blks]; rw [blks] at h; exact blks_more r m _ h
theorem pure_blanks_in (n : Nat) : ∀ args o ret exc, S_blanks_in (n + 1) args o ret exc → w_blanks_in (S_blanks_in n) (fun x s => exc x (cutL o.length s.o)) (pst0 args o 4) (bodyE o.length ret) := by
  rintro _ _ ret exc ⟨e, rfl, rfl, hok, hall, hh, hz, hcan, h⟩
  have hl := kids_len e
  walk_at "go"
  refine ⟨strLe_kn e, _, ix_kn e, ?_⟩
  walk_at "go"
  rcases kw_name e with ⟨w, k, rfl⟩ | hk
  · walk_at "go"
    exact ⟨Nat.zero_le _, _, rfl, h⟩
  have hb : blk e = blks [] (kids e) := by
    rcases blk_eq hall with ⟨x, k, rfl⟩ | hb
    · exact absurd hk (by simp only [kwS]; decide +kernel)
    · exact hb
  refine br_f hk ?_
  walk_at "go"
  refine ⟨hok, by omega, ?_⟩
  walk_at "go"
  refine ⟨fun j s => ∃ x2 x3, s = ⟨[some (.d (knD e)), some (.own 0), x2, x3], [.dl ((blks [] ((kids e).take j)).map dT), .no]⟩, ⟨none, none, rfl⟩, fun _ _ _ _ => trivial, ?_, ?_⟩
  · rintro j x s hx ⟨x2, x3, rfl⟩
    rw [knsD_map] at hx
    obtain ⟨hj, rfl⟩ := map_get hx
    have hma := List.getElem_mem hj
    have h1 := kids_ok hok _ hma
    have h2 := kids_hgt hh _ hma
    have h3 := kids_sz e _ hma
    have h4 := kids_all hall _ hma
    have h5 := kids_can hok hall hcan _ hma
    have h6 := blk_can _ _ (Nat.le_refl _) h1 h4 h5
    have h7 := blk_len (kids e)[j]
    have h8 : ∀ w ∈ blks [] ((kids e).take j), (dT w).canLay0 = true := fun w hw => blk_can _ e (Nat.le_refl _) hok hall hcan w (by
      rw [hb, ← List.take_append_drop j (kids e)]
      exact blks_more _ _ _ hw)
    have h9 : (blks [] ((kids e).take j)).length ≤ szK e := blks_taken
    have hst := blks_take (l := kids e) (acc := []) hj
    generalize hF : blks [] ((kids e).take j) = F at *
    generalize hB : blk (kids e)[j] = B at *
    clear hx
    walk_at "go"
    refine ⟨h1, h4, h2, by omega, h5, ?_⟩
    rw [hB]
    walk_at "go"
    refine ⟨fun i acc s => s = (⟨[some (.d (knD e)), some (.own 0), some (.d (knD (kids e)[j])), none], [.dl (F.map dT), .no, .no]⟩ : PSt) ∧ acc = ((B.take i).filter fun w => decide (w ∉ F)).map dT, ⟨rfl, rfl⟩, fun _ _ _ _ _ => trivial, ?_, ?_⟩
    · rintro i x acc s2 hx ho ⟨rfl, rfl⟩
      obtain ⟨hi, rfl⟩ := map_get hx
      clear hx ho
      have hw := h6 _ (List.getElem_mem hi)
      have hlen : ((B.take i).filter fun w => decide (w ∉ F)).length ≤ 1000 := by
        have := List.length_filter_le (fun w => decide (w ∉ F)) (B.take i)
        rw [List.length_take] at this
        omega
      walk_at "go"
      refine ⟨shaped_w hw, shaped_ws h8, ?_⟩
      refine ⟨_, rfl, ?_⟩
      have hin : (!inD (dT B[i]) (F.map dT)) = decide (B[i] ∉ F) := by rw [inD_words]; simp
      have hst2 := filter_take (p := fun w => decide (w ∉ F)) hi
      refine ⟨fun c => ?_, fun c => ?_⟩
      · have c : decide (B[i] ∉ F) = true := hin ▸ c
        rw [if_pos c] at hst2
        walk_at "go"
        rw [hst2, List.map_append]
        rfl
      · have c : decide (B[i] ∉ F) = false := hin ▸ c
        rw [if_neg (by rw [c]; decide), List.append_nil] at hst2
        walk_at "go"
        rw [hst2]
    rintro acc s2 ho ⟨rfl, rfl⟩
    clear ho
    rw [List.length_map, List.take_length]
    have hlen : (B.filter fun w => decide (w ∉ F)).length ≤ 1000 := by
      have := List.length_filter_le (fun w => decide (w ∉ F)) B
      omega
    walk_at "go"
    refine .inr ⟨some (.d (knD (kids e)[j])), none, ?_⟩
    rw [hst, List.map_append]
    rfl
  · rintro s ⟨x2, x3, rfl⟩
    rw [knsD_len, List.take_length, ← hb]
    walk_at "go"
    exact ⟨Nat.zero_le _, _, rfl, h⟩
theorem deg_eq {w : List Nat} {e : Kn} (h : allK e = true) : (∃ x k, e = .name x k) ∨ deg w e = (if PyData.eqv (.str (kwS e)) (.str "times") then ((kids e).map (deg w)).sum else (kids e).foldr (fun a m => max (deg w a) m) 0) := by
  have f : ∀ e : Kn, (∀ l, e ≠ .times l) → PyData.eqv (.str (kwS e)) (.str "times") = false := by
    intro e he
    cases e with
    | times l => exact absurd rfl (he l)
    | _ => simp only [kwS]; decide +kernel
  have hs : ∀ l : List Kn, degS w l = (l.map (deg w)).sum := by
    intro l
    induction l with
    | nil => rfl
    | cons a r ih => rw [degS, ih, List.map_cons, List.sum_cons]
  have hm : ∀ l : List Kn, degM w l = l.foldr (fun a m => max (deg w a) m) 0 := by
    intro l
    induction l with
    | nil => rfl
    | cons a r ih => rw [degM, ih, List.foldr_cons]
  cases e with
  | name x k => exact .inl ⟨x, k, rfl⟩
  | num _ => exact .inr (by rw [f _ (fun l z => by cases z)]; rfl)
  | br a => exact .inr (by rw [f _ (fun l z => by cases z)]; simp [deg, kids])
  | minus a => exact .inr (by rw [f _ (fun l z => by cases z)]; simp [deg, kids])
  | times l => exact .inr (by rw [deg, hs, if_pos (by simp only [kwS]; decide +kernel)]; rfl)
  | sum s l => exact .inr (by rw [f _ (fun l z => by cases z), deg, hm]; rfl)
  | _ => simp [allK] at h
theorem sum_cast (l : List Nat) : (l.map fun (x : Nat) => (x : Int)).sum = ((l.sum : Nat) : Int) := by
  induction l with
  | nil => rfl
  | cons a r ih => rw [List.map_cons, List.sum_cons, List.sum_cons, ih]; omega
theorem max_of {f : Kn → Nat} : ∀ {l : List Kn} {m : Int}, m ∈ l.map (fun a => (f a : Int)) → (∀ y ∈ l.map (fun a => (f a : Int)), y ≤ m) → m = ((l.foldr (fun a m => max (f a) m) 0 : Nat) : Int)
  | [], m, h, _ => nomatch h
  | a :: r, m, h, g => by
    have h1 : ((f a : Nat) : Int) ≤ m := g _ (by simp)
    have h2 : ∀ l : List Kn, (∀ y ∈ l.map (fun a => (f a : Int)), y ≤ m) → ((l.foldr (fun a m => max (f a) m) 0 : Nat) : Int) ≤ max m 0 := by
      intro l
      induction l with
      | nil => intro _; simp; omega
      | cons b r ih =>
        intro g
        have := ih fun y hy => g y (List.mem_cons_of_mem _ hy)
        have := g (f b : Int) (by simp)
        rw [List.foldr_cons]
        omega
    have h3 := h2 r fun y hy => g y (List.mem_cons_of_mem _ hy)
    rw [List.foldr_cons]
    rcases List.mem_cons.mp h with e | h
    · have e : m = (f a : Int) := e
      omega
    · have ih := max_of (f := f) h fun y hy => g y (List.mem_cons_of_mem _ hy)
      omega
theorem pure_degree (n : Nat) : ∀ args o ret exc, S_degree (n + 1) args o ret exc → w_degree (S_degree n) (fun x s => exc x (cutL o.length s.o)) (pst0 args o 4) (bodyE o.length ret) := by
  rintro _ _ ret exc ⟨e, w, rfl, rfl, hok, hall, hh, hz, h⟩
  have hl := kids_len e
  walk_at "go"
  refine ⟨strLe_kn e, _, ix_kn e, ?_⟩
  walk_at "go"
  rcases kw_name e with ⟨x, k, rfl⟩ | hk
  · walk_at "go"
    refine .inr ⟨_, rfl, ?_⟩
    rw [eqv_tx]
    rw [deg] at h
    by_cases c : x = w
    · rw [if_pos c] at h; simp only [c, decide_true]; exact h
    · rw [if_neg c] at h; simp only [c, decide_false]; exact h
  refine br_f hk ?_
  have hd : deg w e = (if PyData.eqv (.str (kwS e)) (.str "times") then ((kids e).map (deg w)).sum else (kids e).foldr (fun a m => max (deg w a) m) 0) := by
    rcases deg_eq (w := w) hall with ⟨x, k, rfl⟩ | hb
    · exact absurd hk (by simp only [kwS]; decide +kernel)
    · exact hb
  rw [hd] at h
  walk_at "go"
  refine ⟨hok, by omega, ?_⟩
  walk_at "go"
  refine ⟨fun j acc s => s = (⟨[some (.d (knD e)), some (.d (dT w)), none, none], [.no]⟩ : PSt) ∧ acc = (((kids e).take j).map fun a => (deg w a : Int)).map PyData.int, ⟨rfl, rfl⟩, fun _ _ _ _ _ => trivial, ?_, ?_⟩
  · rintro j x acc s2 hx ho ⟨rfl, rfl⟩
    rw [knsD_map] at hx
    obtain ⟨hj, rfl⟩ := map_get hx
    have hma := List.getElem_mem hj
    have h1 := kids_ok hok _ hma
    have h2 := kids_hgt hh _ hma
    have h3 := kids_sz e _ hma
    have h4 := kids_all hall _ hma
    clear hx ho
    walk_at "go"
    refine ⟨h1, h4, h2, by omega, ?_⟩
    walk_at "go"
    rw [List.map_map, List.map_map, take_map_succ' hj]
    rfl
  rintro acc s2 ho ⟨rfl, rfl⟩
  clear ho
  rw [knsD_len, List.take_length]
  walk_at "go"
  refine ⟨strLe_kn e, _, ix_kn e, ?_⟩
  walk_at "go"
  refine ⟨fun c => ?_, fun c => ?_⟩
  · rw [show PyData.eqv (.str (kwS e)) (.str "times") = true from c, if_pos rfl] at h
    refine ⟨_, rfl, ?_⟩
    refine ⟨_, rfl, ?_⟩
    have e2 : ((kids e).map fun a => (deg w a : Int)).sum = ((((kids e).map (deg w)).sum : Nat) : Int) := by
      rw [← sum_cast, List.map_map]
      rfl
    rw [e2]
    exact h
  · rw [show PyData.eqv (.str (kwS e)) (.str "times") = false from c] at h
    refine ⟨_, rfl, ?_⟩
    refine ⟨_, rfl, fun z => ?_, fun m hm hg => ?_⟩
    · have : kids e = [] := by simpa using z
      rw [this] at h
      exact h
    · rw [max_of hm hg]
      exact h
end PW

namespace PW
open PySem L2 K13
/-! ### the sides of rules, rules -/
def cmpT (l : List Nat) : Res := cmpF (wds (leavesL l)) 50 0 6
abbrev OPd : List PyData := [.str "minus", .str "times", .str "sum"]
def isOp (k : Kn) : Bool := inD (.str (kwS (unbr k))) OPd
def sideF (l : List Nat) : Option Kn := match cmpT l with
  | none => none
  | some (k, b) => if b < (leavesL l).length ∨ 20 < (leavesL l).length then none else if allK k && isOp k then some k else none
def tooHigh (ws : List (List Nat)) (k : Kn) : Bool := ws.any fun w => decide (4 < deg w k)
def ruleF (l m : List Nat) : Option (Kn × Kn) := match sideF l, sideF m with
  | some a, some b => if ¬ (blk a).Perm (blk b) ∨ 3 < (blk a).length then none else if tooHigh (blk a) a || tooHigh (blk a) b then none else some (a, b)
  | _, _ => none
def rulD : Kn × Kn → PyData := fun p => .tuple [knD p.1, knD p.2]
def S_side_of (N G R : Addr) : FS := fun args o ret exc => ∃ v, args = [v] ∧ o = [] ∧ NeedT N G v (fun l => match sideF l with | some k => ret (.d (knD k)) [] | none => exc ⟨R, none⟩ []) (fun C => exc ⟨C, none⟩ [])
def S_rule_of (N G R : Addr) : FS := fun args o ret exc => ∃ v u, args = [v, u] ∧ o = [] ∧ NeedT N G v (fun l => NeedT N G u (fun m => match ruleF l m with | some p => ret (.d (rulD p)) [] | none => exc ⟨R, none⟩ []) (fun C => exc ⟨C, none⟩ [])) (fun C => exc ⟨C, none⟩ [])
def S_blanks_of : FS := fun args o ret exc => ∃ p : Kn × Kn, args = [.d (rulD p)] ∧ o = [] ∧ okK p.1 ∧ allK p.1 = true ∧ hgt p.1 ≤ 50 ∧ szK p.1 ≤ 1000 ∧ (knD p.1).canLay0 = true ∧ ret (.d (.tuple ((blk p.1).map dT))) []
structure SideOk (k : Kn) : Prop where
  ok : okK k
  all : allK k = true
  hgt : hgt k ≤ 50
  sz : szK k ≤ 20
  can : (knD k).canLay0 = true
theorem sideF_ok {l : List Nat} (hg : gdT l) (hl : l.length ≤ 2000) {k : Kn} (h : sideF l = some k) : SideOk k := by
  have hL := lvOk hg hl
  unfold sideF cmpT at h
  cases e : cmpF (wds (leavesL l)) 50 0 6 with
  | none => rw [e] at h; cases h
  | some r =>
    obtain ⟨j, b⟩ := r
    rw [e] at h
    simp only at h
    split at h
    · cases h
    · rename_i hb
      split at h
      · rename_i ha
        cases h
        rw [Bool.and_eq_true] at ha
        obtain ⟨g1, g2, g3, g4⟩ := (good_all (wds (leavesL l)) 50).2.2.2.2.2.2 _ _ _ _ e
        have hwl : (wds (leavesL l)).length = (leavesL l).length := wds_len _
        exact ⟨g1, ha.1, g2, by omega, (lay_cmp (lv_gd hL) e).1⟩
      · cases h
local macro_rules
  | `(tactic| walk_at "sz") => `(tactic| first | omega | (simp only [lit_nl, tx_len, List.length_append, List.length_map, List.length_cons, List.length_nil, List.length_take, List.length_drop] <;> omega))
  | `(tactic| walk_at "go") => `(tactic| repeat (first | refine ⟨rfl, ?_⟩ | refine ⟨trivial, ?_⟩ | refine ⟨_, rfl, ?_⟩ | refine ⟨_, rfl, rfl, ?_⟩ | refine ⟨_, _, rfl, rfl, ?_⟩ | refine ⟨_, ix_hd, ?_⟩ | refine br_t rfl ?_ | refine br_f rfl ?_ | (refine ⟨le_sz ?_, ?_⟩; focus walk_at "sz") | (refine ⟨lt_sz ?_, ?_⟩; focus walk_at "sz") | (refine ⟨strLe_tx ?_, ?_⟩; focus walk_at "sz") | refine ⟨cmul_r rfl, ?_⟩ | refine ⟨cmul_l rfl, ?_⟩ | refine ⟨pos_ok rfl, ?_⟩ | refine ⟨cdiv_ok rfl, ?_⟩ | refine ⟨_, _, _, _, rfl, rfl, rfl, rfl, ?_⟩ | refine ⟨_, _, rfl, ?_⟩ | refine ⟨_, _, _, rfl, rfl, rfl, ?_⟩ | refine ⟨_, _, _, rfl, rfl, ?_⟩))
def w_side_of (C_TooGreat : Addr) (C_NoText : Addr) (C_NoRule : Addr) : SW :=
 (wSeq (wAsg (wCall (S_leaves_of C_NoText C_TooGreat) (wCons (wVar 0) wNil)) 1)
 (wSeq (wAsg (wCallD S_expression (wCons (wVar 1) wNil) [(PyData.int 0)]) 2)
 (wSeq (wIfS (wOr (wB (wIsN (wVar 2))) (wOr (wB (wLt (wIx (wVar 2) (wC (.int 1))) (wLen (wVar 1)))) (wB (wGt (wLen (wVar 1)) (wC (.int 20))))))
  (wRaise C_NoRule)
  wNext)
 (wSeq (wIfS (wNot (wB (wCall (S_are_all 50) (wCons (wIx (wVar 2) (wC (.int 0))) (wCons (wTup (wCons (wC (.str "number")) (wCons (wC (.str "name")) (wCons (wC (.str "bracket")) (wCons (wC (.str "minus")) (wCons (wC (.str "times")) (wCons (wC (.str "sum")) wNil))))))) wNil)))))
  (wRaise C_NoRule)
  wNext)
 (wSeq (wIfS (wB (wNotIn (wIx (wCall S_unbracketed (wCons (wIx (wVar 2) (wC (.int 0))) wNil)) (wC (.int 0))) (wTup (wCons (wC (.str "minus")) (wCons (wC (.str "times")) (wCons (wC (.str "sum")) wNil))))))
  (wRaise C_NoRule)
  wNext)
 (wRet (wIx (wVar 2) (wC (.int 0)))))))))
def w_rule_of (C_TooGreat : Addr) (C_NoText : Addr) (C_NoRule : Addr) : SW :=
 (wSeq (wDrop (wCall (S_need_text C_NoText C_TooGreat) (wCons (wVar 0) wNil)))
 (wSeq (wDrop (wCall (S_need_text C_NoText C_TooGreat) (wCons (wVar 1) wNil)))
 (wSeq (wAsg (wTup (wCons (wCall (S_side_of C_NoText C_TooGreat C_NoRule) (wCons (wVar 0) wNil)) (wCons (wCall (S_side_of C_NoText C_TooGreat C_NoRule) (wCons (wVar 1) wNil)) wNil))) 2)
 (wSeq (wAsg (wCall (S_blanks_in 50) (wCons (wIx (wVar 2) (wC (.int 0))) wNil)) 3)
 (wSeq (wIfS (wOr (wB (wNe (wSortS (wVar 3)) (wSortS (wCall (S_blanks_in 50) (wCons (wIx (wVar 2) (wC (.int 1))) wNil))))) (wB (wGt (wLen (wVar 3)) (wC (.int 3)))))
  (wRaise C_NoRule)
  wNext)
 (wSeq (wFor (wTp (wVar 2)) (gN 4)
  (wIfS (wB (wGt (wMaxDf (wLc (wLO (wVar 3)) (gN 5) wYes (wCall (S_degree 50) (wCons (wVar 4) (wCons (wVar 5) wNil))) [5]) 0) (wC (.int 4))))
  (wRaise C_NoRule)
  wNext))
 (wRet (wVar 2))))))))
def w_blanks_of : SW :=
 (wRet (wTupOf (wCall (S_blanks_in 50) (wCons (wIx (wVar 0) (wC (.int 0))) wNil))))
theorem pure_side_of (G N R : Addr) : ∀ args o ret exc, S_side_of N G R args o ret exc → w_side_of G N R (fun x s => exc x (cutL o.length s.o)) (pst0 args o 3) (bodyE o.length ret) := by
  rintro _ _ ret exc ⟨v, rfl, rfl, h⟩
  have h0 := h
  rcases h.arg with ⟨x, rfl⟩ | ⟨kvs, rfl⟩
  all_goals
    walk_at "go"
    refine h0.imp (fun l ev hg hl hq => ?_) fun C z => z
    first
      | (cases ev; done)
      | (injection ev with ev; subst ev)
  clear h0 h
  have h := hq
  clear hq
  have hL := lvOk hg hl
  have hll : (leavesL l).length ≤ 2000 := hL.2
  unfold sideF cmpT at h
  walk_at "go"
  refine ⟨hL, ?_⟩
  cases e : cmpF (wds (leavesL l)) 50 0 6 with
  | none =>
    rw [e] at h
    walk_at "go"
    exact h
  | some r =>
    obtain ⟨j, b⟩ := r
    rw [e] at h
    simp only at h
    obtain ⟨g1, g2, g3, g4⟩ := (good_all (wds (leavesL l)) 50).2.2.2.2.2.2 _ _ _ _ e
    have hwl : (wds (leavesL l)).length = (leavesL l).length := wds_len _
    walk_at "go"
    rw [List.length_map]
    refine br_d (b < (leavesL l).length) (by rw [decide_eq_true_eq]; omega) (fun q => ?_) (fun q => ?_)
    · rw [if_pos (.inl q)] at h
      walk_at "go"
      exact h
    walk_at "go"
    rw [List.length_map]
    refine br_d (20 < (leavesL l).length) (by rw [decide_eq_true_eq]; omega) (fun q2 => ?_) (fun q2 => ?_)
    · rw [if_pos (.inr q2)] at h
      walk_at "go"
      exact h
    rw [if_neg (by rintro (z | z) <;> omega)] at h
    walk_at "go"
    refine ⟨g1, g2, by omega, ?_⟩
    cases ea : allK j with
    | false =>
      rw [ea, Bool.false_and] at h
      walk_at "go"
      exact h
    | true =>
      rw [ea, Bool.true_and] at h
      walk_at "go"
      refine ⟨strLe_kn _, _, ix_kn _, ?_⟩
      walk_at "go"
      refine br_s (!isOp j) rfl (fun q3 => ?_) (fun q3 => ?_)
      · rw [if_neg (by simpa using q3)] at h
        walk_at "go"
        exact h
      · rw [if_pos (by simpa using q3)] at h
        walk_at "go"
        exact h

open PySem.Spec (ltCps)
open PyProof.Rows (risingS sortedS)
theorem ltCps_asym : ∀ a b : List Nat, ltCps a b = false → ltCps b a = false → a = b
  | [], [], _, _ => rfl
  | [], _ :: _, h, _ => by simp [ltCps] at h
  | _ :: _, [], _, h => by simp [ltCps] at h
  | x :: r, y :: t, h, g => by
    simp only [ltCps, Bool.or_eq_false_iff, decide_eq_false_iff_not, Bool.and_eq_false_iff, beq_eq_false_iff_ne] at h g
    have e : x = y := by omega
    subst e
    have h2 : ltCps r t = false := by rcases h.2 with z | z; exact absurd rfl z; exact z
    have g2 : ltCps t r = false := by rcases g.2 with z | z; exact absurd rfl z; exact z
    rw [ltCps_asym r t h2 g2]
theorem ltCps_tr : ∀ a b c : List Nat, ltCps b a = false → ltCps c b = false → ltCps c a = false
  | [], _, [], _, _ => rfl
  | [], [], _ :: _, _, _ => rfl
  | [], _ :: _, _ :: _, _, _ => rfl
  | _ :: _, [], _, h, _ => by simp [ltCps] at h
  | _ :: _, _ :: _, [], _, h => by simp [ltCps] at h
  | x :: r, y :: t, z :: u, h, g => by
    simp only [ltCps, Bool.or_eq_false_iff, decide_eq_false_iff_not, Bool.and_eq_false_iff, beq_eq_false_iff_ne] at h g ⊢
    refine ⟨by omega, ?_⟩
    by_cases e : z = x
    · have e2 : y = x := by omega
      subst e2
      subst e
      refine .inr (ltCps_tr r t u ?_ ?_)
      · rcases h.2 with q | q
        · exact absurd rfl q
        · exact q
      · rcases g.2 with q | q
        · exact absurd rfl q
        · exact q
    · exact .inl e
theorem rising_all : ∀ (l : List Str) (p : Str), risingS p l = true → ∀ x ∈ l, ltCps x.cps.toList p.cps.toList = false
  | [], _, _, x, m => nomatch m
  | y :: r, p, h, x, m => by
    rw [risingS, Bool.and_eq_true, Bool.not_eq_true'] at h
    rcases List.mem_cons.mp m with e | m
    · rw [e]; exact h.1
    · exact ltCps_tr _ _ _ h.1 (rising_all r y h.2 x m)
theorem sorted_tl {p : Str} {l : List Str} (h : sortedS (p :: l) = true) : sortedS l = true := by
  cases l with
  | nil => rfl
  | cons x r =>
    have h : risingS p (x :: r) = true := h
    rw [risingS, Bool.and_eq_true] at h
    exact h.2
theorem sorted_uniq : ∀ (a b : List Str), a.Perm b → sortedS a = true → sortedS b = true → a = b
  | [], b, p, _, _ => (List.nil_perm.mp p).symm
  | x :: r, [], p, _, _ => by simpa using p.length_eq
  | x :: r, y :: t, p, h, g => by
    have e : x = y := by
      have m1 : x ∈ y :: t := p.subset List.mem_cons_self
      have m2 : y ∈ x :: r := p.symm.subset List.mem_cons_self
      rcases List.mem_cons.mp m1 with e | m1
      · exact e
      · rcases List.mem_cons.mp m2 with e | m2
        · exact e.symm
        · have h1 := rising_all _ _ (show risingS x r = true from h) y m2
          have h2 := rising_all _ _ (show risingS y t = true from g) x m1
          have := ltCps_asym _ _ h2 h1
          exact TL.ext_tl this
    subst e
    rw [sorted_uniq r t (List.Perm.cons_inv p) (sorted_tl h) (sorted_tl g)]
theorem strs_dT (l : List (List Nat)) : l.map dT = (l.map tx).map PyData.str := by rw [List.map_map]; rfl
theorem tx_perm {a b : List (List Nat)} (h : (a.map tx).Perm (b.map tx)) : a.Perm b := by
  have := h.map (fun s : Str => s.cps.toList)
  rw [List.map_map, List.map_map] at this
  have e : ((fun s : Str => s.cps.toList) ∘ tx) = id := by
    funext l
    rfl
  rw [e, List.map_id, List.map_id] at this
  exact this
theorem eqvAll_strs (a : List Str) : ∀ b : List Str, PyData.eqvAll (a.map PyData.str) (b.map PyData.str) = decide (a = b) := by
  induction a with
  | nil => intro b; cases b <;> simp [PyData.eqvAll]
  | cons x r ih =>
    intro b
    cases b with
    | nil => simp [PyData.eqvAll]
    | cons y t =>
      rw [List.map_cons, List.map_cons, PyData.eqvAll, ih, eqv_strs]
      rw [Bool.eq_iff_iff]
      simp
theorem eqv_sorted {a b : List (List Nat)} {y z : List Str} (p1 : y.Perm (a.map tx)) (s1 : sortedS y = true) (p2 : z.Perm (b.map tx)) (s2 : sortedS z = true) : PyData.eqv (.list (y.map PyData.str)) (.list (z.map PyData.str)) = true ↔ a.Perm b := by
  rw [show PyData.eqv (.list (y.map PyData.str)) (.list (z.map PyData.str)) = PyData.eqvAll (y.map PyData.str) (z.map PyData.str) by rw [PyData.eqv], eqvAll_strs, decide_eq_true_eq]
  constructor
  · rintro rfl
    exact tx_perm (p1.symm.trans p2)
  · intro h
    exact sorted_uniq _ _ (p1.trans ((h.map tx).trans p2.symm)) s1 s2
theorem shaped_perm {a : List (List Nat)} {y : List Str} (p : y.Perm (a.map tx)) (h : ∀ w ∈ a, (dT w).canLay0 = true) : SeqAt.shaped (.list (y.map PyData.str)) = true := shaped_list fun x m => by
  obtain ⟨s, hs, rfl⟩ := List.mem_map.mp m
  obtain ⟨w, hw, rfl⟩ := List.mem_map.mp (p.subset hs)
  exact ⟨h w hw, Nat.zero_le _⟩
theorem max_high {ws : List (List Nat)} {k : Kn} {m : Int} (h : m ∈ ws.map (fun w => (deg w k : Int))) (g : ∀ y ∈ ws.map (fun w => (deg w k : Int)), y ≤ m) : 4 < m ↔ tooHigh ws k = true := by
  unfold tooHigh
  rw [List.any_eq_true]
  constructor
  · intro h4
    obtain ⟨w, hw, rfl⟩ := List.mem_map.mp h
    exact ⟨w, hw, by simp; omega⟩
  · rintro ⟨w, hw, h5⟩
    have := g _ (List.mem_map.mpr ⟨w, hw, rfl⟩)
    simp at h5
    omega
theorem pure_rule_of (G N R : Addr) : ∀ args o ret exc, S_rule_of N G R args o ret exc → w_rule_of G N R (fun x s => exc x (cutL o.length s.o)) (pst0 args o 6) (bodyE o.length ret) := by
  rintro _ _ ret exc ⟨v, u, rfl, rfl, h⟩
  have h0 := h
  rcases h.arg with ⟨x, rfl⟩ | ⟨kvs, rfl⟩
  all_goals
    walk_at "go"
    refine h0.imp (fun l ev hg hl hq => ?_) fun C z => z
    first
      | (cases ev; done)
      | (injection ev with ev; subst ev)
  clear h0 h
  have h0 := hq
  rcases hq.arg with ⟨x, rfl⟩ | ⟨kvs, rfl⟩
  all_goals
    walk_at "go"
    refine h0.imp (fun m em hg2 hm hq2 => ?_) fun C z => z
    first
      | (cases em; done)
      | (injection em with em; subst em)
  clear h0 hq
  have h := hq2
  clear hq2
  unfold ruleF at h
  walk_at "go"
  refine NeedT.ok hg hl ?_
  cases ea : sideF l with
  | none => rw [ea] at h; exact h
  | some a =>
  rw [ea] at h
  have sa := sideF_ok hg hl ea
  walk_at "go"
  refine NeedT.ok hg2 hm ?_
  cases eb : sideF m with
  | none => rw [eb] at h; exact h
  | some b =>
  rw [eb] at h
  have sb := sideF_ok hg2 hm eb
  simp only at h
  have la := blk_len a
  have lb := blk_len b
  have lsa := sa.sz
  have lsb := sb.sz
  have ca := blk_can _ a (Nat.le_refl _) sa.ok sa.all sa.can
  have cb := blk_can _ b (Nat.le_refl _) sb.ok sb.all sb.can
  walk_at "go"
  refine ⟨sa.ok, sa.all, sa.hgt, by omega, sa.can, ?_⟩
  generalize hA : blk a = A at *
  generalize hB : blk b = B at *
  walk_at "go"
  refine ⟨A.map tx, (congrArg (fun z => some (PyData.list z)) (strs_dT A)), by rw [List.length_map]; omega, fun y p1 s1 => ?_⟩
  walk_at "go"
  refine ⟨sb.ok, sb.all, sb.hgt, by omega, sb.can, ?_⟩
  rw [hB]
  walk_at "go"
  refine ⟨B.map tx, (congrArg (fun z => some (PyData.list z)) (strs_dT B)), by rw [List.length_map]; omega, fun z p2 s2 => ?_⟩
  walk_at "go"
  refine ⟨eqOk_of (shaped_perm p1 ca) (shaped_perm p2 cb), ?_⟩
  have hp := eqv_sorted p1 s1 p2 s2
  refine ⟨_, rfl, ?_⟩
  refine br_d (¬ A.Perm B) (by rw [← hp]; simp) (fun q => ?_) (fun q => ?_)
  · rw [if_pos (.inl q)] at h
    walk_at "go"
    exact h
  have q : A.Perm B := Classical.not_not.mp q
  walk_at "go"
  rw [List.length_map]
  refine br_d (3 < A.length) (by rw [decide_eq_true_eq]; omega) (fun q2 => ?_) (fun q2 => ?_)
  · rw [if_pos (.inr q2)] at h
    walk_at "go"
    exact h
  rw [if_neg (by rintro (z | z); exact z q; exact q2 z)] at h
  walk_at "go"
  refine ⟨fun j s => ∃ x4 x5, s = ⟨[some (.d (dT l)), some (.d (dT m)), some (.d (.tuple [knD a, knD b])), some (.own 0), x4, x5], [.dl (A.map dT), .dl (y.map PyData.str), .dl (B.map dT), .dl (z.map PyData.str)]⟩ ∧ (1 ≤ j → tooHigh A a = false) ∧ (2 ≤ j → tooHigh A b = false), ⟨none, none, rfl, by omega, by omega⟩, fun _ _ _ _ => trivial, ?_, ?_⟩
  · rintro j x s hx ⟨x4, x5, rfl, i1, i2⟩
    have key : ∃ k, x = knD k ∧ SideOk k ∧ ((j = 0 ∧ k = a) ∨ (j = 1 ∧ k = b)) := by
      match j, hx with
      | 0, hx => cases hx; exact ⟨a, rfl, sa, .inl ⟨rfl, rfl⟩⟩
      | 1, hx => cases hx; exact ⟨b, rfl, sb, .inr ⟨rfl, rfl⟩⟩
      | j + 2, hx => simp at hx
    obtain ⟨k, rfl, sk, hk⟩ := key
    have lk := sk.sz
    clear hx
    walk_at "go"
    refine ⟨fun i acc s => s = (⟨[some (.d (dT l)), some (.d (dT m)), some (.d (.tuple [knD a, knD b])), some (.own 0), some (.d (knD k)), none], [.dl (A.map dT), .dl (y.map PyData.str), .dl (B.map dT), .dl (z.map PyData.str)]⟩ : PSt) ∧ acc = ((A.take i).map fun w => (deg w k : Int)).map PyData.int, ⟨rfl, rfl⟩, ?_, ?_, ?_⟩
    · rintro i acc s2 _ ⟨rfl, rfl⟩
      rfl
    · rintro i x acc s2 hx ho ⟨rfl, rfl⟩
      obtain ⟨hi, rfl⟩ := map_get hx
      clear hx ho
      walk_at "go"
      refine ⟨sk.ok, sk.all, sk.hgt, by omega, ?_⟩
      walk_at "go"
      rw [List.map_map, List.map_map, take_map_succ' hi]
      rfl
    rintro acc s2 ho ⟨rfl, rfl⟩
    clear ho
    rw [List.length_map, List.take_length]
    have fin : ∀ n : Int, (4 < n ↔ tooHigh A k = true) → (decide (4 < n) = true → exc ⟨R, none⟩ []) ∧ (decide (4 < n) = false → tooHigh A k = false) := fun n hn => by
      refine ⟨fun c => ?_, fun c => ?_⟩
      · have c := hn.mp (by simpa using c)
        rcases hk with ⟨_, rfl⟩ | ⟨hj, rfl⟩
        · rw [c] at h; exact h
        · rw [c, Bool.or_true] at h; exact h
      · cases e : tooHigh A k with
        | false => rfl
        | true => rw [hn.mpr e |> decide_eq_true] at c; cases c
    have nxt : tooHigh A k = false → (1 ≤ j + 1 → tooHigh A a = false) ∧ (2 ≤ j + 1 → tooHigh A b = false) := fun c => by
      rcases hk with ⟨hj, rfl⟩ | ⟨hj, rfl⟩
      · exact ⟨fun _ => c, by omega⟩
      · exact ⟨fun _ => i1 (by omega), fun _ => c⟩
    refine ⟨_, rfl, fun z => ?_, fun n hn hg => ?_⟩
    · have hA0 : A = [] := by simpa using z
      subst hA0
      have f := fin 0 ⟨fun z => by omega, fun z => by simp [tooHigh] at z⟩
      walk_at "go"
      exact .inr ⟨_, _, rfl, nxt (f.2 rfl)⟩
    · have f := fin n (max_high hn hg)
      walk_at "go"
      refine ⟨fun c => ?_, fun c => ?_⟩
      · exact f.1 c
      · exact .inr ⟨_, _, rfl, nxt (f.2 c)⟩
  · rintro s ⟨x4, x5, rfl, i1, i2⟩
    have i1 := i1 (by simp)
    have i2 := i2 (by simp)
    rw [i1, i2] at h
    walk_at "go"
    exact h
theorem pure_blanks_of : ∀ args o ret exc, S_blanks_of args o ret exc → w_blanks_of (fun x s => exc x (cutL o.length s.o)) (pst0 args o 1) (bodyE o.length ret) := by
  rintro _ _ ret exc ⟨p, rfl, rfl, h1, h2, h3, h4, h5, h⟩
  walk_at "go"
  refine ⟨h1, h2, h3, h4, h5, ?_⟩
  walk_at "go"
  refine ⟨_, .inl rfl, ?_⟩
  exact h
end PW

namespace K59
open PySem L2 PW K13
/-- which error is of which class -/
structure Em (M : MX) (C_TooGreat : Addr) (C_NoText : Addr) (C_NoRule : Addr) (C_MenderError : Addr) (C_NoEdit : Addr) : Prop where
  m_TooGreat_NoRule : M C_TooGreat (.ref C_NoRule) = some false
  m_TooGreat_MenderError : M C_TooGreat (.ref C_MenderError) = some true
  m_TooGreat_NoEdit : M C_TooGreat (.ref C_NoEdit) = some false
  m_TooGreat_TooGreat : M C_TooGreat (.ref C_TooGreat) = some true
  m_TooGreat_NoText : M C_TooGreat (.ref C_NoText) = some false
  m_NoText_NoRule : M C_NoText (.ref C_NoRule) = some false
  m_NoText_MenderError : M C_NoText (.ref C_MenderError) = some true
  m_NoText_NoEdit : M C_NoText (.ref C_NoEdit) = some false
  m_NoText_TooGreat : M C_NoText (.ref C_TooGreat) = some false
  m_NoText_NoText : M C_NoText (.ref C_NoText) = some true
  m_NoRule_NoRule : M C_NoRule (.ref C_NoRule) = some true
  m_NoRule_MenderError : M C_NoRule (.ref C_MenderError) = some true
  m_NoRule_NoEdit : M C_NoRule (.ref C_NoEdit) = some false
  m_NoRule_TooGreat : M C_NoRule (.ref C_TooGreat) = some false
  m_NoRule_NoText : M C_NoRule (.ref C_NoText) = some false
/-! ### the law -/
def drawsL : Int → List Int → List Int
  | _, [] => []
  | n, s :: r => n % s :: drawsL (n / s) r
abbrev PT' := List Nat × List Nat
def cd (s : String) : List Nat := s.toList.map Char.toNat
def goodS : List (String × String) := [("a + b", "b + a"), ("a * b", "b * a"), ("a + b + c", "c + a + b"), ("a * (b + c)", "a * b + a * c"), ("a * b + a * c", "a * (b + c)"), ("-(a - b)", "b - a"), ("a - b", "a + -b"),
  ("2 * a", "a + a"), ("a * a - b * b", "(a + b) * (a - b)"), ("a + 0", "a * 1"), ("(a + b) * (a + b)", "a * a + 2 * a * b + b * b"), ("a * 999984", "1 * a"), ("a * a * a * a", "(a * a) * (a * a)"), ("1 + 2", "5 - 2"), ("--a", "(a + 999983)"),
  ("a + b", "(((((b + a)))))"), ("a * b", "((((b * a))))"), ("(a) * b", "b * a"), ("(a) + b", "b + a"), ("-(a)", "0 - a"), ("a - (b)", "-(b) + a"), ("(a + b)", "b + a"), ("(a * b)", "b * a"), ("(a - b)", "-b + a"),
  ("a - b", "(((((a - b)))))"), ("a + 1", "(((((1 + a)))))"), ("(a - b)", "-(b - a)"), ("a - (b - c)", "a - b + c"), ("-a * b", "-(a * b)")]
def badS : List (String × String) := [("a - b", "b - a"), ("a * a", "a + a"), ("a * b", "a + b"), ("a + b", "a + b + 1"), ("2 * a", "a * a * a"), ("a * (a - 1) * (a - 2) * (a - 3)", "a - a"), ("a + b * c", "(a + b) * c"), ("-a", "a + a"),
  ("a * a * b - b", "b * (a - 1)"), ("a * 999982", "1 * a"), ("1 + 2", "2 - 5"), ("--a", "-a")]
def pairS (p : String × String) : PyData := .tuple [.str (Str.ofString p.1), .str (Str.ofString p.2)]
def namesS : List (List String) := [["a", "b", "c"], ["c", "a", "b"], ["x", "ab", "b"], ["b", "c", "abcdefgh"]]
def wrongS : List String := ["", "a", "(a)", "7", "a <", "a + b <", "[a] + b", "a + b[0]", "not a + b", "a < b", "a + b b", "say a + b", "a + b + c + d", "a * a * a * a * a + b", "a + c", "1 + 2"]
def poorS : List (String × String) := [("a", "a + 0"), ("(a)", "a * 1"), ("((a))", "--a"), ("7", "3 + 4"), ("(12)", "3 * 4"), ("a + b + c + d", "d + c + b + a"), ("a * b * c * d", "a * d * c * b")]
def subst (a b c : List Nat) (s : List Nat) : List Nat := s.flatMap fun x => if x = 97 then a else if x = 98 then b else if x = 99 then c else [x]
def substN (ns : List String) (s : List Nat) : List Nat := subst (cd (ns.getD 0 "")) (cd (ns.getD 1 "")) (cd (ns.getD 2 "")) s
def allPairs : List PT' := namesS.flatMap fun ns => (goodS ++ badS).flatMap fun p => [(substN ns (cd p.1), substN ns (cd p.2)), (substN ns (cd p.2), substN ns (cd p.1))]
/-- the law's own way to the blanks -/
def addW (acc : List (List Nat)) (ws : List (List Nat)) : List (List Nat) := ws.foldl (fun f w => if w ∈ f then f else f ++ [w]) acc
mutual
def lbk : Kn → List (List Nat)
  | .num _ => [] | .name w _ => [w] | .br a => addW [] (lbk a) | .row _ => [] | .look _ _ => [] | .not_ _ => [] | .minus a => addW [] (lbk a) | .times l => lbks [] l | .sum _ l => lbks [] l | .less _ _ => [] | .same _ _ => []
def lbks (acc : List (List Nat)) : List Kn → List (List Nat)
  | [] => acc
  | a :: r => lbks (addW acc (lbk a)) r
end
def goodT (l : List Nat) : Bool := l.all gd && decide (l.length ≤ 2000)
def chk (p : PT') : Bool := goodT p.1 && (goodT p.2 && match ruleF p.1 p.2 with
  | some (a, _) => decide (lbk a = blk a)
  | none => false)
def none' (p : PT') : Bool := goodT p.1 && (goodT p.2 && (ruleF p.1 p.2).isNone)
def some' (p : PT') : Bool := goodT p.1 && (goodT p.2 && (ruleF p.1 p.2).isSome)
theorem chk_all : ∀ p ∈ allPairs, chk p = true := by decide +kernel
theorem wrong_all : ∀ w ∈ wrongS, none' (cd w, cd "a + b") = true ∧ none' (cd "a + b", cd w) = true := by decide +kernel
theorem poor_all : ∀ p ∈ poorS, none' (cd p.1, cd p.2) = true ∧ none' (cd p.2, cd p.1) = true := by decide +kernel
def S_law_draws : FS := fun args o ret exc => ∃ (n : Int) (ss : List Int), args = [.d (.int n), .d (.list (ss.map PyData.int))] ∧ o = [] ∧ (∀ s ∈ ss, CDiv n s ∧ ∀ i, CDiv i s) ∧ ss.length ≤ 100 ∧ ret (.new ((drawsL n ss).map PyData.int)) []
def S_law_good_rules : FS := fun args o ret exc => args = [] ∧ o = [] ∧ ret (.new (goodS.map pairS)) []
def S_law_bad_rules : FS := fun args o ret exc => args = [] ∧ o = [] ∧ ret (.new (badS.map pairS)) []
def S_law_rule_texts : FS := fun args o ret exc => ∃ n : Int, args = [.d (.int n)] ∧ o = [] ∧ ∀ p ∈ allPairs, ret (.new [dT p.1, dT p.2]) []
def S_law_named : FS := fun args o ret exc => ∃ (s a b c : List Nat), args = [.d (dT s), .d (.list [dT a, dT b, dT c])] ∧ o = [] ∧ s.length ≤ 100 ∧ a.length ≤ 8 ∧ b.length ≤ 8 ∧ c.length ≤ 8 ∧ ret (.d (dT (subst a b c s))) []
def S_law_ones : FS := fun args o ret exc => ∃ e, args = [.d (knD e)] ∧ o = [] ∧ okK e ∧ allK e = true ∧ szK e ≤ 1000 ∧ ret (.new (knsD (kids e))) []
def S_law_blanks (n : Nat) : FS := fun args o ret exc => ∃ e, args = [.d (knD e)] ∧ o = [] ∧ okK e ∧ allK e = true ∧ hgt e ≤ n ∧ szK e ≤ 1000 ∧ (knD e).canLay0 = true ∧ ret (.new ((lbk e).map dT)) []
theorem zero_law_blanks : ∀ args o r e, ¬ S_law_blanks 0 args o r e := by
  rintro _ _ r x ⟨e, _, _, _, _, h, _⟩
  have := hgt_pos e
  omega
def rulO : Option (Kn × Kn) → PyData
  | none => .none
  | some p => rulD p
def S_law_told (N G R : Addr) : FS := fun args o ret exc => ∃ l m, args = [.d (dT l), .d (dT m)] ∧ o = [] ∧ gdT l ∧ l.length ≤ 2000 ∧ gdT m ∧ m.length ≤ 2000 ∧ ret (.d (rulO (ruleF l m))) []
def S_law_wrong : FS := fun args o ret exc => ∃ n : Int, args = [.d (.int n)] ∧ o = [] ∧ ∀ w ∈ wrongS, ret (.d (dT (cd w))) []
def S_law_refused (N G R : Addr) : FS := fun args o ret exc => ∃ v u : PyData, args = [.d v, .d u] ∧ o = [] ∧ (N ≠ G → NeedT N G (.d v) (fun l => NeedT N G (.d u) (fun m => match ruleF l m with | some _ => ret (.new []) [] | none => ret (.new [.int 2]) [])
  (fun C => (C = N → ret (.new [.int 0]) []) ∧ (C = G → ret (.new [.int 1]) []))) (fun C => (C = N → ret (.new [.int 0]) []) ∧ (C = G → ret (.new [.int 1]) [])))
def S_law_pairs_wrong : FS := fun args o ret exc => ∃ n : Int, args = [.d (.int n)] ∧ o = [] ∧ ret (.d (.bool true)) []
def S_law_texts_refused : FS := fun args o ret exc => ∃ n : Int, args = [.d (.int n)] ∧ o = [] ∧ ret (.d (.bool true)) []
end K59

namespace K59
open PySem L2 PW K13
local macro_rules
  | `(tactic| walk_at "sz") => `(tactic| first | omega | (simp only [lit_nl, tx_len, List.length_append, List.length_map, List.length_cons, List.length_nil, List.length_take, List.length_drop] <;> omega))
  | `(tactic| walk_at "go") => `(tactic| repeat (first | refine ⟨rfl, ?_⟩ | refine ⟨trivial, ?_⟩ | refine ⟨_, rfl, ?_⟩ | refine ⟨_, rfl, rfl, ?_⟩ | refine ⟨_, _, rfl, rfl, ?_⟩ | refine ⟨_, ix_hd, ?_⟩ | refine br_t rfl ?_ | refine br_f rfl ?_ | (refine ⟨le_sz ?_, ?_⟩; focus walk_at "sz") | (refine ⟨lt_sz ?_, ?_⟩; focus walk_at "sz") | (refine ⟨strLe_tx ?_, ?_⟩; focus walk_at "sz") | refine ⟨cmul_r rfl, ?_⟩ | refine ⟨cmul_l rfl, ?_⟩ | refine ⟨pos_ok rfl, ?_⟩ | refine ⟨cdiv_ok rfl, ?_⟩ | refine ⟨_, _, _, _, rfl, rfl, rfl, rfl, ?_⟩ | refine ⟨_, _, rfl, ?_⟩ | refine ⟨_, _, _, rfl, rfl, rfl, ?_⟩ | refine ⟨_, _, _, rfl, rfl, ?_⟩))
def w_law_draws : SW :=
 (wSeq (wAsg (wLst wNil) 2)
 (wSeq (wFor (wL (wVar 1)) (gN 3)
  (wSeq (wDrop (wApp (wVar 2) (wMod (wVar 0) (wVar 3))))
 (wAsg (wDiv (wVar 0) (wVar 3)) 0)))
 (wRet (wVar 2))))
def w_law_good_rules : SW :=
 (wSeq (wAsg (wLst (wCons (wTup (wCons (wC (.str "a + b")) (wCons (wC (.str "b + a")) wNil))) (wCons (wTup (wCons (wC (.str "a * b")) (wCons (wC (.str "b * a")) wNil))) (wCons (wTup (wCons (wC (.str "a + b + c")) (wCons (wC (.str "c + a + b")) wNil))) (wCons (wTup (wCons (wC (.str "a * (b + c)")) (wCons (wC (.str "a * b + a * c")) wNil))) wNil))))) 0)
 (wSeq (wAsg (wCat (wVar 0) (wLst (wCons (wTup (wCons (wC (.str "a * b + a * c")) (wCons (wC (.str "a * (b + c)")) wNil))) (wCons (wTup (wCons (wC (.str "-(a - b)")) (wCons (wC (.str "b - a")) wNil))) (wCons (wTup (wCons (wC (.str "a - b")) (wCons (wC (.str "a + -b")) wNil))) wNil))))) 0)
 (wSeq (wAsg (wCat (wVar 0) (wLst (wCons (wTup (wCons (wC (.str "2 * a")) (wCons (wC (.str "a + a")) wNil))) (wCons (wTup (wCons (wC (.str "a * a - b * b")) (wCons (wC (.str "(a + b) * (a - b)")) wNil))) (wCons (wTup (wCons (wC (.str "a + 0")) (wCons (wC (.str "a * 1")) wNil))) wNil))))) 0)
 (wSeq (wAsg (wCat (wVar 0) (wLst (wCons (wTup (wCons (wC (.str "(a + b) * (a + b)")) (wCons (wC (.str "a * a + 2 * a * b + b * b")) wNil))) (wCons (wTup (wCons (wC (.str "a * 999984")) (wCons (wC (.str "1 * a")) wNil))) wNil)))) 0)
 (wSeq (wAsg (wCat (wVar 0) (wLst (wCons (wTup (wCons (wC (.str "a * a * a * a")) (wCons (wC (.str "(a * a) * (a * a)")) wNil))) (wCons (wTup (wCons (wC (.str "1 + 2")) (wCons (wC (.str "5 - 2")) wNil))) (wCons (wTup (wCons (wC (.str "--a")) (wCons (wC (.str "(a + 999983)")) wNil))) wNil))))) 0)
 (wSeq (wAsg (wCat (wVar 0) (wLst (wCons (wTup (wCons (wC (.str "a + b")) (wCons (wC (.str "(((((b + a)))))")) wNil))) (wCons (wTup (wCons (wC (.str "a * b")) (wCons (wC (.str "((((b * a))))")) wNil))) (wCons (wTup (wCons (wC (.str "(a) * b")) (wCons (wC (.str "b * a")) wNil))) wNil))))) 0)
 (wSeq (wAsg (wCat (wVar 0) (wLst (wCons (wTup (wCons (wC (.str "(a) + b")) (wCons (wC (.str "b + a")) wNil))) (wCons (wTup (wCons (wC (.str "-(a)")) (wCons (wC (.str "0 - a")) wNil))) (wCons (wTup (wCons (wC (.str "a - (b)")) (wCons (wC (.str "-(b) + a")) wNil))) wNil))))) 0)
 (wSeq (wAsg (wCat (wVar 0) (wLst (wCons (wTup (wCons (wC (.str "(a + b)")) (wCons (wC (.str "b + a")) wNil))) (wCons (wTup (wCons (wC (.str "(a * b)")) (wCons (wC (.str "b * a")) wNil))) (wCons (wTup (wCons (wC (.str "(a - b)")) (wCons (wC (.str "-b + a")) wNil))) wNil))))) 0)
 (wSeq (wAsg (wCat (wVar 0) (wLst (wCons (wTup (wCons (wC (.str "a - b")) (wCons (wC (.str "(((((a - b)))))")) wNil))) (wCons (wTup (wCons (wC (.str "a + 1")) (wCons (wC (.str "(((((1 + a)))))")) wNil))) wNil)))) 0)
 (wRet (wCat (wVar 0) (wLst (wCons (wTup (wCons (wC (.str "(a - b)")) (wCons (wC (.str "-(b - a)")) wNil))) (wCons (wTup (wCons (wC (.str "a - (b - c)")) (wCons (wC (.str "a - b + c")) wNil))) (wCons (wTup (wCons (wC (.str "-a * b")) (wCons (wC (.str "-(a * b)")) wNil))) wNil)))))))))))))))
def w_law_bad_rules : SW :=
 (wSeq (wAsg (wLst (wCons (wTup (wCons (wC (.str "a - b")) (wCons (wC (.str "b - a")) wNil))) (wCons (wTup (wCons (wC (.str "a * a")) (wCons (wC (.str "a + a")) wNil))) (wCons (wTup (wCons (wC (.str "a * b")) (wCons (wC (.str "a + b")) wNil))) (wCons (wTup (wCons (wC (.str "a + b")) (wCons (wC (.str "a + b + 1")) wNil))) (wCons (wTup (wCons (wC (.str "2 * a")) (wCons (wC (.str "a * a * a")) wNil))) wNil)))))) 0)
 (wSeq (wAsg (wCat (wVar 0) (wLst (wCons (wTup (wCons (wC (.str "a * (a - 1) * (a - 2) * (a - 3)")) (wCons (wC (.str "a - a")) wNil))) (wCons (wTup (wCons (wC (.str "a + b * c")) (wCons (wC (.str "(a + b) * c")) wNil))) (wCons (wTup (wCons (wC (.str "-a")) (wCons (wC (.str "a + a")) wNil))) wNil))))) 0)
 (wRet (wCat (wVar 0) (wLst (wCons (wTup (wCons (wC (.str "a * a * b - b")) (wCons (wC (.str "b * (a - 1)")) wNil))) (wCons (wTup (wCons (wC (.str "a * 999982")) (wCons (wC (.str "1 * a")) wNil))) (wCons (wTup (wCons (wC (.str "1 + 2")) (wCons (wC (.str "2 - 5")) wNil))) (wCons (wTup (wCons (wC (.str "--a")) (wCons (wC (.str "-a")) wNil))) wNil)))))))))
def w_law_rule_texts : SW :=
 (wSeq (wUnp (wCall S_law_draws (wCons (wVar 0) (wCons (wLst (wCons (wC (.int 3)) (wCons (wC (.int 60)) (wCons (wC (.int 2)) (wCons (wC (.int 4)) wNil))))) wNil))) (gL 4 (gsCons (gN 1) (gsCons (gN 2) (gsCons (gN 3) (gsCons (gN 4) gsNil))))))
 (wSeq (wAsg (wIx (wLst (wCons (wCall0 S_law_good_rules) (wCons (wCall0 S_law_good_rules) (wCons (wCall0 S_law_bad_rules) wNil)))) (wVar 1)) 5)
 (wSeq (wAsg (wListOf (wIx (wVar 5) (wMod (wVar 2) (wLen (wVar 5))))) 6)
 (wSeq (wIfS (wB (wEq (wVar 3) (wC (.int 1))))
  (wDrop (wRev (wVar 6)))
  wNext)
 (wRet (wLc (wL (wVar 6)) (gN 7) wYes (wCall S_law_named (wCons (wVar 7) (wCons (wIx (wLst (wCons (wLst (wCons (wC (.str "a")) (wCons (wC (.str "b")) (wCons (wC (.str "c")) wNil)))) (wCons (wLst (wCons (wC (.str "c")) (wCons (wC (.str "a")) (wCons (wC (.str "b")) wNil)))) (wCons (wLst (wCons (wC (.str "x")) (wCons (wC (.str "ab")) (wCons (wC (.str "b")) wNil)))) (wCons (wLst (wCons (wC (.str "b")) (wCons (wC (.str "c")) (wCons (wC (.str "abcdefgh")) wNil)))) wNil))))) (wVar 4)) wNil))) [7]))))))
def w_law_named : SW :=
 (wSeq (wAsg (wC (.str "")) 2)
 (wSeq (wFor (wSt (wVar 0)) (gN 3)
  (wAsg (wAdd (wVar 2) (wDGet2 (wDict (wdCons (wC (.str "a")) (wIx (wVar 1) (wC (.int 0))) (wdCons (wC (.str "b")) (wIx (wVar 1) (wC (.int 1))) (wdCons (wC (.str "c")) (wIx (wVar 1) (wC (.int 2))) wdNil)))) (wVar 3) (wVar 3))) 2))
 (wRet (wVar 2))))
def w_law_ones : SW :=
 (wSeq (wIfS (wB (wIn (wIx (wVar 0) (wC (.int 0))) (wTup (wCons (wC (.str "number")) (wCons (wC (.str "name")) wNil)))))
  (wRet (wLst wNil))
  wNext)
 (wSeq (wIfS (wB (wEq (wIx (wVar 0) (wC (.int 0))) (wC (.str "times"))))
  (wRet (wListOf (wIx (wVar 0) (wC (.int 1)))))
  wNext)
 (wRet (wIf (wB (wEq (wIx (wVar 0) (wC (.int 0))) (wC (.str "sum")))) (wLc (wTp (wIx (wVar 0) (wC (.int 1)))) (gN 1) wYes (wIx (wVar 1) (wC (.int 1))) [1]) (wLst (wCons (wIx (wVar 0) (wC (.int 1))) wNil))))))
def w_law_blanks (R_law_blanks : FS) : SW :=
 (wSeq (wIfS (wB (wEq (wIx (wVar 0) (wC (.int 0))) (wC (.str "name"))))
  (wRet (wLst (wCons (wIx (wVar 0) (wC (.int 1))) wNil)))
  wNext)
 (wSeq (wAsg (wLst wNil) 1)
 (wSeq (wFor (wL (wCall S_law_ones (wCons (wVar 0) wNil))) (gN 2)
  (wFor (wL (wCall R_law_blanks (wCons (wVar 2) wNil))) (gN 3)
  (wIfS (wB (wNotIn (wVar 3) (wVar 1)))
  (wDrop (wApp (wVar 1) (wVar 3)))
  wNext)))
 (wRet (wVar 1)))))
def w_law_told (M : MX) (C_TooGreat : Addr) (C_NoText : Addr) (C_NoRule : Addr) : SW :=
 (wTry M (wRet (wCall (S_rule_of C_NoText C_TooGreat C_NoRule) (wCons (wVar 0) (wCons (wVar 1) wNil))))
  ((C_NoRule, none, (wRet (wC .none))) :: []))
def w_law_wrong : SW :=
 (wSeq (wAsg (wLst (wCons (wC (.str "")) (wCons (wC (.str "a")) (wCons (wC (.str "(a)")) (wCons (wC (.str "7")) (wCons (wC (.str "a <")) (wCons (wC (.str "a + b <")) (wCons (wC (.str "[a] + b")) (wCons (wC (.str "a + b[0]")) (wCons (wC (.str "not a + b")) (wCons (wC (.str "a < b")) (wCons (wC (.str "a + b b")) (wCons (wC (.str "say a + b")) wNil))))))))))))) 1)
 (wSeq (wAsg (wCat (wVar 1) (wLst (wCons (wC (.str "a + b + c + d")) (wCons (wC (.str "a * a * a * a * a + b")) (wCons (wC (.str "a + c")) (wCons (wC (.str "1 + 2")) wNil)))))) 1)
 (wRet (wIx (wVar 1) (wMod (wVar 0) (wC (.int 16)))))))
def w_law_refused (M : MX) (C_TooGreat : Addr) (C_NoText : Addr) (C_NoRule : Addr) (C_MenderError : Addr) (C_NoEdit : Addr) : SW :=
 (wSeq (wTry M (wDrop (wCall (S_rule_of C_NoText C_TooGreat C_NoRule) (wCons (wVar 0) (wCons (wVar 1) wNil))))
  ((C_MenderError, some 2, wHotS (wSeq (wAsg (wLst (wCons (wIsE M (.ref C_NoText) (wVar 2)) (wCons (wIsE M (.ref C_TooGreat) (wVar 2)) (wCons (wIsE M (.ref C_NoRule) (wVar 2)) (wCons (wIsE M (.ref C_NoEdit) (wVar 2)) wNil))))) 3)
 (wRet (wFlg 4 5 (wVar 3))))) :: []))
 (wRet (wLst wNil)))
def w_law_pairs_wrong (C_TooGreat : Addr) (C_NoText : Addr) (C_NoRule : Addr) : SW :=
 (wSeq (wAsg (wLst (wCons (wTup (wCons (wC (.str "a")) (wCons (wC (.str "a + 0")) wNil))) (wCons (wTup (wCons (wC (.str "(a)")) (wCons (wC (.str "a * 1")) wNil))) (wCons (wTup (wCons (wC (.str "((a))")) (wCons (wC (.str "--a")) wNil))) (wCons (wTup (wCons (wC (.str "7")) (wCons (wC (.str "3 + 4")) wNil))) (wCons (wTup (wCons (wC (.str "(12)")) (wCons (wC (.str "3 * 4")) wNil))) wNil)))))) 1)
 (wSeq (wAsg (wCat (wVar 1) (wLst (wCons (wTup (wCons (wC (.str "a + b + c + d")) (wCons (wC (.str "d + c + b + a")) wNil))) (wCons (wTup (wCons (wC (.str "a * b * c * d")) (wCons (wC (.str "a * d * c * b")) wNil))) wNil)))) 1)
 (wSeq (wUnp (wIx (wVar 1) (wMod (wVar 0) (wC (.int 7)))) (gT 2 (gsCons (gN 2) (gsCons (gN 3) gsNil))))
 (wRet (wAndV (wEq (wCall (S_law_refused C_NoText C_TooGreat C_NoRule) (wCons (wVar 2) (wCons (wVar 3) wNil))) (wLst (wCons (wC (.int 2)) wNil))) (wEq (wCall (S_law_refused C_NoText C_TooGreat C_NoRule) (wCons (wVar 3) (wCons (wVar 2) wNil))) (wLst (wCons (wC (.int 2)) wNil))))))))
def w_law_texts_refused (C_TooGreat : Addr) (C_NoText : Addr) (C_NoRule : Addr) : SW :=
 (wSeq (wAsg (wLst (wCons (wC .none) (wCons (wC (.str "a + b\t")) (wCons (wRepS (wC (.str "a")) (wC (.int 2001))) (wCons (wC (.int 5)) (wCons (wAdd (wC (.str "a + b")) (wRepS (wC (.str " ")) (wC (.int 2000)))) wNil)))))) 1)
 (wSeq (wAsg (wMod (wVar 0) (wC (.int 5))) 2)
 (wSeq (wAsg (wMod (wDiv (wVar 0) (wC (.int 5))) (wC (.int 5))) 3)
 (wSeq (wAsg (wLst (wCons (wInt1 (wIn (wVar 2) (wTup (wCons (wC (.int 2)) (wCons (wC (.int 4)) wNil))))) wNil)) 4)
 (wSeq (wIfS (wOr (wB (wNe (wCall (S_law_refused C_NoText C_TooGreat C_NoRule) (wCons (wIx (wVar 1) (wVar 2)) (wCons (wIx (wVar 1) (wVar 3)) wNil))) (wVar 4))) (wB (wNe (wCall (S_law_refused C_NoText C_TooGreat C_NoRule) (wCons (wIx (wVar 1) (wVar 2)) (wCons (wC (.str "a + b")) wNil))) (wVar 4))))
  (wRet (wC (.bool false)))
  wNext)
 (wRet (wEq (wCall (S_law_refused C_NoText C_TooGreat C_NoRule) (wCons (wC (.str "a <")) (wCons (wIx (wVar 1) (wVar 2)) wNil))) (wVar 4))))))))
def w_law (C_TooGreat : Addr) (C_NoText : Addr) (C_NoRule : Addr) : SW :=
 (wSeq (wFor (wL (wSl (wVar 0) wNoPart (wPart (wC (.int 4))))) (gN 1)
  (wSeq (wUnp (wCall S_law_rule_texts (wCons (wVar 1) wNil)) (gL 2 (gsCons (gN 2) (gsCons (gN 3) gsNil))))
 (wSeq (wAsg (wCall (S_law_told C_NoText C_TooGreat C_NoRule) (wCons (wVar 2) (wCons (wVar 3) wNil))) 4)
 (wSeq (wAsg (wTup (wCons (wIx (wCallD S_expression (wCons (wCall (S_leaves_of C_NoText C_TooGreat) (wCons (wVar 2) wNil)) wNil) [(PyData.int 0)]) (wC (.int 0))) (wCons (wIx (wCallD S_expression (wCons (wCall (S_leaves_of C_NoText C_TooGreat) (wCons (wVar 3) wNil)) wNil) [(PyData.int 0)]) (wC (.int 0))) wNil))) 5)
 (wSeq (wIfS (wOr (wB (wNe (wVar 4) (wVar 5))) (wOr (wNot (wB (wIsi "tuple" (wVar 4)))) (wB (wNe (wCall S_blanks_of (wCons (wVar 4) wNil)) (wTupOf (wCall (S_law_blanks 50) (wCons (wIx (wVar 5) (wC (.int 0))) wNil)))))))
  (wRet (wC (.bool false)))
  wNext)
 (wSeq (wAsg (wCall S_law_wrong (wCons (wDiv (wVar 1) (wC (.int 1440))) wNil)) 6)
 (wSeq (wIfS (wOr (wB (wNotN (wCall (S_law_told C_NoText C_TooGreat C_NoRule) (wCons (wVar 6) (wCons (wC (.str "a + b")) wNil))))) (wB (wNotN (wCall (S_law_told C_NoText C_TooGreat C_NoRule) (wCons (wC (.str "a + b")) (wCons (wVar 6) wNil))))))
  (wRet (wC (.bool false)))
  wNext)
 (wIfS (wOr (wB (wNe (wCall (S_law_told C_NoText C_TooGreat C_NoRule) (wCons (wVar 2) (wCons (wVar 3) wNil))) (wVar 4))) (wOr (wNot (wB (wCall S_law_pairs_wrong (wCons (wDiv (wVar 1) (wC (.int 1440))) wNil)))) (wNot (wB (wCall S_law_texts_refused (wCons (wDiv (wVar 1) (wC (.int 7))) wNil))))))
  (wRet (wC (.bool false)))
  wNext))))))))
 (wSeq (wAsg (wM1 rJoinD (wC (.str " + ")) (wRep (wLst (wCons (wC (.str "a")) wNil)) (wC (.int 10)))) 7)
 (wSeq (wIfS (wOr (wB (wNotN (wCall (S_law_told C_NoText C_TooGreat C_NoRule) (wCons (wAdd (wVar 7) (wC (.str " + a"))) (wCons (wC (.str "a * 9")) wNil))))) (wB (wNotN (wCall (S_law_told C_NoText C_TooGreat C_NoRule) (wCons (wC (.str "a + a")) (wCons (wAdd (wVar 7) (wC (.str " + a"))) wNil))))))
  (wRet (wC (.bool false)))
  wNext)
 (wSeq (wIfS (wOr (wB (wIsN (wCall (S_law_told C_NoText C_TooGreat C_NoRule) (wCons (wAdd (wC (.str "-")) (wVar 7)) (wCons (wC (.str "a * 8")) wNil))))) (wB (wNotN (wCall (S_law_told C_NoText C_TooGreat C_NoRule) (wCons (wAdd (wAdd (wC (.str "-(")) (wVar 7)) (wC (.str ")"))) (wCons (wC (.str "a + a")) wNil))))))
  (wRet (wC (.bool false)))
  wNext)
 (wRet (wNotN (wCall (S_law_told C_NoText C_TooGreat C_NoRule) (wCons (wC (.str "(a * a) * (a * a)")) (wCons (wC (.str "a * a * a * -a")) wNil)))))))))
theorem draws_take : ∀ (ss : List Int) (n : Int) (j : Nat), j < ss.length → ∃ m, (∀ (r : List Int), drawsL n (ss.take j ++ r) = drawsL n (ss.take j) ++ drawsL m r)
  | [], _, _, h => by simp at h
  | s :: r, n, 0, _ => ⟨n, fun r => by simp [drawsL]⟩
  | s :: r, n, j + 1, h => by
    obtain ⟨m, hm⟩ := draws_take r (n / s) j (by simpa using h)
    exact ⟨m, fun q => by rw [List.take_succ_cons, List.cons_append, drawsL, hm, drawsL, List.cons_append]⟩
def left' : Int → List Int → Int
  | n, [] => n
  | n, s :: r => left' (n / s) r
theorem draws_app : ∀ (a : List Int) (n : Int) (r : List Int), drawsL n (a ++ r) = drawsL n a ++ drawsL (left' n a) r
  | [], _, _ => rfl
  | s :: a, n, r => by rw [List.cons_append, drawsL, draws_app a, drawsL, left', List.cons_append]
theorem left_app : ∀ (a : List Int) (n : Int) (s : Int), left' n (a ++ [s]) = left' n a / s
  | [], _, _ => rfl
  | x :: a, n, s => by rw [List.cons_append, left', left_app a, left']
theorem draws_len : ∀ (a : List Int) (n : Int), (drawsL n a).length = a.length
  | [], _ => rfl
  | _ :: a, n => by rw [drawsL, List.length_cons, draws_len a, List.length_cons]
theorem take_snoc {α : Type} {l : List α} {j : Nat} (h : j < l.length) : l.take (j + 1) = l.take j ++ [l[j]] := by rw [List.take_add_one, List.getElem?_eq_getElem h]; rfl
theorem pure_law_draws : ∀ args o ret exc, S_law_draws args o ret exc → w_law_draws (fun x s => exc x (cutL o.length s.o)) (pst0 args o 4) (bodyE o.length ret) := by
  rintro _ _ ret exc ⟨n, ss, rfl, rfl, hs, hl, h⟩
  walk_at "go"
  refine ⟨fun j s => ∃ x3, s = ⟨[some (.d (.int (left' n (ss.take j)))), some (.d (.list (ss.map PyData.int))), some (.own 0), x3], [.dl ((drawsL n (ss.take j)).map PyData.int)]⟩, ⟨none, rfl⟩, fun _ _ _ _ => trivial, ?_, ?_⟩
  · rintro j x s hx ⟨x3, rfl⟩
    obtain ⟨hj, rfl⟩ := map_get hx
    have hd := (hs _ (List.getElem_mem hj)).2 (left' n (ss.take j))
    have hlen : ((drawsL n (ss.take j)).map PyData.int).length ≤ 100 := by rw [List.length_map, draws_len, List.length_take]; omega
    clear hx
    walk_at "go"
    refine ⟨hd.1, ?_⟩
    refine ⟨_, rfl, lt_sz (by omega), ?_⟩
    walk_at "go"
    refine ⟨hd, ?_⟩
    refine .inl ⟨some (.d (.int ss[j])), ?_⟩
    rw [take_snoc hj, draws_app, left_app, List.map_append]
    rfl
  · rintro s ⟨x3, rfl⟩
    rw [List.length_map, List.take_length]
    walk_at "go"
    exact ⟨Nat.zero_le _, _, rfl, h⟩
theorem pure_law_good_rules : ∀ args o ret exc, S_law_good_rules args o ret exc → w_law_good_rules (fun x s => exc x (cutL o.length s.o)) (pst0 args o 1) (bodyE o.length ret) := by
  rintro _ _ ret exc ⟨rfl, rfl, h⟩
  walk_at "go"
  exact ⟨Nat.zero_le _, _, rfl, h⟩
theorem pure_law_bad_rules : ∀ args o ret exc, S_law_bad_rules args o ret exc → w_law_bad_rules (fun x s => exc x (cutL o.length s.o)) (pst0 args o 1) (bodyE o.length ret) := by
  rintro _ _ ret exc ⟨rfl, rfl, h⟩
  walk_at "go"
  exact ⟨Nat.zero_le _, _, rfl, h⟩
theorem pure_law_wrong : ∀ args o ret exc, S_law_wrong args o ret exc → w_law_wrong (fun x s => exc x (cutL o.length s.o)) (pst0 args o 2) (bodyE o.length ret) := by
  rintro _ _ ret exc ⟨n, rfl, rfl, h⟩
  have hk : 0 ≤ n % 16 ∧ n % 16 < 16 := ⟨Int.emod_nonneg _ (by omega), Int.emod_lt_of_pos _ (by omega)⟩
  walk_at "go"
  generalize n % 16 = k at hk
  obtain ⟨i, rfl⟩ : ∃ i : Nat, k = i := ⟨k.toNat, by omega⟩
  have hi : i < (wrongS.map fun w => PyData.str (Str.ofString w)).length := by simp [wrongS]; omega
  refine ⟨_, ix_list (l := wrongS.map fun w => PyData.str (Str.ofString w)) hi, ?_⟩
  rw [List.getElem_map]
  have := h _ (List.getElem_mem (l := wrongS) (by rw [List.length_map] at hi; exact hi))
  rw [show dT (cd (wrongS[i]'(by rw [List.length_map] at hi; exact hi))) = .str (Str.ofString _) by rw [tx_of]; rfl] at this
  exact this
theorem lit_a : ("a" : Str) = tx [97] := by decide +kernel
theorem lit_b : ("b" : Str) = tx [98] := by decide +kernel
theorem lit_c : ("c" : Str) = tx [99] := by decide +kernel
theorem tx_inj {a b : List Nat} (h : tx a = tx b) : a = b := by
  have : (tx a).cps.toList = (tx b).cps.toList := by rw [h]
  exact this
theorem merge3 (a b c : List Nat) : mergeD [(.inr (tx [97]), dT a), (.inr (tx [98]), dT b), (.inr (tx [99]), dT c)] = [(.inr (tx [97]), dT a), (.inr (tx [98]), dT b), (.inr (tx [99]), dT c)] := by
  have n1 : tx [97] ≠ tx [98] := fun h => absurd (tx_inj h) (by decide)
  have n2 : tx [97] ≠ tx [99] := fun h => absurd (tx_inj h) (by decide)
  have n3 : tx [98] ≠ tx [99] := fun h => absurd (tx_inj h) (by decide)
  simp [mergeD, putD, n1, n2, n3]
theorem val3 (a b c : List Nat) (x : Nat) : (valD (mergeD [(.inr (tx [97]), dT a), (.inr (tx [98]), dT b), (.inr (tx [99]), dT c)]) (.inr (tx [x]))).getD (dT [x]) = dT (subst a b c [x]) := by
  rw [merge3]
  have hx : ∀ y, (tx [y] = tx [x]) ↔ y = x := fun y => ⟨fun h => by have := tx_inj h; simpa using this, fun h => by rw [h]⟩
  unfold valD subst
  by_cases h1 : x = 97
  · subst h1; simp
  · have e1 : ¬ tx [97] = tx [x] := fun h => h1 ((hx _).mp h).symm
    by_cases h2 : x = 98
    · subst h2; simp [e1]
    · have e2 : ¬ tx [98] = tx [x] := fun h => h2 ((hx _).mp h).symm
      by_cases h3 : x = 99
      · subst h3; simp [e1, e2]
      · have e3 : ¬ tx [99] = tx [x] := fun h => h3 ((hx _).mp h).symm
        simp [e1, e2, e3, h1, h2, h3]
theorem subst_snoc {a b c s : List Nat} {j : Nat} (h : j < s.length) : subst a b c (s.take (j + 1)) = subst a b c (s.take j) ++ subst a b c [s[j]] := by
  rw [take_snoc h]
  unfold subst
  rw [List.flatMap_append]
theorem subst_len {a b c : List Nat} (ha : a.length ≤ 8) (hb : b.length ≤ 8) (hc : c.length ≤ 8) : ∀ s : List Nat, (subst a b c s).length ≤ 8 * s.length
  | [] => by simp [subst]
  | x :: r => by
    have ih := subst_len ha hb hc r
    have e : subst a b c (x :: r) = (if x = 97 then a else if x = 98 then b else if x = 99 then c else [x]) ++ subst a b c r := rfl
    rw [e, List.length_append, List.length_cons]
    have : (if x = 97 then a else if x = 98 then b else if x = 99 then c else [x]).length ≤ 8 := by
      split
      · exact ha
      · split
        · exact hb
        · split
          · exact hc
          · simp
    omega
theorem pure_law_named : ∀ args o ret exc, S_law_named args o ret exc → w_law_named (fun x s => exc x (cutL o.length s.o)) (pst0 args o 4) (bodyE o.length ret) := by
  rintro _ _ ret exc ⟨s, a, b, c, rfl, rfl, hs, ha, hb, hc, h⟩
  unfold w_law_named
  rw [lit_a, lit_b, lit_c, show ("" : Str) = tx [] from rfl]
  walk_at "go"
  refine ⟨fun j st => ∃ x3, st = ⟨[some (.d (dT s)), some (.d (.list [dT a, dT b, dT c])), some (.d (dT (subst a b c (s.take j)))), x3], []⟩, ⟨none, rfl⟩, fun _ _ _ _ => trivial, ?_, ?_⟩
  · rintro j x st hx ⟨x3, rfl⟩
    rw [chars_tx] at hx
    obtain ⟨hj, rfl⟩ := map_get hx
    clear hx
    have l1 := subst_len ha hb hc (s.take j)
    have l2 := subst_len ha hb hc [s[j]]
    rw [List.length_take] at l1
    rw [List.length_singleton] at l2
    walk_at "go"
    refine ⟨Nat.le_of_ble_eq_true rfl, ?_⟩
    walk_at "go"
    refine ⟨⟨_, rfl⟩, ?_⟩
    walk_at "go"
    rw [val3]
    have e : dT (subst a b c (s.take (j + 1))) = .str (tx (subst a b c (s.take j)) ++ tx (subst a b c [s[j]])) := by rw [subst_snoc hj, tx_app]
    refine ⟨le_sz (by rw [tx_len, tx_len]; omega), ?_⟩
    refine .inr ⟨some (.d (dT [s[j]])), ?_⟩
    rw [e]
    rfl
  · rintro st ⟨x3, rfl⟩
    rw [chars_tx, List.length_map, List.take_length]
    walk_at "go"
    exact h

theorem kid_ones {e : Kn} (h : allK e = true) : (∃ l, e = .times l) ∨ (∃ s l, e = .sum s l) ∨ (∃ a, e = .br a) ∨ (∃ a, e = .minus a) ∨ (∃ n, e = .num n) ∨ (∃ w k, e = .name w k) := by
  cases e with
  | times l => exact .inl ⟨l, rfl⟩
  | sum s l => exact .inr (.inl ⟨s, l, rfl⟩)
  | br a => exact .inr (.inr (.inl ⟨a, rfl⟩))
  | minus a => exact .inr (.inr (.inr (.inl ⟨a, rfl⟩)))
  | num n => exact .inr (.inr (.inr (.inr (.inl ⟨n, rfl⟩))))
  | name w k => exact .inr (.inr (.inr (.inr (.inr ⟨w, k, rfl⟩))))
  | _ => simp [allK] at h
theorem pure_law_ones : ∀ args o ret exc, S_law_ones args o ret exc → w_law_ones (fun x s => exc x (cutL o.length s.o)) (pst0 args o 2) (bodyE o.length ret) := by
  rintro _ _ ret exc ⟨e, rfl, rfl, hok, hall, hz, h⟩
  have hl := kids_len e
  rcases kid_ones hall with ⟨l, rfl⟩ | ⟨ss, l, rfl⟩ | ⟨a, rfl⟩ | ⟨a, rfl⟩ | ⟨n, rfl⟩ | ⟨w, k, rfl⟩
  · walk_at "go"; refine ⟨_, .inr rfl, ?_⟩; exact ⟨Nat.zero_le _, _, rfl, h⟩
  · have hz2 : ss.length = (knsD l).length := by rw [knsD_len]; exact hok.1
    have hl' : l.length < szK (.sum ss l) := hl
    walk_at "go"
    refine ⟨fun j acc s => s = (⟨[some (.d (knD (.sum ss l))), none], []⟩ : PSt) ∧ acc = ((l.take j).map knD), ⟨rfl, rfl⟩, fun _ _ _ _ _ => trivial, ?_, ?_⟩
    · rintro j x acc s2 hx ho ⟨rfl, rfl⟩
      obtain ⟨sb, y, hy, rfl⟩ := zipS_at _ _ _ _ hz2 hx
      rw [knsD_map] at hy
      obtain ⟨hj, rfl⟩ := map_get hy
      clear hy hx ho
      walk_at "go"
      rw [take_map_succ' hj]
    rintro acc s2 ho ⟨rfl, rfl⟩
    clear ho
    rw [show (zipS ss (knsD l)).length = l.length by rw [zipS_len _ _ hz2, knsD_len], List.take_length, ← knsD_map]
    exact ⟨Nat.zero_le _, _, rfl, h⟩
  · walk_at "go"; exact ⟨Nat.zero_le _, _, rfl, h⟩
  · walk_at "go"; exact ⟨Nat.zero_le _, _, rfl, h⟩
  · walk_at "go"; exact ⟨Nat.zero_le _, _, rfl, h⟩
  · walk_at "go"; exact ⟨Nat.zero_le _, _, rfl, h⟩
theorem lbk_eq {e : Kn} (h : allK e = true) : (∃ w k, e = .name w k) ∨ lbk e = lbks [] (kids e) := by
  have one : ∀ a : Kn, lbks [] [a] = addW [] (lbk a) := fun a => by rw [lbks, lbks]
  cases e with
  | name w k => exact .inl ⟨w, k, rfl⟩
  | num _ => exact .inr rfl
  | br a => exact .inr (by rw [kids, one, lbk])
  | minus a => exact .inr (by rw [kids, one, lbk])
  | times l => exact .inr (by rw [kids, lbk])
  | sum s l => exact .inr (by rw [kids, lbk])
  | _ => simp [allK] at h
theorem lbks_take {l : List Kn} {acc : List (List Nat)} : ∀ {j : Nat} (hj : j < l.length), lbks acc (l.take (j + 1)) = addW (lbks acc (l.take j)) (lbk l[j]) := by
  induction l generalizing acc with
  | nil => intro j hj; exact absurd hj (by simp)
  | cons a r ih =>
    intro j hj
    cases j with
    | zero => rw [List.take_succ_cons, List.take_zero, List.take_zero, lbks, lbks, lbks]; rfl
    | succ j => rw [List.take_succ_cons, List.take_succ_cons, lbks, lbks, ih (by simpa using hj)]; rfl
theorem addW_take {F : List (List Nat)} {B : List (List Nat)} {i : Nat} (h : i < B.length) : addW F (B.take (i + 1)) = if B[i] ∈ addW F (B.take i) then addW F (B.take i) else addW F (B.take i) ++ [B[i]] := by
  rw [take_snoc h]
  unfold addW
  rw [List.foldl_append]
  rfl
theorem addW_P {P : List Nat → Prop} : ∀ {B F : List (List Nat)}, (∀ w ∈ F, P w) → (∀ w ∈ B, P w) → ∀ w ∈ addW F B, P w
  | [], F, h, _ => h
  | b :: B, F, h, g => by
    refine addW_P (F := if b ∈ F then F else F ++ [b]) (B := B) ?_ (fun w m => g w (List.mem_cons_of_mem _ m))
    split
    · exact h
    · intro w m
      rcases List.mem_append.mp m with m | m
      · exact h w m
      · rw [List.mem_singleton.mp m]; exact g b List.mem_cons_self
theorem addW_len : ∀ {B F : List (List Nat)}, (addW F B).length ≤ F.length + B.length
  | [], F => by simp [addW]
  | b :: B, F => by
    have := addW_len (B := B) (F := if b ∈ F then F else F ++ [b])
    have e : addW F (b :: B) = addW (if b ∈ F then F else F ++ [b]) B := rfl
    rw [e, List.length_cons]
    have h2 : (if b ∈ F then F else F ++ [b]).length ≤ F.length + 1 := by split <;> simp
    omega
theorem lbks_P {P : List Nat → Prop} : ∀ {l : List Kn} {acc : List (List Nat)}, (∀ w ∈ acc, P w) → (∀ a ∈ l, ∀ w ∈ lbk a, P w) → ∀ w ∈ lbks acc l, P w
  | [], acc, h, _ => by rw [lbks]; exact h
  | a :: r, acc, h, g => by
    rw [lbks]
    exact lbks_P (addW_P h (g a List.mem_cons_self)) fun b m => g b (List.mem_cons_of_mem _ m)
theorem lbk_can (n : Nat) : ∀ e : Kn, szK e ≤ n → okK e → allK e = true → (knD e).canLay0 = true → ∀ w ∈ lbk e, (dT w).canLay0 = true := by
  induction n with
  | zero => intro e h; have := szK_pos e; omega
  | succ n ih =>
    intro e hz hok hall h w hw
    rcases lbk_eq hall with ⟨x, k, rfl⟩ | hb
    · rw [lbk, List.mem_singleton] at hw
      rw [hw]
      exact canT h _ (List.mem_cons_of_mem _ List.mem_cons_self)
    · rw [hb] at hw
      exact lbks_P (P := fun w => (dT w).canLay0 = true) (acc := []) (fun w m => nomatch m) (fun a m => ih a (by have := kids_sz e a m; omega) (kids_ok hok a m) (kids_all hall a m) (kids_can hok hall h a m)) w hw
mutual
theorem lbk_len : ∀ e : Kn, (lbk e).length ≤ szK e
  | .num _ => by simp [lbk]
  | .name _ _ => by simp [lbk, szK]
  | .br a => by rw [lbk, szK]; have := lbk_len a; have := addW_len (F := []) (B := lbk a); simp at this; omega
  | .row _ => by simp [lbk]
  | .look _ _ => by simp [lbk]
  | .not_ _ => by simp [lbk]
  | .minus a => by rw [lbk, szK]; have := lbk_len a; have := addW_len (F := []) (B := lbk a); simp at this; omega
  | .times l => by rw [lbk, szK]; have := lbks_len [] l; simp at this; omega
  | .sum _ l => by rw [lbk, szK]; have := lbks_len [] l; simp at this; omega
  | .less _ _ => by simp [lbk]
  | .same _ _ => by simp [lbk]
theorem lbks_len (acc : List (List Nat)) : ∀ l : List Kn, (lbks acc l).length ≤ acc.length + szKs l
  | [] => by simp [lbks]
  | a :: r => by
    rw [lbks, szKs]
    have h1 := lbks_len (addW acc (lbk a)) r
    have h2 := lbk_len a
    have h3 := addW_len (F := acc) (B := lbk a)
    omega
end
theorem pure_law_blanks (n : Nat) : ∀ args o ret exc, S_law_blanks (n + 1) args o ret exc → w_law_blanks (S_law_blanks n) (fun x s => exc x (cutL o.length s.o)) (pst0 args o 4) (bodyE o.length ret) := by
  rintro _ _ ret exc ⟨e, rfl, rfl, hok, hall, hh, hz, hcan, h⟩
  have hl := kids_len e
  walk_at "go"
  refine ⟨strLe_kn e, _, ix_kn e, ?_⟩
  walk_at "go"
  rcases kw_name e with ⟨w, k, rfl⟩ | hk
  · walk_at "go"
    exact ⟨Nat.zero_le _, _, rfl, h⟩
  have hb : lbk e = lbks [] (kids e) := by
    rcases lbk_eq hall with ⟨x, k, rfl⟩ | hb
    · exact absurd hk (by simp only [kwS]; decide +kernel)
    · exact hb
  refine br_f hk ?_
  walk_at "go"
  refine ⟨hok, hall, by omega, ?_⟩
  walk_at "go"
  refine ⟨fun j s => ∃ x2 x3, s = ⟨[some (.d (knD e)), some (.own 0), x2, x3], [.dl ((lbks [] ((kids e).take j)).map dT), .no]⟩, ⟨none, none, rfl⟩, fun _ _ _ _ => trivial, ?_, ?_⟩
  · rintro j x s hx ⟨x2, x3, rfl⟩
    rw [knsD_map] at hx
    obtain ⟨hj, rfl⟩ := map_get hx
    have hma := List.getElem_mem hj
    have h1 := kids_ok hok _ hma
    have h2 := kids_hgt hh _ hma
    have h3 := kids_sz e _ hma
    have h4 := kids_all hall _ hma
    have h5 := kids_can hok hall hcan _ hma
    have h6 := lbk_can _ _ (Nat.le_refl _) h1 h4 h5
    have h7 := lbk_len (kids e)[j]
    have h8 : ∀ w ∈ lbks [] ((kids e).take j), (dT w).canLay0 = true := lbks_P (P := fun w => (dT w).canLay0 = true) (fun w m => nomatch m) fun a m => by
      have m := List.mem_of_mem_take m
      exact lbk_can _ a (Nat.le_refl _) (kids_ok hok a m) (kids_all hall a m) (kids_can hok hall hcan a m)
    have h9 : (lbks [] ((kids e).take j)).length ≤ 1000 := by
      have h1 := lbks_len [] ((kids e).take j)
      have h2 : szKs ((kids e).take j) ≤ szKs (kids e) := by
        have := szKs_app ((kids e).take j) ((kids e).drop j)
        rw [List.take_append_drop] at this
        omega
      have := kids_szs e
      simp at h1
      omega
    have hst := lbks_take (l := kids e) (acc := []) hj
    generalize hF : lbks [] ((kids e).take j) = F at *
    generalize hB : lbk (kids e)[j] = B at *
    clear hx
    walk_at "go"
    refine ⟨h1, h4, h2, by omega, h5, ?_⟩
    rw [hB]
    walk_at "go"
    refine ⟨fun i s => ∃ x3, s = ⟨[some (.d (knD e)), some (.own 0), some (.d (knD (kids e)[j])), x3], [.dl ((addW F (B.take i)).map dT), .no, .no]⟩, ⟨_, rfl⟩, fun _ _ _ _ => trivial, ?_, ?_⟩
    · rintro i x s2 hx ⟨y3, rfl⟩
      obtain ⟨hi, rfl⟩ := map_get hx
      clear hx
      have hw := h6 _ (List.getElem_mem hi)
      have hlen := addW_len (F := F) (B := B.take i)
      rw [List.length_take] at hlen
      have hF8 : ∀ w ∈ addW F (B.take i), (dT w).canLay0 = true := addW_P (P := fun w => (dT w).canLay0 = true) h8 fun w m => h6 w (List.mem_of_mem_take m)
      have hst2 := addW_take (F := F) hi
      generalize addW F (B.take i) = G at *
      walk_at "go"
      refine ⟨shaped_w hw, shaped_ws hF8, ?_⟩
      refine ⟨_, rfl, ?_⟩
      have hin : (!inD (dT B[i]) (G.map dT)) = decide (B[i] ∉ G) := by rw [inD_words]; simp
      refine ⟨fun c => ?_, fun c => ?_⟩
      · have c : (!inD (dT B[i]) (G.map dT)) = true := c
        rw [hin] at c
        have c : B[i] ∉ G := of_decide_eq_true c
        rw [if_neg c] at hst2
        walk_at "go"
        refine .inl ⟨some (.d (dT B[i])), ?_⟩
        rw [hst2, List.map_append]
        rfl
      · have c : (!inD (dT B[i]) (G.map dT)) = false := c
        rw [hin] at c
        have c : B[i] ∈ G := Classical.not_not.mp (of_decide_eq_false c)
        rw [if_pos c] at hst2
        walk_at "go"
        refine .inl ⟨some (.d (dT B[i])), ?_⟩
        rw [hst2]
        rfl
    · rintro s2 ⟨y3, rfl⟩
      rw [List.length_map, List.take_length]
      refine .inr ⟨some (.d (knD (kids e)[j])), cutP 2 y3, ?_⟩
      rw [hst]
      rfl
  · rintro s ⟨x2, x3, rfl⟩
    rw [knsD_len, List.take_length, ← hb]
    walk_at "go"
    exact ⟨Nat.zero_le _, _, rfl, h⟩

theorem pairS_cd (p : String × String) : pairS p = .tuple [dT (cd p.1), dT (cd p.2)] := by unfold pairS; rw [tx_of, tx_of]; rfl
theorem rules_in {v : Int} (h0 : 0 ≤ v) (h1 : v < 3) : ∃ L : List (String × String), (∀ p ∈ L, p ∈ goodS ++ badS) ∧ 0 < L.length ∧ L.length ≤ 40 ∧ ixD (.list [.list (goodS.map pairS), .list (goodS.map pairS), .list (badS.map pairS)]) v = some (.list (L.map pairS)) := by
  have hv : v = 0 ∨ v = 1 ∨ v = 2 := by omega
  rcases hv with rfl | rfl | rfl
  · exact ⟨goodS, fun p m => List.mem_append_left _ m, by decide, by decide, rfl⟩
  · exact ⟨goodS, fun p m => List.mem_append_left _ m, by decide, by decide, rfl⟩
  · exact ⟨badS, fun p m => List.mem_append_right _ m, by decide, by decide, rfl⟩
theorem names_in {v : Int} (h0 : 0 ≤ v) (h1 : v < 4) : ∃ ns ∈ namesS, ixD (.list [.list [.str "a", .str "b", .str "c"], .list [.str "c", .str "a", .str "b"], .list [.str "x", .str "ab", .str "b"], .list [.str "b", .str "c", .str "abcdefgh"]]) v = some (.list [dT (cd (ns.getD 0 "")), dT (cd (ns.getD 1 "")), dT (cd (ns.getD 2 ""))]) := by
  have hv : v = 0 ∨ v = 1 ∨ v = 2 ∨ v = 3 := by omega
  have e : ∀ s : String, dT (cd s) = .str (Str.ofString s) := fun s => by rw [tx_of]; rfl
  rcases hv with rfl | rfl | rfl | rfl
  · exact ⟨namesS[0], List.getElem_mem _, by simp only [e]; rfl⟩
  · exact ⟨namesS[1], List.getElem_mem _, by simp only [e]; rfl⟩
  · exact ⟨namesS[2], List.getElem_mem _, by simp only [e]; rfl⟩
  · exact ⟨namesS[3], List.getElem_mem _, by simp only [e]; rfl⟩
theorem names_len : ∀ ns ∈ namesS, (cd (ns.getD 0 "")).length ≤ 8 ∧ (cd (ns.getD 1 "")).length ≤ 8 ∧ (cd (ns.getD 2 "")).length ≤ 8 := by decide +kernel
theorem rules_len : ∀ p ∈ goodS ++ badS, (cd p.1).length ≤ 100 ∧ (cd p.2).length ≤ 100 := by decide +kernel
theorem in_all {ns : List String} (hn : ns ∈ namesS) {p : String × String} (hp : p ∈ goodS ++ badS) : (substN ns (cd p.1), substN ns (cd p.2)) ∈ allPairs ∧ (substN ns (cd p.2), substN ns (cd p.1)) ∈ allPairs := by
  unfold allPairs
  exact ⟨List.mem_flatMap.mpr ⟨ns, hn, List.mem_flatMap.mpr ⟨p, hp, by simp⟩⟩, List.mem_flatMap.mpr ⟨ns, hn, List.mem_flatMap.mpr ⟨p, hp, by simp⟩⟩⟩
theorem mod_in (n : Int) {m : Int} (h : 0 < m) : 0 ≤ n % m ∧ n % m < m := ⟨Int.emod_nonneg _ (by omega), Int.emod_lt_of_pos _ h⟩
end K59

namespace K59
open PySem L2 PW K13
local macro_rules
  | `(tactic| walk_at "sz") => `(tactic| first | omega | (simp only [lit_nl, tx_len, List.length_append, List.length_map, List.length_cons, List.length_nil, List.length_take, List.length_drop] <;> omega))
  | `(tactic| walk_at "go") => `(tactic| repeat (first | refine ⟨rfl, ?_⟩ | refine ⟨trivial, ?_⟩ | refine ⟨_, rfl, ?_⟩ | refine ⟨_, rfl, rfl, ?_⟩ | refine ⟨_, _, rfl, rfl, ?_⟩ | refine ⟨_, ix_hd, ?_⟩ | refine br_t rfl ?_ | refine br_f rfl ?_ | (refine ⟨le_sz ?_, ?_⟩; focus walk_at "sz") | (refine ⟨lt_sz ?_, ?_⟩; focus walk_at "sz") | (refine ⟨strLe_tx ?_, ?_⟩; focus walk_at "sz") | refine ⟨cmul_r rfl, ?_⟩ | refine ⟨cmul_l rfl, ?_⟩ | refine ⟨pos_ok rfl, ?_⟩ | refine ⟨cdiv_ok rfl, ?_⟩ | refine ⟨_, _, _, _, rfl, rfl, rfl, rfl, ?_⟩ | refine ⟨_, _, rfl, ?_⟩ | refine ⟨_, _, _, rfl, rfl, rfl, ?_⟩ | refine ⟨_, _, _, rfl, rfl, ?_⟩))
theorem needT_imp {N G : Addr} {v : PV} {q q' : List Nat → Prop} {e e' : Addr → Prop} (h : NeedT N G v q e) (f : ∀ l, q l → q' l) (g : ∀ C, (C = N ∨ C = G) → e C → e' C) : NeedT N G v q' e' := by
  rcases h with ⟨l, rfl, hl, a, b, c⟩ | ⟨x, rfl, hx, c⟩ | ⟨kvs, rfl, c⟩
  · exact .inl ⟨l, rfl, hl, fun x y => f l (a x y), fun x y => g _ (.inr rfl) (b x y), fun x => g _ (.inl rfl) (c x)⟩
  · exact .inr (.inl ⟨x, rfl, hx, g _ (.inl rfl) c⟩)
  · exact .inr (.inr ⟨kvs, rfl, g _ (.inl rfl) c⟩)
theorem pure_law_told {M : MX} {G N R C_MenderError C_NoEdit : Addr} (em : Em M G N R C_MenderError C_NoEdit) : ∀ args o ret exc, S_law_told N G R args o ret exc → w_law_told M G N R (fun x s => exc x (cutL o.length s.o)) (pst0 args o 2) (bodyE o.length ret) := by
  rintro _ _ ret exc ⟨l, m, rfl, rfl, hg, hl, hg2, hm, h⟩
  walk_at "go"
  refine NeedT.ok hg hl (NeedT.ok hg2 hm ?_)
  cases e : ruleF l m with
  | some p => rw [e] at h; exact h
  | none =>
    rw [e] at h
    refine ⟨_, em.m_NoRule_NoRule, fun _ => ?_, fun z => by cases z⟩
    exact h
def idxs : List Bool → Nat → List PyData
  | [], _ => []
  | b :: r, i => (if b then [PyData.int i] else []) ++ idxs r (i + 1)
theorem idxs_snoc : ∀ (bs : List Bool) (i j : Nat) (h : j < bs.length), idxs (bs.take (j + 1)) i = idxs (bs.take j) i ++ (if bs[j] then [PyData.int ((i + j : Nat) : Int)] else [])
  | b :: r, i, 0, _ => by simp [idxs]
  | b :: r, i, j + 1, h => by
    rw [List.take_succ_cons, List.take_succ_cons, idxs, idxs, idxs_snoc r (i + 1) j (by simpa using h), List.append_assoc]
    rw [show i + 1 + j = i + (j + 1) by omega]
    rfl
theorem idxs_len : ∀ (bs : List Bool) (i : Nat), (idxs bs i).length ≤ bs.length
  | [], _ => Nat.le_refl _
  | b :: r, i => by
    have := idxs_len r (i + 1)
    rw [idxs, List.length_append, List.length_cons]
    have : (if b then [PyData.int i] else []).length ≤ 1 := by cases b <;> simp
    omega
theorem enum_bs : ∀ {bs : List Bool} {i j : Nat} {x : PyData}, (enumD i (bs.map PyData.bool))[j]? = some x → ∃ h : j < bs.length, x = .tuple [.int ((i + j : Nat) : Int), .bool bs[j]]
  | b :: r, i, 0, x, h => by cases h; exact ⟨by simp, rfl⟩
  | b :: r, i, j + 1, x, h => by
    obtain ⟨h1, h2⟩ := enum_bs (bs := r) (i := i + 1) (j := j) h
    exact ⟨by simpa using h1, by rw [h2, show i + 1 + j = i + (j + 1) by omega]; rfl⟩
theorem ref_err {M : MX} {G N R C_MenderError C_NoEdit C : Addr} {kx : KX} {ret : RV → List OC → Prop} {x y : PyData} {b0 b1 b2 : Bool} (m : M C (.ref C_MenderError) = some true) (m0 : M C (.ref N) = some b0) (m1 : M C (.ref G) = some b1) (m2 : M C (.ref R) = some b2) (m3 : M C (.ref C_NoEdit) = some false)
    {k : PEnds} (hk : k.rt = (bodyE 0 ret).rt) (h : ret (.new (idxs [b0, b1, b2, false] 0)) []) :
    tryM M [(C_MenderError, some 2, wHotS (wSeq (wAsg (wLst (wCons (wIsE M (.ref N) (wVar 2)) (wCons (wIsE M (.ref G) (wVar 2)) (wCons (wIsE M (.ref R) (wVar 2)) (wCons (wIsE M (.ref C_NoEdit) (wVar 2)) wNil))))) 3)
 (wRet (wFlg 4 5 (wVar 3)))))] ⟨C, none⟩ ⟨[some (.d x), some (.d y), none, none, none, none], []⟩ kx k := by
  refine ⟨_, m, fun _ => ?_, fun z => by cases z⟩
  walk_at "go"
  refine ⟨_, _, rfl, m0, ?_⟩
  walk_at "go"
  refine ⟨_, _, rfl, m1, ?_⟩
  walk_at "go"
  refine ⟨_, _, rfl, m2, ?_⟩
  walk_at "go"
  refine ⟨_, _, rfl, m3, ?_⟩
  walk_at "go"
  refine ⟨(show 4 < 6 by decide), (show 5 < 6 by decide), by decide, [b0, b1, b2, false], rfl, (show 4 ≤ 1000 by decide), ?_⟩
  have e : (clrE (some 2) k).rt = (bodyE 0 ret).rt := hk
  have e2 : (idxB 0 [b0, b1, b2, false]).map PyData.int = idxs [b0, b1, b2, false] 0 := by
    cases b0 <;> cases b1 <;> cases b2 <;> rfl
  rw [e2]
  show (clrE (some 2) k).rt _ _
  rw [e]
  exact ⟨Nat.zero_le _, _, rfl, h⟩
theorem pure_law_refused {M : MX} {G N R C_MenderError C_NoEdit : Addr} (em : Em M G N R C_MenderError C_NoEdit) : ∀ args o ret exc, S_law_refused N G R args o ret exc → w_law_refused M G N R C_MenderError C_NoEdit (fun x s => exc x (cutL o.length s.o)) (pst0 args o 6) (bodyE o.length ret) := by
  rintro _ _ ret exc ⟨v, u, rfl, rfl, h⟩
  have hne : N ≠ G := by
    rintro rfl
    have e := em.m_NoText_NoText
    rw [em.m_NoText_TooGreat] at e
    cases e
  replace h := h hne
  have err : ∀ (kx : KX) (k : PEnds) C, k.rt = (bodyE 0 ret).rt → (C = N ∨ C = G) → ((C = N → ret (.new [.int 0]) []) ∧ (C = G → ret (.new [.int 1]) [])) → tryM M [(C_MenderError, some 2, wHotS (wSeq (wAsg (wLst (wCons (wIsE M (.ref N) (wVar 2)) (wCons (wIsE M (.ref G) (wVar 2)) (wCons (wIsE M (.ref R) (wVar 2)) (wCons (wIsE M (.ref C_NoEdit) (wVar 2)) wNil))))) 3)
 (wRet (wFlg 4 5 (wVar 3)))))] ⟨C, none⟩ ⟨[some (.d v), some (.d u), none, none, none, none], []⟩ kx k := by
    intro kx k C hk hC hr
    rcases hC with rfl | rfl
    · exact ref_err em.m_NoText_MenderError em.m_NoText_NoText em.m_NoText_TooGreat em.m_NoText_NoRule em.m_NoText_NoEdit hk (hr.1 rfl)
    · exact ref_err em.m_TooGreat_MenderError em.m_TooGreat_NoText em.m_TooGreat_TooGreat em.m_TooGreat_NoRule em.m_TooGreat_NoEdit hk (hr.2 rfl)
  walk_at "go"
  refine needT_imp h (fun l hq => needT_imp hq (fun m hq => ?_) fun C hC he => err _ _ C rfl hC he) fun C hC he => err _ _ C rfl hC he
  cases e : ruleF l m with
  | some p =>
    rw [e] at hq
    walk_at "go"
    exact ⟨Nat.zero_le _, _, rfl, hq⟩
  | none =>
    rw [e] at hq
    exact ref_err em.m_NoRule_MenderError em.m_NoRule_NoText em.m_NoRule_TooGreat em.m_NoRule_NoRule em.m_NoRule_NoEdit rfl hq
end K59

namespace K59
open PySem L2 PW K13
local macro_rules
  | `(tactic| walk_at "sz") => `(tactic| first | omega | (simp only [lit_nl, tx_len, List.length_append, List.length_map, List.length_cons, List.length_nil, List.length_take, List.length_drop] <;> omega))
  | `(tactic| walk_at "go") => `(tactic| repeat (first | refine ⟨rfl, ?_⟩ | refine ⟨trivial, ?_⟩ | refine ⟨_, rfl, ?_⟩ | refine ⟨_, rfl, rfl, ?_⟩ | refine ⟨_, _, rfl, rfl, ?_⟩ | refine ⟨_, ix_hd, ?_⟩ | refine br_t rfl ?_ | refine br_f rfl ?_ | (refine ⟨le_sz ?_, ?_⟩; focus walk_at "sz") | (refine ⟨lt_sz ?_, ?_⟩; focus walk_at "sz") | (refine ⟨strLe_tx ?_, ?_⟩; focus walk_at "sz") | refine ⟨cmul_r rfl, ?_⟩ | refine ⟨cmul_l rfl, ?_⟩ | refine ⟨pos_ok rfl, ?_⟩ | refine ⟨cdiv_ok rfl, ?_⟩ | refine ⟨_, _, _, _, rfl, rfl, rfl, rfl, ?_⟩ | refine ⟨_, _, rfl, ?_⟩ | refine ⟨_, _, _, rfl, rfl, rfl, ?_⟩ | refine ⟨_, _, _, rfl, rfl, ?_⟩))

abbrev namesW : EW := wLst (wCons (wLst (wCons (wC (.str "a")) (wCons (wC (.str "b")) (wCons (wC (.str "c")) wNil)))) (wCons (wLst (wCons (wC (.str "c")) (wCons (wC (.str "a")) (wCons (wC (.str "b")) wNil)))) (wCons (wLst (wCons (wC (.str "x")) (wCons (wC (.str "ab")) (wCons (wC (.str "b")) wNil)))) (wCons (wLst (wCons (wC (.str "b")) (wCons (wC (.str "c")) (wCons (wC (.str "abcdefgh")) wNil)))) wNil))))
theorem rt_tail {kx : KX} {ret : RV → List OC → Prop} {x0 x1 x2 x3 x5 : PyData} {c5 : List PyData} {nm : Int} {ns : List String} {X : PT'} (hns : ns ∈ namesS) (hnm : ixD (.list [.list [.str "a", .str "b", .str "c"], .list [.str "c", .str "a", .str "b"], .list [.str "x", .str "ab", .str "b"], .list [.str "b", .str "c", .str "abcdefgh"]]) nm = some (.list [dT (cd (ns.getD 0 "")), dT (cd (ns.getD 1 "")), dT (cd (ns.getD 2 ""))]))
    (k1 : X.1.length ≤ 100) (k2 : X.2.length ≤ 100) (h : ret (.new [dT (substN ns X.1), dT (substN ns X.2)]) []) :
    wRet (wLc (wL (wVar 6)) (gN 7) wYes (wCall S_law_named (wCons (wVar 7) (wCons (wIx namesW (wVar 4)) wNil))) [7]) kx ⟨[some (.d x0), some (.d x1), some (.d x2), some (.d x3), some (.d (.int nm)), some (.d x5), some (.own 6), none], [.no, .no, .no, .no, .no, .dl c5, .dl [dT X.1, dT X.2]]⟩ (bodyE 0 ret) := by
  obtain ⟨l0, l1, l2⟩ := names_len ns hns
  walk_at "go"
  refine ⟨fun j acc s => s = (⟨[some (.d x0), some (.d x1), some (.d x2), some (.d x3), some (.d (.int nm)), some (.d x5), some (.d (.list [dT X.1, dT X.2])), none], [.no, .no, .no, .no, .no, .dl c5, .no]⟩ : PSt) ∧ acc = (([X.1, X.2].take j).map fun s => dT (substN ns s)), ?_, fun _ _ _ _ _ => trivial, ?_, ?_⟩
  · exact ⟨rfl, rfl⟩
  · rintro j x acc s2 hx ho ⟨rfl, rfl⟩
    have hx : ([X.1, X.2].map dT)[j]? = some x := hx
    obtain ⟨hj, rfl⟩ := map_get hx
    clear hx ho
    have hk : [X.1, X.2][j].length ≤ 100 := by
      have := List.getElem_mem hj
      simp only [List.mem_cons, List.not_mem_nil, or_false] at this
      rcases this with e | e <;> rw [e] <;> assumption
    have hj2 : j < 2 := hj
    walk_at "go"
    refine ⟨_, hnm, ?_⟩
    walk_at "go"
    refine ⟨_, _, _, _, rfl, rfl, hk, l0, l1, l2, ?_⟩
    walk_at "go"
    rw [take_map_succ' (f := fun s => dT (substN ns s)) hj]
    rfl
  · rintro acc s2 ho ⟨rfl, rfl⟩
    clear ho
    exact ⟨Nat.zero_le _, _, rfl, h⟩
theorem pure_law_rule_texts : ∀ args o ret exc, S_law_rule_texts args o ret exc → w_law_rule_texts (fun x s => exc x (cutL o.length s.o)) (pst0 args o 8) (bodyE o.length ret) := by
  rintro _ _ ret exc ⟨n, rfl, rfl, h⟩
  walk_at "go"
  refine ⟨n, [3, 60, 2, 4], rfl, rfl, ?_, by decide, ?_⟩
  · intro s hs
    have : s = 3 ∨ s = 60 ∨ s = 2 ∨ s = 4 := by simpa using hs
    unfold CDiv
    exact ⟨by omega, fun _ => by omega⟩
  have m1 := mod_in n (m := 3) (by decide)
  have m3 := mod_in (n / 3 / 60) (m := 2) (by decide)
  have m4 := mod_in (n / 3 / 60 / 2) (m := 4) (by decide)
  walk_at "go"
  obtain ⟨L, hL, h0, h1, hi⟩ := rules_in m1.1 m1.2
  refine ⟨_, hi, ?_⟩
  walk_at "go"
  have m2 := mod_in (n / 3 % 60) (m := ((L.map pairS).length : Int)) (by rw [List.length_map]; omega)
  refine ⟨by rw [List.length_map]; omega, ?_⟩
  walk_at "go"
  generalize n / 3 % 60 % ((L.map pairS).length : Int) = v at m2
  obtain ⟨i, rfl⟩ : ∃ i : Nat, v = i := ⟨v.toNat, by omega⟩
  have hi : i < (L.map pairS).length := by omega
  refine ⟨_, ix_list hi, ?_⟩
  rw [List.getElem_map]
  have hp : L[i]'(by rw [List.length_map] at hi; exact hi) ∈ goodS ++ badS := hL _ (List.getElem_mem _)
  generalize L[i]'(by rw [List.length_map] at hi; exact hi) = p at hp
  rw [pairS_cd]
  walk_at "go"
  refine ⟨_, .inr rfl, ?_⟩
  walk_at "go"
  obtain ⟨ns, hns, hnm⟩ := names_in m4.1 m4.2
  obtain ⟨l0, l1, l2⟩ := names_len ns hns
  obtain ⟨k1, k2⟩ := rules_len p hp
  obtain ⟨a1, a2⟩ := in_all hns hp
  refine br_s _ rfl (fun _ => ?_) (fun _ => ?_)
  · refine ⟨_, rfl, _, _, rfl, rfl, ?_⟩
    exact rt_tail (kx := fun x s => exc x (cutL ([] : List OC).length s.o)) (X := (cd p.2, cd p.1)) hns hnm k2 k1 (h _ a2)
  · exact rt_tail (kx := fun x s => exc x (cutL ([] : List OC).length s.o)) (X := (cd p.1, cd p.2)) hns hnm k1 k2 (h _ a1)
end K59

namespace K59
open PySem L2 PW K13
local macro_rules
  | `(tactic| walk_at "sz") => `(tactic| first | omega | (simp only [lit_nl, tx_len, List.length_append, List.length_map, List.length_cons, List.length_nil, List.length_take, List.length_drop] <;> omega))
  | `(tactic| walk_at "go") => `(tactic| repeat (first | refine ⟨rfl, ?_⟩ | refine ⟨trivial, ?_⟩ | refine ⟨_, rfl, ?_⟩ | refine ⟨_, rfl, rfl, ?_⟩ | refine ⟨_, _, rfl, rfl, ?_⟩ | refine ⟨_, ix_hd, ?_⟩ | refine br_t rfl ?_ | refine br_f rfl ?_ | (refine ⟨le_sz ?_, ?_⟩; focus walk_at "sz") | (refine ⟨lt_sz ?_, ?_⟩; focus walk_at "sz") | (refine ⟨strLe_tx ?_, ?_⟩; focus walk_at "sz") | refine ⟨cmul_r rfl, ?_⟩ | refine ⟨cmul_l rfl, ?_⟩ | refine ⟨pos_ok rfl, ?_⟩ | refine ⟨cdiv_ok rfl, ?_⟩ | refine ⟨_, _, _, _, rfl, rfl, rfl, rfl, ?_⟩ | refine ⟨_, _, rfl, ?_⟩ | refine ⟨_, _, _, rfl, rfl, rfl, ?_⟩ | refine ⟨_, _, _, rfl, rfl, ?_⟩))
theorem goodT_ok {l : List Nat} (h : goodT l = true) : gdT l ∧ l.length ≤ 2000 := by
  unfold goodT at h
  rw [Bool.and_eq_true, List.all_eq_true, decide_eq_true_eq] at h
  exact h
theorem none_ok {p : PT'} (h : none' p = true) : gdT p.1 ∧ p.1.length ≤ 2000 ∧ gdT p.2 ∧ p.2.length ≤ 2000 ∧ ruleF p.1 p.2 = none := by
  unfold none' at h
  rw [Bool.and_eq_true, Bool.and_eq_true, Option.isNone_iff_eq_none] at h
  obtain ⟨a, b⟩ := goodT_ok h.1
  obtain ⟨c, d⟩ := goodT_ok h.2.1
  exact ⟨a, b, c, d, h.2.2⟩
theorem some_ok {p : PT'} (h : some' p = true) : gdT p.1 ∧ p.1.length ≤ 2000 ∧ gdT p.2 ∧ p.2.length ≤ 2000 ∧ ∃ q, ruleF p.1 p.2 = some q := by
  unfold some' at h
  rw [Bool.and_eq_true, Bool.and_eq_true, Option.isSome_iff_exists] at h
  obtain ⟨a, b⟩ := goodT_ok h.1
  obtain ⟨c, d⟩ := goodT_ok h.2.1
  exact ⟨a, b, c, d, h.2.2⟩
theorem cd_str (s : String) : dT (cd s) = .str (Str.ofString s) := by rw [tx_of]; rfl
theorem poor_in {v : Int} (h0 : 0 ≤ v) (h1 : v < 7) : ∃ p ∈ poorS, ixD (.list (poorS.map pairS)) v = some (.tuple [dT (cd p.1), dT (cd p.2)]) := by
  obtain ⟨i, rfl⟩ : ∃ i : Nat, v = i := ⟨v.toNat, by omega⟩
  have hi : i < (poorS.map pairS).length := by simp [poorS]; omega
  refine ⟨_, List.getElem_mem (l := poorS) (by rw [List.length_map] at hi; exact hi), ?_⟩
  rw [ix_list hi, List.getElem_map, pairS_cd]
theorem pure_law_pairs_wrong (G N R : Addr) : ∀ args o ret exc, S_law_pairs_wrong args o ret exc → w_law_pairs_wrong G N R (fun x s => exc x (cutL o.length s.o)) (pst0 args o 4) (bodyE o.length ret) := by
  rintro _ _ ret exc ⟨n, rfl, rfl, h⟩
  have hk := mod_in n (m := 7) (by decide)
  obtain ⟨p, hp, hi⟩ := poor_in hk.1 hk.2
  obtain ⟨q1, q2⟩ := poor_all p hp
  obtain ⟨a1, a2, a3, a4, a5⟩ := none_ok q1
  obtain ⟨b1, b2, b3, b4, b5⟩ := none_ok q2
  walk_at "go"
  refine ⟨_, hi, ?_⟩
  walk_at "go"
  refine fun _ => NeedT.ok a1 a2 (NeedT.ok a3 a4 ?_)
  rw [a5]
  walk_at "go"
  refine fun _ => NeedT.ok b1 b2 (NeedT.ok b3 b4 ?_)
  rw [b5]
  walk_at "go"
  exact h
theorem flat_rep (c : Nat) : ∀ n : Nat, (List.replicate n [c]).flatten = List.replicate n c
  | 0 => rfl
  | n + 1 => by rw [List.replicate_succ, List.flatten_cons, flat_rep c n, List.replicate_succ]; rfl
/-- one of the texts that are none, and what is due -/
def badV : List PyData := [.none, .str "a + b\t", dT (List.replicate 2001 97), .int 5, dT (cd "a + b" ++ List.replicate 2000 32)]
theorem gd_rep {n c : Nat} (h : gd c = true) : gdT (List.replicate n c) := fun x m => by rw [(List.mem_replicate.mp m).2]; exact h
theorem bad_in {N G : Addr} {v : Int} (h0 : 0 ≤ v) (h1 : v < 5) : ∃ (C : Addr) (x : PyData), ((C = N ∧ inD (.int v) [.int 2, .int 4] = false) ∨ (C = G ∧ inD (.int v) [.int 2, .int 4] = true)) ∧ ixD (.list badV) v = some x ∧ ∀ (q : List Nat → Prop) (e : Addr → Prop), e C → NeedT N G (.d x) q e := by
  have hv : v = 0 ∨ v = 1 ∨ v = 2 ∨ v = 3 ∨ v = 4 := by omega
  rcases hv with rfl | rfl | rfl | rfl | rfl
  · exact ⟨N, _, .inl ⟨rfl, by decide⟩, rfl, fun q e h => .inr (.inl ⟨_, rfl, by decide +kernel, h⟩)⟩
  · refine ⟨N, dT (cd "a + b\t"), .inl ⟨rfl, by decide⟩, by rw [cd_str]; rfl, fun q e h => .inl ⟨_, rfl, by decide +kernel, fun z => absurd (z 9 (by decide +kernel)) (by decide), fun z => absurd (z 9 (by decide +kernel)) (by decide), fun _ => h⟩⟩
  · refine ⟨G, _, .inr ⟨rfl, by decide⟩, rfl, fun q e h => .inl ⟨_, rfl, by rw [List.length_replicate]; omega, fun _ z => by rw [List.length_replicate] at z; omega, fun _ _ => h, fun z => absurd (gd_rep (by decide)) z⟩⟩
  · exact ⟨N, _, .inl ⟨rfl, by decide⟩, rfl, fun q e h => .inr (.inl ⟨_, rfl, by decide +kernel, h⟩)⟩
  · refine ⟨G, _, .inr ⟨rfl, by decide⟩, rfl, fun q e h => .inl ⟨_, rfl, by rw [List.length_append, List.length_replicate, show (cd "a + b").length = 5 by decide +kernel]; omega, fun _ z => by rw [List.length_append, List.length_replicate, show (cd "a + b").length = 5 by decide +kernel] at z; omega, fun _ _ => h, fun z => absurd ?_ z⟩⟩
    intro c m
    rcases List.mem_append.mp m with m | m
    · have k : ∀ c ∈ cd "a + b", gd c = true := by decide +kernel
      exact k c m
    · exact gd_rep (by decide) c m
theorem aless_ok : goodT (cd "a <") = true := by decide +kernel
theorem txt_tail {N G R C : Addr} {kx : KX} {ret : RV → List OC → Prop} {n v1 v2 d : Int} {L : List PyData} {x y : PyData} (hx : ixD (.list L) v1 = some x) (hy : ixD (.list L) v2 = some y) (hC : (C = N ∧ d = 0) ∨ (C = G ∧ d = 1))
    (hN : ∀ (q : List Nat → Prop) (e : Addr → Prop), e C → NeedT N G (.d x) q e) (h : ret (.d (.bool true)) []) :
    (wSeq (wIfS (wOr (wB (wNe (wCall (S_law_refused N G R) (wCons (wIx (wVar 1) (wVar 2)) (wCons (wIx (wVar 1) (wVar 3)) wNil))) (wVar 4))) (wB (wNe (wCall (S_law_refused N G R) (wCons (wIx (wVar 1) (wVar 2)) (wCons (wC (.str "a + b")) wNil))) (wVar 4))))
  (wRet (wC (.bool false)))
  wNext)
 (wRet (wEq (wCall (S_law_refused N G R) (wCons (wC (.str "a <")) (wCons (wIx (wVar 1) (wVar 2)) wNil))) (wVar 4)))) kx ⟨[some (.d (.int n)), some (.own 0), some (.d (.int v1)), some (.d (.int v2)), some (.own 1)], [.dl L, .dl [.int d]]⟩ (bodyE 0 ret) := by
  obtain ⟨g1, g2⟩ := goodT_ok aless_ok
  rw [← cd_str "a <"]
  walk_at "go"
  refine ⟨_, hx, ?_⟩
  walk_at "go"
  refine ⟨_, hy, ?_⟩
  walk_at "go"
  refine fun hne => hN _ _ ?_
  rcases hC with ⟨rfl, rfl⟩ | ⟨rfl, rfl⟩
  · refine ⟨fun _ => ?_, fun z => absurd z hne⟩
    walk_at "go"
    refine ⟨_, hx, ?_⟩
    walk_at "go"
    refine fun hne => hN _ _ ?_
    refine ⟨fun _ => ?_, fun z => absurd z hne⟩
    walk_at "go"
    refine ⟨_, hx, ?_⟩
    walk_at "go"
    refine fun hne => NeedT.ok g1 g2 (hN _ _ ?_)
    refine ⟨fun _ => ?_, fun z => absurd z hne⟩
    walk_at "go"
    exact h
  · refine ⟨fun z => absurd z.symm hne, fun _ => ?_⟩
    walk_at "go"
    refine ⟨_, hx, ?_⟩
    walk_at "go"
    refine fun hne => hN _ _ ?_
    refine ⟨fun z => absurd z.symm hne, fun _ => ?_⟩
    walk_at "go"
    refine ⟨_, hx, ?_⟩
    walk_at "go"
    refine fun hne => NeedT.ok g1 g2 (hN _ _ ?_)
    refine ⟨fun z => absurd z.symm hne, fun _ => ?_⟩
    walk_at "go"
    exact h
theorem pure_law_texts_refused (G N R : Addr) : ∀ args o ret exc, S_law_texts_refused args o ret exc → w_law_texts_refused G N R (fun x s => exc x (cutL o.length s.o)) (pst0 args o 5) (bodyE o.length ret) := by
  rintro _ _ ret exc ⟨n, rfl, rfl, h⟩
  unfold w_law_texts_refused
  rw [lit_a, show (" " : Str) = tx [32] by decide +kernel]
  have r1 : repS (tx [97]) (Int.toNat 2001) = tx (List.replicate 2001 97) := by
    rw [repS_tx, flat_rep]; rfl
  have r2 : repS (tx [32]) (Int.toNat 2000) = tx (List.replicate 2000 32) := by
    rw [repS_tx, flat_rep]; rfl
  have e5 : (Str.ofString "a + b") ++ tx (List.replicate 2000 32) = tx (cd "a + b" ++ List.replicate 2000 32) := by rw [tx_of, tx_app]; rfl
  have m1 := mod_in n (m := 5) (by decide)
  have m2 := mod_in (n / 5) (m := 5) (by decide)
  walk_at "go"
  refine ⟨by decide, le_sz (by rw [tx_len]; decide), ?_⟩
  rw [r1]
  walk_at "go"
  refine ⟨by decide, le_sz (by rw [tx_len]; decide), ?_⟩
  rw [r2]
  have l2 : (Str.ofString "a + b").length + (tx (List.replicate 2000 32)).length ≤ sizeLine := le_sz (by rw [tx_len, List.length_replicate, show (Str.ofString "a + b").length = 5 by decide +kernel]; omega)
  refine ⟨_, _, rfl, rfl, ?_⟩
  refine ⟨l2, ?_⟩
  rw [e5]
  generalize hA : List.replicate 2001 97 = A
  generalize hB : cd "a + b" ++ List.replicate 2000 32 = B
  have hbad : badV = [.none, .str "a + b\t", dT A, .int 5, dT B] := by rw [← hA, ← hB]; rfl
  walk_at "go"
  refine .inr ⟨_, rfl, ?_⟩
  obtain ⟨C, x, hC, hx, hN⟩ := bad_in (N := N) (G := G) m1.1 m1.2
  obtain ⟨_, y, _, hy, _⟩ := bad_in (N := N) (G := G) m2.1 m2.2
  rw [hbad] at hx hy
  refine ⟨Nat.le_of_ble_eq_true rfl, ?_⟩
  exact txt_tail (kx := fun x s => exc x (cutL ([] : List OC).length s.o)) hx hy (by
    rcases hC with ⟨e, q⟩ | ⟨e, q⟩
    · exact .inl ⟨e, by show (if inD (.int (n % 5)) [.int 2, .int 4] then (1 : Int) else 0) = 0; rw [q]; rfl⟩
    · exact .inr ⟨e, by show (if inD (.int (n % 5)) [.int 2, .int 4] then (1 : Int) else 0) = 1; rw [q]; rfl⟩) hN h
end K59


namespace K59
open PySem L2 PW K13
local macro_rules
  | `(tactic| walk_at "sz") => `(tactic| first | omega | (simp only [lit_nl, tx_len, List.length_append, List.length_map, List.length_cons, List.length_nil, List.length_take, List.length_drop] <;> omega))
  | `(tactic| walk_at "go") => `(tactic| repeat (first | refine ⟨rfl, ?_⟩ | refine ⟨trivial, ?_⟩ | refine ⟨_, rfl, ?_⟩ | refine ⟨_, rfl, rfl, ?_⟩ | refine ⟨_, _, rfl, rfl, ?_⟩ | refine ⟨_, ix_hd, ?_⟩ | refine br_t rfl ?_ | refine br_f rfl ?_ | (refine ⟨le_sz ?_, ?_⟩; focus walk_at "sz") | (refine ⟨lt_sz ?_, ?_⟩; focus walk_at "sz") | (refine ⟨strLe_tx ?_, ?_⟩; focus walk_at "sz") | refine ⟨cmul_r rfl, ?_⟩ | refine ⟨cmul_l rfl, ?_⟩ | refine ⟨pos_ok rfl, ?_⟩ | refine ⟨cdiv_ok rfl, ?_⟩ | refine ⟨_, _, _, _, rfl, rfl, rfl, rfl, ?_⟩ | refine ⟨_, _, rfl, ?_⟩ | refine ⟨_, _, _, rfl, rfl, rfl, ?_⟩ | refine ⟨_, _, _, rfl, rfl, ?_⟩))

def longT : List Nat := cd "a + a + a + a + a + a + a + a + a + a"
theorem end_ok : none' (longT ++ cd " + a", cd "a * 9") = true ∧ none' (cd "a + a", longT ++ cd " + a") = true ∧ some' (cd "-" ++ longT, cd "a * 8") = true ∧ none' (cd "-(" ++ longT ++ cd ")", cd "a + a") = true ∧ some' (cd "(a * a) * (a * a)", cd "a * a * a * -a") = true := by decide +kernel
theorem chk_ok {p : PT'} (h : chk p = true) : gdT p.1 ∧ p.1.length ≤ 2000 ∧ gdT p.2 ∧ p.2.length ≤ 2000 ∧ ∃ a b, ruleF p.1 p.2 = some (a, b) ∧ lbk a = blk a := by
  unfold chk at h
  rw [Bool.and_eq_true, Bool.and_eq_true] at h
  obtain ⟨a, b⟩ := goodT_ok h.1
  obtain ⟨c, d⟩ := goodT_ok h.2.1
  refine ⟨a, b, c, d, ?_⟩
  cases e : ruleF p.1 p.2 with
  | none => rw [e] at h; exact absurd h.2.2 (by decide)
  | some q =>
    obtain ⟨x, y⟩ := q
    rw [e] at h
    exact ⟨x, y, rfl, of_decide_eq_true h.2.2⟩
theorem rule_sides {l m : List Nat} {a b : Kn} (h : ruleF l m = some (a, b)) : sideF l = some a ∧ sideF m = some b := by
  unfold ruleF at h
  cases e1 : sideF l with
  | none => rw [e1] at h; cases h
  | some x =>
    cases e2 : sideF m with
    | none => rw [e1, e2] at h; cases h
    | some y =>
      rw [e1, e2] at h
      simp only at h
      split at h
      · cases h
      · split at h
        · cases h
        · cases h; exact ⟨rfl, rfl⟩
theorem side_cmp {l : List Nat} {a : Kn} (h : sideF l = some a) : ∃ b, cmpF (wds (leavesL l)) 50 0 6 = some (a, b) := by
  unfold sideF cmpT at h
  cases e : cmpF (wds (leavesL l)) 50 0 6 with
  | none => rw [e] at h; cases h
  | some r =>
    obtain ⟨k, b⟩ := r
    rw [e] at h
    simp only at h
    split at h
    · cases h
    · split at h
      · cases h; exact ⟨b, rfl⟩
      · cases h
theorem script_at {ns : List Int} {j : Nat} {x : PyData} (h : (cutD (ns.map PyData.int) none (some 4))[j]? = some x) : ∃ c, x = .int c := by
  have m := List.mem_of_getElem? h
  have : x ∈ ns.map PyData.int := by
    unfold cutD at m
    exact List.mem_of_mem_drop (List.mem_of_mem_take m)
  obtain ⟨c, _, rfl⟩ := List.mem_map.mp this
  exact ⟨c, rfl⟩
theorem shaped_rul {l m : List Nat} {a b : Kn} {b1 b2 : Nat} (g1 : gdT l) (g2 : l.length ≤ 2000) (g3 : gdT m) (g4 : m.length ≤ 2000) (c1 : cmpF (wds (leavesL l)) 50 0 6 = some (a, b1)) (c2 : cmpF (wds (leavesL m)) 50 0 6 = some (b, b2)) : SeqAt.shaped (rulD (a, b)) = true := by
  have k1 := lay_cmp (lv_gd (lvOk g1 g2)) c1
  have k2 := lay_cmp (lv_gd (lvOk g3 g4)) c2
  exact (LayD.tup (l1 k1 k2)).shaped (by decide)
theorem join_key (P : PyData → Prop) (s : Str) (e : s = tx longT) (h : P (dT longT)) : P (.str s) := by rw [e]; exact h
theorem pure_law (G N R : Addr) : ∀ args o ret exc, lawS args o ret exc → w_law G N R (fun x s => exc x (cutL o.length s.o)) (pst0 args o 8) (bodyE o.length ret) := by
  rintro _ _ ret exc ⟨ns, rfl, rfl, hn, h⟩
  unfold w_law
  simp only [show ∀ s : String, PyData.str (Str.ofString s) = dT (cd s) from fun s => (cd_str s).symm]
  walk_at "go"
  refine ⟨fun j s => s = ⟨[some (.scr ns), none, none, none, none, none, none, none], [.no]⟩ ∨ ∃ x1 x2 x3 x4 x5 x6 : PyData, s = ⟨[some (.scr ns), some (.d x1), some (.d x2), some (.d x3), some (.d x4), some (.d x5), some (.d x6), none], [.no]⟩, .inl rfl, fun _ _ _ _ => trivial, ?_, ?_⟩
  · intro j x s hx hs
    obtain ⟨c, rfl⟩ := script_at hx
    clear hx
    rcases hs with rfl | ⟨x1, x2, x3, x4, x5, x6, rfl⟩
    all_goals
      walk_at "go"
      intro p hp
      obtain ⟨g1, g2, g3, g4, a, b, hr, hlb⟩ := chk_ok (chk_all p hp)
      obtain ⟨sd1, sd2⟩ := rule_sides hr
      have ok1 := sideF_ok g1 g2 sd1
      have ok2 := sideF_ok g3 g4 sd2
      obtain ⟨b1, cm1⟩ := side_cmp sd1
      obtain ⟨b2, cm2⟩ := side_cmp sd2
      have L1 := lvOk g1 g2
      have L2 := lvOk g3 g4
      have hcan : (rulD (a, b)).canLay0 = true := by
        show (PyData.tuple [knD a, knD b]).canLay0 = true
        rw [PyData.canLay0, PyData.canLayAll0, PyData.canLayAll0, PyData.canLayAll0, ok1.can, ok2.can]; rfl
      have hsh : SeqAt.shaped (rulD (a, b)) = true := shaped_rul g1 g2 g3 g4 cm1 cm2
      have bcan := blk_can _ a (Nat.le_refl _) ok1.ok ok1.all ok1.can
      have z1 := ok1.sz
      walk_at "go"
      refine ⟨g1, g2, g3, g4, ?_⟩
      rw [hr]
      walk_at "go"
      refine NeedT.ok g1 g2 ?_
      walk_at "go"
      refine ⟨L1, ?_⟩
      rw [cm1]
      walk_at "go"
      refine NeedT.ok g3 g4 ?_
      walk_at "go"
      refine ⟨L2, ?_⟩
      rw [cm2]
      walk_at "go"
      refine ⟨eqOk_of hsh hsh, ?_⟩
      have hself : PyData.eqv (rulD (a, b)) (rulD (a, b)) = true := eqv_self hcan
      refine ⟨_, rfl, ?_⟩
      refine br_f (by show (!PyData.eqv (rulD (a, b)) (rulD (a, b))) = false; rw [hself]; rfl) ?_
      walk_at "go"
      refine ⟨ok1.ok, ok1.all, ok1.hgt, by show szK a ≤ 1000; omega, ok1.can, ?_⟩
      walk_at "go"
      refine ⟨ok1.ok, ok1.all, ok1.hgt, by omega, ok1.can, ?_⟩
      rw [hlb]
      walk_at "go"
      refine ⟨_, .inl rfl, ?_⟩
      have tsh : SeqAt.shaped (.tuple ((blk a).map dT)) = true := shaped_tup fun x m => by
        obtain ⟨w, hw, rfl⟩ := List.mem_map.mp m
        exact ⟨bcan w hw, Nat.zero_le _⟩
      have tself : PyData.eqv (.tuple ((blk a).map dT)) (.tuple ((blk a).map dT)) = true := eqv_self (by
        unfold SeqAt.shaped at tsh
        rw [Bool.and_eq_true] at tsh
        exact tsh.1)
      walk_at "go"
      refine ⟨eqOk_of tsh tsh, ?_⟩
      refine ⟨_, rfl, ?_⟩
      refine br_f (by show (!PyData.eqv (.tuple ((blk a).map dT)) (.tuple ((blk a).map dT))) = false; rw [tself]; rfl) ?_
      walk_at "go"
      intro w hw
      obtain ⟨q1, q2⟩ := wrong_all w hw
      obtain ⟨a1, a2, a3, a4, a5⟩ := none_ok q1
      obtain ⟨c1, c2, c3, c4, c5⟩ := none_ok q2
      walk_at "go"
      refine ⟨a1, a2, a3, a4, ?_⟩
      rw [a5]
      walk_at "go"
      refine ⟨c1, c2, c3, c4, ?_⟩
      rw [c5]
      walk_at "go"
      refine ⟨g1, g2, g3, g4, ?_⟩
      rw [hr]
      walk_at "go"
      refine ⟨eqOk_of hsh hsh, ?_⟩
      refine ⟨_, rfl, ?_⟩
      refine br_f (by show (!PyData.eqv (rulD (a, b)) (rulD (a, b))) = false; rw [hself]; rfl) ?_
      walk_at "go"
      exact .inr (.inr ⟨_, _, _, _, _, _, rfl⟩)
  · intro s hs
    obtain ⟨e1, e2, e3, e4, e5⟩ := end_ok
    obtain ⟨a1, a2, a3, a4, a5⟩ := none_ok e1
    obtain ⟨b1, b2, b3, b4, b5⟩ := none_ok e2
    obtain ⟨c1, c2, c3, c4, q3, c5⟩ := some_ok e3
    obtain ⟨d1, d2, d3, d4, d5⟩ := none_ok e4
    obtain ⟨f1, f2, f3, f4, q5, f5⟩ := some_ok e5
    have join : Txt.join (tx (cd " + ")) [tx (cd "a"), tx (cd "a"), tx (cd "a"), tx (cd "a"), tx (cd "a"), tx (cd "a"), tx (cd "a"), tx (cd "a"), tx (cd "a"), tx (cd "a")] = tx longT := by decide +kernel
    have ho : ∀ q : Kn × Kn, (rulO (some q)) ≠ .none := fun q z => by cases z
    rcases hs with rfl | ⟨x1, x2, x3, x4, x5, x6, rfl⟩
    all_goals
      walk_at "go"
      refine ⟨by decide, by decide, le_sz (by simp), ?_⟩
      walk_at "go"
      refine ⟨(show ((List.replicate 10 (tx (cd "a"))).map (·.length)).sum + (List.replicate 10 (tx (cd "a"))).length * (tx (cd " + ")).length ≤ 16777216 by decide +kernel), ?_⟩
      rw [join]
      have lz : longT.length ≤ 2000 := by decide +kernel
      generalize hlong : longT = Z at *
      have k1 : (cd " + a").length ≤ 20 := by decide +kernel
      have k2 : (cd "-").length ≤ 20 := by decide +kernel
      have k3 : (cd "-(").length ≤ 20 := by decide +kernel
      have k4 : (cd ")").length ≤ 20 := by decide +kernel
      generalize cd " + a" = P1 at *
      generalize cd "-" = P2 at *
      generalize cd "-(" = P3 at *
      generalize cd ")" = P4 at *
      repeat (first | refine br_f rfl ?_ | refine br_t rfl ?_ | refine ⟨_, rfl, ?_⟩ | refine ⟨_, _, rfl, rfl, ?_⟩ | refine ⟨_, _, rfl, ?_⟩)
      refine ⟨le_sz (by rw [tx_len, tx_len]; omega), ?_⟩
      rw [tx_app]
      walk_at "go"
      refine ⟨a1, a2, a3, a4, ?_⟩
      rw [a5]
      repeat (first | refine br_f rfl ?_ | refine br_t rfl ?_ | refine ⟨_, rfl, ?_⟩ | refine ⟨_, _, rfl, rfl, ?_⟩ | refine ⟨_, _, rfl, ?_⟩)
      refine ⟨le_sz (by rw [tx_len, tx_len]; omega), ?_⟩
      rw [tx_app]
      walk_at "go"
      refine ⟨b1, b2, b3, b4, ?_⟩
      rw [b5]
      repeat (first | refine br_f rfl ?_ | refine br_t rfl ?_ | refine ⟨_, rfl, ?_⟩ | refine ⟨_, _, rfl, rfl, ?_⟩ | refine ⟨_, _, rfl, ?_⟩)
      refine ⟨le_sz (by rw [tx_len, tx_len]; omega), ?_⟩
      rw [tx_app]
      walk_at "go"
      refine ⟨c1, c2, c3, c4, ?_⟩
      rw [c5]
      repeat (first | refine br_f rfl ?_ | refine br_t rfl ?_ | refine ⟨_, rfl, ?_⟩ | refine ⟨_, _, rfl, rfl, ?_⟩ | refine ⟨_, _, rfl, ?_⟩)
      refine ⟨le_sz (by rw [tx_len, tx_len]; omega), ?_⟩
      rw [tx_app]
      repeat (first | refine br_f rfl ?_ | refine br_t rfl ?_ | refine ⟨_, rfl, ?_⟩ | refine ⟨_, _, rfl, rfl, ?_⟩ | refine ⟨_, _, rfl, ?_⟩)
      refine ⟨le_sz (by rw [tx_len, tx_len, List.length_append]; omega), ?_⟩
      rw [tx_app]
      walk_at "go"
      refine ⟨d1, d2, d3, d4, ?_⟩
      rw [d5]
      walk_at "go"
      refine ⟨f1, f2, f3, f4, ?_⟩
      rw [f5]
      walk_at "go"
      exact h
end K59

namespace K59
open PySem L2 PW K13
def topS (i : Nat) : Stmt := PySem.Challenge.pw_mender_k59_rules_read.main.body.getD i (.Pass ⟨0, 0, 0, 0⟩)
abbrev s_is_sign : Stmt := topS 8
abbrev N_is_sign : List Str := ["leaves", "at", "signs"]
theorem sc_is_sign : FnScope N_is_sign ["leaves", "at", "signs"] (defScope s_is_sign) := ⟨rfl, rfl, rfl, by decide +kernel, rfl, by decide +kernel, by decide +kernel⟩
abbrev s_deep : Stmt := topS 9
abbrev N_deep : List Str := ["knot", "one", "part"]
theorem sc_deep : FnScope N_deep ["knot"] (defScope s_deep) := ⟨rfl, rfl, rfl, by decide +kernel, rfl, by decide +kernel, by decide +kernel⟩
abbrev s_several : Stmt := topS 10
abbrev N_several : List Str := ["leaves", "at", "room", "close", "found", "one"]
theorem sc_several : FnScope N_several ["leaves", "at", "room", "close"] (defScope s_several) := ⟨rfl, rfl, rfl, by decide +kernel, rfl, by decide +kernel, by decide +kernel⟩
abbrev s_begun : Stmt := topS 11
abbrev N_begun : List Str := ["leaves", "at", "room", "kind", "word", "place", "one", "row"]
theorem sc_begun : FnScope N_begun ["leaves", "at", "room"] (defScope s_begun) := ⟨rfl, rfl, rfl, by decide +kernel, rfl, by decide +kernel, by decide +kernel⟩
abbrev s_looked : Stmt := topS 12
abbrev N_looked : List Str := ["leaves", "at", "room", "first", "knot", "places", "one"]
theorem sc_looked : FnScope N_looked ["leaves", "at", "room"] (defScope s_looked) := ⟨rfl, rfl, rfl, by decide +kernel, rfl, by decide +kernel, by decide +kernel⟩
abbrev s_signed : Stmt := topS 13
abbrev N_signed : List Str := ["leaves", "at", "room", "word", "one"]
theorem sc_signed : FnScope N_signed ["leaves", "at", "room"] (defScope s_signed) := ⟨rfl, rfl, rfl, by decide +kernel, rfl, by decide +kernel, by decide +kernel⟩
abbrev s_multiplied : Stmt := topS 14
abbrev N_multiplied : List Str := ["leaves", "at", "room", "one", "found"]
theorem sc_multiplied : FnScope N_multiplied ["leaves", "at", "room"] (defScope s_multiplied) := ⟨rfl, rfl, rfl, by decide +kernel, rfl, by decide +kernel, by decide +kernel⟩
abbrev s_added : Stmt := topS 15
abbrev N_added : List Str := ["leaves", "at", "room", "one", "found", "sign"]
theorem sc_added : FnScope N_added ["leaves", "at", "room"] (defScope s_added) := ⟨rfl, rfl, rfl, by decide +kernel, rfl, by decide +kernel, by decide +kernel⟩
abbrev s_compared : Stmt := topS 16
abbrev N_compared : List Str := ["leaves", "at", "room", "one", "other", "word"]
theorem sc_compared : FnScope N_compared ["leaves", "at", "room"] (defScope s_compared) := ⟨rfl, rfl, rfl, by decide +kernel, rfl, by decide +kernel, by decide +kernel⟩
abbrev s_expression : Stmt := topS 17
abbrev N_expression : List Str := ["leaves", "at"]
theorem sc_expression : FnScope N_expression ["leaves", "at"] (defScope s_expression) := ⟨rfl, rfl, rfl, by decide +kernel, rfl, by decide +kernel, by decide +kernel⟩
abbrev s_need_text : Stmt := topS 28
abbrev N_need_text : List Str := ["text", "sign"]
theorem sc_need_text : FnScope N_need_text ["text"] (defScope s_need_text) := ⟨rfl, rfl, rfl, by decide +kernel, rfl, by decide +kernel, by decide +kernel⟩
abbrev s_lines_of : Stmt := topS 29
abbrev N_lines_of : List Str := ["text", "parts", "lines", "part"]
theorem sc_lines_of : FnScope N_lines_of ["text"] (defScope s_lines_of) := ⟨rfl, rfl, rfl, by decide +kernel, rfl, by decide +kernel, by decide +kernel⟩
abbrev s_run_end : Stmt := topS 30
abbrev N_run_end : List Str := ["line", "at", "signs", "end"]
theorem sc_run_end : FnScope N_run_end ["line", "at", "signs"] (defScope s_run_end) := ⟨rfl, rfl, rfl, by decide +kernel, rfl, by decide +kernel, by decide +kernel⟩
abbrev s_kind_of : Stmt := topS 31
abbrev N_kind_of : List Str := ["word", "good"]
theorem sc_kind_of : FnScope N_kind_of ["word"] (defScope s_kind_of) := ⟨rfl, rfl, rfl, by decide +kernel, rfl, by decide +kernel, by decide +kernel⟩
abbrev s_leaves_in : Stmt := topS 32
abbrev N_leaves_in : List Str := ["line", "begin", "stop", "found", "at", "end"]
theorem sc_leaves_in : FnScope N_leaves_in ["line", "begin"] (defScope s_leaves_in) := ⟨rfl, rfl, rfl, by decide +kernel, rfl, by decide +kernel, by decide +kernel⟩
abbrev s_leaves_of : Stmt := topS 33
abbrev N_leaves_of : List Str := ["text", "found", "begin", "line"]
theorem sc_leaves_of : FnScope N_leaves_of ["text"] (defScope s_leaves_of) := ⟨rfl, rfl, rfl, by decide +kernel, rfl, by decide +kernel, by decide +kernel⟩
abbrev s_parts_of : Stmt := topS 38
abbrev N_parts_of : List Str := ["knot", "part"]
theorem sc_parts_of : FnScope N_parts_of ["knot"] (defScope s_parts_of) := ⟨rfl, rfl, rfl, by decide +kernel, rfl, by decide +kernel, by decide +kernel⟩
abbrev s_are_all : Stmt := topS 39
abbrev N_are_all : List Str := ["knot", "kinds", "one"]
theorem sc_are_all : FnScope N_are_all ["knot", "kinds"] (defScope s_are_all) := ⟨rfl, rfl, rfl, by decide +kernel, rfl, by decide +kernel, by decide +kernel⟩
abbrev s_unbracketed : Stmt := topS 40
abbrev N_unbracketed : List Str := ["knot"]
theorem sc_unbracketed : FnScope N_unbracketed ["knot"] (defScope s_unbracketed) := ⟨rfl, rfl, rfl, by decide +kernel, rfl, by decide +kernel, by decide +kernel⟩
abbrev s_side_of : Stmt := topS 41
abbrev N_side_of : List Str := ["text", "leaves", "found"]
theorem sc_side_of : FnScope N_side_of ["text"] (defScope s_side_of) := ⟨rfl, rfl, rfl, by decide +kernel, rfl, by decide +kernel, by decide +kernel⟩
abbrev s_blanks_in : Stmt := topS 42
abbrev N_blanks_in : List Str := ["knot", "found", "one", "word"]
theorem sc_blanks_in : FnScope N_blanks_in ["knot"] (defScope s_blanks_in) := ⟨rfl, rfl, rfl, by decide +kernel, rfl, by decide +kernel, by decide +kernel⟩
abbrev s_degree : Stmt := topS 43
abbrev N_degree : List Str := ["knot", "word", "degrees", "one"]
theorem sc_degree : FnScope N_degree ["knot", "word"] (defScope s_degree) := ⟨rfl, rfl, rfl, by decide +kernel, rfl, by decide +kernel, by decide +kernel⟩
abbrev s_rule_of : Stmt := topS 44
abbrev N_rule_of : List Str := ["one", "other", "rule", "words", "side", "word"]
theorem sc_rule_of : FnScope N_rule_of ["one", "other"] (defScope s_rule_of) := ⟨rfl, rfl, rfl, by decide +kernel, rfl, by decide +kernel, by decide +kernel⟩
abbrev s_blanks_of : Stmt := topS 45
abbrev N_blanks_of : List Str := ["rule"]
theorem sc_blanks_of : FnScope N_blanks_of ["rule"] (defScope s_blanks_of) := ⟨rfl, rfl, rfl, by decide +kernel, rfl, by decide +kernel, by decide +kernel⟩
abbrev s_law_draws : Stmt := topS 47
abbrev N_law_draws : List Str := ["_law_number", "_law_sizes", "_law_found", "_law_size"]
theorem sc_law_draws : FnScope N_law_draws ["_law_number", "_law_sizes"] (defScope s_law_draws) := ⟨rfl, rfl, rfl, by decide +kernel, rfl, by decide +kernel, by decide +kernel⟩
abbrev s_law_good_rules : Stmt := topS 48
abbrev N_law_good_rules : List Str := ["_law_found"]
theorem sc_law_good_rules : FnScope N_law_good_rules [] (defScope s_law_good_rules) := ⟨rfl, rfl, rfl, by decide +kernel, rfl, by decide +kernel, by decide +kernel⟩
abbrev s_law_bad_rules : Stmt := topS 49
abbrev N_law_bad_rules : List Str := ["_law_found"]
theorem sc_law_bad_rules : FnScope N_law_bad_rules [] (defScope s_law_bad_rules) := ⟨rfl, rfl, rfl, by decide +kernel, rfl, by decide +kernel, by decide +kernel⟩
abbrev s_law_rule_texts : Stmt := topS 50
abbrev N_law_rule_texts : List Str := ["_law_number", "_law_way", "_law_one", "_law_turn", "_law_name", "_law_rules", "_law_sides", "_law_side"]
theorem sc_law_rule_texts : FnScope N_law_rule_texts ["_law_number"] (defScope s_law_rule_texts) := ⟨rfl, rfl, rfl, by decide +kernel, rfl, by decide +kernel, by decide +kernel⟩
abbrev s_law_named : Stmt := topS 51
abbrev N_law_named : List Str := ["_law_side", "_law_names", "_law_found", "_law_sign"]
theorem sc_law_named : FnScope N_law_named ["_law_side", "_law_names"] (defScope s_law_named) := ⟨rfl, rfl, rfl, by decide +kernel, rfl, by decide +kernel, by decide +kernel⟩
abbrev s_law_ones : Stmt := topS 52
abbrev N_law_ones : List Str := ["_law_knot", "_law_part"]
theorem sc_law_ones : FnScope N_law_ones ["_law_knot"] (defScope s_law_ones) := ⟨rfl, rfl, rfl, by decide +kernel, rfl, by decide +kernel, by decide +kernel⟩
abbrev s_law_blanks : Stmt := topS 53
abbrev N_law_blanks : List Str := ["_law_knot", "_law_found", "_law_one", "_law_word"]
theorem sc_law_blanks : FnScope N_law_blanks ["_law_knot"] (defScope s_law_blanks) := ⟨rfl, rfl, rfl, by decide +kernel, rfl, by decide +kernel, by decide +kernel⟩
abbrev s_law_told : Stmt := topS 54
abbrev N_law_told : List Str := ["_law_one", "_law_other"]
theorem sc_law_told : FnScope N_law_told ["_law_one", "_law_other"] (defScope s_law_told) := ⟨rfl, rfl, rfl, by decide +kernel, rfl, by decide +kernel, by decide +kernel⟩
abbrev s_law_wrong : Stmt := topS 55
abbrev N_law_wrong : List Str := ["_law_number", "_law_found"]
theorem sc_law_wrong : FnScope N_law_wrong ["_law_number"] (defScope s_law_wrong) := ⟨rfl, rfl, rfl, by decide +kernel, rfl, by decide +kernel, by decide +kernel⟩
abbrev s_law_refused : Stmt := topS 56
abbrev N_law_refused : List Str := ["_law_one", "_law_other", "e", "_law_flags", "_law_k", "_law_flag"]
theorem sc_law_refused : FnScope N_law_refused ["_law_one", "_law_other"] (defScope s_law_refused) := ⟨rfl, rfl, rfl, by decide +kernel, rfl, by decide +kernel, by decide +kernel⟩
abbrev s_law_pairs_wrong : Stmt := topS 57
abbrev N_law_pairs_wrong : List Str := ["_law_cell", "_law_pairs", "_law_one", "_law_other"]
theorem sc_law_pairs_wrong : FnScope N_law_pairs_wrong ["_law_cell"] (defScope s_law_pairs_wrong) := ⟨rfl, rfl, rfl, by decide +kernel, rfl, by decide +kernel, by decide +kernel⟩
abbrev s_law_texts_refused : Stmt := topS 58
abbrev N_law_texts_refused : List Str := ["_law_cell", "_law_wrong_here", "_law_one", "_law_other", "_law_due"]
theorem sc_law_texts_refused : FnScope N_law_texts_refused ["_law_cell"] (defScope s_law_texts_refused) := ⟨rfl, rfl, rfl, by decide +kernel, rfl, by decide +kernel, by decide +kernel⟩
abbrev s_law : Stmt := topS 59
abbrev N_law : List Str := ["_law_script", "_law_cell", "_law_one", "_law_other", "_law_found", "_law_knots", "_law_wrong_here", "_law_long"]
theorem sc_law : FnScope N_law ["_law_script"] (defScope s_law) := ⟨rfl, rfl, rfl, by decide +kernel, rfl, by decide +kernel, by decide +kernel⟩
/-- what the top has written: constants, built-in names that are free, errors -/
structure Txt (K : PySem.W.Frag) (mg : Str → Option Value) (C_TooGreat : Addr) (C_NoText : Addr) (C_NoRule : Addr) (C_MenderError : Addr) (C_NoEdit : Addr) : Prop where
  b_len : mg "len" = none
  b_max : mg "max" = none
  b_tuple : mg "tuple" = none
  b_int : mg "int" = none
  g_DEEPEST : ∃ t, mg "DEEPEST" = some (.int 6 t)
  g_MOST_SIGNS : ∃ t, mg "MOST_SIGNS" = some (.int 2000 t)
  x_TooGreat : Exc1 K mg "TooGreat" C_TooGreat
  g_LETTERS : ∃ t, mg "LETTERS" = some (.str "abcdefghijklmnopqrstuvwxyz" t)
  g_FIGURES : ∃ t, mg "FIGURES" = some (.str "0123456789" t)
  g_GREAT : ∃ t, mg "GREAT" = some (.str "ABCDEFGHIJKLMNOPQRSTUVWXYZ" t)
  g_MARKS : ∃ t, mg "MARKS" = some (.str " !\"#$&'()*+,-./:;<=>?\x40[\\]^_`{|}~\n" t)
  x_NoText : Exc1 K mg "NoText" C_NoText
  b_isinstance : mg "isinstance" = none
  b_str : mg "str" = none
  g_SIGNS : ∃ t, mg "SIGNS" = some (.str "()[],=+-*<" t)
  g_LONGEST_NUMBER : ∃ t, mg "LONGEST_NUMBER" = some (.int 6 t)
  g_LONGEST_NAME : ∃ t, mg "LONGEST_NAME" = some (.int 8 t)
  g_ROW_WORDS : GTup K mg "ROW_WORDS" [(PyData.str "let"), (PyData.str "set"), (PyData.str "say"), (PyData.str "read"), (PyData.str "fault"), (PyData.str "do"), (PyData.str "if"), (PyData.str "else"), (PyData.str "while"), (PyData.str "block"), (PyData.str "with"), (PyData.str "helper"), (PyData.str "try"), (PyData.str "catch"), (PyData.str "finally"), (PyData.str "end")]
  b_list : mg "list" = none
  b_all : mg "all" = none
  x_NoRule : Exc1 K mg "NoRule" C_NoRule
  g_MOST_LEAVES : ∃ t, mg "MOST_LEAVES" = some (.int 20 t)
  b_sum : mg "sum" = none
  g_MOST_DEGREE : ∃ t, mg "MOST_DEGREE" = some (.int 4 t)
  b_sorted : mg "sorted" = none
  g_MOST_BLANKS : ∃ t, mg "MOST_BLANKS" = some (.int 3 t)
  n_NoRule : mg "NoRule" = some (.ref C_NoRule)
  n_MenderError : mg "MenderError" = some (.ref C_MenderError)
  b_enumerate : mg "enumerate" = none
  n_NoEdit : mg "NoEdit" = some (.ref C_NoEdit)
  n_TooGreat : mg "TooGreat" = some (.ref C_TooGreat)
  n_NoText : mg "NoText" = some (.ref C_NoText)
  em : Em (mxK K) C_TooGreat C_NoText C_NoRule C_MenderError C_NoEdit
end K59
namespace K59
open PySem L2 PW K13
theorem len_is_sign : ∀ args o r e, S_is_sign args o r e → args.length = 3 := by
  intro args o r e h
  unfold S_is_sign at h
  repeat (first | (obtain ⟨rfl, _⟩ := h; rfl) | obtain ⟨_, h⟩ := h)
theorem len_deep {n : Nat} : ∀ args o r e, S_deep n args o r e → args.length = 1 := by
  intro args o r e h
  unfold S_deep at h
  repeat (first | (obtain ⟨rfl, _⟩ := h; rfl) | obtain ⟨_, h⟩ := h)
theorem len_several {n : Nat} : ∀ args o r e, S_several n args o r e → args.length = 4 := by
  intro args o r e h
  unfold S_several at h
  repeat (first | (obtain ⟨rfl, _⟩ := h; rfl) | obtain ⟨_, h⟩ := h)
theorem len_begun {n : Nat} : ∀ args o r e, S_begun n args o r e → args.length = 3 := by
  intro args o r e h
  unfold S_begun at h
  repeat (first | (obtain ⟨rfl, _⟩ := h; rfl) | obtain ⟨_, h⟩ := h)
theorem len_looked {n : Nat} : ∀ args o r e, S_looked n args o r e → args.length = 3 := by
  intro args o r e h
  unfold S_looked at h
  repeat (first | (obtain ⟨rfl, _⟩ := h; rfl) | obtain ⟨_, h⟩ := h)
theorem len_signed {n : Nat} : ∀ args o r e, S_signed n args o r e → args.length = 3 := by
  intro args o r e h
  unfold S_signed at h
  repeat (first | (obtain ⟨rfl, _⟩ := h; rfl) | obtain ⟨_, h⟩ := h)
theorem len_multiplied {n : Nat} : ∀ args o r e, S_multiplied n args o r e → args.length = 3 := by
  intro args o r e h
  unfold S_multiplied at h
  repeat (first | (obtain ⟨rfl, _⟩ := h; rfl) | obtain ⟨_, h⟩ := h)
theorem len_added {n : Nat} : ∀ args o r e, S_added n args o r e → args.length = 3 := by
  intro args o r e h
  unfold S_added at h
  repeat (first | (obtain ⟨rfl, _⟩ := h; rfl) | obtain ⟨_, h⟩ := h)
theorem len_compared {n : Nat} : ∀ args o r e, S_compared n args o r e → args.length = 3 := by
  intro args o r e h
  unfold S_compared at h
  repeat (first | (obtain ⟨rfl, _⟩ := h; rfl) | obtain ⟨_, h⟩ := h)
theorem len_expression : ∀ args o r e, S_expression args o r e → args.length = 2 := by
  intro args o r e h
  unfold S_expression at h
  repeat (first | (obtain ⟨rfl, _⟩ := h; rfl) | obtain ⟨_, h⟩ := h)
theorem len_need_text {C_NoText : Addr} {C_TooGreat : Addr} : ∀ args o r e, S_need_text C_NoText C_TooGreat args o r e → args.length = 1 := by
  intro args o r e h
  unfold S_need_text at h
  repeat (first | (obtain ⟨rfl, _⟩ := h; rfl) | obtain ⟨_, h⟩ := h)
theorem len_lines_of {C_NoText : Addr} {C_TooGreat : Addr} : ∀ args o r e, S_lines_of C_NoText C_TooGreat args o r e → args.length = 1 := by
  intro args o r e h
  unfold S_lines_of at h
  repeat (first | (obtain ⟨rfl, _⟩ := h; rfl) | obtain ⟨_, h⟩ := h)
theorem len_run_end : ∀ args o r e, S_run_end args o r e → args.length = 3 := by
  intro args o r e h
  unfold S_run_end at h
  repeat (first | (obtain ⟨rfl, _⟩ := h; rfl) | obtain ⟨_, h⟩ := h)
theorem len_kind_of : ∀ args o r e, S_kind_of args o r e → args.length = 1 := by
  intro args o r e h
  unfold S_kind_of at h
  repeat (first | (obtain ⟨rfl, _⟩ := h; rfl) | obtain ⟨_, h⟩ := h)
theorem len_leaves_in : ∀ args o r e, S_leaves_in args o r e → args.length = 2 := by
  intro args o r e h
  unfold S_leaves_in at h
  repeat (first | (obtain ⟨rfl, _⟩ := h; rfl) | obtain ⟨_, h⟩ := h)
theorem len_leaves_of {C_NoText : Addr} {C_TooGreat : Addr} : ∀ args o r e, S_leaves_of C_NoText C_TooGreat args o r e → args.length = 1 := by
  intro args o r e h
  unfold S_leaves_of at h
  repeat (first | (obtain ⟨rfl, _⟩ := h; rfl) | obtain ⟨_, h⟩ := h)
theorem len_parts_of : ∀ args o r e, S_parts_of args o r e → args.length = 1 := by
  intro args o r e h
  unfold S_parts_of at h
  repeat (first | (obtain ⟨rfl, _⟩ := h; rfl) | obtain ⟨_, h⟩ := h)
theorem len_are_all {n : Nat} : ∀ args o r e, S_are_all n args o r e → args.length = 2 := by
  intro args o r e h
  unfold S_are_all at h
  repeat (first | (obtain ⟨rfl, _⟩ := h; rfl) | obtain ⟨_, h⟩ := h)
theorem len_unbracketed : ∀ args o r e, S_unbracketed args o r e → args.length = 1 := by
  intro args o r e h
  unfold S_unbracketed at h
  repeat (first | (obtain ⟨rfl, _⟩ := h; rfl) | obtain ⟨_, h⟩ := h)
theorem len_side_of {C_NoText : Addr} {C_TooGreat : Addr} {C_NoRule : Addr} : ∀ args o r e, S_side_of C_NoText C_TooGreat C_NoRule args o r e → args.length = 1 := by
  intro args o r e h
  unfold S_side_of at h
  repeat (first | (obtain ⟨rfl, _⟩ := h; rfl) | obtain ⟨_, h⟩ := h)
theorem len_blanks_in {n : Nat} : ∀ args o r e, S_blanks_in n args o r e → args.length = 1 := by
  intro args o r e h
  unfold S_blanks_in at h
  repeat (first | (obtain ⟨rfl, _⟩ := h; rfl) | obtain ⟨_, h⟩ := h)
theorem len_degree {n : Nat} : ∀ args o r e, S_degree n args o r e → args.length = 2 := by
  intro args o r e h
  unfold S_degree at h
  repeat (first | (obtain ⟨rfl, _⟩ := h; rfl) | obtain ⟨_, h⟩ := h)
theorem len_rule_of {C_NoText : Addr} {C_TooGreat : Addr} {C_NoRule : Addr} : ∀ args o r e, S_rule_of C_NoText C_TooGreat C_NoRule args o r e → args.length = 2 := by
  intro args o r e h
  unfold S_rule_of at h
  repeat (first | (obtain ⟨rfl, _⟩ := h; rfl) | obtain ⟨_, h⟩ := h)
theorem len_blanks_of : ∀ args o r e, S_blanks_of args o r e → args.length = 1 := by
  intro args o r e h
  unfold S_blanks_of at h
  repeat (first | (obtain ⟨rfl, _⟩ := h; rfl) | obtain ⟨_, h⟩ := h)
theorem len_law_draws : ∀ args o r e, S_law_draws args o r e → args.length = 2 := by
  intro args o r e h
  unfold S_law_draws at h
  repeat (first | (obtain ⟨rfl, _⟩ := h; rfl) | obtain ⟨_, h⟩ := h)
theorem len_law_good_rules : ∀ args o r e, S_law_good_rules args o r e → args.length = 0 := by
  intro args o r e h
  unfold S_law_good_rules at h
  repeat (first | (obtain ⟨rfl, _⟩ := h; rfl) | obtain ⟨_, h⟩ := h)
theorem len_law_bad_rules : ∀ args o r e, S_law_bad_rules args o r e → args.length = 0 := by
  intro args o r e h
  unfold S_law_bad_rules at h
  repeat (first | (obtain ⟨rfl, _⟩ := h; rfl) | obtain ⟨_, h⟩ := h)
theorem len_law_rule_texts : ∀ args o r e, S_law_rule_texts args o r e → args.length = 1 := by
  intro args o r e h
  unfold S_law_rule_texts at h
  repeat (first | (obtain ⟨rfl, _⟩ := h; rfl) | obtain ⟨_, h⟩ := h)
theorem len_law_named : ∀ args o r e, S_law_named args o r e → args.length = 2 := by
  intro args o r e h
  unfold S_law_named at h
  repeat (first | (obtain ⟨rfl, _⟩ := h; rfl) | obtain ⟨_, h⟩ := h)
theorem len_law_ones : ∀ args o r e, S_law_ones args o r e → args.length = 1 := by
  intro args o r e h
  unfold S_law_ones at h
  repeat (first | (obtain ⟨rfl, _⟩ := h; rfl) | obtain ⟨_, h⟩ := h)
theorem len_law_blanks {n : Nat} : ∀ args o r e, S_law_blanks n args o r e → args.length = 1 := by
  intro args o r e h
  unfold S_law_blanks at h
  repeat (first | (obtain ⟨rfl, _⟩ := h; rfl) | obtain ⟨_, h⟩ := h)
theorem len_law_told {C_NoText : Addr} {C_TooGreat : Addr} {C_NoRule : Addr} : ∀ args o r e, S_law_told C_NoText C_TooGreat C_NoRule args o r e → args.length = 2 := by
  intro args o r e h
  unfold S_law_told at h
  repeat (first | (obtain ⟨rfl, _⟩ := h; rfl) | obtain ⟨_, h⟩ := h)
theorem len_law_wrong : ∀ args o r e, S_law_wrong args o r e → args.length = 1 := by
  intro args o r e h
  unfold S_law_wrong at h
  repeat (first | (obtain ⟨rfl, _⟩ := h; rfl) | obtain ⟨_, h⟩ := h)
theorem len_law_refused {C_NoText : Addr} {C_TooGreat : Addr} {C_NoRule : Addr} : ∀ args o r e, S_law_refused C_NoText C_TooGreat C_NoRule args o r e → args.length = 2 := by
  intro args o r e h
  unfold S_law_refused at h
  repeat (first | (obtain ⟨rfl, _⟩ := h; rfl) | obtain ⟨_, h⟩ := h)
theorem len_law_pairs_wrong : ∀ args o r e, S_law_pairs_wrong args o r e → args.length = 1 := by
  intro args o r e h
  unfold S_law_pairs_wrong at h
  repeat (first | (obtain ⟨rfl, _⟩ := h; rfl) | obtain ⟨_, h⟩ := h)
theorem len_law_texts_refused : ∀ args o r e, S_law_texts_refused args o r e → args.length = 1 := by
  intro args o r e h
  unfold S_law_texts_refused at h
  repeat (first | (obtain ⟨rfl, _⟩ := h; rfl) | obtain ⟨_, h⟩ := h)
theorem len_law : ∀ args o r e, lawS args o r e → args.length = 1 := by
  intro args o r e h
  unfold lawS at h
  repeat (first | (obtain ⟨rfl, _⟩ := h; rfl) | obtain ⟨_, h⟩ := h)
theorem ok_is_sign {P : Program} {w : World} {K : PySem.W.Frag} {mg : Str → Option Value} {base : Heap} {C_TooGreat : Addr} {C_NoText : Addr} {C_NoRule : Addr} {C_MenderError : Addr} {C_NoEdit : Addr} (T : Txt K mg C_TooGreat C_NoText C_NoRule C_MenderError C_NoEdit) (D : Dfd K mg "is_sign" ["leaves", "at", "signs"] s_is_sign) : Cal P w K mg base 1 "is_sign" ["leaves", "at", "signs"] S_is_sign :=
  D.cal (k := 0) (wb := w_is_sign) sc_is_sign len_is_sign (fun f cdv A outer s H E hr => by
    have tk := L2N.takes_of (X := cxOf (L2N.CX P w) P w K mg base N_is_sign "is_sign" (defScope s_is_sign) f cdv A outer s H E) rfl rfl rfl rfl
    exact (s_one (s_ret (e_andC (e_lt (e_var 1) (e_len T.b_len (e_var 0))) (e_andC (e_eq (hu64 hr) (e_ix (e_ix (e_var 0) (e_var 1)) e_int) e_str) (e_one (e_in (hu65 hr) rfl (e_ix (e_ix (e_var 0) (e_var 1)) e_int) (e_var 2))))))))
    (pure_is_sign)
theorem ok_deep {P : Program} {w : World} {K : PySem.W.Frag} {mg : Str → Option Value} {base : Heap} {C_TooGreat : Addr} {C_NoText : Addr} {C_NoRule : Addr} {C_MenderError : Addr} {C_NoEdit : Addr} {k : Nat} {S R_deep : FS} (hk : 1 ≤ k) (T : Txt K mg C_TooGreat C_NoText C_NoRule C_MenderError C_NoEdit) (D : Dfd K mg "deep" ["knot"] s_deep) (c_deep : Cal P w K mg base k "deep" ["knot"] R_deep) (len : ∀ args o r e, S args o r e → args.length = 1) (pure : ∀ args o ret exc, S args o ret exc → w_deep R_deep (fun x s => exc x (cutL o.length s.o)) (pst0 args o 3) (bodyE o.length ret)) : Cal P w K mg base (k + 1) "deep" ["knot"] S :=
  D.cal (k := k) (wb := w_deep R_deep) sc_deep len (fun f cdv A outer s H E hr => by
    have tk := L2N.takes_of (X := cxOf (L2N.CX P w) P w K mg base N_deep "deep" (defScope s_deep) f cdv A outer s H E) rfl rfl rfl rfl
    exact (s_cons (s_if (t_in (hu65 hr) rfl (e_ix (e_var 0) e_int) (e_tup (a_cons e_str (a_cons e_str a_nil))))
  (s_one (s_ret e_int))
  s_nil)
 (s_cons (s_if (t_in (hu65 hr) rfl (e_ix (e_var 0) e_int) (e_tup (a_cons e_str (a_cons e_str (a_cons e_str a_nil)))))
  (s_one (s_ret (e_add e_int (c_call c_deep tk hr (a_cons (e_ix (e_var 0) e_int) a_nil) (hk := Nat.le_refl _)))))
  s_nil)
 (s_cons (s_if (t_eq (hu64 hr) (e_ix (e_var 0) e_int) e_str)
  (s_one (s_ret (e_add e_int (e_maxDf rfl T.b_max (e_lc (own := [("one", 1)]) rfl sc_deep.nd (i_tup (e_ix (e_var 0) e_int)) (blkOk_by (N := N_deep) (sc := defScope s_deep) (by decide +kernel)) (by decide) (fun _ _ _ _ _ => (g_name (i := 1) sc_deep.nd rfl (by first | exact Or.inl rfl | exact Or.inr rfl))) (fun _ _ _ _ _ => ts_nil) (fun _ _ _ _ _ => (c_call c_deep L2N.takes0 hr (a_cons (e_var 1) a_nil) (hk := Nat.le_refl _))))))))
  s_nil)
 (s_cons (s_if (t_eq (hu64 hr) (e_ix (e_var 0) e_int) e_str)
  (s_one (s_ret (e_add e_int (e_maxL rfl T.b_max (e_lc (own := [("one", 1)]) rfl sc_deep.nd (i_tup (e_catT (e_tup (a_cons (e_ix (e_var 0) e_int) a_nil)) (e_ix (e_var 0) e_int))) (blkOk_by (N := N_deep) (sc := defScope s_deep) (by decide +kernel)) (by decide) (fun _ _ _ _ _ => (g_name (i := 1) sc_deep.nd rfl (by first | exact Or.inl rfl | exact Or.inr rfl))) (fun _ _ _ _ _ => ts_nil) (fun _ _ _ _ _ => (c_call c_deep L2N.takes0 hr (a_cons (e_var 1) a_nil) (hk := Nat.le_refl _))))))))
  s_nil)
 (s_cons (s_if (t_eq (hu64 hr) (e_ix (e_var 0) e_int) e_str)
  (s_one (s_ret (e_maxL rfl T.b_max (e_lc (own := [("one", 1)]) rfl sc_deep.nd (i_tup (e_ix (e_var 0) e_int)) (blkOk_by (N := N_deep) (sc := defScope s_deep) (by decide +kernel)) (by decide) (fun _ _ _ _ _ => (g_name (i := 1) sc_deep.nd rfl (by first | exact Or.inl rfl | exact Or.inr rfl))) (fun _ _ _ _ _ => ts_nil) (fun _ _ _ _ _ => (c_call c_deep L2N.takes0 hr (a_cons (e_var 1) a_nil) (hk := Nat.le_refl _)))))))
  s_nil)
 (s_cons (s_if (t_eq (hu64 hr) (e_ix (e_var 0) e_int) e_str)
  (s_one (s_ret (e_maxL rfl T.b_max (e_lc (own := [("part", 2)]) rfl sc_deep.nd (i_tup (e_ix (e_var 0) e_int)) (blkOk_by (N := N_deep) (sc := defScope s_deep) (by decide +kernel)) (by decide) (fun _ _ _ _ _ => (g_name (i := 2) sc_deep.nd rfl (by first | exact Or.inl rfl | exact Or.inr rfl))) (fun _ _ _ _ _ => ts_nil) (fun _ _ _ _ _ => (c_call c_deep L2N.takes0 hr (a_cons (e_ix (e_var 2) e_int) a_nil) (hk := Nat.le_refl _)))))))
  s_nil)
 (s_one (s_ret (e_max2 rfl T.b_max (c_call c_deep tk hr (a_cons (e_ix (e_var 0) e_int) a_nil) (hk := Nat.le_refl _)) (c_call c_deep tk hr (a_cons (e_ix (e_var 0) e_int) a_nil) (hk := Nat.le_refl _))))))))))))
    pure
theorem ok_several {P : Program} {w : World} {K : PySem.W.Frag} {mg : Str → Option Value} {base : Heap} {C_TooGreat : Addr} {C_NoText : Addr} {C_NoRule : Addr} {C_MenderError : Addr} {C_NoEdit : Addr} {k : Nat} {S R_compared : FS} (hk : 62 ≤ k) (T : Txt K mg C_TooGreat C_NoText C_NoRule C_MenderError C_NoEdit) (D : Dfd K mg "several" ["leaves", "at", "room", "close"] s_several) (c_is_sign : Cal P w K mg base 1 "is_sign" ["leaves", "at", "signs"] S_is_sign) (c_compared : Cal P w K mg base k "compared" ["leaves", "at", "room"] R_compared) (len : ∀ args o r e, S args o r e → args.length = 4) (pure : ∀ args o ret exc, S args o ret exc → w_several R_compared (fun x s => exc x (cutL o.length s.o)) (pst0 args o 6) (bodyE o.length ret)) : Cal P w K mg base (k + 1) "several" ["leaves", "at", "room", "close"] S :=
  D.cal (k := k) (wb := w_several R_compared) sc_several len (fun f cdv A outer s H E hr => by
    have tk := L2N.takes_of (X := cxOf (L2N.CX P w) P w K mg base N_several "several" (defScope s_several) f cdv A outer s H E) rfl rfl rfl rfl
    exact (s_cons (s_set (i := 4) sc_several.nd rfl (by first | exact Or.inl rfl | exact Or.inr rfl) (e_lst a_nil))
 (s_cons (s_if (t_val (c_call c_is_sign tk hr (a_cons (e_var 0) (a_cons (e_var 1) (a_cons (e_var 3) a_nil))) (hk := Nat.le_trans (by decide) hk)))
  (s_one (s_ret (e_tup (a_cons (e_var 4) (a_cons (e_add (e_var 1) e_int) a_nil)))))
  s_nil)
 (s_one (s_while (passes_of rfl) (t_val e_bl)
  (s_cons (s_set (i := 5) sc_several.nd rfl (by first | exact Or.inl rfl | exact Or.inr rfl) (c_call c_compared tk hr (a_cons (e_var 0) (a_cons (e_var 1) (a_cons (e_var 2) a_nil))) (hk := Nat.le_refl _)))
 (s_cons (s_if (t_isN (e_var 5))
  (s_one (s_ret e_non))
  s_nil)
 (s_cons (s_expr (e_app (e_var 4) (e_ix (e_var 5) e_int)))
 (s_cons (s_set (i := 1) sc_several.nd rfl (by first | exact Or.inl rfl | exact Or.inr rfl) (e_ix (e_var 5) e_int))
 (s_cons (s_if (t_val (c_call c_is_sign tk hr (a_cons (e_var 0) (a_cons (e_var 1) (a_cons (e_var 3) a_nil))) (hk := Nat.le_trans (by decide) hk)))
  (s_one (s_ret (e_tup (a_cons (e_var 4) (a_cons (e_add (e_var 1) e_int) a_nil)))))
  s_nil)
 (s_cons (s_if (t_not (t_val (c_call c_is_sign tk hr (a_cons (e_var 0) (a_cons (e_var 1) (a_cons e_str a_nil))) (hk := Nat.le_trans (by decide) hk))))
  (s_one (s_ret e_non))
  s_nil)
 (s_one (s_set (i := 1) sc_several.nd rfl (by first | exact Or.inl rfl | exact Or.inr rfl) (e_add (e_var 1) e_int))))))))))))))
    pure
theorem ok_begun {P : Program} {w : World} {K : PySem.W.Frag} {mg : Str → Option Value} {base : Heap} {C_TooGreat : Addr} {C_NoText : Addr} {C_NoRule : Addr} {C_MenderError : Addr} {C_NoEdit : Addr} {k : Nat} {S R_several R_compared : FS} (hk : 62 ≤ k) (T : Txt K mg C_TooGreat C_NoText C_NoRule C_MenderError C_NoEdit) (D : Dfd K mg "begun" ["leaves", "at", "room"] s_begun) (c_is_sign : Cal P w K mg base 1 "is_sign" ["leaves", "at", "signs"] S_is_sign) (c_several : Cal P w K mg base k "several" ["leaves", "at", "room", "close"] R_several) (c_compared : Cal P w K mg base k "compared" ["leaves", "at", "room"] R_compared) (len : ∀ args o r e, S args o r e → args.length = 3) (pure : ∀ args o ret exc, S args o ret exc → w_begun R_several R_compared (fun x s => exc x (cutL o.length s.o)) (pst0 args o 8) (bodyE o.length ret)) : Cal P w K mg base (k + 1) "begun" ["leaves", "at", "room"] S :=
  D.cal (k := k) (wb := w_begun R_several R_compared) sc_begun len (fun f cdv A outer s H E hr => by
    have tk := L2N.takes_of (X := cxOf (L2N.CX P w) P w K mg base N_begun "begun" (defScope s_begun) f cdv A outer s H E) rfl rfl rfl rfl
    exact (s_cons (s_if (t_pw (t_orC (t_ge (e_var 1) (e_len T.b_len (e_var 0))) (t_or1 (t_lt (e_var 2) e_int))))
  (s_one (s_ret e_non))
  s_nil)
 (s_cons (s_unp (e_ix (e_var 0) (e_var 1)) (g_tup rfl (gs_cons (g_name (i := 3) sc_begun.nd rfl (by first | exact Or.inl rfl | exact Or.inr rfl)) (gs_cons (g_name (i := 4) sc_begun.nd rfl (by first | exact Or.inl rfl | exact Or.inr rfl)) (gs_cons (g_name (i := 5) sc_begun.nd rfl (by first | exact Or.inl rfl | exact Or.inr rfl)) gs_nil)))))
 (s_cons (s_if (t_eq (hu64 hr) (e_var 3) e_str)
  (s_one (s_ret (e_tup (a_cons (e_tup (a_cons e_str (a_cons (e_intS T.b_int (e_var 4)) a_nil))) (a_cons (e_add (e_var 1) e_int) a_nil)))))
  s_nil)
 (s_cons (s_if (t_eq (hu64 hr) (e_var 3) e_str)
  (s_one (s_ret (e_tup (a_cons (e_tup (a_cons e_str (a_cons (e_var 4) (a_cons (e_var 1) a_nil)))) (a_cons (e_add (e_var 1) e_int) a_nil)))))
  s_nil)
 (s_cons (s_if (t_val (c_call c_is_sign tk hr (a_cons (e_var 0) (a_cons (e_var 1) (a_cons e_str a_nil))) (hk := Nat.le_trans (by decide) hk)))
  (s_cons (s_set (i := 6) sc_begun.nd rfl (by first | exact Or.inl rfl | exact Or.inr rfl) (c_call c_compared tk hr (a_cons (e_var 0) (a_cons (e_add (e_var 1) e_int) (a_cons (e_sub (e_var 2) e_int) a_nil))) (hk := Nat.le_refl _)))
 (s_cons (s_if (t_pw (t_orC (t_isN (e_var 6)) (t_or1 (t_not (t_val (c_call c_is_sign tk hr (a_cons (e_var 0) (a_cons (e_ix (e_var 6) e_int) (a_cons e_str a_nil))) (hk := Nat.le_trans (by decide) hk)))))))
  (s_one (s_ret e_non))
  s_nil)
 (s_one (s_ret (e_tup (a_cons (e_tup (a_cons e_str (a_cons (e_ix (e_var 6) e_int) a_nil))) (a_cons (e_add (e_ix (e_var 6) e_int) e_int) a_nil)))))))
  s_nil)
 (s_cons (s_if (t_val (c_call c_is_sign tk hr (a_cons (e_var 0) (a_cons (e_var 1) (a_cons e_str a_nil))) (hk := Nat.le_trans (by decide) hk)))
  (s_cons (s_set (i := 7) sc_begun.nd rfl (by first | exact Or.inl rfl | exact Or.inr rfl) (c_call c_several tk hr (a_cons (e_var 0) (a_cons (e_add (e_var 1) e_int) (a_cons (e_sub (e_var 2) e_int) (a_cons e_str a_nil)))) (hk := Nat.le_refl _)))
 (s_one (s_ret (e_if (t_isN (e_var 7)) e_non (e_tup (a_cons (e_tup (a_cons e_str (a_cons (e_tupOf T.b_tuple (e_ix (e_var 7) e_int)) a_nil))) (a_cons (e_ix (e_var 7) e_int) a_nil)))))))
  s_nil)
 (s_one (s_ret e_non)))))))))
    pure
theorem ok_looked {P : Program} {w : World} {K : PySem.W.Frag} {mg : Str → Option Value} {base : Heap} {C_TooGreat : Addr} {C_NoText : Addr} {C_NoRule : Addr} {C_MenderError : Addr} {C_NoEdit : Addr} {k : Nat} {S R_compared R_begun : FS} (hk : 62 ≤ k) (T : Txt K mg C_TooGreat C_NoText C_NoRule C_MenderError C_NoEdit) (D : Dfd K mg "looked" ["leaves", "at", "room"] s_looked) (c_deep : Cal P w K mg base 61 "deep" ["knot"] (S_deep 60)) (c_is_sign : Cal P w K mg base 1 "is_sign" ["leaves", "at", "signs"] S_is_sign) (c_compared : Cal P w K mg base k "compared" ["leaves", "at", "room"] R_compared) (c_begun : Cal P w K mg base k "begun" ["leaves", "at", "room"] R_begun) (len : ∀ args o r e, S args o r e → args.length = 3) (pure : ∀ args o ret exc, S args o ret exc → w_looked R_compared R_begun (fun x s => exc x (cutL o.length s.o)) (pst0 args o 7) (bodyE o.length ret)) : Cal P w K mg base (k + 1) "looked" ["leaves", "at", "room"] S :=
  D.cal (k := k) (wb := w_looked R_compared R_begun) sc_looked len (fun f cdv A outer s H E hr => by
    have tk := L2N.takes_of (X := cxOf (L2N.CX P w) P w K mg base N_looked "looked" (defScope s_looked) f cdv A outer s H E) rfl rfl rfl rfl
    exact (s_cons (s_set (i := 3) sc_looked.nd rfl (by first | exact Or.inl rfl | exact Or.inr rfl) (c_call c_begun tk hr (a_cons (e_var 0) (a_cons (e_var 1) (a_cons (e_var 2) a_nil))) (hk := Nat.le_refl _)))
 (s_cons (s_if (t_isN (e_var 3))
  (s_one (s_ret e_non))
  s_nil)
 (s_cons (s_unp (e_var 3) (g_tup rfl (gs_cons (g_name (i := 4) sc_looked.nd rfl (by first | exact Or.inl rfl | exact Or.inr rfl)) (gs_cons (g_name (i := 1) sc_looked.nd rfl (by first | exact Or.inl rfl | exact Or.inr rfl)) gs_nil))))
 (s_cons (s_set (i := 5) sc_looked.nd rfl (by first | exact Or.inl rfl | exact Or.inr rfl) (e_lst a_nil))
 (s_cons (s_while (passes_of rfl) (t_val (c_call c_is_sign tk hr (a_cons (e_var 0) (a_cons (e_var 1) (a_cons e_str a_nil))) (hk := Nat.le_trans (by decide) hk)))
  (s_cons (s_set (i := 6) sc_looked.nd rfl (by first | exact Or.inl rfl | exact Or.inr rfl) (c_call c_compared tk hr (a_cons (e_var 0) (a_cons (e_add (e_var 1) e_int) (a_cons (e_sub (e_var 2) e_int) a_nil))) (hk := Nat.le_refl _)))
 (s_cons (s_if (t_pw (t_orC (t_isN (e_var 6)) (t_or1 (t_not (t_val (c_call c_is_sign tk hr (a_cons (e_var 0) (a_cons (e_ix (e_var 6) e_int) (a_cons e_str a_nil))) (hk := Nat.le_trans (by decide) hk)))))))
  (s_one (s_ret e_non))
  s_nil)
 (s_cons (s_expr (e_app (e_var 5) (e_ix (e_var 6) e_int)))
 (s_one (s_set (i := 1) sc_looked.nd rfl (by first | exact Or.inl rfl | exact Or.inr rfl) (e_add (e_ix (e_var 6) e_int) e_int)))))))
 (s_cons (s_if (t_eq (hu64 hr) (e_var 5) (e_lst a_nil))
  (s_one (s_ret (e_tup (a_cons (e_var 4) (a_cons (e_var 1) a_nil)))))
  s_nil)
 (s_one (s_ret (e_if (t_lt (c_call c_deep tk hr (a_cons (e_var 4) a_nil) (hk := Nat.le_trans (by decide) hk)) (e_var 2)) (e_tup (a_cons (e_tup (a_cons e_str (a_cons (e_var 4) (a_cons (e_tupOf T.b_tuple (e_var 5)) a_nil)))) (a_cons (e_var 1) a_nil))) e_non))))))))))
    pure
theorem ok_signed {P : Program} {w : World} {K : PySem.W.Frag} {mg : Str → Option Value} {base : Heap} {C_TooGreat : Addr} {C_NoText : Addr} {C_NoRule : Addr} {C_MenderError : Addr} {C_NoEdit : Addr} {k : Nat} {S R_signed R_looked : FS} (hk : 62 ≤ k) (T : Txt K mg C_TooGreat C_NoText C_NoRule C_MenderError C_NoEdit) (D : Dfd K mg "signed" ["leaves", "at", "room"] s_signed) (c_signed : Cal P w K mg base k "signed" ["leaves", "at", "room"] R_signed) (c_looked : Cal P w K mg base k "looked" ["leaves", "at", "room"] R_looked) (c_is_sign : Cal P w K mg base 1 "is_sign" ["leaves", "at", "signs"] S_is_sign) (len : ∀ args o r e, S args o r e → args.length = 3) (pure : ∀ args o ret exc, S args o ret exc → w_signed R_signed R_looked (fun x s => exc x (cutL o.length s.o)) (pst0 args o 5) (bodyE o.length ret)) : Cal P w K mg base (k + 1) "signed" ["leaves", "at", "room"] S :=
  D.cal (k := k) (wb := w_signed R_signed R_looked) sc_signed len (fun f cdv A outer s H E hr => by
    have tk := L2N.takes_of (X := cxOf (L2N.CX P w) P w K mg base N_signed "signed" (defScope s_signed) f cdv A outer s H E) rfl rfl rfl rfl
    exact (s_cons (s_set (i := 3) sc_signed.nd rfl (by first | exact Or.inl rfl | exact Or.inr rfl) e_non)
 (s_cons (s_if (t_pw (t_andC (t_lt (e_var 1) (e_len T.b_len (e_var 0))) (t_and1 (t_eq (hu64 hr) (e_ix (e_ix (e_var 0) (e_var 1)) e_int) e_str))))
  (s_one (s_set (i := 3) sc_signed.nd rfl (by first | exact Or.inl rfl | exact Or.inr rfl) e_str))
  s_nil)
 (s_cons (s_if (t_val (c_call c_is_sign tk hr (a_cons (e_var 0) (a_cons (e_var 1) (a_cons e_str a_nil))) (hk := Nat.le_trans (by decide) hk)))
  (s_one (s_set (i := 3) sc_signed.nd rfl (by first | exact Or.inl rfl | exact Or.inr rfl) e_str))
  s_nil)
 (s_cons (s_if (t_isN (e_var 3))
  (s_one (s_ret (c_call c_looked tk hr (a_cons (e_var 0) (a_cons (e_var 1) (a_cons (e_var 2) a_nil))) (hk := Nat.le_refl _))))
  s_nil)
 (s_cons (s_set (i := 4) sc_signed.nd rfl (by first | exact Or.inl rfl | exact Or.inr rfl) (e_if (t_gt (e_var 2) e_int) (c_call c_signed tk hr (a_cons (e_var 0) (a_cons (e_add (e_var 1) e_int) (a_cons (e_sub (e_var 2) e_int) a_nil))) (hk := Nat.le_refl _)) e_non))
 (s_one (s_ret (e_if (t_isN (e_var 4)) e_non (e_tup (a_cons (e_tup (a_cons (e_var 3) (a_cons (e_ix (e_var 4) e_int) a_nil))) (a_cons (e_ix (e_var 4) e_int) a_nil))))))))))))
    pure
theorem ok_multiplied {P : Program} {w : World} {K : PySem.W.Frag} {mg : Str → Option Value} {base : Heap} {C_TooGreat : Addr} {C_NoText : Addr} {C_NoRule : Addr} {C_MenderError : Addr} {C_NoEdit : Addr} {k : Nat} {S R_signed : FS} (hk : 62 ≤ k) (T : Txt K mg C_TooGreat C_NoText C_NoRule C_MenderError C_NoEdit) (D : Dfd K mg "multiplied" ["leaves", "at", "room"] s_multiplied) (c_signed : Cal P w K mg base k "signed" ["leaves", "at", "room"] R_signed) (c_is_sign : Cal P w K mg base 1 "is_sign" ["leaves", "at", "signs"] S_is_sign) (len : ∀ args o r e, S args o r e → args.length = 3) (pure : ∀ args o ret exc, S args o ret exc → w_multiplied R_signed (fun x s => exc x (cutL o.length s.o)) (pst0 args o 5) (bodyE o.length ret)) : Cal P w K mg base (k + 1) "multiplied" ["leaves", "at", "room"] S :=
  D.cal (k := k) (wb := w_multiplied R_signed) sc_multiplied len (fun f cdv A outer s H E hr => by
    have tk := L2N.takes_of (X := cxOf (L2N.CX P w) P w K mg base N_multiplied "multiplied" (defScope s_multiplied) f cdv A outer s H E) rfl rfl rfl rfl
    exact (s_cons (s_set (i := 3) sc_multiplied.nd rfl (by first | exact Or.inl rfl | exact Or.inr rfl) (c_call c_signed tk hr (a_cons (e_var 0) (a_cons (e_var 1) (a_cons (e_var 2) a_nil))) (hk := Nat.le_refl _)))
 (s_cons (s_set (i := 4) sc_multiplied.nd rfl (by first | exact Or.inl rfl | exact Or.inr rfl) (e_lst a_nil))
 (s_cons (s_while (passes_of rfl) (t_notN (e_var 3))
  (s_cons (s_expr (e_app (e_var 4) (e_ix (e_var 3) e_int)))
 (s_cons (s_set (i := 1) sc_multiplied.nd rfl (by first | exact Or.inl rfl | exact Or.inr rfl) (e_ix (e_var 3) e_int))
 (s_cons (s_if (t_not (t_val (c_call c_is_sign tk hr (a_cons (e_var 0) (a_cons (e_var 1) (a_cons e_str a_nil))) (hk := Nat.le_trans (by decide) hk))))
  (s_one (s_ret (e_tup (a_cons (e_if (t_eq (hu64 hr) (e_len T.b_len (e_var 4)) e_int) (e_ix (e_var 4) e_int) (e_tup (a_cons e_str (a_cons (e_tupOf T.b_tuple (e_var 4)) a_nil)))) (a_cons (e_var 1) a_nil)))))
  s_nil)
 (s_one (s_set (i := 3) sc_multiplied.nd rfl (by first | exact Or.inl rfl | exact Or.inr rfl) (c_call c_signed tk hr (a_cons (e_var 0) (a_cons (e_add (e_var 1) e_int) (a_cons (e_var 2) a_nil))) (hk := Nat.le_refl _))))))))
 (s_one (s_ret e_non))))))
    pure
theorem ok_added {P : Program} {w : World} {K : PySem.W.Frag} {mg : Str → Option Value} {base : Heap} {C_TooGreat : Addr} {C_NoText : Addr} {C_NoRule : Addr} {C_MenderError : Addr} {C_NoEdit : Addr} {k : Nat} {S R_multiplied : FS} (hk : 62 ≤ k) (T : Txt K mg C_TooGreat C_NoText C_NoRule C_MenderError C_NoEdit) (D : Dfd K mg "added" ["leaves", "at", "room"] s_added) (c_multiplied : Cal P w K mg base k "multiplied" ["leaves", "at", "room"] R_multiplied) (c_is_sign : Cal P w K mg base 1 "is_sign" ["leaves", "at", "signs"] S_is_sign) (len : ∀ args o r e, S args o r e → args.length = 3) (pure : ∀ args o ret exc, S args o ret exc → w_added R_multiplied (fun x s => exc x (cutL o.length s.o)) (pst0 args o 6) (bodyE o.length ret)) : Cal P w K mg base (k + 1) "added" ["leaves", "at", "room"] S :=
  D.cal (k := k) (wb := w_added R_multiplied) sc_added len (fun f cdv A outer s H E hr => by
    have tk := L2N.takes_of (X := cxOf (L2N.CX P w) P w K mg base N_added "added" (defScope s_added) f cdv A outer s H E) rfl rfl rfl rfl
    exact (s_cons (s_set (i := 3) sc_added.nd rfl (by first | exact Or.inl rfl | exact Or.inr rfl) (c_call c_multiplied tk hr (a_cons (e_var 0) (a_cons (e_var 1) (a_cons (e_var 2) a_nil))) (hk := Nat.le_refl _)))
 (s_cons (s_set (i := 4) sc_added.nd rfl (by first | exact Or.inl rfl | exact Or.inr rfl) (e_lst a_nil))
 (s_cons (s_set (i := 5) sc_added.nd rfl (by first | exact Or.inl rfl | exact Or.inr rfl) e_str)
 (s_cons (s_while (passes_of rfl) (t_notN (e_var 3))
  (s_cons (s_expr (e_app (e_var 4) (e_tup (a_cons (e_var 5) (a_cons (e_ix (e_var 3) e_int) a_nil)))))
 (s_cons (s_set (i := 1) sc_added.nd rfl (by first | exact Or.inl rfl | exact Or.inr rfl) (e_ix (e_var 3) e_int))
 (s_cons (s_if (t_not (t_val (c_call c_is_sign tk hr (a_cons (e_var 0) (a_cons (e_var 1) (a_cons e_str a_nil))) (hk := Nat.le_trans (by decide) hk))))
  (s_one (s_ret (e_tup (a_cons (e_if (t_eq (hu64 hr) (e_len T.b_len (e_var 4)) e_int) (e_ix (e_ix (e_var 4) e_int) e_int) (e_tup (a_cons e_str (a_cons (e_tupOf T.b_tuple (e_var 4)) a_nil)))) (a_cons (e_var 1) a_nil)))))
  s_nil)
 (s_cons (s_set (i := 5) sc_added.nd rfl (by first | exact Or.inl rfl | exact Or.inr rfl) (e_ix (e_ix (e_var 0) (e_var 1)) e_int))
 (s_one (s_set (i := 3) sc_added.nd rfl (by first | exact Or.inl rfl | exact Or.inr rfl) (c_call c_multiplied tk hr (a_cons (e_var 0) (a_cons (e_add (e_var 1) e_int) (a_cons (e_var 2) a_nil))) (hk := Nat.le_refl _)))))))))
 (s_one (s_ret e_non)))))))
    pure
theorem ok_compared {P : Program} {w : World} {K : PySem.W.Frag} {mg : Str → Option Value} {base : Heap} {C_TooGreat : Addr} {C_NoText : Addr} {C_NoRule : Addr} {C_MenderError : Addr} {C_NoEdit : Addr} {k : Nat} {S R_added : FS} (hk : 62 ≤ k) (T : Txt K mg C_TooGreat C_NoText C_NoRule C_MenderError C_NoEdit) (D : Dfd K mg "compared" ["leaves", "at", "room"] s_compared) (c_added : Cal P w K mg base k "added" ["leaves", "at", "room"] R_added) (c_is_sign : Cal P w K mg base 1 "is_sign" ["leaves", "at", "signs"] S_is_sign) (len : ∀ args o r e, S args o r e → args.length = 3) (pure : ∀ args o ret exc, S args o ret exc → w_compared R_added (fun x s => exc x (cutL o.length s.o)) (pst0 args o 6) (bodyE o.length ret)) : Cal P w K mg base (k + 1) "compared" ["leaves", "at", "room"] S :=
  D.cal (k := k) (wb := w_compared R_added) sc_compared len (fun f cdv A outer s H E hr => by
    have tk := L2N.takes_of (X := cxOf (L2N.CX P w) P w K mg base N_compared "compared" (defScope s_compared) f cdv A outer s H E) rfl rfl rfl rfl
    exact (s_cons (s_set (i := 3) sc_compared.nd rfl (by first | exact Or.inl rfl | exact Or.inr rfl) (c_call c_added tk hr (a_cons (e_var 0) (a_cons (e_var 1) (a_cons (e_var 2) a_nil))) (hk := Nat.le_refl _)))
 (s_cons (s_if (t_pw (t_orC (t_isN (e_var 3)) (t_or1 (t_not (t_val (c_call c_is_sign tk hr (a_cons (e_var 0) (a_cons (e_ix (e_var 3) e_int) (a_cons e_str a_nil))) (hk := Nat.le_trans (by decide) hk)))))))
  (s_one (s_ret (e_var 3)))
  s_nil)
 (s_cons (s_set (i := 4) sc_compared.nd rfl (by first | exact Or.inl rfl | exact Or.inr rfl) (c_call c_added tk hr (a_cons (e_var 0) (a_cons (e_add (e_ix (e_var 3) e_int) e_int) (a_cons (e_var 2) a_nil))) (hk := Nat.le_refl _)))
 (s_cons (s_if (t_isN (e_var 4))
  (s_one (s_ret e_non))
  s_nil)
 (s_cons (s_set (i := 5) sc_compared.nd rfl (by first | exact Or.inl rfl | exact Or.inr rfl) (e_if (t_eq (hu64 hr) (e_ix (e_ix (e_var 0) (e_ix (e_var 3) e_int)) e_int) e_str) e_str e_str))
 (s_one (s_ret (e_tup (a_cons (e_tup (a_cons (e_var 5) (a_cons (e_ix (e_var 3) e_int) (a_cons (e_ix (e_var 4) e_int) a_nil)))) (a_cons (e_ix (e_var 4) e_int) a_nil)))))))))))
    pure
theorem ok_expression {P : Program} {w : World} {K : PySem.W.Frag} {mg : Str → Option Value} {base : Heap} {C_TooGreat : Addr} {C_NoText : Addr} {C_NoRule : Addr} {C_MenderError : Addr} {C_NoEdit : Addr} (T : Txt K mg C_TooGreat C_NoText C_NoRule C_MenderError C_NoEdit) (D : DfdD K mg "expression" ["leaves", "at"] s_expression [V.int 0]) (c_compared : Cal P w K mg base 112 "compared" ["leaves", "at", "room"] (S_compared 50)) : CalD P w K mg base 113 "expression" ["leaves", "at"] S_expression [V.int 0] :=
  D.calD (k := 112) (wb := w_expression) sc_expression len_expression (fun f cdv A outer s H E hr => by
    have tk := L2N.takes_of (X := cxOf (L2N.CX P w) P w K mg base N_expression "expression" (defScope s_expression) f cdv A outer s H E) rfl rfl rfl rfl
    exact (s_one (s_ret (c_call c_compared tk hr (a_cons (e_var 0) (a_cons (e_var 1) (a_cons (e_gi rfl T.g_DEEPEST) a_nil)))))))
    (pure_expression)
theorem ok_need_text {P : Program} {w : World} {K : PySem.W.Frag} {mg : Str → Option Value} {base : Heap} {C_TooGreat : Addr} {C_NoText : Addr} {C_NoRule : Addr} {C_MenderError : Addr} {C_NoEdit : Addr} (T : Txt K mg C_TooGreat C_NoText C_NoRule C_MenderError C_NoEdit) (D : Dfd K mg "need_text" ["text"] s_need_text) : Cal P w K mg base 1 "need_text" ["text"] (S_need_text C_NoText C_TooGreat) :=
  D.cal (k := 0) (wb := w_need_text C_TooGreat C_NoText) sc_need_text len_need_text (fun f cdv A outer s H E hr => by
    have tk := L2N.takes_of (X := cxOf (L2N.CX P w) P w K mg base N_need_text "need_text" (defScope s_need_text) f cdv A outer s H E) rfl rfl rfl rfl
    exact (s_cons (s_if (t_not (t_val (e_isi T.b_isinstance T.b_str (by decide +kernel) (e_var 0))))
  (s_one (s_raise rfl tk (T.x_NoText.mk1)))
  s_nil)
 (s_cons (s_for (passes_of rfl) rfl (i_str (e_var 0)) (g_name (i := 1) sc_need_text.nd rfl (by first | exact Or.inl rfl | exact Or.inr rfl))
  (s_one (s_if (t_pw (t_andC (t_notIn (hu65 hr) rfl (e_var 1) (e_gs rfl T.g_LETTERS)) (t_andC (t_notIn (hu65 hr) rfl (e_var 1) (e_gs rfl T.g_FIGURES)) (t_andC (t_notIn (hu65 hr) rfl (e_var 1) (e_gs rfl T.g_GREAT)) (t_and1 (t_notIn (hu65 hr) rfl (e_var 1) (e_gs rfl T.g_MARKS)))))))
  (s_one (s_raise rfl tk (T.x_NoText.mk1)))
  s_nil)))
 (s_one (s_if (t_gt (e_len T.b_len (e_var 0)) (e_gi rfl T.g_MOST_SIGNS))
  (s_one (s_raise rfl tk (T.x_TooGreat.mk1)))
  s_nil)))))
    (pure_need_text C_TooGreat C_NoText)
theorem ok_lines_of {P : Program} {w : World} {K : PySem.W.Frag} {mg : Str → Option Value} {base : Heap} {C_TooGreat : Addr} {C_NoText : Addr} {C_NoRule : Addr} {C_MenderError : Addr} {C_NoEdit : Addr} (T : Txt K mg C_TooGreat C_NoText C_NoRule C_MenderError C_NoEdit) (D : Dfd K mg "lines_of" ["text"] s_lines_of) (c_need_text : Cal P w K mg base 1 "need_text" ["text"] (S_need_text C_NoText C_TooGreat)) : Cal P w K mg base 2 "lines_of" ["text"] (S_lines_of C_NoText C_TooGreat) :=
  D.cal (k := 1) (wb := w_lines_of C_TooGreat C_NoText) sc_lines_of len_lines_of (fun f cdv A outer s H E hr => by
    have tk := L2N.takes_of (X := cxOf (L2N.CX P w) P w K mg base N_lines_of "lines_of" (defScope s_lines_of) f cdv A outer s H E) rfl rfl rfl rfl
    exact (s_cons (s_expr (c_call c_need_text tk hr (a_cons (e_var 0) a_nil)))
 (s_cons (s_set (i := 1) sc_lines_of.nd rfl (by first | exact Or.inl rfl | exact Or.inr rfl) (e_split (e_var 0) e_str))
 (s_cons (s_setLc (i := 2) (own := [("part", 3)]) rfl sc_lines_of.nd rfl rfl (sw_true rfl rfl rfl (by decide +kernel)) (i_list (e_sl (e_var 1) o_none (o_some (e_neg e_int)))) (blkOk_by (N := N_lines_of) (sc := defScope s_lines_of) (by decide +kernel)) (by decide) (fun _ _ _ _ _ => (g_name (i := 3) sc_lines_of.nd rfl (by first | exact Or.inl rfl | exact Or.inr rfl))) (fun _ _ _ _ _ => ts_nil) (fun _ _ _ _ _ => (e_add (e_var 3) e_str)))
 (s_cons (s_if (t_ne (hu64 hr) (e_ix (e_var 1) (e_neg e_int)) e_str)
  (s_one (s_expr (e_app (e_var 2) (e_ix (e_var 1) (e_neg e_int)))))
  s_nil)
 (s_one (s_ret (e_var 2))))))))
    (pure_lines_of C_TooGreat C_NoText)
theorem ok_run_end {P : Program} {w : World} {K : PySem.W.Frag} {mg : Str → Option Value} {base : Heap} {C_TooGreat : Addr} {C_NoText : Addr} {C_NoRule : Addr} {C_MenderError : Addr} {C_NoEdit : Addr} (T : Txt K mg C_TooGreat C_NoText C_NoRule C_MenderError C_NoEdit) (D : Dfd K mg "run_end" ["line", "at", "signs"] s_run_end) : Cal P w K mg base 1 "run_end" ["line", "at", "signs"] S_run_end :=
  D.cal (k := 0) (wb := w_run_end) sc_run_end len_run_end (fun f cdv A outer s H E hr => by
    have tk := L2N.takes_of (X := cxOf (L2N.CX P w) P w K mg base N_run_end "run_end" (defScope s_run_end) f cdv A outer s H E) rfl rfl rfl rfl
    exact (s_cons (s_set (i := 3) sc_run_end.nd rfl (by first | exact Or.inl rfl | exact Or.inr rfl) (e_var 1))
 (s_cons (s_while (passes_of rfl) (t_pw (t_andC (t_lt (e_var 3) (e_len T.b_len (e_var 0))) (t_and1 (t_in (hu65 hr) rfl (e_ix (e_var 0) (e_var 3)) (e_var 2)))))
  (s_one (s_set (i := 3) sc_run_end.nd rfl (by first | exact Or.inl rfl | exact Or.inr rfl) (e_add (e_var 3) e_int))))
 (s_one (s_ret (e_var 3))))))
    (pure_run_end)
theorem ok_kind_of {P : Program} {w : World} {K : PySem.W.Frag} {mg : Str → Option Value} {base : Heap} {C_TooGreat : Addr} {C_NoText : Addr} {C_NoRule : Addr} {C_MenderError : Addr} {C_NoEdit : Addr} (T : Txt K mg C_TooGreat C_NoText C_NoRule C_MenderError C_NoEdit) (D : Dfd K mg "kind_of" ["word"] s_kind_of) : Cal P w K mg base 1 "kind_of" ["word"] S_kind_of :=
  D.cal (k := 0) (wb := w_kind_of) sc_kind_of len_kind_of (fun f cdv A outer s H E hr => by
    have tk := L2N.takes_of (X := cxOf (L2N.CX P w) P w K mg base N_kind_of "kind_of" (defScope s_kind_of) f cdv A outer s H E) rfl rfl rfl rfl
    exact (s_cons (s_if (t_in (hu65 hr) rfl (e_ix (e_var 0) e_int) (e_gs rfl T.g_LETTERS))
  (s_cons (s_if (t_pw (t_orC (t_in (hu65 hr) rfl (e_var 0) (e_gtup rfl T.g_ROW_WORDS)) (t_or1 (t_eq (hu64 hr) (e_var 0) e_str))))
  (s_one (s_ret e_str))
  s_nil)
 (s_one (s_ret (e_if (t_le (e_len T.b_len (e_var 0)) (e_gi rfl T.g_LONGEST_NAME)) e_str e_str))))
  s_nil)
 (s_cons (s_if (t_in (hu65 hr) rfl (e_ix (e_var 0) e_int) (e_gs rfl T.g_FIGURES))
  (s_cons (s_set (i := 1) sc_kind_of.nd rfl (by first | exact Or.inl rfl | exact Or.inr rfl) (e_andC (e_le (e_len T.b_len (e_var 0)) (e_gi rfl T.g_LONGEST_NUMBER)) (e_one (e_orC (e_ne (hu64 hr) (e_ix (e_var 0) e_int) e_str) (e_one (e_eq (hu64 hr) (e_var 0) e_str))))))
 (s_one (s_ret (e_if (t_val (e_var 1)) e_str e_str))))
  s_nil)
 (s_one (s_ret (e_if (t_in (hu65 hr) rfl (e_var 0) (e_gs rfl T.g_SIGNS)) e_str e_str))))))
    (pure_kind_of)
theorem ok_leaves_in {P : Program} {w : World} {K : PySem.W.Frag} {mg : Str → Option Value} {base : Heap} {C_TooGreat : Addr} {C_NoText : Addr} {C_NoRule : Addr} {C_MenderError : Addr} {C_NoEdit : Addr} (T : Txt K mg C_TooGreat C_NoText C_NoRule C_MenderError C_NoEdit) (D : Dfd K mg "leaves_in" ["line", "begin"] s_leaves_in) (c_kind_of : Cal P w K mg base 1 "kind_of" ["word"] S_kind_of) (c_run_end : Cal P w K mg base 1 "run_end" ["line", "at", "signs"] S_run_end) : Cal P w K mg base 2 "leaves_in" ["line", "begin"] S_leaves_in :=
  D.cal (k := 1) (wb := w_leaves_in) sc_leaves_in len_leaves_in (fun f cdv A outer s H E hr => by
    have tk := L2N.takes_of (X := cxOf (L2N.CX P w) P w K mg base N_leaves_in "leaves_in" (defScope s_leaves_in) f cdv A outer s H E) rfl rfl rfl rfl
    exact (s_cons (s_set (i := 2) sc_leaves_in.nd rfl (by first | exact Or.inl rfl | exact Or.inr rfl) (e_find (e_var 0) e_str))
 (s_cons (s_if (t_lt (e_var 2) e_int)
  (s_one (s_set (i := 2) sc_leaves_in.nd rfl (by first | exact Or.inl rfl | exact Or.inr rfl) (e_len T.b_len (e_var 0))))
  s_nil)
 (s_cons (s_set (i := 3) sc_leaves_in.nd rfl (by first | exact Or.inl rfl | exact Or.inr rfl) (e_lst a_nil))
 (s_cons (s_set (i := 4) sc_leaves_in.nd rfl (by first | exact Or.inl rfl | exact Or.inr rfl) e_int)
 (s_cons (s_while (passes_of rfl) (t_lt (e_var 4) (e_var 2))
  (s_cons (s_set (i := 5) sc_leaves_in.nd rfl (by first | exact Or.inl rfl | exact Or.inr rfl) (e_add (e_var 4) e_int))
 (s_cons (s_if (t_in (hu65 hr) rfl (e_ix (e_var 0) (e_var 4)) (e_gs rfl T.g_LETTERS))
  (s_one (s_set (i := 5) sc_leaves_in.nd rfl (by first | exact Or.inl rfl | exact Or.inr rfl) (c_call c_run_end tk hr (a_cons (e_var 0) (a_cons (e_var 4) (a_cons (e_gs rfl T.g_LETTERS) a_nil))))))
  s_nil)
 (s_cons (s_if (t_in (hu65 hr) rfl (e_ix (e_var 0) (e_var 4)) (e_gs rfl T.g_FIGURES))
  (s_one (s_set (i := 5) sc_leaves_in.nd rfl (by first | exact Or.inl rfl | exact Or.inr rfl) (c_call c_run_end tk hr (a_cons (e_var 0) (a_cons (e_var 4) (a_cons (e_gs rfl T.g_FIGURES) a_nil))))))
  s_nil)
 (s_cons (s_if (t_notIn (hu65 hr) rfl (e_ix (e_var 0) (e_var 4)) e_str)
  (s_one (s_expr (e_app (e_var 3) (e_tup (a_cons (c_call c_kind_of tk hr (a_cons (e_sl (e_var 0) (o_some (e_var 4)) (o_some (e_var 5))) a_nil)) (a_cons (e_sl (e_var 0) (o_some (e_var 4)) (o_some (e_var 5))) (a_cons (e_add (e_var 1) (e_var 4)) a_nil)))))))
  s_nil)
 (s_one (s_set (i := 4) sc_leaves_in.nd rfl (by first | exact Or.inl rfl | exact Or.inr rfl) (e_var 5))))))))
 (s_one (s_ret (e_var 3)))))))))
    (pure_leaves_in)
theorem ok_leaves_of {P : Program} {w : World} {K : PySem.W.Frag} {mg : Str → Option Value} {base : Heap} {C_TooGreat : Addr} {C_NoText : Addr} {C_NoRule : Addr} {C_MenderError : Addr} {C_NoEdit : Addr} (T : Txt K mg C_TooGreat C_NoText C_NoRule C_MenderError C_NoEdit) (D : Dfd K mg "leaves_of" ["text"] s_leaves_of) (c_lines_of : Cal P w K mg base 2 "lines_of" ["text"] (S_lines_of C_NoText C_TooGreat)) (c_leaves_in : Cal P w K mg base 2 "leaves_in" ["line", "begin"] S_leaves_in) : Cal P w K mg base 3 "leaves_of" ["text"] (S_leaves_of C_NoText C_TooGreat) :=
  D.cal (k := 2) (wb := w_leaves_of C_TooGreat C_NoText) sc_leaves_of len_leaves_of (fun f cdv A outer s H E hr => by
    have tk := L2N.takes_of (X := cxOf (L2N.CX P w) P w K mg base N_leaves_of "leaves_of" (defScope s_leaves_of) f cdv A outer s H E) rfl rfl rfl rfl
    exact (s_cons (s_set (i := 1) sc_leaves_of.nd rfl (by first | exact Or.inl rfl | exact Or.inr rfl) (e_lst a_nil))
 (s_cons (s_set (i := 2) sc_leaves_of.nd rfl (by first | exact Or.inl rfl | exact Or.inr rfl) e_int)
 (s_cons (s_for (passes_of rfl) rfl (i_list (c_call c_lines_of tk hr (a_cons (e_var 0) a_nil))) (g_name (i := 3) sc_leaves_of.nd rfl (by first | exact Or.inl rfl | exact Or.inr rfl))
  (s_cons (s_expr (e_ext (e_var 1) (c_call c_leaves_in tk hr (a_cons (e_var 3) (a_cons (e_var 2) a_nil)))))
 (s_one (s_set (i := 2) sc_leaves_of.nd rfl (by first | exact Or.inl rfl | exact Or.inr rfl) (e_add (e_var 2) (e_len T.b_len (e_var 3)))))))
 (s_one (s_ret (e_var 1)))))))
    (pure_leaves_of C_TooGreat C_NoText)
theorem ok_parts_of {P : Program} {w : World} {K : PySem.W.Frag} {mg : Str → Option Value} {base : Heap} {C_TooGreat : Addr} {C_NoText : Addr} {C_NoRule : Addr} {C_MenderError : Addr} {C_NoEdit : Addr} (T : Txt K mg C_TooGreat C_NoText C_NoRule C_MenderError C_NoEdit) (D : Dfd K mg "parts_of" ["knot"] s_parts_of) : Cal P w K mg base 1 "parts_of" ["knot"] S_parts_of :=
  D.cal (k := 0) (wb := w_parts_of) sc_parts_of len_parts_of (fun f cdv A outer s H E hr => by
    have tk := L2N.takes_of (X := cxOf (L2N.CX P w) P w K mg base N_parts_of "parts_of" (defScope s_parts_of) f cdv A outer s H E) rfl rfl rfl rfl
    exact (s_cons (s_if (t_in (hu65 hr) rfl (e_ix (e_var 0) e_int) (e_tup (a_cons e_str (a_cons e_str a_nil))))
  (s_one (s_ret (e_lst a_nil)))
  s_nil)
 (s_cons (s_if (t_in (hu65 hr) rfl (e_ix (e_var 0) e_int) (e_tup (a_cons e_str (a_cons e_str a_nil))))
  (s_one (s_ret (e_listOf T.b_list (e_ix (e_var 0) e_int))))
  s_nil)
 (s_cons (s_if (t_eq (hu64 hr) (e_ix (e_var 0) e_int) e_str)
  (s_one (s_ret (e_lc (own := [("part", 1)]) rfl sc_parts_of.nd (i_tup (e_ix (e_var 0) e_int)) (blkOk_by (N := N_parts_of) (sc := defScope s_parts_of) (by decide +kernel)) (by decide) (fun _ _ _ _ _ => (g_name (i := 1) sc_parts_of.nd rfl (by first | exact Or.inl rfl | exact Or.inr rfl))) (fun _ _ _ _ _ => ts_nil) (fun _ _ _ _ _ => (e_ix (e_var 1) e_int)))))
  s_nil)
 (s_cons (s_if (t_eq (hu64 hr) (e_ix (e_var 0) e_int) e_str)
  (s_one (s_ret (e_cat (e_lst (a_cons (e_ix (e_var 0) e_int) a_nil)) (e_listOf T.b_list (e_ix (e_var 0) e_int)))))
  s_nil)
 (s_one (s_ret (e_listOf T.b_list (e_sl (e_var 0) (o_some e_int) o_none)))))))))
    (pure_parts_of)
theorem ok_are_all {P : Program} {w : World} {K : PySem.W.Frag} {mg : Str → Option Value} {base : Heap} {C_TooGreat : Addr} {C_NoText : Addr} {C_NoRule : Addr} {C_MenderError : Addr} {C_NoEdit : Addr} {k : Nat} {S R_are_all : FS} (hk : 2 ≤ k) (T : Txt K mg C_TooGreat C_NoText C_NoRule C_MenderError C_NoEdit) (D : Dfd K mg "are_all" ["knot", "kinds"] s_are_all) (c_parts_of : Cal P w K mg base 1 "parts_of" ["knot"] S_parts_of) (c_are_all : Cal P w K mg base k "are_all" ["knot", "kinds"] R_are_all) (len : ∀ args o r e, S args o r e → args.length = 2) (pure : ∀ args o ret exc, S args o ret exc → w_are_all R_are_all (fun x s => exc x (cutL o.length s.o)) (pst0 args o 3) (bodyE o.length ret)) : Cal P w K mg base (k + 1) "are_all" ["knot", "kinds"] S :=
  D.cal (k := k) (wb := w_are_all R_are_all) sc_are_all len (fun f cdv A outer s H E hr => by
    have tk := L2N.takes_of (X := cxOf (L2N.CX P w) P w K mg base N_are_all "are_all" (defScope s_are_all) f cdv A outer s H E) rfl rfl rfl rfl
    exact (s_one (s_ret (e_andC (e_in (hu65 hr) rfl (e_ix (e_var 0) e_int) (e_var 1)) (e_one (e_all rfl T.b_all (e_lc (own := [("one", 2)]) rfl sc_are_all.nd (i_list (c_call c_parts_of tk hr (a_cons (e_var 0) a_nil) (hk := Nat.le_trans (by decide) hk))) (blkOk_by (N := N_are_all) (sc := defScope s_are_all) (by decide +kernel)) (by decide) (fun _ _ _ _ _ => (g_name (i := 2) sc_are_all.nd rfl (by first | exact Or.inl rfl | exact Or.inr rfl))) (fun _ _ _ _ _ => ts_nil) (fun _ _ _ _ _ => (c_call c_are_all L2N.takes0 hr (a_cons (e_var 2) (a_cons (e_var 1) a_nil)) (hk := Nat.le_refl _))))))))))
    pure
theorem ok_unbracketed {P : Program} {w : World} {K : PySem.W.Frag} {mg : Str → Option Value} {base : Heap} {C_TooGreat : Addr} {C_NoText : Addr} {C_NoRule : Addr} {C_MenderError : Addr} {C_NoEdit : Addr} (T : Txt K mg C_TooGreat C_NoText C_NoRule C_MenderError C_NoEdit) (D : Dfd K mg "unbracketed" ["knot"] s_unbracketed) : Cal P w K mg base 1 "unbracketed" ["knot"] S_unbracketed :=
  D.cal (k := 0) (wb := w_unbracketed) sc_unbracketed len_unbracketed (fun f cdv A outer s H E hr => by
    have tk := L2N.takes_of (X := cxOf (L2N.CX P w) P w K mg base N_unbracketed "unbracketed" (defScope s_unbracketed) f cdv A outer s H E) rfl rfl rfl rfl
    exact (s_cons (s_while (passes_of rfl) (t_eq (hu64 hr) (e_ix (e_var 0) e_int) e_str)
  (s_one (s_set (i := 0) sc_unbracketed.nd rfl (by first | exact Or.inl rfl | exact Or.inr rfl) (e_ix (e_var 0) e_int))))
 (s_one (s_ret (e_var 0)))))
    (pure_unbracketed)
theorem ok_side_of {P : Program} {w : World} {K : PySem.W.Frag} {mg : Str → Option Value} {base : Heap} {C_TooGreat : Addr} {C_NoText : Addr} {C_NoRule : Addr} {C_MenderError : Addr} {C_NoEdit : Addr} (T : Txt K mg C_TooGreat C_NoText C_NoRule C_MenderError C_NoEdit) (D : Dfd K mg "side_of" ["text"] s_side_of) (c_unbracketed : Cal P w K mg base 1 "unbracketed" ["knot"] S_unbracketed) (c_are_all : Cal P w K mg base 52 "are_all" ["knot", "kinds"] (S_are_all 50)) (c_expression : CalD P w K mg base 113 "expression" ["leaves", "at"] S_expression [V.int 0]) (c_leaves_of : Cal P w K mg base 3 "leaves_of" ["text"] (S_leaves_of C_NoText C_TooGreat)) : Cal P w K mg base 114 "side_of" ["text"] (S_side_of C_NoText C_TooGreat C_NoRule) :=
  D.cal (k := 113) (wb := w_side_of C_TooGreat C_NoText C_NoRule) sc_side_of len_side_of (fun f cdv A outer s H E hr => by
    have tk := L2N.takes_of (X := cxOf (L2N.CX P w) P w K mg base N_side_of "side_of" (defScope s_side_of) f cdv A outer s H E) rfl rfl rfl rfl
    exact (s_cons (s_set (i := 1) sc_side_of.nd rfl (by first | exact Or.inl rfl | exact Or.inr rfl) (c_call c_leaves_of tk hr (a_cons (e_var 0) a_nil)))
 (s_cons (s_set (i := 2) sc_side_of.nd rfl (by first | exact Or.inl rfl | exact Or.inr rfl) (c_callD c_expression tk hr (a_cons (e_var 1) a_nil)))
 (s_cons (s_if (t_pw (t_orC (t_isN (e_var 2)) (t_orC (t_lt (e_ix (e_var 2) e_int) (e_len T.b_len (e_var 1))) (t_or1 (t_gt (e_len T.b_len (e_var 1)) (e_gi rfl T.g_MOST_LEAVES))))))
  (s_one (s_raise rfl tk (T.x_NoRule.mk1)))
  s_nil)
 (s_cons (s_if (t_not (t_val (c_call c_are_all tk hr (a_cons (e_ix (e_var 2) e_int) (a_cons (e_tup (a_cons e_str (a_cons e_str (a_cons e_str (a_cons e_str (a_cons e_str (a_cons e_str a_nil))))))) a_nil)))))
  (s_one (s_raise rfl tk (T.x_NoRule.mk1)))
  s_nil)
 (s_cons (s_if (t_notIn (hu65 hr) rfl (e_ix (c_call c_unbracketed tk hr (a_cons (e_ix (e_var 2) e_int) a_nil)) e_int) (e_tup (a_cons e_str (a_cons e_str (a_cons e_str a_nil)))))
  (s_one (s_raise rfl tk (T.x_NoRule.mk1)))
  s_nil)
 (s_one (s_ret (e_ix (e_var 2) e_int)))))))))
    (pure_side_of C_TooGreat C_NoText C_NoRule)
theorem ok_blanks_in {P : Program} {w : World} {K : PySem.W.Frag} {mg : Str → Option Value} {base : Heap} {C_TooGreat : Addr} {C_NoText : Addr} {C_NoRule : Addr} {C_MenderError : Addr} {C_NoEdit : Addr} {k : Nat} {S R_blanks_in : FS} (hk : 2 ≤ k) (T : Txt K mg C_TooGreat C_NoText C_NoRule C_MenderError C_NoEdit) (D : Dfd K mg "blanks_in" ["knot"] s_blanks_in) (c_parts_of : Cal P w K mg base 1 "parts_of" ["knot"] S_parts_of) (c_blanks_in : Cal P w K mg base k "blanks_in" ["knot"] R_blanks_in) (len : ∀ args o r e, S args o r e → args.length = 1) (pure : ∀ args o ret exc, S args o ret exc → w_blanks_in R_blanks_in (fun x s => exc x (cutL o.length s.o)) (pst0 args o 4) (bodyE o.length ret)) : Cal P w K mg base (k + 1) "blanks_in" ["knot"] S :=
  D.cal (k := k) (wb := w_blanks_in R_blanks_in) sc_blanks_in len (fun f cdv A outer s H E hr => by
    have tk := L2N.takes_of (X := cxOf (L2N.CX P w) P w K mg base N_blanks_in "blanks_in" (defScope s_blanks_in) f cdv A outer s H E) rfl rfl rfl rfl
    exact (s_cons (s_if (t_eq (hu64 hr) (e_ix (e_var 0) e_int) e_str)
  (s_one (s_ret (e_lst (a_cons (e_ix (e_var 0) e_int) a_nil))))
  s_nil)
 (s_cons (s_set (i := 1) sc_blanks_in.nd rfl (by first | exact Or.inl rfl | exact Or.inr rfl) (e_lst a_nil))
 (s_cons (s_for (passes_of rfl) rfl (i_list (c_call c_parts_of tk hr (a_cons (e_var 0) a_nil) (hk := Nat.le_trans (by decide) hk))) (g_name (i := 2) sc_blanks_in.nd rfl (by first | exact Or.inl rfl | exact Or.inr rfl))
  (s_one (s_expr (e_ext (e_var 1) (e_lc (own := [("word", 3)]) rfl sc_blanks_in.nd (i_list (c_call c_blanks_in tk hr (a_cons (e_var 2) a_nil) (hk := Nat.le_refl _))) (blkOk_by (N := N_blanks_in) (sc := defScope s_blanks_in) (by decide +kernel)) (by decide) (fun _ _ _ _ _ => (g_name (i := 3) sc_blanks_in.nd rfl (by first | exact Or.inl rfl | exact Or.inr rfl))) (fun _ _ _ _ _ => (ts_one (t_notIn (hu65 hr) rfl (e_var 3) (e_var 1)))) (fun _ _ _ _ _ => (e_var 3)))))))
 (s_one (s_ret (e_var 1)))))))
    pure
theorem ok_degree {P : Program} {w : World} {K : PySem.W.Frag} {mg : Str → Option Value} {base : Heap} {C_TooGreat : Addr} {C_NoText : Addr} {C_NoRule : Addr} {C_MenderError : Addr} {C_NoEdit : Addr} {k : Nat} {S R_degree : FS} (hk : 2 ≤ k) (T : Txt K mg C_TooGreat C_NoText C_NoRule C_MenderError C_NoEdit) (D : Dfd K mg "degree" ["knot", "word"] s_degree) (c_parts_of : Cal P w K mg base 1 "parts_of" ["knot"] S_parts_of) (c_degree : Cal P w K mg base k "degree" ["knot", "word"] R_degree) (len : ∀ args o r e, S args o r e → args.length = 2) (pure : ∀ args o ret exc, S args o ret exc → w_degree R_degree (fun x s => exc x (cutL o.length s.o)) (pst0 args o 4) (bodyE o.length ret)) : Cal P w K mg base (k + 1) "degree" ["knot", "word"] S :=
  D.cal (k := k) (wb := w_degree R_degree) sc_degree len (fun f cdv A outer s H E hr => by
    have tk := L2N.takes_of (X := cxOf (L2N.CX P w) P w K mg base N_degree "degree" (defScope s_degree) f cdv A outer s H E) rfl rfl rfl rfl
    exact (s_cons (s_if (t_eq (hu64 hr) (e_ix (e_var 0) e_int) e_str)
  (s_one (s_ret (e_int1 T.b_int (e_eq (hu64 hr) (e_ix (e_var 0) e_int) (e_var 1)))))
  s_nil)
 (s_cons (s_setLc (i := 2) (own := [("one", 3)]) rfl sc_degree.nd rfl rfl (sw_true rfl rfl rfl (by decide +kernel)) (i_list (c_call c_parts_of tk hr (a_cons (e_var 0) a_nil) (hk := Nat.le_trans (by decide) hk))) (blkOk_by (N := N_degree) (sc := defScope s_degree) (by decide +kernel)) (by decide) (fun _ _ _ _ _ => (g_name (i := 3) sc_degree.nd rfl (by first | exact Or.inl rfl | exact Or.inr rfl))) (fun _ _ _ _ _ => ts_nil) (fun _ _ _ _ _ => (c_call c_degree L2N.takes0 hr (a_cons (e_var 3) (a_cons (e_var 1) a_nil)) (hk := Nat.le_refl _))))
 (s_one (s_ret (e_if (t_eq (hu64 hr) (e_ix (e_var 0) e_int) e_str) (e_sum rfl T.b_sum (e_var 2)) (e_maxDf rfl T.b_max (e_var 2))))))))
    pure
theorem ok_rule_of {P : Program} {w : World} {K : PySem.W.Frag} {mg : Str → Option Value} {base : Heap} {C_TooGreat : Addr} {C_NoText : Addr} {C_NoRule : Addr} {C_MenderError : Addr} {C_NoEdit : Addr} (T : Txt K mg C_TooGreat C_NoText C_NoRule C_MenderError C_NoEdit) (D : Dfd K mg "rule_of" ["one", "other"] s_rule_of) (c_degree : Cal P w K mg base 52 "degree" ["knot", "word"] (S_degree 50)) (c_blanks_in : Cal P w K mg base 52 "blanks_in" ["knot"] (S_blanks_in 50)) (c_side_of : Cal P w K mg base 114 "side_of" ["text"] (S_side_of C_NoText C_TooGreat C_NoRule)) (c_need_text : Cal P w K mg base 1 "need_text" ["text"] (S_need_text C_NoText C_TooGreat)) : Cal P w K mg base 115 "rule_of" ["one", "other"] (S_rule_of C_NoText C_TooGreat C_NoRule) :=
  D.cal (k := 114) (wb := w_rule_of C_TooGreat C_NoText C_NoRule) sc_rule_of len_rule_of (fun f cdv A outer s H E hr => by
    have tk := L2N.takes_of (X := cxOf (L2N.CX P w) P w K mg base N_rule_of "rule_of" (defScope s_rule_of) f cdv A outer s H E) rfl rfl rfl rfl
    exact (s_cons (s_expr (c_call c_need_text tk hr (a_cons (e_var 0) a_nil)))
 (s_cons (s_expr (c_call c_need_text tk hr (a_cons (e_var 1) a_nil)))
 (s_cons (s_set (i := 2) sc_rule_of.nd rfl (by first | exact Or.inl rfl | exact Or.inr rfl) (e_tup (a_cons (c_call c_side_of tk hr (a_cons (e_var 0) a_nil)) (a_cons (c_call c_side_of tk hr (a_cons (e_var 1) a_nil)) a_nil))))
 (s_cons (s_set (i := 3) sc_rule_of.nd rfl (by first | exact Or.inl rfl | exact Or.inr rfl) (c_call c_blanks_in tk hr (a_cons (e_ix (e_var 2) e_int) a_nil)))
 (s_cons (s_if (t_pw (t_orC (t_ne (hu64 hr) (e_sortS T.b_sorted (e_var 3)) (e_sortS T.b_sorted (c_call c_blanks_in tk hr (a_cons (e_ix (e_var 2) e_int) a_nil)))) (t_or1 (t_gt (e_len T.b_len (e_var 3)) (e_gi rfl T.g_MOST_BLANKS)))))
  (s_one (s_raise rfl tk (T.x_NoRule.mk1)))
  s_nil)
 (s_cons (s_for (passes_of rfl) rfl (i_tup (e_var 2)) (g_name (i := 4) sc_rule_of.nd rfl (by first | exact Or.inl rfl | exact Or.inr rfl))
  (s_one (s_if (t_gt (e_maxDf rfl T.b_max (e_lc (own := [("word", 5)]) rfl sc_rule_of.nd (i_listO (e_var 3)) (blkOk_by (N := N_rule_of) (sc := defScope s_rule_of) (by decide +kernel)) (by decide) (fun _ _ _ _ _ => (g_name (i := 5) sc_rule_of.nd rfl (by first | exact Or.inl rfl | exact Or.inr rfl))) (fun _ _ _ _ _ => ts_nil) (fun _ _ _ _ _ => (c_call c_degree L2N.takes0 hr (a_cons (e_var 4) (a_cons (e_var 5) a_nil)))))) (e_gi rfl T.g_MOST_DEGREE))
  (s_one (s_raise rfl tk (T.x_NoRule.mk1)))
  s_nil)))
 (s_one (s_ret (e_var 2))))))))))
    (pure_rule_of C_TooGreat C_NoText C_NoRule)
theorem ok_blanks_of {P : Program} {w : World} {K : PySem.W.Frag} {mg : Str → Option Value} {base : Heap} {C_TooGreat : Addr} {C_NoText : Addr} {C_NoRule : Addr} {C_MenderError : Addr} {C_NoEdit : Addr} (T : Txt K mg C_TooGreat C_NoText C_NoRule C_MenderError C_NoEdit) (D : Dfd K mg "blanks_of" ["rule"] s_blanks_of) (c_blanks_in : Cal P w K mg base 52 "blanks_in" ["knot"] (S_blanks_in 50)) : Cal P w K mg base 53 "blanks_of" ["rule"] S_blanks_of :=
  D.cal (k := 52) (wb := w_blanks_of) sc_blanks_of len_blanks_of (fun f cdv A outer s H E hr => by
    have tk := L2N.takes_of (X := cxOf (L2N.CX P w) P w K mg base N_blanks_of "blanks_of" (defScope s_blanks_of) f cdv A outer s H E) rfl rfl rfl rfl
    exact (s_one (s_ret (e_tupOf T.b_tuple (c_call c_blanks_in tk hr (a_cons (e_ix (e_var 0) e_int) a_nil))))))
    (pure_blanks_of)
theorem ok_law_draws {P : Program} {w : World} {K : PySem.W.Frag} {mg : Str → Option Value} {base : Heap} {C_TooGreat : Addr} {C_NoText : Addr} {C_NoRule : Addr} {C_MenderError : Addr} {C_NoEdit : Addr} (T : Txt K mg C_TooGreat C_NoText C_NoRule C_MenderError C_NoEdit) (D : Dfd K mg "_law_draws" ["_law_number", "_law_sizes"] s_law_draws) : Cal P w K mg base 1 "_law_draws" ["_law_number", "_law_sizes"] S_law_draws :=
  D.cal (k := 0) (wb := w_law_draws) sc_law_draws len_law_draws (fun f cdv A outer s H E hr => by
    have tk := L2N.takes_of (X := cxOf (L2N.CX P w) P w K mg base N_law_draws "_law_draws" (defScope s_law_draws) f cdv A outer s H E) rfl rfl rfl rfl
    exact (s_cons (s_set (i := 2) sc_law_draws.nd rfl (by first | exact Or.inl rfl | exact Or.inr rfl) (e_lst a_nil))
 (s_cons (s_for (passes_of rfl) rfl (i_list (e_var 1)) (g_name (i := 3) sc_law_draws.nd rfl (by first | exact Or.inl rfl | exact Or.inr rfl))
  (s_cons (s_expr (e_app (e_var 2) (e_mod (e_var 0) (e_var 3))))
 (s_one (s_set (i := 0) sc_law_draws.nd rfl (by first | exact Or.inl rfl | exact Or.inr rfl) (e_div (e_var 0) (e_var 3))))))
 (s_one (s_ret (e_var 2))))))
    (pure_law_draws)
theorem ok_law_good_rules {P : Program} {w : World} {K : PySem.W.Frag} {mg : Str → Option Value} {base : Heap} {C_TooGreat : Addr} {C_NoText : Addr} {C_NoRule : Addr} {C_MenderError : Addr} {C_NoEdit : Addr} (T : Txt K mg C_TooGreat C_NoText C_NoRule C_MenderError C_NoEdit) (D : Dfd K mg "_law_good_rules" [] s_law_good_rules) : Cal P w K mg base 1 "_law_good_rules" [] S_law_good_rules :=
  D.cal (k := 0) (wb := w_law_good_rules) sc_law_good_rules len_law_good_rules (fun f cdv A outer s H E hr => by
    have tk := L2N.takes_of (X := cxOf (L2N.CX P w) P w K mg base N_law_good_rules "_law_good_rules" (defScope s_law_good_rules) f cdv A outer s H E) rfl rfl rfl rfl
    exact (s_cons (s_set (i := 0) sc_law_good_rules.nd rfl (by first | exact Or.inl rfl | exact Or.inr rfl) (e_lst (a_cons (e_tup (a_cons e_str (a_cons e_str a_nil))) (a_cons (e_tup (a_cons e_str (a_cons e_str a_nil))) (a_cons (e_tup (a_cons e_str (a_cons e_str a_nil))) (a_cons (e_tup (a_cons e_str (a_cons e_str a_nil))) a_nil))))))
 (s_cons (s_set (i := 0) sc_law_good_rules.nd rfl (by first | exact Or.inl rfl | exact Or.inr rfl) (e_cat (e_var 0) (e_lst (a_cons (e_tup (a_cons e_str (a_cons e_str a_nil))) (a_cons (e_tup (a_cons e_str (a_cons e_str a_nil))) (a_cons (e_tup (a_cons e_str (a_cons e_str a_nil))) a_nil))))))
 (s_cons (s_set (i := 0) sc_law_good_rules.nd rfl (by first | exact Or.inl rfl | exact Or.inr rfl) (e_cat (e_var 0) (e_lst (a_cons (e_tup (a_cons e_str (a_cons e_str a_nil))) (a_cons (e_tup (a_cons e_str (a_cons e_str a_nil))) (a_cons (e_tup (a_cons e_str (a_cons e_str a_nil))) a_nil))))))
 (s_cons (s_set (i := 0) sc_law_good_rules.nd rfl (by first | exact Or.inl rfl | exact Or.inr rfl) (e_cat (e_var 0) (e_lst (a_cons (e_tup (a_cons e_str (a_cons e_str a_nil))) (a_cons (e_tup (a_cons e_str (a_cons e_str a_nil))) a_nil)))))
 (s_cons (s_set (i := 0) sc_law_good_rules.nd rfl (by first | exact Or.inl rfl | exact Or.inr rfl) (e_cat (e_var 0) (e_lst (a_cons (e_tup (a_cons e_str (a_cons e_str a_nil))) (a_cons (e_tup (a_cons e_str (a_cons e_str a_nil))) (a_cons (e_tup (a_cons e_str (a_cons e_str a_nil))) a_nil))))))
 (s_cons (s_set (i := 0) sc_law_good_rules.nd rfl (by first | exact Or.inl rfl | exact Or.inr rfl) (e_cat (e_var 0) (e_lst (a_cons (e_tup (a_cons e_str (a_cons e_str a_nil))) (a_cons (e_tup (a_cons e_str (a_cons e_str a_nil))) (a_cons (e_tup (a_cons e_str (a_cons e_str a_nil))) a_nil))))))
 (s_cons (s_set (i := 0) sc_law_good_rules.nd rfl (by first | exact Or.inl rfl | exact Or.inr rfl) (e_cat (e_var 0) (e_lst (a_cons (e_tup (a_cons e_str (a_cons e_str a_nil))) (a_cons (e_tup (a_cons e_str (a_cons e_str a_nil))) (a_cons (e_tup (a_cons e_str (a_cons e_str a_nil))) a_nil))))))
 (s_cons (s_set (i := 0) sc_law_good_rules.nd rfl (by first | exact Or.inl rfl | exact Or.inr rfl) (e_cat (e_var 0) (e_lst (a_cons (e_tup (a_cons e_str (a_cons e_str a_nil))) (a_cons (e_tup (a_cons e_str (a_cons e_str a_nil))) (a_cons (e_tup (a_cons e_str (a_cons e_str a_nil))) a_nil))))))
 (s_cons (s_set (i := 0) sc_law_good_rules.nd rfl (by first | exact Or.inl rfl | exact Or.inr rfl) (e_cat (e_var 0) (e_lst (a_cons (e_tup (a_cons e_str (a_cons e_str a_nil))) (a_cons (e_tup (a_cons e_str (a_cons e_str a_nil))) a_nil)))))
 (s_one (s_ret (e_cat (e_var 0) (e_lst (a_cons (e_tup (a_cons e_str (a_cons e_str a_nil))) (a_cons (e_tup (a_cons e_str (a_cons e_str a_nil))) (a_cons (e_tup (a_cons e_str (a_cons e_str a_nil))) a_nil)))))))))))))))))
    (pure_law_good_rules)
theorem ok_law_bad_rules {P : Program} {w : World} {K : PySem.W.Frag} {mg : Str → Option Value} {base : Heap} {C_TooGreat : Addr} {C_NoText : Addr} {C_NoRule : Addr} {C_MenderError : Addr} {C_NoEdit : Addr} (T : Txt K mg C_TooGreat C_NoText C_NoRule C_MenderError C_NoEdit) (D : Dfd K mg "_law_bad_rules" [] s_law_bad_rules) : Cal P w K mg base 1 "_law_bad_rules" [] S_law_bad_rules :=
  D.cal (k := 0) (wb := w_law_bad_rules) sc_law_bad_rules len_law_bad_rules (fun f cdv A outer s H E hr => by
    have tk := L2N.takes_of (X := cxOf (L2N.CX P w) P w K mg base N_law_bad_rules "_law_bad_rules" (defScope s_law_bad_rules) f cdv A outer s H E) rfl rfl rfl rfl
    exact (s_cons (s_set (i := 0) sc_law_bad_rules.nd rfl (by first | exact Or.inl rfl | exact Or.inr rfl) (e_lst (a_cons (e_tup (a_cons e_str (a_cons e_str a_nil))) (a_cons (e_tup (a_cons e_str (a_cons e_str a_nil))) (a_cons (e_tup (a_cons e_str (a_cons e_str a_nil))) (a_cons (e_tup (a_cons e_str (a_cons e_str a_nil))) (a_cons (e_tup (a_cons e_str (a_cons e_str a_nil))) a_nil)))))))
 (s_cons (s_set (i := 0) sc_law_bad_rules.nd rfl (by first | exact Or.inl rfl | exact Or.inr rfl) (e_cat (e_var 0) (e_lst (a_cons (e_tup (a_cons e_str (a_cons e_str a_nil))) (a_cons (e_tup (a_cons e_str (a_cons e_str a_nil))) (a_cons (e_tup (a_cons e_str (a_cons e_str a_nil))) a_nil))))))
 (s_one (s_ret (e_cat (e_var 0) (e_lst (a_cons (e_tup (a_cons e_str (a_cons e_str a_nil))) (a_cons (e_tup (a_cons e_str (a_cons e_str a_nil))) (a_cons (e_tup (a_cons e_str (a_cons e_str a_nil))) (a_cons (e_tup (a_cons e_str (a_cons e_str a_nil))) a_nil)))))))))))
    (pure_law_bad_rules)
theorem ok_law_rule_texts {P : Program} {w : World} {K : PySem.W.Frag} {mg : Str → Option Value} {base : Heap} {C_TooGreat : Addr} {C_NoText : Addr} {C_NoRule : Addr} {C_MenderError : Addr} {C_NoEdit : Addr} (T : Txt K mg C_TooGreat C_NoText C_NoRule C_MenderError C_NoEdit) (D : Dfd K mg "_law_rule_texts" ["_law_number"] s_law_rule_texts) (c_law_named : Cal P w K mg base 1 "_law_named" ["_law_side", "_law_names"] S_law_named) (c_law_bad_rules : Cal P w K mg base 1 "_law_bad_rules" [] S_law_bad_rules) (c_law_good_rules : Cal P w K mg base 1 "_law_good_rules" [] S_law_good_rules) (c_law_draws : Cal P w K mg base 1 "_law_draws" ["_law_number", "_law_sizes"] S_law_draws) : Cal P w K mg base 2 "_law_rule_texts" ["_law_number"] S_law_rule_texts :=
  D.cal (k := 1) (wb := w_law_rule_texts) sc_law_rule_texts len_law_rule_texts (fun f cdv A outer s H E hr => by
    have tk := L2N.takes_of (X := cxOf (L2N.CX P w) P w K mg base N_law_rule_texts "_law_rule_texts" (defScope s_law_rule_texts) f cdv A outer s H E) rfl rfl rfl rfl
    exact (s_cons (s_unp (c_call c_law_draws tk hr (a_cons (e_var 0) (a_cons (e_lst (a_cons e_int (a_cons e_int (a_cons e_int (a_cons e_int a_nil))))) a_nil))) (g_lst rfl (gs_cons (g_name (i := 1) sc_law_rule_texts.nd rfl (by first | exact Or.inl rfl | exact Or.inr rfl)) (gs_cons (g_name (i := 2) sc_law_rule_texts.nd rfl (by first | exact Or.inl rfl | exact Or.inr rfl)) (gs_cons (g_name (i := 3) sc_law_rule_texts.nd rfl (by first | exact Or.inl rfl | exact Or.inr rfl)) (gs_cons (g_name (i := 4) sc_law_rule_texts.nd rfl (by first | exact Or.inl rfl | exact Or.inr rfl)) gs_nil))))))
 (s_cons (s_set (i := 5) sc_law_rule_texts.nd rfl (by first | exact Or.inl rfl | exact Or.inr rfl) (e_ix (e_lst (a_cons (c_call0 c_law_good_rules hr) (a_cons (c_call0 c_law_good_rules hr) (a_cons (c_call0 c_law_bad_rules hr) a_nil)))) (e_var 1)))
 (s_cons (s_set (i := 6) sc_law_rule_texts.nd rfl (by first | exact Or.inl rfl | exact Or.inr rfl) (e_listOf T.b_list (e_ix (e_var 5) (e_mod (e_var 2) (e_len T.b_len (e_var 5))))))
 (s_cons (s_if (t_eq (hu64 hr) (e_var 3) e_int)
  (s_one (s_expr (e_rev (e_var 6))))
  s_nil)
 (s_one (s_ret (e_lc (own := [("_law_side", 7)]) rfl sc_law_rule_texts.nd (i_list (e_var 6)) (blkOk_by (N := N_law_rule_texts) (sc := defScope s_law_rule_texts) (by decide +kernel)) (by decide) (fun _ _ _ _ _ => (g_name (i := 7) sc_law_rule_texts.nd rfl (by first | exact Or.inl rfl | exact Or.inr rfl))) (fun _ _ _ _ _ => ts_nil) (fun _ _ _ _ _ => (c_call c_law_named L2N.takes0 hr (a_cons (e_var 7) (a_cons (e_ix (e_lst (a_cons (e_lst (a_cons e_str (a_cons e_str (a_cons e_str a_nil)))) (a_cons (e_lst (a_cons e_str (a_cons e_str (a_cons e_str a_nil)))) (a_cons (e_lst (a_cons e_str (a_cons e_str (a_cons e_str a_nil)))) (a_cons (e_lst (a_cons e_str (a_cons e_str (a_cons e_str a_nil)))) a_nil))))) (e_var 4)) a_nil))))))))))))
    (pure_law_rule_texts)
theorem ok_law_named {P : Program} {w : World} {K : PySem.W.Frag} {mg : Str → Option Value} {base : Heap} {C_TooGreat : Addr} {C_NoText : Addr} {C_NoRule : Addr} {C_MenderError : Addr} {C_NoEdit : Addr} (T : Txt K mg C_TooGreat C_NoText C_NoRule C_MenderError C_NoEdit) (D : Dfd K mg "_law_named" ["_law_side", "_law_names"] s_law_named) : Cal P w K mg base 1 "_law_named" ["_law_side", "_law_names"] S_law_named :=
  D.cal (k := 0) (wb := w_law_named) sc_law_named len_law_named (fun f cdv A outer s H E hr => by
    have tk := L2N.takes_of (X := cxOf (L2N.CX P w) P w K mg base N_law_named "_law_named" (defScope s_law_named) f cdv A outer s H E) rfl rfl rfl rfl
    exact (s_cons (s_set (i := 2) sc_law_named.nd rfl (by first | exact Or.inl rfl | exact Or.inr rfl) e_str)
 (s_cons (s_for (passes_of rfl) rfl (i_str (e_var 0)) (g_name (i := 3) sc_law_named.nd rfl (by first | exact Or.inl rfl | exact Or.inr rfl))
  (s_one (s_set (i := 2) sc_law_named.nd rfl (by first | exact Or.inl rfl | exact Or.inr rfl) (e_add (e_var 2) (e_dget2 (hu64 hr) (e_dict (d_cons e_str (e_ix (e_var 1) e_int) (d_cons e_str (e_ix (e_var 1) e_int) (d_cons e_str (e_ix (e_var 1) e_int) d_nil))) rfl rfl (by simp) (by decide)) (e_var 3) (e_var 3))))))
 (s_one (s_ret (e_var 2))))))
    (pure_law_named)
theorem ok_law_ones {P : Program} {w : World} {K : PySem.W.Frag} {mg : Str → Option Value} {base : Heap} {C_TooGreat : Addr} {C_NoText : Addr} {C_NoRule : Addr} {C_MenderError : Addr} {C_NoEdit : Addr} (T : Txt K mg C_TooGreat C_NoText C_NoRule C_MenderError C_NoEdit) (D : Dfd K mg "_law_ones" ["_law_knot"] s_law_ones) : Cal P w K mg base 1 "_law_ones" ["_law_knot"] S_law_ones :=
  D.cal (k := 0) (wb := w_law_ones) sc_law_ones len_law_ones (fun f cdv A outer s H E hr => by
    have tk := L2N.takes_of (X := cxOf (L2N.CX P w) P w K mg base N_law_ones "_law_ones" (defScope s_law_ones) f cdv A outer s H E) rfl rfl rfl rfl
    exact (s_cons (s_if (t_in (hu65 hr) rfl (e_ix (e_var 0) e_int) (e_tup (a_cons e_str (a_cons e_str a_nil))))
  (s_one (s_ret (e_lst a_nil)))
  s_nil)
 (s_cons (s_if (t_eq (hu64 hr) (e_ix (e_var 0) e_int) e_str)
  (s_one (s_ret (e_listOf T.b_list (e_ix (e_var 0) e_int))))
  s_nil)
 (s_one (s_ret (e_if (t_eq (hu64 hr) (e_ix (e_var 0) e_int) e_str) (e_lc (own := [("_law_part", 1)]) rfl sc_law_ones.nd (i_tup (e_ix (e_var 0) e_int)) (blkOk_by (N := N_law_ones) (sc := defScope s_law_ones) (by decide +kernel)) (by decide) (fun _ _ _ _ _ => (g_name (i := 1) sc_law_ones.nd rfl (by first | exact Or.inl rfl | exact Or.inr rfl))) (fun _ _ _ _ _ => ts_nil) (fun _ _ _ _ _ => (e_ix (e_var 1) e_int))) (e_lst (a_cons (e_ix (e_var 0) e_int) a_nil))))))))
    (pure_law_ones)
theorem ok_law_blanks {P : Program} {w : World} {K : PySem.W.Frag} {mg : Str → Option Value} {base : Heap} {C_TooGreat : Addr} {C_NoText : Addr} {C_NoRule : Addr} {C_MenderError : Addr} {C_NoEdit : Addr} {k : Nat} {S R_law_blanks : FS} (hk : 2 ≤ k) (T : Txt K mg C_TooGreat C_NoText C_NoRule C_MenderError C_NoEdit) (D : Dfd K mg "_law_blanks" ["_law_knot"] s_law_blanks) (c_law_ones : Cal P w K mg base 1 "_law_ones" ["_law_knot"] S_law_ones) (c_law_blanks : Cal P w K mg base k "_law_blanks" ["_law_knot"] R_law_blanks) (len : ∀ args o r e, S args o r e → args.length = 1) (pure : ∀ args o ret exc, S args o ret exc → w_law_blanks R_law_blanks (fun x s => exc x (cutL o.length s.o)) (pst0 args o 4) (bodyE o.length ret)) : Cal P w K mg base (k + 1) "_law_blanks" ["_law_knot"] S :=
  D.cal (k := k) (wb := w_law_blanks R_law_blanks) sc_law_blanks len (fun f cdv A outer s H E hr => by
    have tk := L2N.takes_of (X := cxOf (L2N.CX P w) P w K mg base N_law_blanks "_law_blanks" (defScope s_law_blanks) f cdv A outer s H E) rfl rfl rfl rfl
    exact (s_cons (s_if (t_eq (hu64 hr) (e_ix (e_var 0) e_int) e_str)
  (s_one (s_ret (e_lst (a_cons (e_ix (e_var 0) e_int) a_nil))))
  s_nil)
 (s_cons (s_set (i := 1) sc_law_blanks.nd rfl (by first | exact Or.inl rfl | exact Or.inr rfl) (e_lst a_nil))
 (s_cons (s_for (passes_of rfl) rfl (i_list (c_call c_law_ones tk hr (a_cons (e_var 0) a_nil) (hk := Nat.le_trans (by decide) hk))) (g_name (i := 2) sc_law_blanks.nd rfl (by first | exact Or.inl rfl | exact Or.inr rfl))
  (s_one (s_for (passes_of rfl) rfl (i_list (c_call c_law_blanks tk hr (a_cons (e_var 2) a_nil) (hk := Nat.le_refl _))) (g_name (i := 3) sc_law_blanks.nd rfl (by first | exact Or.inl rfl | exact Or.inr rfl))
  (s_one (s_if (t_notIn (hu65 hr) rfl (e_var 3) (e_var 1))
  (s_one (s_expr (e_app (e_var 1) (e_var 3))))
  s_nil)))))
 (s_one (s_ret (e_var 1)))))))
    pure
theorem ok_law_told {P : Program} {w : World} {K : PySem.W.Frag} {mg : Str → Option Value} {base : Heap} {C_TooGreat : Addr} {C_NoText : Addr} {C_NoRule : Addr} {C_MenderError : Addr} {C_NoEdit : Addr} (T : Txt K mg C_TooGreat C_NoText C_NoRule C_MenderError C_NoEdit) (D : Dfd K mg "_law_told" ["_law_one", "_law_other"] s_law_told) (c_rule_of : Cal P w K mg base 115 "rule_of" ["one", "other"] (S_rule_of C_NoText C_TooGreat C_NoRule)) : Cal P w K mg base 116 "_law_told" ["_law_one", "_law_other"] (S_law_told C_NoText C_TooGreat C_NoRule) :=
  D.cal (k := 115) (wb := w_law_told (mxK K) C_TooGreat C_NoText C_NoRule) sc_law_told len_law_told (fun f cdv A outer s H E hr => by
    have tk := L2N.takes_of (X := cxOf (L2N.CX P w) P w K mg base N_law_told "_law_told" (defScope s_law_told) f cdv A outer s H E) rfl rfl rfl rfl
    exact (s_one (s_try rfl rfl rfl tk (fun _ _ _ tk1 po1 => (s_one (s_ret (c_call c_rule_of tk1 hr (a_cons (e_var 0) (a_cons (e_var 1) a_nil))))))
  (cls_only (roomT hr) T.n_NoRule (fun _ _ hr1 => (s_one (s_ret e_non))) .nil))))
    (pure_law_told T.em)
theorem ok_law_wrong {P : Program} {w : World} {K : PySem.W.Frag} {mg : Str → Option Value} {base : Heap} {C_TooGreat : Addr} {C_NoText : Addr} {C_NoRule : Addr} {C_MenderError : Addr} {C_NoEdit : Addr} (T : Txt K mg C_TooGreat C_NoText C_NoRule C_MenderError C_NoEdit) (D : Dfd K mg "_law_wrong" ["_law_number"] s_law_wrong) : Cal P w K mg base 1 "_law_wrong" ["_law_number"] S_law_wrong :=
  D.cal (k := 0) (wb := w_law_wrong) sc_law_wrong len_law_wrong (fun f cdv A outer s H E hr => by
    have tk := L2N.takes_of (X := cxOf (L2N.CX P w) P w K mg base N_law_wrong "_law_wrong" (defScope s_law_wrong) f cdv A outer s H E) rfl rfl rfl rfl
    exact (s_cons (s_set (i := 1) sc_law_wrong.nd rfl (by first | exact Or.inl rfl | exact Or.inr rfl) (e_lst (a_cons e_str (a_cons e_str (a_cons e_str (a_cons e_str (a_cons e_str (a_cons e_str (a_cons e_str (a_cons e_str (a_cons e_str (a_cons e_str (a_cons e_str (a_cons e_str a_nil))))))))))))))
 (s_cons (s_set (i := 1) sc_law_wrong.nd rfl (by first | exact Or.inl rfl | exact Or.inr rfl) (e_cat (e_var 1) (e_lst (a_cons e_str (a_cons e_str (a_cons e_str (a_cons e_str a_nil)))))))
 (s_one (s_ret (e_ix (e_var 1) (e_mod (e_var 0) e_int)))))))
    (pure_law_wrong)
theorem ok_law_refused {P : Program} {w : World} {K : PySem.W.Frag} {mg : Str → Option Value} {base : Heap} {C_TooGreat : Addr} {C_NoText : Addr} {C_NoRule : Addr} {C_MenderError : Addr} {C_NoEdit : Addr} (T : Txt K mg C_TooGreat C_NoText C_NoRule C_MenderError C_NoEdit) (D : Dfd K mg "_law_refused" ["_law_one", "_law_other"] s_law_refused) (c_rule_of : Cal P w K mg base 115 "rule_of" ["one", "other"] (S_rule_of C_NoText C_TooGreat C_NoRule)) : Cal P w K mg base 116 "_law_refused" ["_law_one", "_law_other"] (S_law_refused C_NoText C_TooGreat C_NoRule) :=
  D.cal (k := 115) (wb := w_law_refused (mxK K) C_TooGreat C_NoText C_NoRule C_MenderError C_NoEdit) sc_law_refused len_law_refused (fun f cdv A outer s H E hr => by
    have tk := L2N.takes_of (X := cxOf (L2N.CX P w) P w K mg base N_law_refused "_law_refused" (defScope s_law_refused) f cdv A outer s H E) rfl rfl rfl rfl
    exact (s_cons (s_tryH rfl rfl rfl tk (fun _ _ _ tk1 po1 => (s_one (s_expr (c_call c_rule_of tk1 hr (a_cons (e_var 0) (a_cons (e_var 1) a_nil))))))
  (cls_hot (roomT hr) T.n_MenderError sc_law_refused.nd (i := 2) rfl rfl (fun _ _ hr1 => (s_cons (s_set (i := 3) sc_law_refused.nd rfl (by first | exact Or.inl rfl | exact Or.inr rfl) (e_lst (a_cons (e_isE T.b_isinstance T.n_NoText (e_var 2)) (a_cons (e_isE T.b_isinstance T.n_TooGreat (e_var 2)) (a_cons (e_isE T.b_isinstance T.n_NoRule (e_var 2)) (a_cons (e_isE T.b_isinstance T.n_NoEdit (e_var 2)) a_nil))))))
 (s_one (s_ret (e_flags (X := _) (kx := "_law_k") (fx := "_law_flag") (ik := 4) (jf := 5) rfl sc_law_refused.nd T.b_enumerate (e_var 3) (blkOk_by (N := N_law_refused) (sc := defScope s_law_refused) (by decide +kernel)) (fun _ _ _ _ _ => (PHL.pg_tupT rfl (pgs_cons (pg_name (i := 4) sc_law_refused.nd rfl (by first | exact Or.inl rfl | exact Or.inr rfl)) (pgs_cons (pg_name (i := 5) sc_law_refused.nd rfl (by first | exact Or.inl rfl | exact Or.inr rfl)) pgs_nil)))) (fun _ _ _ _ _ => pts_one (pt_val (pe_var (i := 5) rfl (by first | exact Or.inl rfl | exact Or.inr (Or.inl rfl) | exact Or.inr (Or.inr rfl))))) (fun _ _ _ _ _ => pe_var (i := 4) rfl (by first | exact Or.inl rfl | exact Or.inr (Or.inl rfl) | exact Or.inr (Or.inr rfl)))))))) .nil))
 (s_one (s_ret (e_lst a_nil)))))
    (pure_law_refused T.em)
theorem ok_law_pairs_wrong {P : Program} {w : World} {K : PySem.W.Frag} {mg : Str → Option Value} {base : Heap} {C_TooGreat : Addr} {C_NoText : Addr} {C_NoRule : Addr} {C_MenderError : Addr} {C_NoEdit : Addr} (T : Txt K mg C_TooGreat C_NoText C_NoRule C_MenderError C_NoEdit) (D : Dfd K mg "_law_pairs_wrong" ["_law_cell"] s_law_pairs_wrong) (c_law_refused : Cal P w K mg base 116 "_law_refused" ["_law_one", "_law_other"] (S_law_refused C_NoText C_TooGreat C_NoRule)) : Cal P w K mg base 117 "_law_pairs_wrong" ["_law_cell"] S_law_pairs_wrong :=
  D.cal (k := 116) (wb := w_law_pairs_wrong C_TooGreat C_NoText C_NoRule) sc_law_pairs_wrong len_law_pairs_wrong (fun f cdv A outer s H E hr => by
    have tk := L2N.takes_of (X := cxOf (L2N.CX P w) P w K mg base N_law_pairs_wrong "_law_pairs_wrong" (defScope s_law_pairs_wrong) f cdv A outer s H E) rfl rfl rfl rfl
    exact (s_cons (s_set (i := 1) sc_law_pairs_wrong.nd rfl (by first | exact Or.inl rfl | exact Or.inr rfl) (e_lst (a_cons (e_tup (a_cons e_str (a_cons e_str a_nil))) (a_cons (e_tup (a_cons e_str (a_cons e_str a_nil))) (a_cons (e_tup (a_cons e_str (a_cons e_str a_nil))) (a_cons (e_tup (a_cons e_str (a_cons e_str a_nil))) (a_cons (e_tup (a_cons e_str (a_cons e_str a_nil))) a_nil)))))))
 (s_cons (s_set (i := 1) sc_law_pairs_wrong.nd rfl (by first | exact Or.inl rfl | exact Or.inr rfl) (e_cat (e_var 1) (e_lst (a_cons (e_tup (a_cons e_str (a_cons e_str a_nil))) (a_cons (e_tup (a_cons e_str (a_cons e_str a_nil))) a_nil)))))
 (s_cons (s_unp (e_ix (e_var 1) (e_mod (e_var 0) e_int)) (g_tup rfl (gs_cons (g_name (i := 2) sc_law_pairs_wrong.nd rfl (by first | exact Or.inl rfl | exact Or.inr rfl)) (gs_cons (g_name (i := 3) sc_law_pairs_wrong.nd rfl (by first | exact Or.inl rfl | exact Or.inr rfl)) gs_nil))))
 (s_one (s_ret (e_andC (e_eq (hu64 hr) (c_call c_law_refused tk hr (a_cons (e_var 2) (a_cons (e_var 3) a_nil))) (e_lst (a_cons e_int a_nil))) (e_one (e_eq (hu64 hr) (c_call c_law_refused tk hr (a_cons (e_var 3) (a_cons (e_var 2) a_nil))) (e_lst (a_cons e_int a_nil)))))))))))
    (pure_law_pairs_wrong C_TooGreat C_NoText C_NoRule)
theorem ok_law_texts_refused {P : Program} {w : World} {K : PySem.W.Frag} {mg : Str → Option Value} {base : Heap} {C_TooGreat : Addr} {C_NoText : Addr} {C_NoRule : Addr} {C_MenderError : Addr} {C_NoEdit : Addr} (T : Txt K mg C_TooGreat C_NoText C_NoRule C_MenderError C_NoEdit) (D : Dfd K mg "_law_texts_refused" ["_law_cell"] s_law_texts_refused) (c_law_refused : Cal P w K mg base 116 "_law_refused" ["_law_one", "_law_other"] (S_law_refused C_NoText C_TooGreat C_NoRule)) : Cal P w K mg base 117 "_law_texts_refused" ["_law_cell"] S_law_texts_refused :=
  D.cal (k := 116) (wb := w_law_texts_refused C_TooGreat C_NoText C_NoRule) sc_law_texts_refused len_law_texts_refused (fun f cdv A outer s H E hr => by
    have tk := L2N.takes_of (X := cxOf (L2N.CX P w) P w K mg base N_law_texts_refused "_law_texts_refused" (defScope s_law_texts_refused) f cdv A outer s H E) rfl rfl rfl rfl
    exact (s_cons (s_set (i := 1) sc_law_texts_refused.nd rfl (by first | exact Or.inl rfl | exact Or.inr rfl) (e_lst (a_cons e_non (a_cons e_str (a_cons (e_repS e_str e_int) (a_cons e_int (a_cons (e_add e_str (e_repS e_str e_int)) a_nil)))))))
 (s_cons (s_set (i := 2) sc_law_texts_refused.nd rfl (by first | exact Or.inl rfl | exact Or.inr rfl) (e_mod (e_var 0) e_int))
 (s_cons (s_set (i := 3) sc_law_texts_refused.nd rfl (by first | exact Or.inl rfl | exact Or.inr rfl) (e_mod (e_div (e_var 0) e_int) e_int))
 (s_cons (s_set (i := 4) sc_law_texts_refused.nd rfl (by first | exact Or.inl rfl | exact Or.inr rfl) (e_lst (a_cons (e_int1 T.b_int (e_in (hu65 hr) rfl (e_var 2) (e_tup (a_cons e_int (a_cons e_int a_nil))))) a_nil)))
 (s_cons (s_if (t_pw (t_orC (t_ne (hu64 hr) (c_call c_law_refused tk hr (a_cons (e_ix (e_var 1) (e_var 2)) (a_cons (e_ix (e_var 1) (e_var 3)) a_nil))) (e_var 4)) (t_or1 (t_ne (hu64 hr) (c_call c_law_refused tk hr (a_cons (e_ix (e_var 1) (e_var 2)) (a_cons e_str a_nil))) (e_var 4)))))
  (s_one (s_ret e_bl))
  s_nil)
 (s_one (s_ret (e_eq (hu64 hr) (c_call c_law_refused tk hr (a_cons e_str (a_cons (e_ix (e_var 1) (e_var 2)) a_nil))) (e_var 4))))))))))
    (pure_law_texts_refused C_TooGreat C_NoText C_NoRule)
theorem rec_deep {P : Program} {w : World} {K : PySem.W.Frag} {mg : Str → Option Value} {base : Heap} {C_TooGreat : Addr} {C_NoText : Addr} {C_NoRule : Addr} {C_MenderError : Addr} {C_NoEdit : Addr} (T : Txt K mg C_TooGreat C_NoText C_NoRule C_MenderError C_NoEdit) (D_deep : Dfd K mg "deep" ["knot"] s_deep) : ∀ n : Nat, Cal P w K mg base (1 + n) "deep" ["knot"] (S_deep n)
  | 0 => D_deep.cal0 zero_deep
  | n + 1 => by
    have r := rec_deep (P := P) (w := w) (base := base) T D_deep n
    exact ok_deep (k := 1 + n) (Nat.le_add_right _ _) T D_deep r len_deep (pure_deep n)
theorem rec_several {P : Program} {w : World} {K : PySem.W.Frag} {mg : Str → Option Value} {base : Heap} {C_TooGreat : Addr} {C_NoText : Addr} {C_NoRule : Addr} {C_MenderError : Addr} {C_NoEdit : Addr} (T : Txt K mg C_TooGreat C_NoText C_NoRule C_MenderError C_NoEdit) (D_several : Dfd K mg "several" ["leaves", "at", "room", "close"] s_several) (D_begun : Dfd K mg "begun" ["leaves", "at", "room"] s_begun) (D_looked : Dfd K mg "looked" ["leaves", "at", "room"] s_looked) (D_signed : Dfd K mg "signed" ["leaves", "at", "room"] s_signed) (D_multiplied : Dfd K mg "multiplied" ["leaves", "at", "room"] s_multiplied) (D_added : Dfd K mg "added" ["leaves", "at", "room"] s_added) (D_compared : Dfd K mg "compared" ["leaves", "at", "room"] s_compared) (c_is_sign : Cal P w K mg base 1 "is_sign" ["leaves", "at", "signs"] S_is_sign) (c_deep : Cal P w K mg base 61 "deep" ["knot"] (S_deep 60)) : ∀ n : Nat, Cal P w K mg base (62 + n) "several" ["leaves", "at", "room", "close"] (S_several n) ∧ Cal P w K mg base (62 + n) "begun" ["leaves", "at", "room"] (S_begun n) ∧ Cal P w K mg base (62 + n) "looked" ["leaves", "at", "room"] (S_looked n) ∧ Cal P w K mg base (62 + n) "signed" ["leaves", "at", "room"] (S_signed n) ∧ Cal P w K mg base (62 + n) "multiplied" ["leaves", "at", "room"] (S_multiplied n) ∧ Cal P w K mg base (62 + n) "added" ["leaves", "at", "room"] (S_added n) ∧ Cal P w K mg base (62 + n) "compared" ["leaves", "at", "room"] (S_compared n)
  | 0 => ⟨D_several.cal0 zero_several, D_begun.cal0 zero_begun, D_looked.cal0 zero_looked, D_signed.cal0 zero_signed, D_multiplied.cal0 zero_multiplied, D_added.cal0 zero_added, D_compared.cal0 zero_compared⟩
  | n + 1 => by
    have r := rec_several (P := P) (w := w) (base := base) T D_several D_begun D_looked D_signed D_multiplied D_added D_compared c_is_sign c_deep n
    exact ⟨ok_several (k := 62 + n) (Nat.le_add_right _ _) T D_several c_is_sign r.2.2.2.2.2.2 len_several (pure_several n), ok_begun (k := 62 + n) (Nat.le_add_right _ _) T D_begun c_is_sign r.1 r.2.2.2.2.2.2 len_begun (pure_begun n), ok_looked (k := 62 + n) (Nat.le_add_right _ _) T D_looked c_deep c_is_sign r.2.2.2.2.2.2 r.2.1 len_looked (pure_looked n), ok_signed (k := 62 + n) (Nat.le_add_right _ _) T D_signed r.2.2.2.1 r.2.2.1 c_is_sign len_signed (pure_signed n), ok_multiplied (k := 62 + n) (Nat.le_add_right _ _) T D_multiplied r.2.2.2.1 c_is_sign len_multiplied (pure_multiplied n), ok_added (k := 62 + n) (Nat.le_add_right _ _) T D_added r.2.2.2.2.1 c_is_sign len_added (pure_added n), ok_compared (k := 62 + n) (Nat.le_add_right _ _) T D_compared r.2.2.2.2.2.1 c_is_sign len_compared (pure_compared n)⟩
theorem rec_are_all {P : Program} {w : World} {K : PySem.W.Frag} {mg : Str → Option Value} {base : Heap} {C_TooGreat : Addr} {C_NoText : Addr} {C_NoRule : Addr} {C_MenderError : Addr} {C_NoEdit : Addr} (T : Txt K mg C_TooGreat C_NoText C_NoRule C_MenderError C_NoEdit) (D_are_all : Dfd K mg "are_all" ["knot", "kinds"] s_are_all) (c_parts_of : Cal P w K mg base 1 "parts_of" ["knot"] S_parts_of) : ∀ n : Nat, Cal P w K mg base (2 + n) "are_all" ["knot", "kinds"] (S_are_all n)
  | 0 => D_are_all.cal0 zero_are_all
  | n + 1 => by
    have r := rec_are_all (P := P) (w := w) (base := base) T D_are_all c_parts_of n
    exact ok_are_all (k := 2 + n) (Nat.le_add_right _ _) T D_are_all c_parts_of r len_are_all (pure_are_all n)
theorem rec_blanks_in {P : Program} {w : World} {K : PySem.W.Frag} {mg : Str → Option Value} {base : Heap} {C_TooGreat : Addr} {C_NoText : Addr} {C_NoRule : Addr} {C_MenderError : Addr} {C_NoEdit : Addr} (T : Txt K mg C_TooGreat C_NoText C_NoRule C_MenderError C_NoEdit) (D_blanks_in : Dfd K mg "blanks_in" ["knot"] s_blanks_in) (c_parts_of : Cal P w K mg base 1 "parts_of" ["knot"] S_parts_of) : ∀ n : Nat, Cal P w K mg base (2 + n) "blanks_in" ["knot"] (S_blanks_in n)
  | 0 => D_blanks_in.cal0 zero_blanks_in
  | n + 1 => by
    have r := rec_blanks_in (P := P) (w := w) (base := base) T D_blanks_in c_parts_of n
    exact ok_blanks_in (k := 2 + n) (Nat.le_add_right _ _) T D_blanks_in c_parts_of r len_blanks_in (pure_blanks_in n)
theorem rec_degree {P : Program} {w : World} {K : PySem.W.Frag} {mg : Str → Option Value} {base : Heap} {C_TooGreat : Addr} {C_NoText : Addr} {C_NoRule : Addr} {C_MenderError : Addr} {C_NoEdit : Addr} (T : Txt K mg C_TooGreat C_NoText C_NoRule C_MenderError C_NoEdit) (D_degree : Dfd K mg "degree" ["knot", "word"] s_degree) (c_parts_of : Cal P w K mg base 1 "parts_of" ["knot"] S_parts_of) : ∀ n : Nat, Cal P w K mg base (2 + n) "degree" ["knot", "word"] (S_degree n)
  | 0 => D_degree.cal0 zero_degree
  | n + 1 => by
    have r := rec_degree (P := P) (w := w) (base := base) T D_degree c_parts_of n
    exact ok_degree (k := 2 + n) (Nat.le_add_right _ _) T D_degree c_parts_of r len_degree (pure_degree n)
theorem rec_law_blanks {P : Program} {w : World} {K : PySem.W.Frag} {mg : Str → Option Value} {base : Heap} {C_TooGreat : Addr} {C_NoText : Addr} {C_NoRule : Addr} {C_MenderError : Addr} {C_NoEdit : Addr} (T : Txt K mg C_TooGreat C_NoText C_NoRule C_MenderError C_NoEdit) (D_law_blanks : Dfd K mg "_law_blanks" ["_law_knot"] s_law_blanks) (c_law_ones : Cal P w K mg base 1 "_law_ones" ["_law_knot"] S_law_ones) : ∀ n : Nat, Cal P w K mg base (2 + n) "_law_blanks" ["_law_knot"] (S_law_blanks n)
  | 0 => D_law_blanks.cal0 zero_law_blanks
  | n + 1 => by
    have r := rec_law_blanks (P := P) (w := w) (base := base) T D_law_blanks c_law_ones n
    exact ok_law_blanks (k := 2 + n) (Nat.le_add_right _ _) T D_law_blanks c_law_ones r len_law_blanks (pure_law_blanks n)
theorem ok_law {P : Program} {w : World} {K : PySem.W.Frag} {mg : Str → Option Value} {base : Heap} {C_TooGreat : Addr} {C_NoText : Addr} {C_NoRule : Addr} {C_MenderError : Addr} {C_NoEdit : Addr} (T : Txt K mg C_TooGreat C_NoText C_NoRule C_MenderError C_NoEdit) {fl : Addr} {fd : FuncData} (F : Fun K "law" "law" s_law fl fd) (c_law_told : Cal P w K mg base 116 "_law_told" ["_law_one", "_law_other"] (S_law_told C_NoText C_TooGreat C_NoRule)) (c_law_pairs_wrong : Cal P w K mg base 117 "_law_pairs_wrong" ["_law_cell"] S_law_pairs_wrong) (c_law_texts_refused : Cal P w K mg base 117 "_law_texts_refused" ["_law_cell"] S_law_texts_refused) (c_law_wrong : Cal P w K mg base 1 "_law_wrong" ["_law_number"] S_law_wrong) (c_blanks_of : Cal P w K mg base 53 "blanks_of" ["rule"] S_blanks_of) (c_law_blanks : Cal P w K mg base 52 "_law_blanks" ["_law_knot"] (S_law_blanks 50)) (c_leaves_of : Cal P w K mg base 3 "leaves_of" ["text"] (S_leaves_of C_NoText C_TooGreat)) (c_expression : CalD P w K mg base 113 "expression" ["leaves", "at"] S_expression [V.int 0]) (c_law_rule_texts : Cal P w K mg base 2 "_law_rule_texts" ["_law_number"] S_law_rule_texts) : FnOk P w K mg base (L2N.CX P w) 118 fl fd ["_law_script"] (spOf K lawS) :=
  fn_ok (k := 117) (wb := w_law C_TooGreat C_NoText C_NoRule) F sc_law len_law (fun cdv A outer s H E hr => by
    have tk := L2N.takes_of (X := cxOf (L2N.CX P w) P w K mg base N_law "law" (defScope s_law) fl cdv A outer s H E) rfl rfl rfl rfl
    exact (s_cons (s_for (passes_of rfl) rfl (i_list (e_sl (e_var 0) o_none (o_some e_int))) (g_name (i := 1) sc_law.nd rfl (by first | exact Or.inl rfl | exact Or.inr rfl))
  (s_cons (s_unp (c_call c_law_rule_texts tk hr (a_cons (e_var 1) a_nil)) (g_lst rfl (gs_cons (g_name (i := 2) sc_law.nd rfl (by first | exact Or.inl rfl | exact Or.inr rfl)) (gs_cons (g_name (i := 3) sc_law.nd rfl (by first | exact Or.inl rfl | exact Or.inr rfl)) gs_nil))))
 (s_cons (s_set (i := 4) sc_law.nd rfl (by first | exact Or.inl rfl | exact Or.inr rfl) (c_call c_law_told tk hr (a_cons (e_var 2) (a_cons (e_var 3) a_nil))))
 (s_cons (s_set (i := 5) sc_law.nd rfl (by first | exact Or.inl rfl | exact Or.inr rfl) (e_tup (a_cons (e_ix (c_callD c_expression tk hr (a_cons (c_call c_leaves_of tk hr (a_cons (e_var 2) a_nil)) a_nil)) e_int) (a_cons (e_ix (c_callD c_expression tk hr (a_cons (c_call c_leaves_of tk hr (a_cons (e_var 3) a_nil)) a_nil)) e_int) a_nil))))
 (s_cons (s_if (t_pw (t_orC (t_ne (hu64 hr) (e_var 4) (e_var 5)) (t_orC (t_not (t_val (e_isi T.b_isinstance T.b_tuple (by decide +kernel) (e_var 4)))) (t_or1 (t_ne (hu64 hr) (c_call c_blanks_of tk hr (a_cons (e_var 4) a_nil)) (e_tupOf T.b_tuple (c_call c_law_blanks tk hr (a_cons (e_ix (e_var 5) e_int) a_nil))))))))
  (s_one (s_ret e_bl))
  s_nil)
 (s_cons (s_set (i := 6) sc_law.nd rfl (by first | exact Or.inl rfl | exact Or.inr rfl) (c_call c_law_wrong tk hr (a_cons (e_div (e_var 1) e_int) a_nil)))
 (s_cons (s_if (t_pw (t_orC (t_notN (c_call c_law_told tk hr (a_cons (e_var 6) (a_cons e_str a_nil)))) (t_or1 (t_notN (c_call c_law_told tk hr (a_cons e_str (a_cons (e_var 6) a_nil)))))))
  (s_one (s_ret e_bl))
  s_nil)
 (s_one (s_if (t_pw (t_orC (t_ne (hu64 hr) (c_call c_law_told tk hr (a_cons (e_var 2) (a_cons (e_var 3) a_nil))) (e_var 4)) (t_orC (t_not (t_val (c_call c_law_pairs_wrong tk hr (a_cons (e_div (e_var 1) e_int) a_nil)))) (t_or1 (t_not (t_val (c_call c_law_texts_refused tk hr (a_cons (e_div (e_var 1) e_int) a_nil))))))))
  (s_one (s_ret e_bl))
  s_nil)))))))))
 (s_cons (s_set (i := 7) sc_law.nd rfl (by first | exact Or.inl rfl | exact Or.inr rfl) (e_join e_str (e_rep (e_lst (a_cons e_str a_nil)) e_int)))
 (s_cons (s_if (t_pw (t_orC (t_notN (c_call c_law_told tk hr (a_cons (e_add (e_var 7) e_str) (a_cons e_str a_nil)))) (t_or1 (t_notN (c_call c_law_told tk hr (a_cons e_str (a_cons (e_add (e_var 7) e_str) a_nil)))))))
  (s_one (s_ret e_bl))
  s_nil)
 (s_cons (s_if (t_pw (t_orC (t_isN (c_call c_law_told tk hr (a_cons (e_add e_str (e_var 7)) (a_cons e_str a_nil)))) (t_or1 (t_notN (c_call c_law_told tk hr (a_cons (e_add (e_add e_str (e_var 7)) e_str) (a_cons e_str a_nil)))))))
  (s_one (s_ret e_bl))
  s_nil)
 (s_one (s_ret (e_notN (c_call c_law_told tk hr (a_cons e_str (a_cons e_str a_nil)))))))))))
    (pure_law C_TooGreat C_NoText C_NoRule)
theorem all_mk {l : PySem.W.OpenLaw} {w : World} {K : PySem.W.Frag} {h : Heap} {mg : Str → Option Value} {fa f1 f2 f3 f4 f5 f6 f7 f8 f9 f10 f11 f12 f13 f14 f15 f16 f17 f18 f19 f20 f21 f22 f23 f24 f25 f26 f27 f28 f29 f30 f31 f32 f33 f34 f35 f36 f37 dT10 C_TooGreat C_NoText C_NoRule C_MenderError C_NoEdit p_ROW_WORDS : Addr} (X : K.In h) (G : h.Ns mainGlobals mg) (hfa : mg "law" = some (.ref fa))
    {od1 an1 od2 an2 od3 an3 od4 an4 od5 an5 od6 an6 od7 an7 od8 an8 od9 an9 od10 an10 od11 an11 od12 an12 od13 an13 od14 an14 od15 an15 od16 an16 od17 an17 od18 an18 od19 an19 od20 an20 od21 an21 od22 an22 od23 an23 od24 an24 od25 an25 od26 an26 od27 an27 od28 an28 od29 an29 od30 an30 od31 an31 od32 an32 od33 an33 od34 an34 od35 an35 od36 an36 od37 an37 : Option Addr} {sl1 sl2 sl3 sl4 sl5 sl6 sl7 sl8 sl9 sl10 sl11 sl12 sl13 sl14 sl15 sl16 sl17 sl18 sl19 sl20 sl21 sl22 sl23 sl24 sl25 sl26 sl27 sl28 sl29 sl30 sl31 sl32 sl33 sl34 sl35 sl36 sl37 : Array (Option Value)} {oc1 kV1 dc1 pm1 cd1 ct1 oc2 kV2 dc2 pm2 cd2 ct2 oc3 kV3 dc3 pm3 cd3 ct3 oc4 kV4 dc4 pm4 cd4 ct4 oc5 kV5 dc5 pm5 cd5 ct5 oc6 kV6 dc6 pm6 cd6 ct6 oc7 kV7 dc7 pm7 cd7 ct7 oc8 kV8 dc8 pm8 cd8 ct8 oc9 kV9 dc9 pm9 cd9 ct9 oc10 kV10 dc10 pm10 cd10 ct10 oc11 kV11 dc11 pm11 cd11 ct11 oc12 kV12 dc12 pm12 cd12 ct12 oc13 kV13 dc13 pm13 cd13 ct13 oc14 kV14 dc14 pm14 cd14 ct14 oc15 kV15 dc15 pm15 cd15 ct15 oc16 kV16 dc16 pm16 cd16 ct16 oc17 kV17 dc17 pm17 cd17 ct17 oc18 kV18 dc18 pm18 cd18 ct18 oc19 kV19 dc19 pm19 cd19 ct19 oc20 kV20 dc20 pm20 cd20 ct20 oc21 kV21 dc21 pm21 cd21 ct21 oc22 kV22 dc22 pm22 cd22 ct22 oc23 kV23 dc23 pm23 cd23 ct23 oc24 kV24 dc24 pm24 cd24 ct24 oc25 kV25 dc25 pm25 cd25 ct25 oc26 kV26 dc26 pm26 cd26 ct26 oc27 kV27 dc27 pm27 cd27 ct27 oc28 kV28 dc28 pm28 cd28 ct28 oc29 kV29 dc29 pm29 cd29 ct29 oc30 kV30 dc30 pm30 cd30 ct30 oc31 kV31 dc31 pm31 cd31 ct31 oc32 kV32 dc32 pm32 cd32 ct32 oc33 kV33 dc33 pm33 cd33 ct33 oc34 kV34 dc34 pm34 cd34 ct34 oc35 kV35 dc35 pm35 cd35 ct35 oc36 kV36 dc36 pm36 cd36 ct36 oc37 kV37 dc37 pm37 cd37 ct37 : Value}
    (a1 : PySem.W.nsIn K mainGlobals "is_sign" = some (some (.ref f1))) (l1 : K.lookup f1 = some ⟨oc1, od1, .func (PySem.W.fnOf "is_sign" "is_sign" (defArgs s_is_sign) (defBody s_is_sign) (defScope s_is_sign) .none kV1 dc1 pm1 an1 cd1 ct1), sl1⟩) (c1 : PySem.W.codeIn K cd1 "is_sign" = true) (k1 : PySem.W.keepIn K (.ref f1) = true)
    (a2 : PySem.W.nsIn K mainGlobals "deep" = some (some (.ref f2))) (l2 : K.lookup f2 = some ⟨oc2, od2, .func (PySem.W.fnOf "deep" "deep" (defArgs s_deep) (defBody s_deep) (defScope s_deep) .none kV2 dc2 pm2 an2 cd2 ct2), sl2⟩) (c2 : PySem.W.codeIn K cd2 "deep" = true) (k2 : PySem.W.keepIn K (.ref f2) = true)
    (a3 : PySem.W.nsIn K mainGlobals "several" = some (some (.ref f3))) (l3 : K.lookup f3 = some ⟨oc3, od3, .func (PySem.W.fnOf "several" "several" (defArgs s_several) (defBody s_several) (defScope s_several) .none kV3 dc3 pm3 an3 cd3 ct3), sl3⟩) (c3 : PySem.W.codeIn K cd3 "several" = true) (k3 : PySem.W.keepIn K (.ref f3) = true)
    (a4 : PySem.W.nsIn K mainGlobals "begun" = some (some (.ref f4))) (l4 : K.lookup f4 = some ⟨oc4, od4, .func (PySem.W.fnOf "begun" "begun" (defArgs s_begun) (defBody s_begun) (defScope s_begun) .none kV4 dc4 pm4 an4 cd4 ct4), sl4⟩) (c4 : PySem.W.codeIn K cd4 "begun" = true) (k4 : PySem.W.keepIn K (.ref f4) = true)
    (a5 : PySem.W.nsIn K mainGlobals "looked" = some (some (.ref f5))) (l5 : K.lookup f5 = some ⟨oc5, od5, .func (PySem.W.fnOf "looked" "looked" (defArgs s_looked) (defBody s_looked) (defScope s_looked) .none kV5 dc5 pm5 an5 cd5 ct5), sl5⟩) (c5 : PySem.W.codeIn K cd5 "looked" = true) (k5 : PySem.W.keepIn K (.ref f5) = true)
    (a6 : PySem.W.nsIn K mainGlobals "signed" = some (some (.ref f6))) (l6 : K.lookup f6 = some ⟨oc6, od6, .func (PySem.W.fnOf "signed" "signed" (defArgs s_signed) (defBody s_signed) (defScope s_signed) .none kV6 dc6 pm6 an6 cd6 ct6), sl6⟩) (c6 : PySem.W.codeIn K cd6 "signed" = true) (k6 : PySem.W.keepIn K (.ref f6) = true)
    (a7 : PySem.W.nsIn K mainGlobals "multiplied" = some (some (.ref f7))) (l7 : K.lookup f7 = some ⟨oc7, od7, .func (PySem.W.fnOf "multiplied" "multiplied" (defArgs s_multiplied) (defBody s_multiplied) (defScope s_multiplied) .none kV7 dc7 pm7 an7 cd7 ct7), sl7⟩) (c7 : PySem.W.codeIn K cd7 "multiplied" = true) (k7 : PySem.W.keepIn K (.ref f7) = true)
    (a8 : PySem.W.nsIn K mainGlobals "added" = some (some (.ref f8))) (l8 : K.lookup f8 = some ⟨oc8, od8, .func (PySem.W.fnOf "added" "added" (defArgs s_added) (defBody s_added) (defScope s_added) .none kV8 dc8 pm8 an8 cd8 ct8), sl8⟩) (c8 : PySem.W.codeIn K cd8 "added" = true) (k8 : PySem.W.keepIn K (.ref f8) = true)
    (a9 : PySem.W.nsIn K mainGlobals "compared" = some (some (.ref f9))) (l9 : K.lookup f9 = some ⟨oc9, od9, .func (PySem.W.fnOf "compared" "compared" (defArgs s_compared) (defBody s_compared) (defScope s_compared) .none kV9 dc9 pm9 an9 cd9 ct9), sl9⟩) (c9 : PySem.W.codeIn K cd9 "compared" = true) (k9 : PySem.W.keepIn K (.ref f9) = true)
    (a10 : PySem.W.nsIn K mainGlobals "expression" = some (some (.ref f10))) (l10 : K.lookup f10 = some ⟨oc10, od10, .func (PySem.W.fnOf "expression" "expression" (defArgs s_expression) (defBody s_expression) (defScope s_expression) (.ref dT10) kV10 dc10 pm10 an10 cd10 ct10), sl10⟩) (c10 : PySem.W.codeIn K cd10 "expression" = true) (k10 : PySem.W.keepIn K (.ref f10) = true)
    {dcT10 : Value} {ddT10 : Option Addr} {dnT10 : Nat} {dsT10 : Array (Option Value)} {dk10_0 : Tok} (dl10 : K.lookup dT10 = some ⟨dcT10, ddT10, .seq #[.int 0 dk10_0] dnT10, dsT10⟩)
    (a11 : PySem.W.nsIn K mainGlobals "need_text" = some (some (.ref f11))) (l11 : K.lookup f11 = some ⟨oc11, od11, .func (PySem.W.fnOf "need_text" "need_text" (defArgs s_need_text) (defBody s_need_text) (defScope s_need_text) .none kV11 dc11 pm11 an11 cd11 ct11), sl11⟩) (c11 : PySem.W.codeIn K cd11 "need_text" = true) (k11 : PySem.W.keepIn K (.ref f11) = true)
    (a12 : PySem.W.nsIn K mainGlobals "lines_of" = some (some (.ref f12))) (l12 : K.lookup f12 = some ⟨oc12, od12, .func (PySem.W.fnOf "lines_of" "lines_of" (defArgs s_lines_of) (defBody s_lines_of) (defScope s_lines_of) .none kV12 dc12 pm12 an12 cd12 ct12), sl12⟩) (c12 : PySem.W.codeIn K cd12 "lines_of" = true) (k12 : PySem.W.keepIn K (.ref f12) = true)
    (a13 : PySem.W.nsIn K mainGlobals "run_end" = some (some (.ref f13))) (l13 : K.lookup f13 = some ⟨oc13, od13, .func (PySem.W.fnOf "run_end" "run_end" (defArgs s_run_end) (defBody s_run_end) (defScope s_run_end) .none kV13 dc13 pm13 an13 cd13 ct13), sl13⟩) (c13 : PySem.W.codeIn K cd13 "run_end" = true) (k13 : PySem.W.keepIn K (.ref f13) = true)
    (a14 : PySem.W.nsIn K mainGlobals "kind_of" = some (some (.ref f14))) (l14 : K.lookup f14 = some ⟨oc14, od14, .func (PySem.W.fnOf "kind_of" "kind_of" (defArgs s_kind_of) (defBody s_kind_of) (defScope s_kind_of) .none kV14 dc14 pm14 an14 cd14 ct14), sl14⟩) (c14 : PySem.W.codeIn K cd14 "kind_of" = true) (k14 : PySem.W.keepIn K (.ref f14) = true)
    (a15 : PySem.W.nsIn K mainGlobals "leaves_in" = some (some (.ref f15))) (l15 : K.lookup f15 = some ⟨oc15, od15, .func (PySem.W.fnOf "leaves_in" "leaves_in" (defArgs s_leaves_in) (defBody s_leaves_in) (defScope s_leaves_in) .none kV15 dc15 pm15 an15 cd15 ct15), sl15⟩) (c15 : PySem.W.codeIn K cd15 "leaves_in" = true) (k15 : PySem.W.keepIn K (.ref f15) = true)
    (a16 : PySem.W.nsIn K mainGlobals "leaves_of" = some (some (.ref f16))) (l16 : K.lookup f16 = some ⟨oc16, od16, .func (PySem.W.fnOf "leaves_of" "leaves_of" (defArgs s_leaves_of) (defBody s_leaves_of) (defScope s_leaves_of) .none kV16 dc16 pm16 an16 cd16 ct16), sl16⟩) (c16 : PySem.W.codeIn K cd16 "leaves_of" = true) (k16 : PySem.W.keepIn K (.ref f16) = true)
    (a17 : PySem.W.nsIn K mainGlobals "parts_of" = some (some (.ref f17))) (l17 : K.lookup f17 = some ⟨oc17, od17, .func (PySem.W.fnOf "parts_of" "parts_of" (defArgs s_parts_of) (defBody s_parts_of) (defScope s_parts_of) .none kV17 dc17 pm17 an17 cd17 ct17), sl17⟩) (c17 : PySem.W.codeIn K cd17 "parts_of" = true) (k17 : PySem.W.keepIn K (.ref f17) = true)
    (a18 : PySem.W.nsIn K mainGlobals "are_all" = some (some (.ref f18))) (l18 : K.lookup f18 = some ⟨oc18, od18, .func (PySem.W.fnOf "are_all" "are_all" (defArgs s_are_all) (defBody s_are_all) (defScope s_are_all) .none kV18 dc18 pm18 an18 cd18 ct18), sl18⟩) (c18 : PySem.W.codeIn K cd18 "are_all" = true) (k18 : PySem.W.keepIn K (.ref f18) = true)
    (a19 : PySem.W.nsIn K mainGlobals "unbracketed" = some (some (.ref f19))) (l19 : K.lookup f19 = some ⟨oc19, od19, .func (PySem.W.fnOf "unbracketed" "unbracketed" (defArgs s_unbracketed) (defBody s_unbracketed) (defScope s_unbracketed) .none kV19 dc19 pm19 an19 cd19 ct19), sl19⟩) (c19 : PySem.W.codeIn K cd19 "unbracketed" = true) (k19 : PySem.W.keepIn K (.ref f19) = true)
    (a20 : PySem.W.nsIn K mainGlobals "side_of" = some (some (.ref f20))) (l20 : K.lookup f20 = some ⟨oc20, od20, .func (PySem.W.fnOf "side_of" "side_of" (defArgs s_side_of) (defBody s_side_of) (defScope s_side_of) .none kV20 dc20 pm20 an20 cd20 ct20), sl20⟩) (c20 : PySem.W.codeIn K cd20 "side_of" = true) (k20 : PySem.W.keepIn K (.ref f20) = true)
    (a21 : PySem.W.nsIn K mainGlobals "blanks_in" = some (some (.ref f21))) (l21 : K.lookup f21 = some ⟨oc21, od21, .func (PySem.W.fnOf "blanks_in" "blanks_in" (defArgs s_blanks_in) (defBody s_blanks_in) (defScope s_blanks_in) .none kV21 dc21 pm21 an21 cd21 ct21), sl21⟩) (c21 : PySem.W.codeIn K cd21 "blanks_in" = true) (k21 : PySem.W.keepIn K (.ref f21) = true)
    (a22 : PySem.W.nsIn K mainGlobals "degree" = some (some (.ref f22))) (l22 : K.lookup f22 = some ⟨oc22, od22, .func (PySem.W.fnOf "degree" "degree" (defArgs s_degree) (defBody s_degree) (defScope s_degree) .none kV22 dc22 pm22 an22 cd22 ct22), sl22⟩) (c22 : PySem.W.codeIn K cd22 "degree" = true) (k22 : PySem.W.keepIn K (.ref f22) = true)
    (a23 : PySem.W.nsIn K mainGlobals "rule_of" = some (some (.ref f23))) (l23 : K.lookup f23 = some ⟨oc23, od23, .func (PySem.W.fnOf "rule_of" "rule_of" (defArgs s_rule_of) (defBody s_rule_of) (defScope s_rule_of) .none kV23 dc23 pm23 an23 cd23 ct23), sl23⟩) (c23 : PySem.W.codeIn K cd23 "rule_of" = true) (k23 : PySem.W.keepIn K (.ref f23) = true)
    (a24 : PySem.W.nsIn K mainGlobals "blanks_of" = some (some (.ref f24))) (l24 : K.lookup f24 = some ⟨oc24, od24, .func (PySem.W.fnOf "blanks_of" "blanks_of" (defArgs s_blanks_of) (defBody s_blanks_of) (defScope s_blanks_of) .none kV24 dc24 pm24 an24 cd24 ct24), sl24⟩) (c24 : PySem.W.codeIn K cd24 "blanks_of" = true) (k24 : PySem.W.keepIn K (.ref f24) = true)
    (a25 : PySem.W.nsIn K mainGlobals "_law_draws" = some (some (.ref f25))) (l25 : K.lookup f25 = some ⟨oc25, od25, .func (PySem.W.fnOf "_law_draws" "_law_draws" (defArgs s_law_draws) (defBody s_law_draws) (defScope s_law_draws) .none kV25 dc25 pm25 an25 cd25 ct25), sl25⟩) (c25 : PySem.W.codeIn K cd25 "_law_draws" = true) (k25 : PySem.W.keepIn K (.ref f25) = true)
    (a26 : PySem.W.nsIn K mainGlobals "_law_good_rules" = some (some (.ref f26))) (l26 : K.lookup f26 = some ⟨oc26, od26, .func (PySem.W.fnOf "_law_good_rules" "_law_good_rules" (defArgs s_law_good_rules) (defBody s_law_good_rules) (defScope s_law_good_rules) .none kV26 dc26 pm26 an26 cd26 ct26), sl26⟩) (c26 : PySem.W.codeIn K cd26 "_law_good_rules" = true) (k26 : PySem.W.keepIn K (.ref f26) = true)
    (a27 : PySem.W.nsIn K mainGlobals "_law_bad_rules" = some (some (.ref f27))) (l27 : K.lookup f27 = some ⟨oc27, od27, .func (PySem.W.fnOf "_law_bad_rules" "_law_bad_rules" (defArgs s_law_bad_rules) (defBody s_law_bad_rules) (defScope s_law_bad_rules) .none kV27 dc27 pm27 an27 cd27 ct27), sl27⟩) (c27 : PySem.W.codeIn K cd27 "_law_bad_rules" = true) (k27 : PySem.W.keepIn K (.ref f27) = true)
    (a28 : PySem.W.nsIn K mainGlobals "_law_rule_texts" = some (some (.ref f28))) (l28 : K.lookup f28 = some ⟨oc28, od28, .func (PySem.W.fnOf "_law_rule_texts" "_law_rule_texts" (defArgs s_law_rule_texts) (defBody s_law_rule_texts) (defScope s_law_rule_texts) .none kV28 dc28 pm28 an28 cd28 ct28), sl28⟩) (c28 : PySem.W.codeIn K cd28 "_law_rule_texts" = true) (k28 : PySem.W.keepIn K (.ref f28) = true)
    (a29 : PySem.W.nsIn K mainGlobals "_law_named" = some (some (.ref f29))) (l29 : K.lookup f29 = some ⟨oc29, od29, .func (PySem.W.fnOf "_law_named" "_law_named" (defArgs s_law_named) (defBody s_law_named) (defScope s_law_named) .none kV29 dc29 pm29 an29 cd29 ct29), sl29⟩) (c29 : PySem.W.codeIn K cd29 "_law_named" = true) (k29 : PySem.W.keepIn K (.ref f29) = true)
    (a30 : PySem.W.nsIn K mainGlobals "_law_ones" = some (some (.ref f30))) (l30 : K.lookup f30 = some ⟨oc30, od30, .func (PySem.W.fnOf "_law_ones" "_law_ones" (defArgs s_law_ones) (defBody s_law_ones) (defScope s_law_ones) .none kV30 dc30 pm30 an30 cd30 ct30), sl30⟩) (c30 : PySem.W.codeIn K cd30 "_law_ones" = true) (k30 : PySem.W.keepIn K (.ref f30) = true)
    (a31 : PySem.W.nsIn K mainGlobals "_law_blanks" = some (some (.ref f31))) (l31 : K.lookup f31 = some ⟨oc31, od31, .func (PySem.W.fnOf "_law_blanks" "_law_blanks" (defArgs s_law_blanks) (defBody s_law_blanks) (defScope s_law_blanks) .none kV31 dc31 pm31 an31 cd31 ct31), sl31⟩) (c31 : PySem.W.codeIn K cd31 "_law_blanks" = true) (k31 : PySem.W.keepIn K (.ref f31) = true)
    (a32 : PySem.W.nsIn K mainGlobals "_law_told" = some (some (.ref f32))) (l32 : K.lookup f32 = some ⟨oc32, od32, .func (PySem.W.fnOf "_law_told" "_law_told" (defArgs s_law_told) (defBody s_law_told) (defScope s_law_told) .none kV32 dc32 pm32 an32 cd32 ct32), sl32⟩) (c32 : PySem.W.codeIn K cd32 "_law_told" = true) (k32 : PySem.W.keepIn K (.ref f32) = true)
    (a33 : PySem.W.nsIn K mainGlobals "_law_wrong" = some (some (.ref f33))) (l33 : K.lookup f33 = some ⟨oc33, od33, .func (PySem.W.fnOf "_law_wrong" "_law_wrong" (defArgs s_law_wrong) (defBody s_law_wrong) (defScope s_law_wrong) .none kV33 dc33 pm33 an33 cd33 ct33), sl33⟩) (c33 : PySem.W.codeIn K cd33 "_law_wrong" = true) (k33 : PySem.W.keepIn K (.ref f33) = true)
    (a34 : PySem.W.nsIn K mainGlobals "_law_refused" = some (some (.ref f34))) (l34 : K.lookup f34 = some ⟨oc34, od34, .func (PySem.W.fnOf "_law_refused" "_law_refused" (defArgs s_law_refused) (defBody s_law_refused) (defScope s_law_refused) .none kV34 dc34 pm34 an34 cd34 ct34), sl34⟩) (c34 : PySem.W.codeIn K cd34 "_law_refused" = true) (k34 : PySem.W.keepIn K (.ref f34) = true)
    (a35 : PySem.W.nsIn K mainGlobals "_law_pairs_wrong" = some (some (.ref f35))) (l35 : K.lookup f35 = some ⟨oc35, od35, .func (PySem.W.fnOf "_law_pairs_wrong" "_law_pairs_wrong" (defArgs s_law_pairs_wrong) (defBody s_law_pairs_wrong) (defScope s_law_pairs_wrong) .none kV35 dc35 pm35 an35 cd35 ct35), sl35⟩) (c35 : PySem.W.codeIn K cd35 "_law_pairs_wrong" = true) (k35 : PySem.W.keepIn K (.ref f35) = true)
    (a36 : PySem.W.nsIn K mainGlobals "_law_texts_refused" = some (some (.ref f36))) (l36 : K.lookup f36 = some ⟨oc36, od36, .func (PySem.W.fnOf "_law_texts_refused" "_law_texts_refused" (defArgs s_law_texts_refused) (defBody s_law_texts_refused) (defScope s_law_texts_refused) .none kV36 dc36 pm36 an36 cd36 ct36), sl36⟩) (c36 : PySem.W.codeIn K cd36 "_law_texts_refused" = true) (k36 : PySem.W.keepIn K (.ref f36) = true)
    (a37 : PySem.W.nsIn K mainGlobals "law" = some (some (.ref f37))) (l37 : K.lookup f37 = some ⟨oc37, od37, .func (PySem.W.fnOf "law" "law" (defArgs s_law) (defBody s_law) (defScope s_law) .none kV37 dc37 pm37 an37 cd37 ct37), sl37⟩) (c37 : PySem.W.codeIn K cd37 "law" = true) (k37 : PySem.W.keepIn K (.ref f37) = true)
    (z_len : PySem.W.nsIn K mainGlobals "len" = some none)
    (z_max : PySem.W.nsIn K mainGlobals "max" = some none)
    (z_tuple : PySem.W.nsIn K mainGlobals "tuple" = some none)
    (z_int : PySem.W.nsIn K mainGlobals "int" = some none)
    {t_DEEPEST : Tok} (g_DEEPEST : PySem.W.nsIn K mainGlobals "DEEPEST" = some (some (.int 6 t_DEEPEST)))
    {t_MOST_SIGNS : Tok} (g_MOST_SIGNS : PySem.W.nsIn K mainGlobals "MOST_SIGNS" = some (some (.int 2000 t_MOST_SIGNS)))
    (xa_TooGreat : PySem.W.nsIn K mainGlobals "TooGreat" = some (some (.ref C_TooGreat))) (xq_TooGreat : PySem.W.excIn K C_TooGreat [.type "ValueError", .type "Exception", .type "BaseException", .type "object"] "ValueError.__new__" = true) (xk_TooGreat : PySem.W.keepIn K (.ref C_TooGreat) = true) (xb_TooGreat : PySem.W.subIn K (.ref C_TooGreat) (.type "BaseException") = some true) (xt_TooGreat : PySem.W.typeIn K (.ref C_TooGreat) = some (.type "type"))
    {t_LETTERS : Tok} (g_LETTERS : PySem.W.nsIn K mainGlobals "LETTERS" = some (some (.str "abcdefghijklmnopqrstuvwxyz" t_LETTERS)))
    {t_FIGURES : Tok} (g_FIGURES : PySem.W.nsIn K mainGlobals "FIGURES" = some (some (.str "0123456789" t_FIGURES)))
    {t_GREAT : Tok} (g_GREAT : PySem.W.nsIn K mainGlobals "GREAT" = some (some (.str "ABCDEFGHIJKLMNOPQRSTUVWXYZ" t_GREAT)))
    {t_MARKS : Tok} (g_MARKS : PySem.W.nsIn K mainGlobals "MARKS" = some (some (.str " !\"#$&'()*+,-./:;<=>?\x40[\\]^_`{|}~\n" t_MARKS)))
    (xa_NoText : PySem.W.nsIn K mainGlobals "NoText" = some (some (.ref C_NoText))) (xq_NoText : PySem.W.excIn K C_NoText [.type "ValueError", .type "Exception", .type "BaseException", .type "object"] "ValueError.__new__" = true) (xk_NoText : PySem.W.keepIn K (.ref C_NoText) = true) (xb_NoText : PySem.W.subIn K (.ref C_NoText) (.type "BaseException") = some true) (xt_NoText : PySem.W.typeIn K (.ref C_NoText) = some (.type "type"))
    (z_isinstance : PySem.W.nsIn K mainGlobals "isinstance" = some none)
    (z_str : PySem.W.nsIn K mainGlobals "str" = some none)
    {t_SIGNS : Tok} (g_SIGNS : PySem.W.nsIn K mainGlobals "SIGNS" = some (some (.str "()[],=+-*<" t_SIGNS)))
    {t_LONGEST_NUMBER : Tok} (g_LONGEST_NUMBER : PySem.W.nsIn K mainGlobals "LONGEST_NUMBER" = some (some (.int 6 t_LONGEST_NUMBER)))
    {t_LONGEST_NAME : Tok} (g_LONGEST_NAME : PySem.W.nsIn K mainGlobals "LONGEST_NAME" = some (some (.int 8 t_LONGEST_NAME)))
    {dd_ROW_WORDS : Option Addr} {its_ROW_WORDS : Array Value} {n_ROW_WORDS : Nat} {sl_ROW_WORDS : Array (Option Value)} (g_ROW_WORDS : PySem.W.nsIn K mainGlobals "ROW_WORDS" = some (some (.ref p_ROW_WORDS))) (gl_ROW_WORDS : K.lookup p_ROW_WORDS = some ⟨.type "tuple", dd_ROW_WORDS, .seq its_ROW_WORDS n_ROW_WORDS, sl_ROW_WORDS⟩) (gv_ROW_WORDS : vDs its_ROW_WORDS.toList = some [(PyData.str "let"), (PyData.str "set"), (PyData.str "say"), (PyData.str "read"), (PyData.str "fault"), (PyData.str "do"), (PyData.str "if"), (PyData.str "else"), (PyData.str "while"), (PyData.str "block"), (PyData.str "with"), (PyData.str "helper"), (PyData.str "try"), (PyData.str "catch"), (PyData.str "finally"), (PyData.str "end")]) (gz_ROW_WORDS : its_ROW_WORDS.size ≤ sizeLine)
    (z_list : PySem.W.nsIn K mainGlobals "list" = some none)
    (z_all : PySem.W.nsIn K mainGlobals "all" = some none)
    (xa_NoRule : PySem.W.nsIn K mainGlobals "NoRule" = some (some (.ref C_NoRule))) (xq_NoRule : PySem.W.excIn K C_NoRule [.type "ValueError", .type "Exception", .type "BaseException", .type "object"] "ValueError.__new__" = true) (xk_NoRule : PySem.W.keepIn K (.ref C_NoRule) = true) (xb_NoRule : PySem.W.subIn K (.ref C_NoRule) (.type "BaseException") = some true) (xt_NoRule : PySem.W.typeIn K (.ref C_NoRule) = some (.type "type"))
    {t_MOST_LEAVES : Tok} (g_MOST_LEAVES : PySem.W.nsIn K mainGlobals "MOST_LEAVES" = some (some (.int 20 t_MOST_LEAVES)))
    (z_sum : PySem.W.nsIn K mainGlobals "sum" = some none)
    {t_MOST_DEGREE : Tok} (g_MOST_DEGREE : PySem.W.nsIn K mainGlobals "MOST_DEGREE" = some (some (.int 4 t_MOST_DEGREE)))
    (z_sorted : PySem.W.nsIn K mainGlobals "sorted" = some none)
    {t_MOST_BLANKS : Tok} (g_MOST_BLANKS : PySem.W.nsIn K mainGlobals "MOST_BLANKS" = some (some (.int 3 t_MOST_BLANKS)))
    (na_NoRule : PySem.W.nsIn K mainGlobals "NoRule" = some (some (.ref C_NoRule)))
    (na_MenderError : PySem.W.nsIn K mainGlobals "MenderError" = some (some (.ref C_MenderError)))
    (z_enumerate : PySem.W.nsIn K mainGlobals "enumerate" = some none)
    (na_NoEdit : PySem.W.nsIn K mainGlobals "NoEdit" = some (some (.ref C_NoEdit)))
    (na_TooGreat : PySem.W.nsIn K mainGlobals "TooGreat" = some (some (.ref C_TooGreat)))
    (na_NoText : PySem.W.nsIn K mainGlobals "NoText" = some (some (.ref C_NoText)))
    (e_sp : PySem.W.specialIn K (.builtin "object.__class__") "__get__" = some (some (.builtin "getset_descriptor.__get__"))) (e_tk : PySem.W.takesIn K (.builtin "object.__class__") = some true)
    (ea_TooGreat : PySem.W.findIn K (.ref C_TooGreat) "__getattribute__" = some (some (.builtin "BaseException.__getattribute__"))) (eb_TooGreat : PySem.W.findIn K (.ref C_TooGreat) "__getattr__" = some none) (ed_TooGreat : PySem.W.hasDictIn K C_TooGreat = true) (ee_TooGreat : PySem.W.findIn K (.ref C_TooGreat) "__class__" = some (some (.builtin "object.__class__"))) (eh_TooGreat : PySem.W.mroIn K C_TooGreat (.type "object") = some true) (ei_TooGreat : PySem.W.subIn K (.ref C_TooGreat) (.type "BaseException") = some true)
    (ea_NoText : PySem.W.findIn K (.ref C_NoText) "__getattribute__" = some (some (.builtin "BaseException.__getattribute__"))) (eb_NoText : PySem.W.findIn K (.ref C_NoText) "__getattr__" = some none) (ed_NoText : PySem.W.hasDictIn K C_NoText = true) (ee_NoText : PySem.W.findIn K (.ref C_NoText) "__class__" = some (some (.builtin "object.__class__"))) (eh_NoText : PySem.W.mroIn K C_NoText (.type "object") = some true) (ei_NoText : PySem.W.subIn K (.ref C_NoText) (.type "BaseException") = some true)
    (ea_NoRule : PySem.W.findIn K (.ref C_NoRule) "__getattribute__" = some (some (.builtin "BaseException.__getattribute__"))) (eb_NoRule : PySem.W.findIn K (.ref C_NoRule) "__getattr__" = some none) (ed_NoRule : PySem.W.hasDictIn K C_NoRule = true) (ee_NoRule : PySem.W.findIn K (.ref C_NoRule) "__class__" = some (some (.builtin "object.__class__"))) (eh_NoRule : PySem.W.mroIn K C_NoRule (.type "object") = some true) (ei_NoRule : PySem.W.subIn K (.ref C_NoRule) (.type "BaseException") = some true)
    (db_NoRule : PySem.W.subIn K (.ref C_NoRule) (.type "BaseException") = some true) (dt_NoRule : PySem.W.typeIn K (.ref C_NoRule) = some (.type "type")) (dd_NoRule : PySem.W.hasDictIn K C_NoRule = true) (ds_NoRule : PySem.W.subIn K (.ref C_NoRule) (.ref C_NoRule) = some true)
    (db_MenderError : PySem.W.subIn K (.ref C_MenderError) (.type "BaseException") = some true) (dt_MenderError : PySem.W.typeIn K (.ref C_MenderError) = some (.type "type")) (dd_MenderError : PySem.W.hasDictIn K C_MenderError = true) (ds_MenderError : PySem.W.subIn K (.ref C_MenderError) (.ref C_MenderError) = some true)
    (db_NoEdit : PySem.W.subIn K (.ref C_NoEdit) (.type "BaseException") = some true) (dt_NoEdit : PySem.W.typeIn K (.ref C_NoEdit) = some (.type "type")) (dd_NoEdit : PySem.W.hasDictIn K C_NoEdit = true) (ds_NoEdit : PySem.W.subIn K (.ref C_NoEdit) (.ref C_NoEdit) = some true)
    (db_TooGreat : PySem.W.subIn K (.ref C_TooGreat) (.type "BaseException") = some true) (dt_TooGreat : PySem.W.typeIn K (.ref C_TooGreat) = some (.type "type")) (dd_TooGreat : PySem.W.hasDictIn K C_TooGreat = true) (ds_TooGreat : PySem.W.subIn K (.ref C_TooGreat) (.ref C_TooGreat) = some true)
    (db_NoText : PySem.W.subIn K (.ref C_NoText) (.type "BaseException") = some true) (dt_NoText : PySem.W.typeIn K (.ref C_NoText) = some (.type "type")) (dd_NoText : PySem.W.hasDictIn K C_NoText = true) (ds_NoText : PySem.W.subIn K (.ref C_NoText) (.ref C_NoText) = some true)
    (m_TooGreat_NoRule : PySem.W.subIn K (.ref C_TooGreat) (.ref C_NoRule) = some false)
    (m_TooGreat_MenderError : PySem.W.subIn K (.ref C_TooGreat) (.ref C_MenderError) = some true)
    (m_TooGreat_NoEdit : PySem.W.subIn K (.ref C_TooGreat) (.ref C_NoEdit) = some false)
    (m_TooGreat_TooGreat : PySem.W.subIn K (.ref C_TooGreat) (.ref C_TooGreat) = some true)
    (m_TooGreat_NoText : PySem.W.subIn K (.ref C_TooGreat) (.ref C_NoText) = some false)
    (m_NoText_NoRule : PySem.W.subIn K (.ref C_NoText) (.ref C_NoRule) = some false)
    (m_NoText_MenderError : PySem.W.subIn K (.ref C_NoText) (.ref C_MenderError) = some true)
    (m_NoText_NoEdit : PySem.W.subIn K (.ref C_NoText) (.ref C_NoEdit) = some false)
    (m_NoText_TooGreat : PySem.W.subIn K (.ref C_NoText) (.ref C_TooGreat) = some false)
    (m_NoText_NoText : PySem.W.subIn K (.ref C_NoText) (.ref C_NoText) = some true)
    (m_NoRule_NoRule : PySem.W.subIn K (.ref C_NoRule) (.ref C_NoRule) = some true)
    (m_NoRule_MenderError : PySem.W.subIn K (.ref C_NoRule) (.ref C_MenderError) = some true)
    (m_NoRule_NoEdit : PySem.W.subIn K (.ref C_NoRule) (.ref C_NoEdit) = some false)
    (m_NoRule_TooGreat : PySem.W.subIn K (.ref C_NoRule) (.ref C_TooGreat) = some false)
    (m_NoRule_NoText : PySem.W.subIn K (.ref C_NoRule) (.ref C_NoText) = some false)
    : ∃ fd : FuncData, (∀ (s : Shared) (u : Value), BindsTo s fd ⟨[u], []⟩ [("_law_script", u)]) ∧ ∀ base : Heap, K.In base → base.Ns mainGlobals mg → FnOk l.prog w K mg base (L2N.CX l.prog w) 118 fa fd ["_law_script"] (spOf K lawS) := by
  have e := hfa.symm.trans (PySem.W.mg_of X G a37)
  cases e
  have T : Txt K mg C_TooGreat C_NoText C_NoRule C_MenderError C_NoEdit := ⟨PySem.W.mg_none_of X G z_len, PySem.W.mg_none_of X G z_max, PySem.W.mg_none_of X G z_tuple, PySem.W.mg_none_of X G z_int, ⟨_, PySem.W.mg_of X G g_DEEPEST⟩, ⟨_, PySem.W.mg_of X G g_MOST_SIGNS⟩, ⟨PySem.W.mg_of X G xa_TooGreat, xq_TooGreat, xk_TooGreat, xb_TooGreat, xt_TooGreat⟩, ⟨_, PySem.W.mg_of X G g_LETTERS⟩, ⟨_, PySem.W.mg_of X G g_FIGURES⟩, ⟨_, PySem.W.mg_of X G g_GREAT⟩, ⟨_, PySem.W.mg_of X G g_MARKS⟩, ⟨PySem.W.mg_of X G xa_NoText, xq_NoText, xk_NoText, xb_NoText, xt_NoText⟩, PySem.W.mg_none_of X G z_isinstance, PySem.W.mg_none_of X G z_str, ⟨_, PySem.W.mg_of X G g_SIGNS⟩, ⟨_, PySem.W.mg_of X G g_LONGEST_NUMBER⟩, ⟨_, PySem.W.mg_of X G g_LONGEST_NAME⟩, gtup_mk X G g_ROW_WORDS gl_ROW_WORDS gv_ROW_WORDS gz_ROW_WORDS, PySem.W.mg_none_of X G z_list, PySem.W.mg_none_of X G z_all, ⟨PySem.W.mg_of X G xa_NoRule, xq_NoRule, xk_NoRule, xb_NoRule, xt_NoRule⟩, ⟨_, PySem.W.mg_of X G g_MOST_LEAVES⟩, PySem.W.mg_none_of X G z_sum, ⟨_, PySem.W.mg_of X G g_MOST_DEGREE⟩, PySem.W.mg_none_of X G z_sorted, ⟨_, PySem.W.mg_of X G g_MOST_BLANKS⟩, PySem.W.mg_of X G na_NoRule, PySem.W.mg_of X G na_MenderError, PySem.W.mg_none_of X G z_enumerate, PySem.W.mg_of X G na_NoEdit, PySem.W.mg_of X G na_TooGreat, PySem.W.mg_of X G na_NoText, ⟨mx_ref ⟨ea_TooGreat, eb_TooGreat, ei_TooGreat, ed_TooGreat, ee_TooGreat, e_sp, e_tk, eh_TooGreat⟩ ⟨db_NoRule, dt_NoRule, dd_NoRule, ds_NoRule⟩ m_TooGreat_NoRule, mx_ref ⟨ea_TooGreat, eb_TooGreat, ei_TooGreat, ed_TooGreat, ee_TooGreat, e_sp, e_tk, eh_TooGreat⟩ ⟨db_MenderError, dt_MenderError, dd_MenderError, ds_MenderError⟩ m_TooGreat_MenderError, mx_ref ⟨ea_TooGreat, eb_TooGreat, ei_TooGreat, ed_TooGreat, ee_TooGreat, e_sp, e_tk, eh_TooGreat⟩ ⟨db_NoEdit, dt_NoEdit, dd_NoEdit, ds_NoEdit⟩ m_TooGreat_NoEdit, mx_ref ⟨ea_TooGreat, eb_TooGreat, ei_TooGreat, ed_TooGreat, ee_TooGreat, e_sp, e_tk, eh_TooGreat⟩ ⟨db_TooGreat, dt_TooGreat, dd_TooGreat, ds_TooGreat⟩ m_TooGreat_TooGreat, mx_ref ⟨ea_TooGreat, eb_TooGreat, ei_TooGreat, ed_TooGreat, ee_TooGreat, e_sp, e_tk, eh_TooGreat⟩ ⟨db_NoText, dt_NoText, dd_NoText, ds_NoText⟩ m_TooGreat_NoText, mx_ref ⟨ea_NoText, eb_NoText, ei_NoText, ed_NoText, ee_NoText, e_sp, e_tk, eh_NoText⟩ ⟨db_NoRule, dt_NoRule, dd_NoRule, ds_NoRule⟩ m_NoText_NoRule, mx_ref ⟨ea_NoText, eb_NoText, ei_NoText, ed_NoText, ee_NoText, e_sp, e_tk, eh_NoText⟩ ⟨db_MenderError, dt_MenderError, dd_MenderError, ds_MenderError⟩ m_NoText_MenderError, mx_ref ⟨ea_NoText, eb_NoText, ei_NoText, ed_NoText, ee_NoText, e_sp, e_tk, eh_NoText⟩ ⟨db_NoEdit, dt_NoEdit, dd_NoEdit, ds_NoEdit⟩ m_NoText_NoEdit, mx_ref ⟨ea_NoText, eb_NoText, ei_NoText, ed_NoText, ee_NoText, e_sp, e_tk, eh_NoText⟩ ⟨db_TooGreat, dt_TooGreat, dd_TooGreat, ds_TooGreat⟩ m_NoText_TooGreat, mx_ref ⟨ea_NoText, eb_NoText, ei_NoText, ed_NoText, ee_NoText, e_sp, e_tk, eh_NoText⟩ ⟨db_NoText, dt_NoText, dd_NoText, ds_NoText⟩ m_NoText_NoText, mx_ref ⟨ea_NoRule, eb_NoRule, ei_NoRule, ed_NoRule, ee_NoRule, e_sp, e_tk, eh_NoRule⟩ ⟨db_NoRule, dt_NoRule, dd_NoRule, ds_NoRule⟩ m_NoRule_NoRule, mx_ref ⟨ea_NoRule, eb_NoRule, ei_NoRule, ed_NoRule, ee_NoRule, e_sp, e_tk, eh_NoRule⟩ ⟨db_MenderError, dt_MenderError, dd_MenderError, ds_MenderError⟩ m_NoRule_MenderError, mx_ref ⟨ea_NoRule, eb_NoRule, ei_NoRule, ed_NoRule, ee_NoRule, e_sp, e_tk, eh_NoRule⟩ ⟨db_NoEdit, dt_NoEdit, dd_NoEdit, ds_NoEdit⟩ m_NoRule_NoEdit, mx_ref ⟨ea_NoRule, eb_NoRule, ei_NoRule, ed_NoRule, ee_NoRule, e_sp, e_tk, eh_NoRule⟩ ⟨db_TooGreat, dt_TooGreat, dd_TooGreat, ds_TooGreat⟩ m_NoRule_TooGreat, mx_ref ⟨ea_NoRule, eb_NoRule, ei_NoRule, ed_NoRule, ee_NoRule, e_sp, e_tk, eh_NoRule⟩ ⟨db_NoText, dt_NoText, dd_NoText, ds_NoText⟩ m_NoRule_NoText⟩⟩
  have D_is_sign : Dfd K mg "is_sign" ["leaves", "at", "signs"] s_is_sign := dfd_mk X G a1 l1 c1 k1 (fun _ _ _ _ _ _ us hl => match us, hl with | [_, _, _], _ => rfl)
  have D_deep : Dfd K mg "deep" ["knot"] s_deep := dfd_mk X G a2 l2 c2 k2 (fun _ _ _ _ _ _ us hl => match us, hl with | [_], _ => rfl)
  have D_several : Dfd K mg "several" ["leaves", "at", "room", "close"] s_several := dfd_mk X G a3 l3 c3 k3 (fun _ _ _ _ _ _ us hl => match us, hl with | [_, _, _, _], _ => rfl)
  have D_begun : Dfd K mg "begun" ["leaves", "at", "room"] s_begun := dfd_mk X G a4 l4 c4 k4 (fun _ _ _ _ _ _ us hl => match us, hl with | [_, _, _], _ => rfl)
  have D_looked : Dfd K mg "looked" ["leaves", "at", "room"] s_looked := dfd_mk X G a5 l5 c5 k5 (fun _ _ _ _ _ _ us hl => match us, hl with | [_, _, _], _ => rfl)
  have D_signed : Dfd K mg "signed" ["leaves", "at", "room"] s_signed := dfd_mk X G a6 l6 c6 k6 (fun _ _ _ _ _ _ us hl => match us, hl with | [_, _, _], _ => rfl)
  have D_multiplied : Dfd K mg "multiplied" ["leaves", "at", "room"] s_multiplied := dfd_mk X G a7 l7 c7 k7 (fun _ _ _ _ _ _ us hl => match us, hl with | [_, _, _], _ => rfl)
  have D_added : Dfd K mg "added" ["leaves", "at", "room"] s_added := dfd_mk X G a8 l8 c8 k8 (fun _ _ _ _ _ _ us hl => match us, hl with | [_, _, _], _ => rfl)
  have D_compared : Dfd K mg "compared" ["leaves", "at", "room"] s_compared := dfd_mk X G a9 l9 c9 k9 (fun _ _ _ _ _ _ us hl => match us, hl with | [_, _, _], _ => rfl)
  have D_expression : DfdD K mg "expression" ["leaves", "at"] s_expression [V.int 0] := dfdD_mk X G a10 l10 c10 k10 dl10 (.cons ⟨_, rfl⟩ (.nil)) (fun z => nomatch z) (fun _ _ _ _ _ _ _ us is hl hi => match us, hl, is, hi with | [_, _], _, [_], _ => ⟨_, rfl, rfl⟩) (fun _ _ _ _ _ _ _ us is hl hi => by
    match is, hi with
    | [_], _ =>
      have h2 : us.length = 1 := by simp at hl; omega
      match us, h2 with
      | [_], _ => exact ⟨_, rfl, rfl⟩)
  have D_need_text : Dfd K mg "need_text" ["text"] s_need_text := dfd_mk X G a11 l11 c11 k11 (fun _ _ _ _ _ _ us hl => match us, hl with | [_], _ => rfl)
  have D_lines_of : Dfd K mg "lines_of" ["text"] s_lines_of := dfd_mk X G a12 l12 c12 k12 (fun _ _ _ _ _ _ us hl => match us, hl with | [_], _ => rfl)
  have D_run_end : Dfd K mg "run_end" ["line", "at", "signs"] s_run_end := dfd_mk X G a13 l13 c13 k13 (fun _ _ _ _ _ _ us hl => match us, hl with | [_, _, _], _ => rfl)
  have D_kind_of : Dfd K mg "kind_of" ["word"] s_kind_of := dfd_mk X G a14 l14 c14 k14 (fun _ _ _ _ _ _ us hl => match us, hl with | [_], _ => rfl)
  have D_leaves_in : Dfd K mg "leaves_in" ["line", "begin"] s_leaves_in := dfd_mk X G a15 l15 c15 k15 (fun _ _ _ _ _ _ us hl => match us, hl with | [_, _], _ => rfl)
  have D_leaves_of : Dfd K mg "leaves_of" ["text"] s_leaves_of := dfd_mk X G a16 l16 c16 k16 (fun _ _ _ _ _ _ us hl => match us, hl with | [_], _ => rfl)
  have D_parts_of : Dfd K mg "parts_of" ["knot"] s_parts_of := dfd_mk X G a17 l17 c17 k17 (fun _ _ _ _ _ _ us hl => match us, hl with | [_], _ => rfl)
  have D_are_all : Dfd K mg "are_all" ["knot", "kinds"] s_are_all := dfd_mk X G a18 l18 c18 k18 (fun _ _ _ _ _ _ us hl => match us, hl with | [_, _], _ => rfl)
  have D_unbracketed : Dfd K mg "unbracketed" ["knot"] s_unbracketed := dfd_mk X G a19 l19 c19 k19 (fun _ _ _ _ _ _ us hl => match us, hl with | [_], _ => rfl)
  have D_side_of : Dfd K mg "side_of" ["text"] s_side_of := dfd_mk X G a20 l20 c20 k20 (fun _ _ _ _ _ _ us hl => match us, hl with | [_], _ => rfl)
  have D_blanks_in : Dfd K mg "blanks_in" ["knot"] s_blanks_in := dfd_mk X G a21 l21 c21 k21 (fun _ _ _ _ _ _ us hl => match us, hl with | [_], _ => rfl)
  have D_degree : Dfd K mg "degree" ["knot", "word"] s_degree := dfd_mk X G a22 l22 c22 k22 (fun _ _ _ _ _ _ us hl => match us, hl with | [_, _], _ => rfl)
  have D_rule_of : Dfd K mg "rule_of" ["one", "other"] s_rule_of := dfd_mk X G a23 l23 c23 k23 (fun _ _ _ _ _ _ us hl => match us, hl with | [_, _], _ => rfl)
  have D_blanks_of : Dfd K mg "blanks_of" ["rule"] s_blanks_of := dfd_mk X G a24 l24 c24 k24 (fun _ _ _ _ _ _ us hl => match us, hl with | [_], _ => rfl)
  have D_law_draws : Dfd K mg "_law_draws" ["_law_number", "_law_sizes"] s_law_draws := dfd_mk X G a25 l25 c25 k25 (fun _ _ _ _ _ _ us hl => match us, hl with | [_, _], _ => rfl)
  have D_law_good_rules : Dfd K mg "_law_good_rules" [] s_law_good_rules := dfd_mk X G a26 l26 c26 k26 (fun _ _ _ _ _ _ us hl => match us, hl with | [], _ => rfl)
  have D_law_bad_rules : Dfd K mg "_law_bad_rules" [] s_law_bad_rules := dfd_mk X G a27 l27 c27 k27 (fun _ _ _ _ _ _ us hl => match us, hl with | [], _ => rfl)
  have D_law_rule_texts : Dfd K mg "_law_rule_texts" ["_law_number"] s_law_rule_texts := dfd_mk X G a28 l28 c28 k28 (fun _ _ _ _ _ _ us hl => match us, hl with | [_], _ => rfl)
  have D_law_named : Dfd K mg "_law_named" ["_law_side", "_law_names"] s_law_named := dfd_mk X G a29 l29 c29 k29 (fun _ _ _ _ _ _ us hl => match us, hl with | [_, _], _ => rfl)
  have D_law_ones : Dfd K mg "_law_ones" ["_law_knot"] s_law_ones := dfd_mk X G a30 l30 c30 k30 (fun _ _ _ _ _ _ us hl => match us, hl with | [_], _ => rfl)
  have D_law_blanks : Dfd K mg "_law_blanks" ["_law_knot"] s_law_blanks := dfd_mk X G a31 l31 c31 k31 (fun _ _ _ _ _ _ us hl => match us, hl with | [_], _ => rfl)
  have D_law_told : Dfd K mg "_law_told" ["_law_one", "_law_other"] s_law_told := dfd_mk X G a32 l32 c32 k32 (fun _ _ _ _ _ _ us hl => match us, hl with | [_, _], _ => rfl)
  have D_law_wrong : Dfd K mg "_law_wrong" ["_law_number"] s_law_wrong := dfd_mk X G a33 l33 c33 k33 (fun _ _ _ _ _ _ us hl => match us, hl with | [_], _ => rfl)
  have D_law_refused : Dfd K mg "_law_refused" ["_law_one", "_law_other"] s_law_refused := dfd_mk X G a34 l34 c34 k34 (fun _ _ _ _ _ _ us hl => match us, hl with | [_, _], _ => rfl)
  have D_law_pairs_wrong : Dfd K mg "_law_pairs_wrong" ["_law_cell"] s_law_pairs_wrong := dfd_mk X G a35 l35 c35 k35 (fun _ _ _ _ _ _ us hl => match us, hl with | [_], _ => rfl)
  have D_law_texts_refused : Dfd K mg "_law_texts_refused" ["_law_cell"] s_law_texts_refused := dfd_mk X G a36 l36 c36 k36 (fun _ _ _ _ _ _ us hl => match us, hl with | [_], _ => rfl)
  refine ⟨PySem.W.fnOf "law" "law" (defArgs s_law) (defBody s_law) (defScope s_law) .none kV37 dc37 pm37 an37 cd37 ct37, fun s u => .of_eq rfl, fun base _ _ => ?_⟩
  have c_parts_of : Cal l.prog w K mg base 1 "parts_of" ["knot"] S_parts_of := ok_parts_of T D_parts_of
  have r_rec_degree := rec_degree (P := l.prog) (w := w) (base := base) T D_degree c_parts_of 50
  have c_degree : Cal l.prog w K mg base 52 "degree" ["knot", "word"] (S_degree 50) := r_rec_degree
  have r_rec_blanks_in := rec_blanks_in (P := l.prog) (w := w) (base := base) T D_blanks_in c_parts_of 50
  have c_blanks_in : Cal l.prog w K mg base 52 "blanks_in" ["knot"] (S_blanks_in 50) := r_rec_blanks_in
  have c_unbracketed : Cal l.prog w K mg base 1 "unbracketed" ["knot"] S_unbracketed := ok_unbracketed T D_unbracketed
  have r_rec_are_all := rec_are_all (P := l.prog) (w := w) (base := base) T D_are_all c_parts_of 50
  have c_are_all : Cal l.prog w K mg base 52 "are_all" ["knot", "kinds"] (S_are_all 50) := r_rec_are_all
  have c_is_sign : Cal l.prog w K mg base 1 "is_sign" ["leaves", "at", "signs"] S_is_sign := ok_is_sign T D_is_sign
  have r_rec_deep := rec_deep (P := l.prog) (w := w) (base := base) T D_deep 60
  have c_deep : Cal l.prog w K mg base 61 "deep" ["knot"] (S_deep 60) := r_rec_deep
  have r_rec_several := rec_several (P := l.prog) (w := w) (base := base) T D_several D_begun D_looked D_signed D_multiplied D_added D_compared c_is_sign c_deep 50
  have c_several : Cal l.prog w K mg base 112 "several" ["leaves", "at", "room", "close"] (S_several 50) := r_rec_several.1
  have c_begun : Cal l.prog w K mg base 112 "begun" ["leaves", "at", "room"] (S_begun 50) := r_rec_several.2.1
  have c_looked : Cal l.prog w K mg base 112 "looked" ["leaves", "at", "room"] (S_looked 50) := r_rec_several.2.2.1
  have c_signed : Cal l.prog w K mg base 112 "signed" ["leaves", "at", "room"] (S_signed 50) := r_rec_several.2.2.2.1
  have c_multiplied : Cal l.prog w K mg base 112 "multiplied" ["leaves", "at", "room"] (S_multiplied 50) := r_rec_several.2.2.2.2.1
  have c_added : Cal l.prog w K mg base 112 "added" ["leaves", "at", "room"] (S_added 50) := r_rec_several.2.2.2.2.2.1
  have c_compared : Cal l.prog w K mg base 112 "compared" ["leaves", "at", "room"] (S_compared 50) := r_rec_several.2.2.2.2.2.2
  have c_expression : CalD l.prog w K mg base 113 "expression" ["leaves", "at"] S_expression [V.int 0] := ok_expression T D_expression c_compared
  have c_need_text : Cal l.prog w K mg base 1 "need_text" ["text"] (S_need_text C_NoText C_TooGreat) := ok_need_text T D_need_text
  have c_lines_of : Cal l.prog w K mg base 2 "lines_of" ["text"] (S_lines_of C_NoText C_TooGreat) := ok_lines_of T D_lines_of c_need_text
  have c_kind_of : Cal l.prog w K mg base 1 "kind_of" ["word"] S_kind_of := ok_kind_of T D_kind_of
  have c_run_end : Cal l.prog w K mg base 1 "run_end" ["line", "at", "signs"] S_run_end := ok_run_end T D_run_end
  have c_leaves_in : Cal l.prog w K mg base 2 "leaves_in" ["line", "begin"] S_leaves_in := ok_leaves_in T D_leaves_in c_kind_of c_run_end
  have c_leaves_of : Cal l.prog w K mg base 3 "leaves_of" ["text"] (S_leaves_of C_NoText C_TooGreat) := ok_leaves_of T D_leaves_of c_lines_of c_leaves_in
  have c_side_of : Cal l.prog w K mg base 114 "side_of" ["text"] (S_side_of C_NoText C_TooGreat C_NoRule) := ok_side_of T D_side_of c_unbracketed c_are_all c_expression c_leaves_of
  have c_rule_of : Cal l.prog w K mg base 115 "rule_of" ["one", "other"] (S_rule_of C_NoText C_TooGreat C_NoRule) := ok_rule_of T D_rule_of c_degree c_blanks_in c_side_of c_need_text
  have c_law_told : Cal l.prog w K mg base 116 "_law_told" ["_law_one", "_law_other"] (S_law_told C_NoText C_TooGreat C_NoRule) := ok_law_told T D_law_told c_rule_of
  have c_law_refused : Cal l.prog w K mg base 116 "_law_refused" ["_law_one", "_law_other"] (S_law_refused C_NoText C_TooGreat C_NoRule) := ok_law_refused T D_law_refused c_rule_of
  have c_law_pairs_wrong : Cal l.prog w K mg base 117 "_law_pairs_wrong" ["_law_cell"] S_law_pairs_wrong := ok_law_pairs_wrong T D_law_pairs_wrong c_law_refused
  have c_law_texts_refused : Cal l.prog w K mg base 117 "_law_texts_refused" ["_law_cell"] S_law_texts_refused := ok_law_texts_refused T D_law_texts_refused c_law_refused
  have c_law_wrong : Cal l.prog w K mg base 1 "_law_wrong" ["_law_number"] S_law_wrong := ok_law_wrong T D_law_wrong
  have c_blanks_of : Cal l.prog w K mg base 53 "blanks_of" ["rule"] S_blanks_of := ok_blanks_of T D_blanks_of c_blanks_in
  have c_law_ones : Cal l.prog w K mg base 1 "_law_ones" ["_law_knot"] S_law_ones := ok_law_ones T D_law_ones
  have r_rec_law_blanks := rec_law_blanks (P := l.prog) (w := w) (base := base) T D_law_blanks c_law_ones 50
  have c_law_blanks : Cal l.prog w K mg base 52 "_law_blanks" ["_law_knot"] (S_law_blanks 50) := r_rec_law_blanks
  have c_law_named : Cal l.prog w K mg base 1 "_law_named" ["_law_side", "_law_names"] S_law_named := ok_law_named T D_law_named
  have c_law_bad_rules : Cal l.prog w K mg base 1 "_law_bad_rules" [] S_law_bad_rules := ok_law_bad_rules T D_law_bad_rules
  have c_law_good_rules : Cal l.prog w K mg base 1 "_law_good_rules" [] S_law_good_rules := ok_law_good_rules T D_law_good_rules
  have c_law_draws : Cal l.prog w K mg base 1 "_law_draws" ["_law_number", "_law_sizes"] S_law_draws := ok_law_draws T D_law_draws
  have c_law_rule_texts : Cal l.prog w K mg base 2 "_law_rule_texts" ["_law_number"] S_law_rule_texts := ok_law_rule_texts T D_law_rule_texts c_law_named c_law_bad_rules c_law_good_rules c_law_draws
  exact ok_law T (fun_mk (st := s_law) l37 c37 k37) c_law_told c_law_pairs_wrong c_law_texts_refused c_law_wrong c_blanks_of c_law_blanks c_leaves_of c_expression c_law_rule_texts
end K59
open PySem PySem.W PyProof.Rows
set_option maxRecDepth 100000 in
set_option maxHeartbeats 0 in
theorem PySem.Challenge.cw_mender_k59_rules_read_holds : PySem.Challenge.rw_mender_k59_rules_read.Holds := by
  w_on; o_law; k_head; (case hw => w_witness2)
  k_fill
  refine PW.law_of (l := PySem.Challenge.rw_mender_k59_rules_read) (k := 118) (x := "_law_script") rfl rfl ⟨rfl, by decide, by decide⟩ (fun w h Y => PySem.W.kIn_of Y) ?F
  case F =>
    intro w mg fa h KX G hmg
    refine' K59.all_mk KX G hmg ?a1 ?l1 ?c1 ?k1 ?a2 ?l2 ?c2 ?k2 ?a3 ?l3 ?c3 ?k3 ?a4 ?l4 ?c4 ?k4 ?a5 ?l5 ?c5 ?k5 ?a6 ?l6 ?c6 ?k6 ?a7 ?l7 ?c7 ?k7 ?a8 ?l8 ?c8 ?k8 ?a9 ?l9 ?c9 ?k9 ?dl10 ?a10 ?l10 ?c10 ?k10 ?a11 ?l11 ?c11 ?k11 ?a12 ?l12 ?c12 ?k12 ?a13 ?l13 ?c13 ?k13 ?a14 ?l14 ?c14 ?k14 ?a15 ?l15 ?c15 ?k15 ?a16 ?l16 ?c16 ?k16 ?a17 ?l17 ?c17 ?k17 ?a18 ?l18 ?c18 ?k18 ?a19 ?l19 ?c19 ?k19 ?a20 ?l20 ?c20 ?k20 ?a21 ?l21 ?c21 ?k21 ?a22 ?l22 ?c22 ?k22 ?a23 ?l23 ?c23 ?k23 ?a24 ?l24 ?c24 ?k24 ?a25 ?l25 ?c25 ?k25 ?a26 ?l26 ?c26 ?k26 ?a27 ?l27 ?c27 ?k27 ?a28 ?l28 ?c28 ?k28 ?a29 ?l29 ?c29 ?k29 ?a30 ?l30 ?c30 ?k30 ?a31 ?l31 ?c31 ?k31 ?a32 ?l32 ?c32 ?k32 ?a33 ?l33 ?c33 ?k33 ?a34 ?l34 ?c34 ?k34 ?a35 ?l35 ?c35 ?k35 ?a36 ?l36 ?c36 ?k36 ?a37 ?l37 ?c37 ?k37 ?z_len ?z_max ?z_tuple ?z_int ?g_DEEPEST ?g_MOST_SIGNS ?xa_TooGreat ?xq_TooGreat ?xk_TooGreat ?xb_TooGreat ?xt_TooGreat ?g_LETTERS ?g_FIGURES ?g_GREAT ?g_MARKS ?xa_NoText ?xq_NoText ?xk_NoText ?xb_NoText ?xt_NoText ?z_isinstance ?z_str ?g_SIGNS ?g_LONGEST_NUMBER ?g_LONGEST_NAME ?g_ROW_WORDS ?gl_ROW_WORDS ?gv_ROW_WORDS ?gz_ROW_WORDS ?z_list ?z_all ?xa_NoRule ?xq_NoRule ?xk_NoRule ?xb_NoRule ?xt_NoRule ?g_MOST_LEAVES ?z_sum ?g_MOST_DEGREE ?z_sorted ?g_MOST_BLANKS ?na_NoRule ?na_MenderError ?z_enumerate ?na_NoEdit ?na_TooGreat ?na_NoText ?e_sp ?e_tk ?ea_TooGreat ?eb_TooGreat ?ed_TooGreat ?ee_TooGreat ?eh_TooGreat ?ei_TooGreat ?ea_NoText ?eb_NoText ?ed_NoText ?ee_NoText ?eh_NoText ?ei_NoText ?ea_NoRule ?eb_NoRule ?ed_NoRule ?ee_NoRule ?eh_NoRule ?ei_NoRule ?db_NoRule ?dt_NoRule ?dd_NoRule ?ds_NoRule ?db_MenderError ?dt_MenderError ?dd_MenderError ?ds_MenderError ?db_NoEdit ?dt_NoEdit ?dd_NoEdit ?ds_NoEdit ?db_TooGreat ?dt_TooGreat ?dd_TooGreat ?ds_TooGreat ?db_NoText ?dt_NoText ?dd_NoText ?ds_NoText ?m_TooGreat_NoRule ?m_TooGreat_MenderError ?m_TooGreat_NoEdit ?m_TooGreat_TooGreat ?m_TooGreat_NoText ?m_NoText_NoRule ?m_NoText_MenderError ?m_NoText_NoEdit ?m_NoText_TooGreat ?m_NoText_NoText ?m_NoRule_NoRule ?m_NoRule_MenderError ?m_NoRule_NoEdit ?m_NoRule_TooGreat ?m_NoRule_NoText
    (case a1 => k_is)
    (case l1 => k_is)
    (case c1 => k_is)
    (case k1 => k_is)
    (case a2 => k_is)
    (case l2 => k_is)
    (case c2 => k_is)
    (case k2 => k_is)
    (case a3 => k_is)
    (case l3 => k_is)
    (case c3 => k_is)
    (case k3 => k_is)
    (case a4 => k_is)
    (case l4 => k_is)
    (case c4 => k_is)
    (case k4 => k_is)
    (case a5 => k_is)
    (case l5 => k_is)
    (case c5 => k_is)
    (case k5 => k_is)
    (case a6 => k_is)
    (case l6 => k_is)
    (case c6 => k_is)
    (case k6 => k_is)
    (case a7 => k_is)
    (case l7 => k_is)
    (case c7 => k_is)
    (case k7 => k_is)
    (case a8 => k_is)
    (case l8 => k_is)
    (case c8 => k_is)
    (case k8 => k_is)
    (case a9 => k_is)
    (case l9 => k_is)
    (case c9 => k_is)
    (case k9 => k_is)
    (case dl10 => k_is)
    (case a10 => k_is)
    (case l10 => k_is)
    (case c10 => k_is)
    (case k10 => k_is)
    (case a11 => k_is)
    (case l11 => k_is)
    (case c11 => k_is)
    (case k11 => k_is)
    (case a12 => k_is)
    (case l12 => k_is)
    (case c12 => k_is)
    (case k12 => k_is)
    (case a13 => k_is)
    (case l13 => k_is)
    (case c13 => k_is)
    (case k13 => k_is)
    (case a14 => k_is)
    (case l14 => k_is)
    (case c14 => k_is)
    (case k14 => k_is)
    (case a15 => k_is)
    (case l15 => k_is)
    (case c15 => k_is)
    (case k15 => k_is)
    (case a16 => k_is)
    (case l16 => k_is)
    (case c16 => k_is)
    (case k16 => k_is)
    (case a17 => k_is)
    (case l17 => k_is)
    (case c17 => k_is)
    (case k17 => k_is)
    (case a18 => k_is)
    (case l18 => k_is)
    (case c18 => k_is)
    (case k18 => k_is)
    (case a19 => k_is)
    (case l19 => k_is)
    (case c19 => k_is)
    (case k19 => k_is)
    (case a20 => k_is)
    (case l20 => k_is)
    (case c20 => k_is)
    (case k20 => k_is)
    (case a21 => k_is)
    (case l21 => k_is)
    (case c21 => k_is)
    (case k21 => k_is)
    (case a22 => k_is)
    (case l22 => k_is)
    (case c22 => k_is)
    (case k22 => k_is)
    (case a23 => k_is)
    (case l23 => k_is)
    (case c23 => k_is)
    (case k23 => k_is)
    (case a24 => k_is)
    (case l24 => k_is)
    (case c24 => k_is)
    (case k24 => k_is)
    (case a25 => k_is)
    (case l25 => k_is)
    (case c25 => k_is)
    (case k25 => k_is)
    (case a26 => k_is)
    (case l26 => k_is)
    (case c26 => k_is)
    (case k26 => k_is)
    (case a27 => k_is)
    (case l27 => k_is)
    (case c27 => k_is)
    (case k27 => k_is)
    (case a28 => k_is)
    (case l28 => k_is)
    (case c28 => k_is)
    (case k28 => k_is)
    (case a29 => k_is)
    (case l29 => k_is)
    (case c29 => k_is)
    (case k29 => k_is)
    (case a30 => k_is)
    (case l30 => k_is)
    (case c30 => k_is)
    (case k30 => k_is)
    (case a31 => k_is)
    (case l31 => k_is)
    (case c31 => k_is)
    (case k31 => k_is)
    (case a32 => k_is)
    (case l32 => k_is)
    (case c32 => k_is)
    (case k32 => k_is)
    (case a33 => k_is)
    (case l33 => k_is)
    (case c33 => k_is)
    (case k33 => k_is)
    (case a34 => k_is)
    (case l34 => k_is)
    (case c34 => k_is)
    (case k34 => k_is)
    (case a35 => k_is)
    (case l35 => k_is)
    (case c35 => k_is)
    (case k35 => k_is)
    (case a36 => k_is)
    (case l36 => k_is)
    (case c36 => k_is)
    (case k36 => k_is)
    (case a37 => k_is)
    (case l37 => k_is)
    (case c37 => k_is)
    (case k37 => k_is)
    (case z_len => k_is)
    (case z_max => k_is)
    (case z_tuple => k_is)
    (case z_int => k_is)
    (case g_DEEPEST => k_is)
    (case g_MOST_SIGNS => k_is)
    (case xa_TooGreat => k_is)
    (case xq_TooGreat => k_exc)
    (case xk_TooGreat => k_is)
    (case xb_TooGreat => k_is)
    (case xt_TooGreat => k_is)
    (case g_LETTERS => k_is)
    (case g_FIGURES => k_is)
    (case g_GREAT => k_is)
    (case g_MARKS => k_is)
    (case xa_NoText => k_is)
    (case xq_NoText => k_exc)
    (case xk_NoText => k_is)
    (case xb_NoText => k_is)
    (case xt_NoText => k_is)
    (case z_isinstance => k_is)
    (case z_str => k_is)
    (case g_SIGNS => k_is)
    (case g_LONGEST_NUMBER => k_is)
    (case g_LONGEST_NAME => k_is)
    (case g_ROW_WORDS => k_is)
    (case gl_ROW_WORDS => k_is)
    (case gv_ROW_WORDS => rfl)
    (case gz_ROW_WORDS => decide)
    (case z_list => k_is)
    (case z_all => k_is)
    (case xa_NoRule => k_is)
    (case xq_NoRule => k_exc)
    (case xk_NoRule => k_is)
    (case xb_NoRule => k_is)
    (case xt_NoRule => k_is)
    (case g_MOST_LEAVES => k_is)
    (case z_sum => k_is)
    (case g_MOST_DEGREE => k_is)
    (case z_sorted => k_is)
    (case g_MOST_BLANKS => k_is)
    (case na_NoRule => k_is)
    (case na_MenderError => k_is)
    (case z_enumerate => k_is)
    (case na_NoEdit => k_is)
    (case na_TooGreat => k_is)
    (case na_NoText => k_is)
    (case e_sp => k_is)
    (case e_tk => k_is)
    (case ea_TooGreat => k_is)
    (case eb_TooGreat => k_is)
    (case ed_TooGreat => k_is)
    (case ee_TooGreat => k_is)
    (case eh_TooGreat => k_is)
    (case ei_TooGreat => k_is)
    (case ea_NoText => k_is)
    (case eb_NoText => k_is)
    (case ed_NoText => k_is)
    (case ee_NoText => k_is)
    (case eh_NoText => k_is)
    (case ei_NoText => k_is)
    (case ea_NoRule => k_is)
    (case eb_NoRule => k_is)
    (case ed_NoRule => k_is)
    (case ee_NoRule => k_is)
    (case eh_NoRule => k_is)
    (case ei_NoRule => k_is)
    (case db_NoRule => k_is)
    (case dt_NoRule => k_is)
    (case dd_NoRule => k_is)
    (case ds_NoRule => k_is)
    (case db_MenderError => k_is)
    (case dt_MenderError => k_is)
    (case dd_MenderError => k_is)
    (case ds_MenderError => k_is)
    (case db_NoEdit => k_is)
    (case dt_NoEdit => k_is)
    (case dd_NoEdit => k_is)
    (case ds_NoEdit => k_is)
    (case db_TooGreat => k_is)
    (case dt_TooGreat => k_is)
    (case dd_TooGreat => k_is)
    (case ds_TooGreat => k_is)
    (case db_NoText => k_is)
    (case dt_NoText => k_is)
    (case dd_NoText => k_is)
    (case ds_NoText => k_is)
    (case m_TooGreat_NoRule => k_is)
    (case m_TooGreat_MenderError => k_is)
    (case m_TooGreat_NoEdit => k_is)
    (case m_TooGreat_TooGreat => k_is)
    (case m_TooGreat_NoText => k_is)
    (case m_NoText_NoRule => k_is)
    (case m_NoText_MenderError => k_is)
    (case m_NoText_NoEdit => k_is)
    (case m_NoText_TooGreat => k_is)
    (case m_NoText_NoText => k_is)
    (case m_NoRule_NoRule => k_is)
    (case m_NoRule_MenderError => k_is)
    (case m_NoRule_NoEdit => k_is)
    (case m_NoRule_TooGreat => k_is)
    (case m_NoRule_NoText => k_is)
