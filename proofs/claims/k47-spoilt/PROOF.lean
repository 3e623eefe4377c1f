import PyProof.Rows.All
import HandS.Head0
import HandS.Head1
import HandS.Head2
import Wide.All
import OpenK.AllK
import Wide.FinOn
import PyProof.EqAt
import PyProof.EqKinds
import PyProof.TupleCall
import HandS.ForMost
import HandS.ForExc
import HandS.Evl
import HandS.Deep
import HandS.TupAny
import HandS.IsInst
import HandS.Lambda
import HandS.Replace
import HandS.ReplaceLit
import PyProof.ToksMono
import HandS.Dict
import HandS.More
import HandS.SortInts
import PyProof.StrOps2
import HandS.HotCalls
import HandS.ExcIs
import HandS.ExcField
import KE.KExcIs
import HandS.WordsExc
import HandS.Zip
import HandS.SetFor
import HandS.Conv
import HandS.HeadEnd
import HandS.SortKw
import PyProof.MinMaxWalk
import HandS.CallLocal
import HandS.CallSlots
import HandS.ExcInit
import HandS.Style
import HandS.Defaults
import HandS.TryOnly
import HandS.Text
import KE.IntTextLaws
import KE.KIntText
import HandS.Small
import HandS.EndTab
import KE.KRevSl
import HandS.JoinGen
import HandS.Iter
import HandS.Flow
import KE.GoesEnum
import PySem.Challenge.RW_mender_k47_edits_spoilt_anywhere
set_option Elab.async false
set_option linter.all false
set_option maxRecDepth 100000
set_option maxHeartbeats 4000000
namespace K47
section
open PySem PySem.W PySem.Calls PyProof.Rows
set_option maxHeartbeats 0 in
theorem hlaw (k : (PySem.W.OpenLaw.row PySem.Challenge.rw_mender_k47_edits_spoilt_anywhere).wellSaid = true → (PySem.W.OpenLaw.row PySem.Challenge.rw_mender_k47_edits_spoilt_anywhere).Holds) : PySem.W.OpenLaw.Holds PySem.Challenge.rw_mender_k47_edits_spoilt_anywhere := by
  w_on; o_law
  exact k (by assumption)
end
end K47

namespace PW
open PySem L2

structure XV where
  C : Addr
  fs : Option (List (Str × PyData))
inductive PV where
  | d (x : PyData)
  | own (n : Nat)
  | scr (ns : List Int)
  | tp (vs : List PV)
  | gl (u : V)
  | exc (x : XV)
  | xd (fs : Option (List (Str × PyData)))
  | dk (kvs : List (Key × PyData))
  | fn (f c : Addr) (q : Str) (ps : List PV) (us : List V)
inductive OC where
  | no
  | dl (xs : List PyData)
  | di (kvs : List (Key × PyData))
  | ml (vs : List PV)
  | ob (C : Addr) (fs : List (Str × PV))
  | dm (kvs : List (Key × PV))
  | dt (kvs : List (List Key × PV))
  | tb (P : Addr) (q : Str)
structure PSt where
  r : List (Option PV)
  o : List OC

theorem same_new {H : Hp} {p : Addr} {o : HO} (h : H p = none) : Same H (upd H p o) := fun a u e => by
  rw [upd_ne (ne_of_none e h)]
  exact e
theorem same_rd {H H' : Hp} {a : Addr} {u : HO} (e : Same H H') (h : Rd H a u) : Rd H' a u := by
  rcases h with h | ⟨o, h⟩
  · exact Or.inl (e a _ h)
  · exact Or.inr ⟨o, e a _ h⟩
theorem same_l {K : PySem.W.Frag} {H H' : Hp} {a : Addr} {xs : List V} (e : Same H H') (h : SqL K H a xs) : SqL K H' a xs := by
  rcases h with h | h
  · exact Or.inl (same_rd e h)
  · exact Or.inr h
theorem same_t {K : PySem.W.Frag} {H H' : Hp} {a : Addr} {xs : List V} (e : Same H H') (h : SqT K H a xs) : SqT K H' a xs := by
  rcases h with h | h
  · exact Or.inl (same_rd e h)
  · exact Or.inr h
mutual
inductive Dq (K : PySem.W.Frag) (H : Hp) : V → PyData → Prop
  | non : Dq K H .non .none
  | bl (b : Bool) : Dq K H (.bl b) (.bool b)
  | int (i : Int) : Dq K H (.int i) (.int i)
  | str (x : Str) : Dq K H (.str x) (.str x)
  | lst {a : Addr} {xs : List V} {ds : List PyData} : H a = some (.lst xs) → DqAll K H xs ds → Dq K H (.ref a) (.list ds)
  | tup {a : Addr} {xs : List V} {ds : List PyData} : SqT K H a xs → DqAll K H xs ds → Dq K H (.ref a) (.tuple ds)
inductive DqAll (K : PySem.W.Frag) (H : Hp) : List V → List PyData → Prop
  | nil : DqAll K H [] []
  | cons {v : V} {vs : List V} {d : PyData} {ds : List PyData} : Dq K H v d → DqAll K H vs ds → DqAll K H (v :: vs) (d :: ds)
end
mutual
theorem dq_dp {K : PySem.W.Frag} {H : Hp} : ∀ {v : V} {d : PyData}, Dq K H v d → Dp K H v d
  | _, _, .non => .non
  | _, _, .bl b => .bl b
  | _, _, .int i => .int i
  | _, _, .str x => .str x
  | _, _, .lst h t => .lst (SqL.of h) (dqAll_dp t)
  | _, _, .tup h t => .tup h (dqAll_dp t)
theorem dqAll_dp {K : PySem.W.Frag} {H : Hp} : ∀ {vs : List V} {ds : List PyData}, DqAll K H vs ds → DpAll K H vs ds
  | _, _, .nil => .nil
  | _, _, .cons h t => .cons (dq_dp h) (dqAll_dp t)
end
mutual
theorem dq_same {K : PySem.W.Frag} {H H' : Hp} (e : Same H H') : ∀ {v : V} {d : PyData}, Dq K H v d → Dq K H' v d
  | _, _, .non => .non
  | _, _, .bl b => .bl b
  | _, _, .int i => .int i
  | _, _, .str x => .str x
  | _, _, .lst h t => .lst (e _ _ h) (dqAll_same e t)
  | _, _, .tup h t => .tup (same_t e h) (dqAll_same e t)
theorem dqAll_same {K : PySem.W.Frag} {H H' : Hp} (e : Same H H') : ∀ {vs : List V} {ds : List PyData}, DqAll K H vs ds → DqAll K H' vs ds
  | _, _, .nil => .nil
  | _, _, .cons h t => .cons (dq_same e h) (dqAll_same e t)
end
theorem DqAll.len {K : PySem.W.Frag} {H : Hp} : ∀ {vs : List V} {ds : List PyData}, DqAll K H vs ds → vs.length = ds.length
  | _, _, .nil => rfl
  | _, _, .cons _ t => by rw [List.length_cons, List.length_cons, DqAll.len t]
theorem DqAll.get {K : PySem.W.Frag} {H : Hp} : ∀ {vs : List V} {ds : List PyData}, DqAll K H vs ds → ∀ (i : Nat) v, vs[i]? = some v → ∃ d, ds[i]? = some d ∧ Dq K H v d
  | _, _, .nil, _, _, h => by simp at h
  | _, _, .cons h t, 0, v, e => by
    have e' : _ = v := Option.some.inj e
    subst e'
    exact ⟨_, rfl, h⟩
  | _, _, .cons h t, i + 1, v, e => DqAll.get t i v e
theorem DqAll.getd {K : PySem.W.Frag} {H : Hp} : ∀ {vs : List V} {ds : List PyData}, DqAll K H vs ds → ∀ (i : Nat) d, ds[i]? = some d → ∃ v, vs[i]? = some v ∧ Dq K H v d
  | _, _, .nil, _, _, h => by simp at h
  | _, _, .cons h t, 0, v, e => by
    have e' : _ = v := Option.some.inj e
    subst e'
    exact ⟨_, rfl, h⟩
  | _, _, .cons h t, i + 1, v, e => DqAll.getd t i v e
theorem DqAll.app {K : PySem.W.Frag} {H : Hp} : ∀ {vs ws : List V} {ds es : List PyData}, DqAll K H vs ds → DqAll K H ws es → DqAll K H (vs ++ ws) (ds ++ es)
  | _, _, _, _, .nil, h => h
  | _, _, _, _, .cons h t, q => .cons h (DqAll.app t q)
theorem DqAll.take {K : PySem.W.Frag} {H : Hp} : ∀ {vs : List V} {ds : List PyData} (n : Nat), DqAll K H vs ds → DqAll K H (vs.take n) (ds.take n)
  | _, _, 0, _ => by rw [List.take_zero, List.take_zero]; exact .nil
  | _, _, _ + 1, .nil => by rw [List.take_nil, List.take_nil]; exact .nil
  | _, _, n + 1, .cons h t => by rw [List.take_succ_cons, List.take_succ_cons]; exact .cons h (DqAll.take n t)
theorem DqAll.drop {K : PySem.W.Frag} {H : Hp} : ∀ {vs : List V} {ds : List PyData} (n : Nat), DqAll K H vs ds → DqAll K H (vs.drop n) (ds.drop n)
  | _, _, 0, h => h
  | _, _, _ + 1, .nil => .nil
  | _, _, n + 1, .cons h t => DqAll.drop n t
theorem DqAll.set {K : PySem.W.Frag} {H : Hp} : ∀ {vs : List V} {ds : List PyData} (n : Nat) {v : V} {d : PyData}, DqAll K H vs ds → Dq K H v d → DqAll K H (vs.set n v) (ds.set n d)
  | _, _, _, _, _, .nil, _ => .nil
  | _, _, 0, _, _, .cons h t, q => .cons q t
  | _, _, n + 1, _, _, .cons h t, q => .cons h (DqAll.set n t q)

structure Fz (H0 F0 H F : Hp) : Prop where
  f : Same F0 F
  g : Same F H
  h : Same H0 H
  n : ∀ p, H0 p ≠ none → F0 p = none → F p = none

def dV : Option Addr → V
  | none => .non
  | some a => .ref a
def XdOk (K : PySem.W.Frag) (H : Hp) (d : Option Addr) : Option (List (Str × PyData)) → Prop
  | none => d = none
  | some l => ∃ a vl, d = some a ∧ H a = some (.xd vl) ∧ vl.map (·.1) = l.map (·.1) ∧ DqAll K H (vl.map (·.2)) (l.map (·.2))
theorem XdOk.same {K : PySem.W.Frag} {H H' : Hp} (e : Same H H') {d : Option Addr} {l : Option (List (Str × PyData))} (h : XdOk K H d l) : XdOk K H' d l := by
  cases l with
  | none => exact h
  | some l =>
    obtain ⟨a, vl, h1, h2, h3, h4⟩ := h
    exact ⟨a, vl, h1, e _ _ h2, h3, dqAll_same e h4⟩
mutual
def PVOk (K : PySem.W.Frag) (F : Hp) (A : List Addr) : PV → V → Prop
  | .d x, v => Dq K F v x
  | .scr ns, v => ∃ a, v = .ref a ∧ SqL K F a (ns.map V.int)
  | .own n, v => ∃ p, A[n]? = some p ∧ v = .ref p
  | .tp ps, v => ∃ a us, v = .ref a ∧ SqT K F a us ∧ PVAll K F A ps us
  | .gl u, v => v = u
  | .exc x, v => ∃ a oe d, v = .ref a ∧ F a = some (.ext fun h => h.get? a = some oe) ∧ Zc (.ref x.C) d oe ∧ (∃ vs, oe.data = .fields vs) ∧ XdOk K F d x.fs
  | .xd fs, v => ∃ d, v = dV d ∧ XdOk K F d fs
  | .dk kvs, v => ∃ a vs, v = .ref a ∧ F a = some (.dK vs) ∧ vs.map (·.1) = kvs.map (·.1) ∧ DqAll K F (vs.map (·.2)) (kvs.map (·.2))
  | .fn f c q ps us, v => v = .ref f ∧ F c = some (LamX.CodeO c q) ∧ PVAll K F A ps us
def PVAll (K : PySem.W.Frag) (F : Hp) (A : List Addr) : List PV → List V → Prop
  | [], [] => True
  | p :: ps, v :: vs => PVOk K F A p v ∧ PVAll K F A ps vs
  | [], _ :: _ => False
  | _ :: _, [] => False
end
def OCOk (K : PySem.W.Frag) (F H : Hp) (A : List Addr) (p : Addr) : OC → Prop
  | .no => True
  | .dl xs => F p = none ∧ ∃ vs, H p = some (.lst vs) ∧ DqAll K F vs xs
  | .di kvs => F p = none ∧ ∃ vs : List (Key × V), H p = some (.dK vs) ∧ vs.map (·.1) = kvs.map (·.1) ∧ DqAll K F (vs.map (·.2)) (kvs.map (·.2))
  | .ml ps => F p = none ∧ ∃ vs, H p = some (.lst vs) ∧ PVAll K F A ps vs
  | .ob C fs => F p = none ∧ ∃ dx vs, H p = some (.ins C dx vs) ∧ vs.map (·.1) = fs.map (·.1) ∧ PVAll K F A (fs.map (·.2)) (vs.map (·.2))
  | .dm kvs => F p = none ∧ ∃ vs, H p = some (.dK vs) ∧ vs.map (·.1) = kvs.map (·.1) ∧ PVAll K F A (kvs.map (·.2)) (vs.map (·.2))
  | .dt kvs => F p = none ∧ ∃ vs, H p = some (.dT vs) ∧ vs.map (·.1) = kvs.map (·.1) ∧ PVAll K F A (kvs.map (·.2)) (vs.map (·.2))
  | .tb P q => p = P ∧ F p = none ∧ ∃ ps : Array Value, H p = some (.tbl ps) ∧ PySem.TriplesOk ps.toList ∧ ∀ (pos : Pos) (cv : Value), codeAmong pos ps.toList = some cv → ∃ c, cv = .ref c ∧ F c = some (LamX.CodeO c q)

mutual
theorem PVOk.mono {K : PySem.W.Frag} {F F' : Hp} {A A' : List Addr} (e : Same F F') (a : A <+: A') : ∀ {v : PV} {u : V}, PVOk K F A v u → PVOk K F' A' v u
  | .d x, u, h => dq_same e h
  | .scr ns, u, ⟨p, h, q⟩ => ⟨p, h, same_l e q⟩
  | .own n, u, ⟨p, h, q⟩ => ⟨p, by
      obtain ⟨t, rfl⟩ := a
      rw [List.getElem?_append_left (List.getElem?_eq_some_iff.mp h).1]
      exact h, q⟩
  | .tp ps, u, ⟨p, us, h, q, r⟩ => ⟨p, us, h, same_t e q, PVAll.mono e a r⟩
  | .gl x, u, h => h
  | .exc x, u, ⟨p, oe, d, h1, h2, h3, h4, h5⟩ => ⟨p, oe, d, h1, e _ _ h2, h3, h4, h5.same e⟩
  | .xd fs, u, ⟨d, h1, h2⟩ => ⟨d, h1, h2.same e⟩
  | .dk _, u, ⟨p, vs, h1, h2, h3, h4⟩ => ⟨p, vs, h1, e _ _ h2, h3, dqAll_same e h4⟩
  | .fn _ _ _ ps us, u, ⟨h1, h2, h3⟩ => ⟨h1, e _ _ h2, PVAll.mono e a h3⟩
theorem PVAll.mono {K : PySem.W.Frag} {F F' : Hp} {A A' : List Addr} (e : Same F F') (a : A <+: A') : ∀ {ps : List PV} {us : List V}, PVAll K F A ps us → PVAll K F' A' ps us
  | [], [], h => h
  | _ :: _, _ :: _, ⟨h, r⟩ => ⟨PVOk.mono e a h, PVAll.mono e a r⟩
  | [], _ :: _, h => h.elim
  | _ :: _, [], h => h.elim
end
theorem OCOk.mono {K : PySem.W.Frag} {F F' H H' : Hp} {A A' : List Addr} {p : Addr} (e : Same F F') (a : A <+: A') (f : F p = none → F' p = none) (h : ∀ o, H p = some o → H' p = some o) : ∀ {c : OC}, OCOk K F H A p c → OCOk K F' H' A' p c
  | .no, _ => True.intro
  | .dl _, ⟨x, vs, y, z⟩ => ⟨f x, vs, h _ y, dqAll_same e z⟩
  | .di _, ⟨x, vs, y, k, z⟩ => ⟨f x, vs, h _ y, k, dqAll_same e z⟩
  | .ml _, ⟨x, vs, y, z⟩ => ⟨f x, vs, h _ y, PVAll.mono e a z⟩
  | .ob _ _, ⟨x, dx, vs, y, k, z⟩ => ⟨f x, dx, vs, h _ y, k, PVAll.mono e a z⟩
  | .dm _, ⟨x, vs, y, k, z⟩ => ⟨f x, vs, h _ y, k, PVAll.mono e a z⟩
  | .dt _, ⟨x, vs, y, k, z⟩ => ⟨f x, vs, h _ y, k, PVAll.mono e a z⟩
  | .tb _ _, ⟨x0, x, ps, y, k, z⟩ => ⟨x0, f x, ps, h _ y, k, fun pos cv hc => by
      obtain ⟨c, e1, e2⟩ := z pos cv hc
      exact ⟨c, e1, e _ _ e2⟩⟩
structure WdF (K : PySem.W.Frag) (H0 F0 : Hp) (A0 : List Addr) (s : PSt) (σ : St) (T : List (PV × V)) (H F : Hp) (A : List Addr) : Prop where
  fz : Fz H0 F0 H F
  pre : A0 <+: A
  len : A.length = s.o.length
  nd : A.Nodup
  ad : ∀ p ∈ A, H0 p = none ∧ H p ≠ none
  oc : ∀ (n : Nat) p c, A[n]? = some p → s.o[n]? = some c → OCOk K F H A p c
  sl : s.r.length = σ.length
  pv : ∀ (i : Nat) v, s.r[i]? = some (some v) → ∃ u, σ[i]? = some (some u) ∧ PVOk K F A v u
  tm : ∀ t ∈ T, PVOk K F A t.1 t.2
def Wd (K : PySem.W.Frag) (H0 F0 : Hp) (A0 : List Addr) (s : PSt) (σ : St) (T : List (PV × V)) (H : Hp) : Prop := ∃ F A, WdF K H0 F0 A0 s σ T H F A

section
variable {K : PySem.W.Frag} {H0 F0 : Hp} {A0 : List Addr} {s : PSt} {σ : St} {T : List (PV × V)} {H F : Hp} {A : List Addr}
theorem nodup_ne {A : List Addr} (h : A.Nodup) {m n : Nat} {p q : Addr} (h1 : A[m]? = some q) (h2 : A[n]? = some p) (hm : m ≠ n) : q ≠ p := fun e => by
  subst e
  obtain ⟨l1, e1⟩ := List.getElem?_eq_some_iff.mp h1
  obtain ⟨l2, e2⟩ := List.getElem?_eq_some_iff.mp h2
  exact hm ((List.getElem_inj h).mp (e1.trans e2.symm))
theorem WdF.more {F' H' : Hp} (w : WdF K H0 F0 A0 s σ T H F A) (e : Same F F') (g : Same F' H') (h : ∀ a, H0 a ≠ none → H' a = H a) (hA : ∀ p ∈ A, F' p = F p ∧ H' p = H p) (nF : ∀ p, H0 p ≠ none → F' p = F p) : WdF K H0 F0 A0 s σ T H' F' A where
  fz := ⟨w.fz.f.trans e, g, fun a u z => (h a (by rw [z]; exact fun z => nomatch z)).trans (w.fz.h a u z), fun p h1 h2 => (nF p h1).trans (w.fz.n p h1 h2)⟩
  pre := w.pre
  len := w.len
  nd := w.nd
  ad := fun q hq => ⟨(w.ad q hq).1, by rw [(hA q hq).2]; exact (w.ad q hq).2⟩
  oc := fun n q c h1 h2 => (w.oc n q c h1 h2).mono e (List.prefix_refl _) (fun z => (hA q (List.mem_of_getElem? h1)).1.trans z) fun o z => (hA q (List.mem_of_getElem? h1)).2.trans z
  sl := w.sl
  pv := fun i v h => by
    obtain ⟨u, a, b⟩ := w.pv i v h
    exact ⟨u, a, b.mono e (List.prefix_refl _)⟩
  tm := fun t ht => (w.tm t ht).mono e (List.prefix_refl _)
theorem WdF.newD {p : Addr} {o : HO} (w : WdF K H0 F0 A0 s σ T H F A) (hp : H p = none) : WdF K H0 F0 A0 s σ T (upd H p o) (upd F p o) A := by
  have fp : F p = none := w.fz.g.free hp
  have h0 : H0 p = none := w.fz.h.free hp
  refine w.more (same_new fp) (fun a u e => ?_) (fun a ha => upd_ne fun z => ha (z ▸ h0)) (fun q hq => ?_) (fun q hq => upd_ne fun z => hq (z ▸ h0))
  · by_cases h : a = p
    · subst h; rw [upd_same] at e ⊢; exact e
    · rw [upd_ne h] at e ⊢; exact w.fz.g a u e
  · have ne : q ≠ p := fun z => (w.ad q hq).2 (z ▸ hp)
    exact ⟨upd_ne ne, upd_ne ne⟩

theorem WdF.tms {T' : List (PV × V)} (w : WdF K H0 F0 A0 s σ T H F A) (h : ∀ t ∈ T', PVOk K F A t.1 t.2) : WdF K H0 F0 A0 s σ T' H F A := { w with tm := h }
theorem WdF.push {v : PV} {u : V} (w : WdF K H0 F0 A0 s σ T H F A) (h : PVOk K F A v u) : WdF K H0 F0 A0 s σ ((v, u) :: T) H F A := w.tms fun t ht => by
  rcases List.mem_cons.mp ht with e | ht
  · rw [e]; exact h
  · exact w.tm t ht
theorem WdF.sub {T' : List (PV × V)} (w : WdF K H0 F0 A0 s σ T H F A) (h : ∀ t ∈ T', t ∈ T) : WdF K H0 F0 A0 s σ T' H F A := { w with tm := fun t ht => w.tm t (h t ht) }

theorem WdF.newO {p : Addr} {o : HO} {c : OC} (w : WdF K H0 F0 A0 s σ T H F A) (hp : H p = none) (hv : F p = none → OCOk K F (upd H p o) (A ++ [p]) p c) : WdF K H0 F0 A0 ⟨s.r, s.o ++ [c]⟩ σ T (upd H p o) F (A ++ [p]) where
  fz := ⟨w.fz.f, w.fz.g.trans (same_new hp), w.fz.h.trans (same_new hp), w.fz.n⟩
  pre := w.pre.trans (List.prefix_append _ _)
  len := by rw [List.length_append, List.length_append, w.len]; rfl
  nd := by
    rw [List.nodup_append]
    refine ⟨w.nd, by simp, fun a ha b hb => ?_⟩
    have e : b = p := by simpa using hb
    subst e
    rintro rfl
    exact (w.ad _ ha).2 hp
  ad := fun q hq => by
    rcases List.mem_append.mp hq with h1 | h1
    · have hne : q ≠ p := fun e => (w.ad q h1).2 (e ▸ hp)
      exact ⟨(w.ad q h1).1, by rw [upd_ne hne]; exact (w.ad q h1).2⟩
    · have e : q = p := by simpa using h1
      rw [e]
      refine ⟨?_, by rw [upd_same]; exact fun z => nomatch z⟩
      exact w.fz.h.free hp
  oc := fun n q c' h1 h2 => by
    have fp : F p = none := w.fz.g.free hp
    rcases Nat.lt_trichotomy n A.length with hn | hn | hn
    · rw [List.getElem?_append_left hn] at h1
      rw [List.getElem?_append_left (by rw [← w.len]; exact hn)] at h2
      have hne : q ≠ p := fun e => by subst e; exact (w.ad q (List.mem_of_getElem? h1)).2 hp
      exact (w.oc n q c' h1 h2).mono (Same.refl _) (List.prefix_append _ _) id fun o z => (upd_ne hne).trans z
    · subst hn
      rw [List.getElem?_append_right (Nat.le_refl _), Nat.sub_self] at h1
      rw [List.getElem?_append_right (by rw [w.len]; exact Nat.le_refl _), w.len, Nat.sub_self] at h2
      cases h1
      cases h2
      exact hv fp
    · rw [List.getElem?_eq_none (by rw [List.length_append]; show A.length + 1 ≤ n; omega)] at h1
      cases h1
  sl := w.sl
  pv := fun i v h => by
    obtain ⟨u, a, b⟩ := w.pv i v h
    exact ⟨u, a, b.mono (Same.refl _) (List.prefix_append _ _)⟩
  tm := fun t ht => (w.tm t ht).mono (Same.refl _) (List.prefix_append _ _)
theorem WdF.newL {p : Addr} {vs : List V} {xs : List PyData} (w : WdF K H0 F0 A0 s σ T H F A) (hp : H p = none) (hv : DqAll K F vs xs) : WdF K H0 F0 A0 ⟨s.r, s.o ++ [.dl xs]⟩ σ T (upd H p (.lst vs)) F (A ++ [p]) :=
  w.newO hp fun fp => ⟨fp, vs, upd_same, hv⟩

theorem WdF.wrO {n : Nat} {p : Addr} {o : HO} {c : OC} (w : WdF K H0 F0 A0 s σ T H F A) (hp : A[n]? = some p) (fp : F p = none) (hl : n < s.o.length) (hv : OCOk K F (upd H p o) A p c) : WdF K H0 F0 A0 ⟨s.r, s.o.set n c⟩ σ T (upd H p o) F A where
  fz := by
    refine ⟨w.fz.f, fun a u e => ?_, fun a u e => ?_, w.fz.n⟩
    · rw [upd_ne (ne_of_none e fp)]
      exact w.fz.g a u e
    · rw [upd_ne (ne_of_none e (w.ad p (List.mem_of_getElem? hp)).1)]
      exact w.fz.h a u e
  pre := w.pre
  len := by rw [List.length_set]; exact w.len
  nd := w.nd
  ad := fun q hq => ⟨(w.ad q hq).1, fun z => by
    by_cases e : q = p
    · subst e; rw [upd_same] at z; cases z
    · rw [upd_ne e] at z; exact (w.ad q hq).2 z⟩
  oc := fun m q c' h1 h2 => by
    by_cases hm : m = n
    · subst hm
      rw [hp] at h1
      cases h1
      rw [List.getElem?_set_self hl] at h2
      cases h2
      exact hv
    · rw [List.getElem?_set_ne (Ne.symm hm)] at h2
      have hne : q ≠ p := nodup_ne w.nd h1 hp hm
      exact (w.oc m q c' h1 h2).mono (Same.refl _) (List.prefix_refl _) id fun o z => (upd_ne hne).trans z
  sl := w.sl
  pv := w.pv
  tm := w.tm
theorem WdF.wr {n : Nat} {p : Addr} {vs : List V} {xs ys : List PyData} (w : WdF K H0 F0 A0 s σ T H F A) (hp : A[n]? = some p) (ho : s.o[n]? = some (.dl xs)) (hv : DqAll K F vs ys) : WdF K H0 F0 A0 ⟨s.r, s.o.set n (.dl ys)⟩ σ T (upd H p (.lst vs)) F A := by
  obtain ⟨fp, _⟩ := w.oc n p _ hp ho
  exact w.wrO hp fp (List.getElem?_eq_some_iff.mp ho).1 ⟨fp, vs, upd_same, hv⟩

theorem WdF.st {i : Nat} {v : PV} {u : V} (w : WdF K H0 F0 A0 s σ T H F A) (h : PVOk K F A v u) : WdF K H0 F0 A0 ⟨s.r.set i (some v), s.o⟩ (σ.set i (some u)) T H F A :=
  { w with
    len := w.len
    oc := w.oc
    sl := by rw [List.length_set, List.length_set]; exact w.sl
    pv := fun j x e => by
      by_cases hj : j = i
      · subst hj
        by_cases hl : j < s.r.length
        · rw [List.getElem?_set_self hl] at e
          cases e
          exact ⟨u, by rw [List.getElem?_set_self (by rw [← w.sl]; exact hl)], h⟩
        · rw [List.getElem?_eq_none (by rw [List.length_set]; omega)] at e
          cases e
      · rw [List.getElem?_set_ne (Ne.symm hj)] at e
        obtain ⟨y, a, b⟩ := w.pv j x e
        exact ⟨y, by rw [List.getElem?_set_ne (Ne.symm hj)]; exact a, b⟩ }
end
end PW
namespace PW
open PySem L2

theorem PE.imp {X : Cx} {e : Expr} {t t' : TE} (h : PE X e t) (i : ∀ σ H Q, t' σ H Q → t σ H Q) : PE X e t' := ⟨fun pins s σ H Q I q => h.run pins s σ H Q I (i σ H Q q)⟩
theorem PT.imp {X : Cx} {e : Expr} {t t' : TT} (h : PT X e t) (i : ∀ σ H Q, t' σ H Q → t σ H Q) : PT X e t' := ⟨fun pins s σ H Q I q => h.run pins s σ H Q I (i σ H Q q)⟩
theorem PTs.imp {X : Cx} {es : List Expr} {t t' : TT} (h : PTs X es t) (i : ∀ σ H Q, t' σ H Q → t σ H Q) : PTs X es t' := ⟨fun pins s σ H Q I q => h.run pins s σ H Q I (i σ H Q q)⟩
theorem PWi.imp {X : Cx} {e : Expr} {t t' : TT} (h : L2.PW X e t) (i : ∀ σ H Q, t' σ H Q → t σ H Q) : L2.PW X e t' := ⟨fun w pins s σ H Q I q => h.run w pins s σ H Q I (i σ H Q q)⟩
theorem PA.imp {X : Cx} {es : List Expr} {t t' : TA} (h : PA X es t) (i : ∀ σ H Q, t' σ H Q → t σ H Q) : PA X es t' := ⟨fun p pins s σ H Q I q => h.run p pins s σ H Q I (i σ H Q q)⟩
theorem PO.imp {X : Cx} {e : Option Expr} {t t' : TO} (h : PO X e t) (i : ∀ σ H Q, t' σ H Q → t σ H Q) : PO X e t' := ⟨fun pins s σ H Q I q => h.run pins s σ H Q I (i σ H Q q)⟩
theorem PS.imp {X : Cx} {st : Stmt} {t t' : TS} (h : PS X st t) (i : ∀ D σ H, t' D σ H → t D σ H) : PS X st t' := ⟨fun pins s σ H D I q => h.run pins s σ H D I (i D σ H q)⟩
theorem PSs.imp {X : Cx} {st : List Stmt} {t t' : TS} (h : PSs X st t) (i : ∀ D σ H, t' D σ H → t D σ H) : PSs X st t' := ⟨fun pins s σ H D I q => h.run pins s σ H D I (i D σ H q)⟩
theorem PG.imp {X : Cx} {e : Expr} {t t' : TG} (h : PG X e t) (i : ∀ v σ H Q, t' v σ H Q → t v σ H Q) : PG X e t' := ⟨fun pins s σ H v u Q I r q => h.run pins s σ H v u Q I r (i v σ H Q q)⟩
theorem PI.imp {X : Cx} {tg e : Expr} {t t' : TI} (h : PI X tg e t) (i : ∀ σ H R, t' σ H R → t σ H R) : PI X tg e t' := ⟨fun pins s σ H R I q => h.run pins s σ H R I (i σ H R q)⟩

abbrev KX := XV → PSt → Prop
abbrev EW := KX → PSt → (PV → PSt → Prop) → Prop
abbrev TW := KX → PSt → (Bool → PSt → Prop) → Prop
abbrev AW := KX → PSt → (List PV → PSt → Prop) → Prop
abbrev OW := KX → PSt → (Option Int → PSt → Prop) → Prop
abbrev SrcO := Option (Nat × List PyData)
def Src (c : SrcO) (s : PSt) : Prop := match c with
  | none => True
  | some (n, xs) => s.o[n]? = some (.dl xs)
abbrev IW := KX → PSt → (List PyData → SrcO → PSt → Prop) → Prop
abbrev GW := PyData → PSt → (PSt → Prop) → Prop
structure PEnds where
  nx : PSt → Prop
  rt : PV → PSt → Prop
  bk : PSt → Prop := fun _ => False
  ct : PSt → Prop := fun _ => False
abbrev SW := KX → PSt → PEnds → Prop

def XL (K : PySem.W.Frag) (H0 F0 : Hp) (A0 : List Addr) (T : List (PV × V)) (W : WX) (kx : KX) : Prop :=
  ∀ x s', kx x s' → ∀ σ' H' d, Wd K H0 F0 A0 s' σ' ((.xd x.fs, dV d) :: T) H' → W (.ref x.C) d σ' H'
theorem Wd.sub {K : PySem.W.Frag} {H0 F0 : Hp} {A0 : List Addr} {s : PSt} {σ : St} {T T' : List (PV × V)} {H : Hp} (w : Wd K H0 F0 A0 s σ T H) (h : ∀ t ∈ T', t ∈ T) : Wd K H0 F0 A0 s σ T' H := by
  obtain ⟨F, A, w⟩ := w
  exact ⟨F, A, w.sub h⟩
theorem Wd.pop {K : PySem.W.Frag} {H0 F0 : Hp} {A0 : List Addr} {s : PSt} {σ : St} {t : PV × V} {T : List (PV × V)} {H : Hp} (w : Wd K H0 F0 A0 s σ (t :: T) H) : Wd K H0 F0 A0 s σ T H := w.sub fun _ h => List.mem_cons_of_mem _ h
theorem XL.more {K : PySem.W.Frag} {H0 F0 : Hp} {A0 : List Addr} {T T' : List (PV × V)} {W : WX} {kx : KX} (h : XL K H0 F0 A0 T W kx) (m : ∀ t ∈ T, t ∈ T') : XL K H0 F0 A0 T' W kx := fun x s' q σ' H' d w => h x s' q σ' H' d (w.sub fun t ht => by
  rcases List.mem_cons.mp ht with z | z
  · rw [z]; exact List.mem_cons_self
  · exact List.mem_cons_of_mem _ (m t z))
theorem XL.push {K : PySem.W.Frag} {H0 F0 : Hp} {A0 : List Addr} {T : List (PV × V)} {t : PV × V} {W : WX} {kx : KX} (h : XL K H0 F0 A0 T W kx) : XL K H0 F0 A0 (t :: T) W kx := h.more fun _ m => List.mem_cons_of_mem _ m

def tE (K : PySem.W.Frag) (W : WX) (w : EW) : TE := fun σ H Q => ∃ H0 F0 A0 s T kx k, Wd K H0 F0 A0 s σ T H ∧ XL K H0 F0 A0 T W kx ∧ w kx s k ∧ ∀ v s', k v s' → ∀ u H', Wd K H0 F0 A0 s' σ ((v, u) :: T) H' → Q u H'
def tT (K : PySem.W.Frag) (W : WX) (w : TW) : TT := fun σ H Q => ∃ H0 F0 A0 s T kx k, Wd K H0 F0 A0 s σ T H ∧ XL K H0 F0 A0 T W kx ∧ w kx s k ∧ ∀ b s', k b s' → ∀ H', Wd K H0 F0 A0 s' σ T H' → Q b H'
def tA (K : PySem.W.Frag) (W : WX) (w : AW) : TA := fun σ H Q => ∃ H0 F0 A0 s T kx k, Wd K H0 F0 A0 s σ T H ∧ XL K H0 F0 A0 T W kx ∧ w kx s k ∧ ∀ vs s', k vs s' → ∀ us H', us.length = vs.length → Wd K H0 F0 A0 s' σ (vs.zip us ++ T) H' → Q us H'
def tO (K : PySem.W.Frag) (W : WX) (w : OW) : TO := fun σ H Q => ∃ H0 F0 A0 s T kx k, Wd K H0 F0 A0 s σ T H ∧ XL K H0 F0 A0 T W kx ∧ w kx s k ∧ ∀ o s', k o s' → ∀ H', Wd K H0 F0 A0 s' σ T H' → Q o H'
def ItOk (K : PySem.W.Frag) (J : It) (T1 : List (PV × V)) (c : SrcO) (xs : List PyData) : Prop :=
  ∀ (H0 F0 : Hp) (A0 : List Addr) (s : PSt) (σ : St) (T : List (PV × V)) (H F : Hp) (A : List Addr), WdF K H0 F0 A0 s σ T H F A → (∀ t ∈ T1, t ∈ T) → Src c s → ∀ i, (i < xs.length → J.go i H) ∧ (xs.length ≤ i → J.stop i H) ∧
    (i < xs.length → ∀ x H', J.yld i H x H' → ∃ d, xs[i]? = some d ∧ ∃ F', WdF K H0 F0 A0 s σ ((.d d, x) :: T) H' F' A)
def tI (K : PySem.W.Frag) (W : WX) (w : IW) : TI := fun σ H R => ∃ H0 F0 A0 s T kx k, Wd K H0 F0 A0 s σ T H ∧ XL K H0 F0 A0 T W kx ∧ w kx s k ∧ ∀ xs c s', k xs c s' → ∀ J T1 H', Wd K H0 F0 A0 s' σ (T1 ++ T) H' → ItOk K J T1 c xs → R J H'
def OutL (L : List Nat) (σ σ' : St) : Prop := σ'.length = σ.length ∧ ∀ j, j ∉ L → σ'[j]? = σ[j]?
def tG (K : PySem.W.Frag) (L : List Nat) (g : GW) : TG := fun v σ H Q => ∃ H0 F0 A0 s T x k, Wd K H0 F0 A0 s σ T H ∧ (PV.d x, v) ∈ T ∧ g x s k ∧ ∀ s', k s' → ∀ σ' H', OutL L σ σ' → Wd K H0 F0 A0 s' σ' T H' → Q σ' H'
def tS (K : PySem.W.Frag) (W : WX) (w : SW) : TS := fun D σ H => ∃ H0 F0 A0 s T kx k, Wd K H0 F0 A0 s σ T H ∧ XL K H0 F0 A0 T W kx ∧ w kx s k ∧ (∀ s', k.nx s' → ∀ σ' H', Wd K H0 F0 A0 s' σ' T H' → D.nx σ' H') ∧
  (∀ v s', k.rt v s' → ∀ u σ' H', Wd K H0 F0 A0 s' σ' ((v, u) :: T) H' → D.rt u H') ∧ (∀ s', k.bk s' → ∀ σ' H', Wd K H0 F0 A0 s' σ' T H' → D.bk σ' H') ∧ (∀ s', k.ct s' → ∀ σ' H', Wd K H0 F0 A0 s' σ' T H' → D.ct σ' H')

def ocD : Option OC → Option PyData
  | some (.dl xs) => some (.list xs)
  | _ => none
def dat (s : PSt) : PV → Option PyData
  | .d x => some x
  | .own n => ocD s.o[n]?
  | .scr ns => some (.list (ns.map PyData.int))
  | _ => none
def datq (s : PSt) : PV → Option PyData
  | .d x => some x
  | .own n => ocD s.o[n]?
  | _ => none
theorem datq_ok {K : PySem.W.Frag} {H0 F0 : Hp} {A0 : List Addr} {s : PSt} {σ : St} {T : List (PV × V)} {H F : Hp} {A : List Addr} {v : PV} {u : V} {x : PyData} (w : WdF K H0 F0 A0 s σ T H F A) (p : PVOk K F A v u) (e : datq s v = some x) : Dq K H u x := by
  cases v with
  | d y =>
    cases e
    exact dq_same w.fz.g p
  | scr ns => cases e
  | tp ps => cases e
  | gl g => cases e
  | exc y => cases e
  | xd y => cases e
  | dk y => cases e
  | fn _ _ _ _ _ => cases e
  | own n =>
    obtain ⟨q, hq, rfl⟩ := p
    have e : ocD s.o[n]? = some x := e
    cases ho : s.o[n]? with
    | none => rw [ho] at e; cases e
    | some c =>
      rw [ho] at e
      cases c with
      | no => cases e
      | dl xs =>
        cases e
        obtain ⟨_, vs, h1, h2⟩ := w.oc n q _ hq ho
        exact .lst h1 (dqAll_same w.fz.g h2)
      | di kvs => cases e
      | ml ps => cases e
      | ob _ _ => cases e
      | dm _ => cases e
      | dt _ => cases e
      | tb _ _ => cases e
theorem ints_dp {K : PySem.W.Frag} {H : Hp} : ∀ ns : List Int, DpAll K H (ns.map V.int) (ns.map PyData.int)
  | [] => .nil
  | n :: r => .cons (.int n) (ints_dp r)
theorem ints_dq {K : PySem.W.Frag} {H : Hp} : ∀ ns : List Int, DqAll K H (ns.map V.int) (ns.map PyData.int)
  | [] => .nil
  | n :: r => .cons (.int n) (ints_dq r)
theorem dat_ok {K : PySem.W.Frag} {H0 F0 : Hp} {A0 : List Addr} {s : PSt} {σ : St} {T : List (PV × V)} {H F : Hp} {A : List Addr} {v : PV} {u : V} {x : PyData} (w : WdF K H0 F0 A0 s σ T H F A) (p : PVOk K F A v u) (e : dat s v = some x) : Dp K H u x := by
  cases v with
  | d y => exact dq_dp (datq_ok w p e)
  | own n => exact dq_dp (datq_ok w p e)
  | tp ps => cases e
  | gl g => cases e
  | exc y => cases e
  | xd y => cases e
  | dk y => cases e
  | fn _ _ _ _ _ => cases e
  | scr ns =>
    cases e
    obtain ⟨a, rfl, h⟩ := p
    exact .lst (same_l w.fz.g h) (ints_dp ns)
theorem items_ok {K : PySem.W.Frag} {H0 F0 : Hp} {A0 : List Addr} {s : PSt} {σ : St} {T : List (PV × V)} {H F : Hp} {A : List Addr} {v : PV} {u : V} {xs : List PyData} (w : WdF K H0 F0 A0 s σ T H F A) (p : PVOk K F A v u) (e : dat s v = some (.list xs)) :
    ∃ a vs, u = .ref a ∧ SqL K H a vs ∧ DqAll K F vs xs := by
  cases v with
  | d y =>
    cases e
    cases p with
    | lst h t => exact ⟨_, _, rfl, SqL.of (w.fz.g _ _ h), t⟩
  | scr ns =>
    have e : some (PyData.list (ns.map PyData.int)) = some (.list xs) := e
    injection e with e
    injection e with e
    subst e
    obtain ⟨a, rfl, h⟩ := p
    exact ⟨a, _, rfl, same_l w.fz.g h, ints_dq ns⟩
  | tp ps => cases e
  | gl g => cases e
  | exc y => cases e
  | xd y => cases e
  | dk y => cases e
  | fn _ _ _ _ _ => cases e
  | own n =>
    obtain ⟨q, hq, rfl⟩ := p
    have e : ocD s.o[n]? = some (.list xs) := e
    cases ho : s.o[n]? with
    | none => rw [ho] at e; cases e
    | some c =>
      rw [ho] at e
      cases c with
      | no => cases e
      | dl ys =>
        cases e
        obtain ⟨_, vs, h1, h2⟩ := w.oc n q _ hq ho
        exact ⟨_, _, rfl, SqL.of h1, h2⟩
      | di kvs => cases e
      | ml ps => cases e
      | ob _ _ => cases e
      | dm _ => cases e
      | dt _ => cases e
      | tb _ _ => cases e
theorem itemsT_ok {K : PySem.W.Frag} {H0 F0 : Hp} {A0 : List Addr} {s : PSt} {σ : St} {T : List (PV × V)} {H F : Hp} {A : List Addr} {v : PV} {u : V} {xs : List PyData} (w : WdF K H0 F0 A0 s σ T H F A) (p : PVOk K F A v u) (e : dat s v = some (.tuple xs)) :
    ∃ a vs, u = .ref a ∧ SqT K H a vs ∧ DqAll K F vs xs := by
  cases v with
  | d y =>
    cases e
    cases p with
    | tup h t => exact ⟨_, _, rfl, same_t w.fz.g h, t⟩
  | scr ns => cases e
  | tp ps => cases e
  | gl g => cases e
  | exc y => cases e
  | xd y => cases e
  | dk y => cases e
  | fn _ _ _ _ _ => cases e
  | own n =>
    have e : ocD s.o[n]? = some (.tuple xs) := e
    cases ho : s.o[n]? with
    | none => rw [ho] at e; cases e
    | some c =>
      rw [ho] at e
      cases c <;> cases e

def subO (n : Nat) (x : PV) : Option PV → Option PV
  | some (.own m) => if m = n then some x else some (.own m)
  | v => v
theorem subO_eq {n m : Nat} {x : PV} (h : m = n) : subO n x (some (.own m)) = some x := if_pos h
theorem subO_ne {n m : Nat} {x : PV} (h : ¬ m = n) : subO n x (some (.own m)) = some (.own m) := if_neg h
def PSt.frzV (s : PSt) (n : Nat) (x : PV) : PSt := ⟨s.r.map (subO n x), s.o.set n .no⟩
def PSt.frz (s : PSt) (n : Nat) (xs : List PyData) : PSt := s.frzV n (.d (.list xs))
def frz (v : PV) (s : PSt) (k : PyData → PSt → Prop) : Prop :=
  match v with
  | .d x => k x s
  | .own n => ∃ xs, s.o[n]? = some (.dl xs) ∧ k (.list xs) (s.frz n xs)
  | _ => False
section
variable {K : PySem.W.Frag} {H0 F0 : Hp} {A0 : List Addr} {s : PSt} {σ : St} {T : List (PV × V)} {H F : Hp} {A : List Addr}
theorem WdF.frzV {n : Nat} {p : Addr} {ho' : HO} {x : PV} (w : WdF K H0 F0 A0 s σ T H F A) (hp : A[n]? = some p) (ho : n < s.o.length) (fp : F p = none) (hv : H p = some ho') (dD : PVOk K (upd F p ho') A x (.ref p)) : ∃ F', WdF K H0 F0 A0 (s.frzV n x) σ ((x, .ref p) :: T) H F' A := by
  have pA := w.ad p (List.mem_of_getElem? hp)
  have sF : Same F (upd F p ho') := same_new fp
  refine ⟨upd F p ho', ⟨w.fz.f.trans sF, fun a u e => ?_, w.fz.h, fun q h1 h2 => ?_⟩, w.pre, ?_, w.nd, w.ad, fun m q c h1 h2 => ?_, ?_, fun i v e => ?_, fun t ht => ?_⟩
  · by_cases h : a = p
    · subst h; rw [upd_same] at e; rw [← e]; exact hv
    · rw [upd_ne h] at e; exact w.fz.g a u e
  · have hq : q ≠ p := fun z => h1 (z ▸ pA.1)
    rw [upd_ne hq]; exact w.fz.n q h1 h2
  · show A.length = (s.o.set n .no).length
    rw [List.length_set]; exact w.len
  · have h2 : (s.o.set n .no)[m]? = some c := h2
    by_cases hm : m = n
    · subst hm
      rw [List.getElem?_set_self ho] at h2
      cases h2
      trivial
    · rw [List.getElem?_set_ne (Ne.symm hm)] at h2
      have hne : q ≠ p := fun e => by
        subst e
        obtain ⟨l1, e1⟩ := List.getElem?_eq_some_iff.mp h1
        obtain ⟨l2, e2⟩ := List.getElem?_eq_some_iff.mp hp
        exact hm ((List.getElem_inj w.nd).mp (e1.trans e2.symm))
      exact (w.oc m q c h1 h2).mono sF (List.prefix_refl _) (fun z => (upd_ne hne).trans z) fun _ z => z
  · show (s.r.map _).length = _
    rw [List.length_map]; exact w.sl
  · have e : (s.r.map (subO n x))[i]? = some (some v) := e
    rw [List.getElem?_map] at e
    cases hr : s.r[i]? with
    | none => rw [hr] at e; cases e
    | some o =>
      rw [hr] at e
      have e : subO n x o = some v := Option.some.inj e
      cases o with
      | none => cases e
      | some y =>
        obtain ⟨u, a, b⟩ := w.pv i y hr
        cases y with
        | d z =>
          cases e
          exact ⟨u, a, b.mono sF (List.prefix_refl _)⟩
        | scr ns =>
          cases e
          exact ⟨u, a, b.mono sF (List.prefix_refl _)⟩
        | tp ps =>
          cases e
          exact ⟨u, a, b.mono sF (List.prefix_refl _)⟩
        | gl ns =>
          cases e
          exact ⟨u, a, b.mono sF (List.prefix_refl _)⟩
        | exc ns =>
          cases e
          exact ⟨u, a, b.mono sF (List.prefix_refl _)⟩
        | xd ns =>
          cases e
          exact ⟨u, a, b.mono sF (List.prefix_refl _)⟩
        | dk ns =>
          cases e
          exact ⟨u, a, b.mono sF (List.prefix_refl _)⟩
        | fn _ _ _ _ _ =>
          cases e
          exact ⟨u, a, b.mono sF (List.prefix_refl _)⟩
        | own m =>
          by_cases hm : m = n
          · rw [subO_eq hm] at e
            cases e
            subst hm
            obtain ⟨q, hq, rfl⟩ := b
            rw [hp] at hq
            cases hq
            exact ⟨_, a, dD⟩
          · rw [subO_ne hm] at e
            cases e
            exact ⟨u, a, b.mono sF (List.prefix_refl _)⟩
  · rcases List.mem_cons.mp ht with e | ht
    · rw [e]; exact dD
    · exact (w.tm t ht).mono sF (List.prefix_refl _)
theorem WdF.frz {n : Nat} {p : Addr} {xs : List PyData} (w : WdF K H0 F0 A0 s σ T H F A) (hp : A[n]? = some p) (ho : s.o[n]? = some (.dl xs)) : ∃ F', WdF K H0 F0 A0 (s.frz n xs) σ ((.d (.list xs), .ref p) :: T) H F' A := by
  obtain ⟨fp, vs, hv, hd⟩ := w.oc n p _ hp ho
  exact w.frzV hp (List.getElem?_eq_some_iff.mp ho).1 fp hv (show Dq K (upd F p (.lst vs)) (.ref p) (.list xs) from .lst upd_same (dqAll_same (same_new fp) hd))
theorem WdF.frzD {n : Nat} {p : Addr} {kvs : List (Key × PyData)} (w : WdF K H0 F0 A0 s σ T H F A) (hp : A[n]? = some p) (ho : s.o[n]? = some (.di kvs)) : ∃ F', WdF K H0 F0 A0 (s.frzV n (.dk kvs)) σ ((.dk kvs, .ref p) :: T) H F' A := by
  obtain ⟨fp, vs, hv, hk, hd⟩ := w.oc n p _ hp ho
  exact w.frzV hp (List.getElem?_eq_some_iff.mp ho).1 fp hv ⟨p, vs, rfl, upd_same, hk, dqAll_same (same_new fp) hd⟩
theorem frz_ok {v : PV} {u : V} {k : PyData → PSt → Prop} (w : Wd K H0 F0 A0 s σ ((v, u) :: T) H) (h : frz v s k) : ∃ x s', k x s' ∧ Wd K H0 F0 A0 s' σ ((.d x, u) :: T) H := by
  cases v with
  | d x => exact ⟨x, s, h, w⟩
  | scr ns => exact h.elim
  | tp ps => exact h.elim
  | gl g => exact h.elim
  | exc y => exact h.elim
  | xd y => exact h.elim
  | dk y => exact h.elim
  | fn _ _ _ _ _ => exact h.elim
  | own n =>
    obtain ⟨xs, ho, hk⟩ := h
    obtain ⟨F, A, w⟩ := w
    obtain ⟨p, hp, rfl⟩ := w.tm _ List.mem_cons_self
    obtain ⟨F', w'⟩ := w.frz hp ho
    refine ⟨_, _, hk, F', A, w'.sub fun t ht => ?_⟩
    rcases List.mem_cons.mp ht with e | ht
    · rw [e]; exact List.mem_cons_self
    · exact List.mem_cons_of_mem _ (List.mem_cons_of_mem _ ht)
end

def wVar (i : Nat) : EW := fun _ s k => ∃ v, s.r[i]? = some (some v) ∧ k v s
def wC (x : PyData) : EW := fun _ s k => k (.d x) s
def wOp (R : PyData → PyData → (PyData → Prop) → Prop) (wa wb : EW) : EW := fun kx s k => wa kx s fun x s1 => wb kx s1 fun y s2 => ∃ a b, dat s2 x = some a ∧ dat s2 y = some b ∧ R a b fun z => k (.d z) s2
section
variable {X : Cx} {W : WX} {a b : Expr} {wa wb : EW} {pos : Pos}
theorem e_var (i : Nat) {x : Str} (hN : X.N[i]? = some x := by rfl) (hv : Vis X.env.scope x := by first | exact Or.inl rfl | exact Or.inr (Or.inl rfl) | exact Or.inr (Or.inr rfl)) (hd : (x == ("__debug__" : Str)) = false := by decide)
    (hcd : (x == ("__classdict__" : Str)) = false := by decide) : PE X (.Name x pos) (tE X.K W (wVar i)) := by
  refine PE.imp (pe_var hN hv hd hcd) fun σ H Q ⟨H0, F0, A0, s, T, kx, k, w, xl, ⟨v, e, hk⟩, q⟩ => ?_
  obtain ⟨F, A, w⟩ := w
  obtain ⟨u, e2, p⟩ := w.pv i v e
  exact ⟨u, e2, q v s hk u H ⟨F, A, w.push p⟩⟩
theorem e_c {u : V} {x : PyData} (h : PE X a (tC u)) (d : ∀ K H, Dq K H u x) : PE X a (tE X.K W (wC x)) := by
  refine PE.imp h fun σ H Q ⟨H0, F0, A0, s, T, kx, k, w, xl, hk, q⟩ => ?_
  obtain ⟨F, A, w⟩ := w
  exact q _ s hk u H ⟨F, A, w.push (d _ _)⟩
theorem e_int {i : Int} {j : Nat} : PE X (.Constant (.int i) j pos) (tE X.K W (wC (.int i))) := e_c pe_int fun _ _ => .int i
theorem e_str {x : Str} {j : Nat} : PE X (.Constant (.str x) j pos) (tE X.K W (wC (.str x))) := e_c pe_str fun _ _ => .str x
theorem e_bl {b : Bool} {j : Nat} : PE X (.Constant (.bool b) j pos) (tE X.K W (wC (.bool b))) := e_c pe_bl fun _ _ => .bl b
theorem e_non {j : Nat} : PE X (.Constant .none j pos) (tE X.K W (wC .none)) := e_c pe_non fun _ _ => .non
theorem e_gi {x : Str} {i : Int} (hg : Gl X x) (hm : ∃ t, X.mg x = some (.int i t)) (hd : (x == ("__debug__" : Str)) = false := by decide) : PE X (.Name x pos) (tE X.K W (wC (.int i))) := by
  obtain ⟨t, hm⟩ := hm
  exact e_c (u := .int i) (pe_glob hg hm ⟨t, rfl⟩ hd) fun _ _ => .int i
theorem e_gs {x : Str} {i : Str} (hg : Gl X x) (hm : ∃ t, X.mg x = some (.str i t)) (hd : (x == ("__debug__" : Str)) = false := by decide) : PE X (.Name x pos) (tE X.K W (wC (.str i))) := by
  obtain ⟨t, hm⟩ := hm
  exact e_c (u := .str i) (pe_glob hg hm ⟨t, rfl⟩ hd) fun _ _ => .str i

theorem tOp_of {r : R2} {σ : St} {H : Hp} {Q : VK} {H0 F0 : Hp} {A0 : List Addr} {s : PSt} {T : List (PV × V)} {kx : KX} {R : PV → PV → PSt → Prop} (w : Wd X.K H0 F0 A0 s σ T H) (xl : XL X.K H0 F0 A0 T W kx)
    (h : wa kx s fun x s1 => wb kx s1 fun y s2 => R x y s2) (hr : ∀ x y s2 u v H2, R x y s2 → Wd X.K H0 F0 A0 s2 σ ((y, v) :: (x, u) :: T) H2 → r u v H2 Q) : tOp r (tE X.K W wa) (tE X.K W wb) σ H Q :=
  ⟨H0, F0, A0, s, T, kx, _, w, xl, h, fun x s1 h1 u H1 w1 => ⟨H0, F0, A0, s1, (x, u) :: T, kx, _, w1, xl.push, h1, fun y s2 h2 v H2 w2 => hr x y s2 u v H2 h2 w2⟩⟩
def toV : PyData → Option V
  | .none => some .non
  | .bool b => some (.bl b)
  | .int i => some (.int i)
  | .str x => some (.str x)
  | _ => none
theorem toV_dp {K : PySem.W.Frag} {H : Hp} {z : PyData} {t : V} (h : toV z = some t) : Dq K H t z := by
  cases z with
  | none => cases h; exact .non
  | bool b => cases h; exact .bl b
  | int i => cases h; exact .int i
  | str x => cases h; exact .str x
  | list xs => cases h
  | tuple xs => cases h
  | dict xs => cases h
def ROk (K : PySem.W.Frag) (r : R2) (R : PyData → PyData → (PyData → Prop) → Prop) : Prop :=
  ∀ (u v : V) (x y : PyData) (H : Hp) (Q : VK) (P : PyData → Prop), Dp K H u x → Dp K H v y → R x y P → (∀ z t, P z → toV z = some t → Q t H) → r u v H Q
theorem wOp_of {r : R2} {R : PyData → PyData → (PyData → Prop) → Prop} {σ : St} {H : Hp} {Q : VK} (ho : ROk X.K r R) (h : tE X.K W (wOp R wa wb) σ H Q) : tOp r (tE X.K W wa) (tE X.K W wb) σ H Q := by
  obtain ⟨H0, F0, A0, s, T, kx, k, w, xl, h, q⟩ := h
  refine tOp_of w xl h fun x y s2 u v H2 hR w2 => ?_
  obtain ⟨a, b, da, db, hR⟩ := hR
  obtain ⟨F, A, w2⟩ := w2
  refine ho u v a b H2 Q _ (dat_ok w2 (w2.tm _ (List.mem_cons_of_mem _ List.mem_cons_self)) da) (dat_ok w2 (w2.tm _ List.mem_cons_self) db) hR fun z t hz ht => ?_
  exact q _ _ hz t H2 ⟨F, A, (w2.sub fun t h => List.mem_cons_of_mem _ (List.mem_cons_of_mem _ h)).push (toV_dp ht)⟩
theorem e_op {op : Operator} {r : R2} {R : PyData → PyData → (PyData → Prop) → Prop} (hr : OpR X (binaryOp op) r) (ho : ROk X.K r R) (ha : PE X a (tE X.K W wa)) (hb : PE X b (tE X.K W wb)) : PE X (.BinOp a op b pos) (tE X.K W (wOp R wa wb)) :=
  PE.imp (pe_op hr ha hb) fun _ _ _ h => wOp_of ho h
theorem e_cmp {op : CmpOp} {r : R2} {R : PyData → PyData → (PyData → Prop) → Prop} (hr : OpR X (compareOp op) r) (ho : ROk X.K r R) (hm : behindInMarks op b = false) (ha : PE X a (tE X.K W wa)) (hb : PE X b (tE X.K W wb)) : PE X (.Compare a [op] [b] pos) (tE X.K W (wOp R wa wb)) :=
  PE.imp (pe_cmpR hr ha hb hm) fun _ _ _ h => wOp_of ho h

def rAddD : PyData → PyData → (PyData → Prop) → Prop := fun a b q => match a, b with
  | .int i, .int j => q (.int (i + j))
  | .str x, .str y => x.length + y.length ≤ sizeLine ∧ q (.str (x ++ y))
  | _, _ => False
def rSubD : PyData → PyData → (PyData → Prop) → Prop := fun a b q => match a, b with
  | .int i, .int j => q (.int (i - j))
  | _, _ => False
def rMulD : PyData → PyData → (PyData → Prop) → Prop := fun a b q => match a, b with
  | .int i, .int j => CMul i j ∧ q (.int (i * j))
  | _, _ => False
def rModD : PyData → PyData → (PyData → Prop) → Prop := fun a b q => match a, b with
  | .int i, .int j => 0 < j ∧ q (.int (i % j))
  | _, _ => False
def rDivD : PyData → PyData → (PyData → Prop) → Prop := fun a b q => match a, b with
  | .int i, .int j => CDiv i j ∧ q (.int (i / j))
  | _, _ => False
theorem dp_int {K : PySem.W.Frag} {H : Hp} {u : V} {i : Int} (h : Dp K H u (.int i)) : u = .int i := by cases h; rfl
theorem dp_str {K : PySem.W.Frag} {H : Hp} {u : V} {i : Str} (h : Dp K H u (.str i)) : u = .str i := by cases h; rfl
theorem dp_bl {K : PySem.W.Frag} {H : Hp} {u : V} {i : Bool} (h : Dp K H u (.bool i)) : u = .bl i := by cases h; rfl
theorem op_addD : OpR X (binaryOp .Add) (fun x y H Q => (rI0 fun i j => .int (i + j)) x y H Q ∨ ∃ i j, x = .str i ∧ y = .str j ∧ i.length + j.length ≤ sizeLine ∧ Q (.str (i ++ j)) H) := op_add.or op_add_str
theorem ok_addD {K : PySem.W.Frag} : ROk K (fun x y H Q => (rI0 fun i j => .int (i + j)) x y H Q ∨ ∃ i j, x = .str i ∧ y = .str j ∧ i.length + j.length ≤ sizeLine ∧ Q (.str (i ++ j)) H) rAddD := by
  intro u v x y H Q P hx hy h q
  cases x <;> cases y <;> try exact h.elim
  · cases dp_int hx; cases dp_int hy
    exact .inl ⟨_, _, rfl, rfl, q _ _ h rfl⟩
  · cases dp_str hx; cases dp_str hy
    exact .inr ⟨_, _, rfl, rfl, h.1, q _ _ h.2 rfl⟩
theorem ok_subD {K : PySem.W.Frag} : ROk K (rI0 fun i j => .int (i - j)) rSubD := by
  intro u v x y H Q P hx hy h q
  cases x <;> cases y <;> try exact h.elim
  cases dp_int hx; cases dp_int hy
  exact ⟨_, _, rfl, rfl, q _ _ h rfl⟩
theorem ok_mulD {K : PySem.W.Frag} : ROk K (rI CMul fun i j => .int (i * j)) rMulD := by
  intro u v x y H Q P hx hy h q
  cases x <;> cases y <;> try exact h.elim
  cases dp_int hx; cases dp_int hy
  exact ⟨_, _, rfl, rfl, h.1, q _ _ h.2 rfl⟩
theorem ok_modD {K : PySem.W.Frag} : ROk K (rI (fun _ j => 0 < j) fun i j => .int (i % j)) rModD := by
  intro u v x y H Q P hx hy h q
  cases x <;> cases y <;> try exact h.elim
  cases dp_int hx; cases dp_int hy
  exact ⟨_, _, rfl, rfl, h.1, q _ _ h.2 rfl⟩
theorem ok_divD {K : PySem.W.Frag} : ROk K (rI CDiv fun i j => .int (i / j)) rDivD := by
  intro u v x y H Q P hx hy h q
  cases x <;> cases y <;> try exact h.elim
  cases dp_int hx; cases dp_int hy
  exact ⟨_, _, rfl, rfl, h.1, q _ _ h.2 rfl⟩
abbrev wAdd := wOp rAddD
abbrev wSub := wOp rSubD
abbrev wMul := wOp rMulD
abbrev wMod := wOp rModD
abbrev wDiv := wOp rDivD
theorem e_add (ha : PE X a (tE X.K W wa)) (hb : PE X b (tE X.K W wb)) : PE X (.BinOp a .Add b pos) (tE X.K W (wAdd wa wb)) := e_op op_addD ok_addD ha hb
theorem e_sub (ha : PE X a (tE X.K W wa)) (hb : PE X b (tE X.K W wb)) : PE X (.BinOp a .Sub b pos) (tE X.K W (wSub wa wb)) := e_op op_sub ok_subD ha hb
theorem e_mul (ha : PE X a (tE X.K W wa)) (hb : PE X b (tE X.K W wb)) : PE X (.BinOp a .Mult b pos) (tE X.K W (wMul wa wb)) := e_op op_mul ok_mulD ha hb
theorem e_mod (ha : PE X a (tE X.K W wa)) (hb : PE X b (tE X.K W wb)) : PE X (.BinOp a .Mod b pos) (tE X.K W (wMod wa wb)) := e_op op_mod ok_modD ha hb
theorem e_div (ha : PE X a (tE X.K W wa)) (hb : PE X b (tE X.K W wb)) : PE X (.BinOp a .FloorDiv b pos) (tE X.K W (wDiv wa wb)) := e_op op_fdiv ok_divD ha hb

def rCmpD (g : Int → Int → Bool) : PyData → PyData → (PyData → Prop) → Prop := fun a b q => match a, b with
  | .int i, .int j => q (.bool (g i j))
  | _, _ => False
theorem ok_cmpD {K : PySem.W.Frag} {g : Int → Int → Bool} : ROk K (rI0 fun i j => .bl (g i j)) (rCmpD g) := by
  intro u v x y H Q P hx hy h q
  cases x <;> cases y <;> try exact h.elim
  cases dp_int hx; cases dp_int hy
  exact ⟨_, _, rfl, rfl, q _ _ h rfl⟩
abbrev wLt := wOp (rCmpD fun i j => decide (i < j))
abbrev wLe := wOp (rCmpD fun i j => decide (i ≤ j))
abbrev wGt := wOp (rCmpD fun i j => decide (j < i))
abbrev wGe := wOp (rCmpD fun i j => decide (j ≤ i))
theorem e_ge (ha : PE X a (tE X.K W wa)) (hb : PE X b (tE X.K W wb)) : PE X (.Compare a [.GtE] [b] pos) (tE X.K W (wGe wa wb)) := e_cmp op_ge ok_cmpD (nomark _) ha hb

def flatD : PyData → Bool
  | .none | .int _ | .str _ | .bool _ => true
  | _ => false
def eqOk (a b : PyData) : Bool := (match a, b with
  | .none, .none | .none, .int _ | .int _, .none | .none, .bool _ | .bool _, .none | .none, .str _ | .str _, .none
  | .int _, .int _ | .bool _, .bool _ | .str _, .str _ | .int _, .str _ | .str _, .int _ | .bool _, .str _ | .str _, .bool _ => true
  | _, _ => false) || (SeqAt.shaped a && SeqAt.shaped b)
def rEqP (n : Bool) : PyData → PyData → (PyData → Prop) → Prop := fun a b q => eqOk a b = true ∧ q (.bool (if n then !PyData.eqv a b else PyData.eqv a b))
theorem op_eqB (hu : X.A.units + 64 < cLine) : OpR X (compareOp .Eq) (fun x y H Q => rEq x y H Q ∨ rEqD X.K x y H Q) := op_eq.or (op_eqD hu)
theorem op_neB (hu : X.A.units + 64 < cLine) : OpR X (compareOp .NotEq) (fun x y H Q => rNe x y H Q ∨ rNeD X.K x y H Q) := op_ne.or (op_neD hu)
theorem eqv_flat {K : PySem.W.Frag} {H : Hp} {u v : V} {a b : PyData} (ha : Dp K H u a) (hb : Dp K H v b) (h : eqOk a b = true) (hn : ¬ (SeqAt.shaped a && SeqAt.shaped b) = true) : scal u v = true ∧ decide (u = v) = PyData.eqv a b := by
  unfold eqOk at h
  rw [Bool.or_eq_true] at h
  rcases h with h | h
  · cases a <;> cases b <;> first | cases h | skip
    all_goals (cases ha; cases hb)
    all_goals first | exact ⟨rfl, rfl⟩ | (refine ⟨rfl, ?_⟩; simp [PyData.eqv]; done) | (refine ⟨rfl, ?_⟩; simp [PyData.eqv]; rw [Bool.eq_iff_iff]; simp)
  · exact absurd h hn
theorem ok_eqP {K : PySem.W.Frag} : ROk K (fun x y H Q => rEq x y H Q ∨ rEqD K x y H Q) (rEqP false) := by
  intro u v x y H Q P hx hy h q
  by_cases hs : (SeqAt.shaped x && SeqAt.shaped y) = true
  · rw [Bool.and_eq_true] at hs
    exact .inr ⟨x, y, hx, hy, hs.1, hs.2, q _ _ h.2 rfl⟩
  · obtain ⟨h1, h2⟩ := eqv_flat hx hy h.1 hs
    exact .inl ⟨h1, by rw [h2]; exact q _ _ h.2 rfl⟩
theorem ok_neP {K : PySem.W.Frag} : ROk K (fun x y H Q => rNe x y H Q ∨ rNeD K x y H Q) (rEqP true) := by
  intro u v x y H Q P hx hy h q
  by_cases hs : (SeqAt.shaped x && SeqAt.shaped y) = true
  · rw [Bool.and_eq_true] at hs
    exact .inr ⟨x, y, hx, hy, hs.1, hs.2, q _ _ h.2 rfl⟩
  · obtain ⟨h1, h2⟩ := eqv_flat hx hy h.1 hs
    exact .inl ⟨h1, by rw [h2]; exact q _ _ h.2 rfl⟩
abbrev wEq := wOp (rEqP false)
abbrev wNe := wOp (rEqP true)
theorem e_eq (hu : X.A.units + 64 < cLine) (ha : PE X a (tE X.K W wa)) (hb : PE X b (tE X.K W wb)) : PE X (.Compare a [.Eq] [b] pos) (tE X.K W (wEq wa wb)) := e_cmp (op_eqB hu) ok_eqP (nomark _) ha hb
end
end PW
namespace PW
open PySem L2
section
variable {X : Cx} {W : WX} {a b c : Expr} {wa wb : EW} {ta tb : TW} {pos : Pos} {rest : List Expr}
theorem un_of {σ : St} {H : Hp} {H0 F0 : Hp} {A0 : List Addr} {s : PSt} {T : List (PV × V)} {kx : KX} {R : PV → PSt → Prop} {Q : VK} (w : Wd X.K H0 F0 A0 s σ T H) (xl : XL X.K H0 F0 A0 T W kx)
    (h : wa kx s R) (hr : ∀ x s1 u H1, R x s1 → Wd X.K H0 F0 A0 s1 σ ((x, u) :: T) H1 → Q u H1) : tE X.K W wa σ H Q := ⟨H0, F0, A0, s, T, kx, R, w, xl, h, fun x s1 h1 u H1 w1 => hr x s1 u H1 h1 w1⟩
def inD (a : PyData) (xs : List PyData) : Bool := xs.any fun z => PyData.eqv z a
def rInP (n : Bool) : PyData → PyData → (PyData → Prop) → Prop := fun a b q => match a, b with
  | .str x, .str y => (∃ c, x = ⟨#[c]⟩ ∧ q (.bool (if n then !decide (c ∈ y.cps.toList) else decide (c ∈ y.cps.toList))))
  | a, .list ys => SeqAt.shaped a = true ∧ SeqAt.shaped (.list ys) = true ∧ q (.bool (if n then !inD a ys else inD a ys))
  | a, .tuple ys => flatD a = true ∧ ys.all flatD = true ∧ q (.bool (if n then !inD a ys else inD a ys))
  | _, _ => False
theorem flat_dp {K : PySem.W.Frag} {H : Hp} {u : V} {d : PyData} (h : Dp K H u d) (f : flatD d = true) : flatV u = true := by
  cases h <;> first | rfl | cases f
theorem flatAll_dp {K : PySem.W.Frag} {H : Hp} : ∀ {us : List V} {ds : List PyData}, DpAll K H us ds → ds.all flatD = true → us.all flatV = true
  | _, _, .nil, _ => rfl
  | _, _, .cons h t, f => by
    rw [List.all_cons, Bool.and_eq_true] at f
    rw [List.all_cons, flat_dp h f.1, flatAll_dp t f.2]
    rfl
theorem eqV_dp {K : PySem.W.Frag} {H : Hp} {u v : V} {a b : PyData} (ha : Dp K H u a) (hb : Dp K H v b) (fa : flatD a = true) (fb : flatD b = true) : eqV u v = PyData.eqv a b := by
  cases ha <;> cases hb <;> first | cases fa | cases fb | skip
  all_goals simp [eqV, PyData.eqv]
theorem inV_dp {K : PySem.W.Frag} {H : Hp} {u : V} {a : PyData} (ha : Dp K H u a) (fa : flatD a = true) : ∀ {us : List V} {ds : List PyData}, DpAll K H us ds → ds.all flatD = true → inV u us = inD a ds
  | _, _, .nil, _ => rfl
  | _, _, .cons h t, f => by
    rw [List.all_cons, Bool.and_eq_true] at f
    show (eqV _ u || inV u _) = (PyData.eqv _ a || inD a _)
    rw [eqV_dp h ha f.1 fa, inV_dp ha fa t f.2]
def rInR (K : PySem.W.Frag) : R2 := fun x y H Q => (∃ (c : Nat) (z : Str), x = .str ⟨#[c]⟩ ∧ y = .str z ∧ Q (.bl (decide (c ∈ z.cps.toList))) H) ∨ rInD K x y H Q ∨ rIn K false x y H Q
def rNotInR (K : PySem.W.Frag) : R2 := fun x y H Q => (∃ (c : Nat) (z : Str), x = .str ⟨#[c]⟩ ∧ y = .str z ∧ Q (.bl (!decide (c ∈ z.cps.toList))) H) ∨ rNotInD K x y H Q ∨ rIn K true x y H Q
theorem op_inR (hu : X.A.units + 65 < cLine) : OpR X (compareOp .In) (rInR X.K) := op_in_sign.or ((op_inD hu).or op_in_seq)
theorem op_notInR (hu : X.A.units + 65 < cLine) : OpR X (compareOp .NotIn) (rNotInR X.K) := op_notIn_sign.or ((op_notInD hu).or op_notIn_seq)
theorem ok_inP {K : PySem.W.Frag} : ROk K (rInR K) (rInP false) := by
  intro u v x y H Q P hx hy h q
  cases y with
  | str z =>
    cases x <;> try exact h.elim
    cases dp_str hx; cases dp_str hy
    obtain ⟨c, rfl, h⟩ := h
    exact .inl ⟨c, z, rfl, rfl, q _ _ h rfl⟩
  | list ys =>
    have h : SeqAt.shaped x = true ∧ SeqAt.shaped (.list ys) = true ∧ P (.bool (inD x ys)) := by
      cases x <;> exact h
    exact .inr (.inl ⟨x, ys, hx, hy, h.1, h.2.1, q _ _ h.2.2 rfl⟩)
  | tuple ys =>
    have h : flatD x = true ∧ ys.all flatD = true ∧ P (.bool (inD x ys)) := by
      cases x <;> exact h
    cases hy with
    | tup hs ht =>
      refine .inr (.inr ⟨_, _, rfl, .inr hs, flat_dp hx h.1, flatAll_dp ht h.2.1, ?_⟩)
      show Q (.bl (inV u _)) H
      rw [inV_dp hx h.1 ht h.2.1]
      exact q _ _ h.2.2 rfl
  | _ => cases x <;> exact h.elim
theorem ok_notInP {K : PySem.W.Frag} : ROk K (rNotInR K) (rInP true) := by
  intro u v x y H Q P hx hy h q
  cases y with
  | str z =>
    cases x <;> try exact h.elim
    cases dp_str hx; cases dp_str hy
    obtain ⟨c, rfl, h⟩ := h
    exact .inl ⟨c, z, rfl, rfl, q _ _ h rfl⟩
  | list ys =>
    have h : SeqAt.shaped x = true ∧ SeqAt.shaped (.list ys) = true ∧ P (.bool (!inD x ys)) := by
      cases x <;> exact h
    exact .inr (.inl ⟨x, ys, hx, hy, h.1, h.2.1, q _ _ h.2.2 rfl⟩)
  | tuple ys =>
    have h : flatD x = true ∧ ys.all flatD = true ∧ P (.bool (!inD x ys)) := by
      cases x <;> exact h
    cases hy with
    | tup hs ht =>
      refine .inr (.inr ⟨_, _, rfl, .inr hs, flat_dp hx h.1, flatAll_dp ht h.2.1, ?_⟩)
      show Q (.bl (!inV u _)) H
      rw [inV_dp hx h.1 ht h.2.1]
      exact q _ _ h.2.2 rfl
  | _ => cases x <;> exact h.elim
abbrev wIn := wOp (rInP false)
abbrev wNotIn := wOp (rInP true)
def wB (wa : EW) : TW := fun kx s k => wa kx s fun x s1 => ∃ c, x = .d (.bool c) ∧ k c s1
theorem tB_of {σ : St} {H : Hp} {Q : Bool → Hp → Prop} (h : tT X.K W (wB wa) σ H Q) : tB (tE X.K W wa) σ H Q := by
  obtain ⟨H0, F0, A0, s, T, kx, k, w, xl, h, q⟩ := h
  refine un_of w xl h fun x s1 u H1 h1 w1 => ?_
  obtain ⟨c, rfl, hk⟩ := h1
  obtain ⟨F, A, w1⟩ := w1
  exact ⟨c, dp_bl (dq_dp (w1.tm _ List.mem_cons_self)), q c s1 hk H1 ⟨F, A, w1.sub fun t h => List.mem_cons_of_mem _ h⟩⟩
theorem t_op {op : CmpOp} {r : R2} {R : PyData → PyData → (PyData → Prop) → Prop} (hr : OpR X (compareOp op) r) (ho : ROk X.K r R) (hm : behindInMarks op b = false) (ha : PE X a (tE X.K W wa)) (hb : PE X b (tE X.K W wb)) : PT X (.Compare a [op] [b] pos) (tT X.K W (wB (wOp R wa wb))) := by
  refine PT.imp (pt_cmpR hr ha hb hm) fun σ H Q ⟨H0, F0, A0, s, T, kx, k, w, xl, h, q⟩ => ?_
  refine wOp_of ho ⟨H0, F0, A0, s, T, kx, _, w, xl, h, fun v s1 h1 u H1 w1 => ?_⟩
  obtain ⟨c, rfl, hk⟩ := h1
  obtain ⟨F, A, w1⟩ := w1
  exact ⟨c, dp_bl (dq_dp (w1.tm _ List.mem_cons_self)), q c s1 hk H1 ⟨F, A, w1.sub fun t h => List.mem_cons_of_mem _ h⟩⟩
theorem t_eq (hu : X.A.units + 64 < cLine) (ha : PE X a (tE X.K W wa)) (hb : PE X b (tE X.K W wb)) : PT X (.Compare a [.Eq] [b] pos) (tT X.K W (wB (wEq wa wb))) := t_op (op_eqB hu) ok_eqP (nomark _) ha hb
theorem t_ne (hu : X.A.units + 64 < cLine) (ha : PE X a (tE X.K W wa)) (hb : PE X b (tE X.K W wb)) : PT X (.Compare a [.NotEq] [b] pos) (tT X.K W (wB (wNe wa wb))) := t_op (op_neB hu) ok_neP (nomark _) ha hb
theorem t_lt (ha : PE X a (tE X.K W wa)) (hb : PE X b (tE X.K W wb)) : PT X (.Compare a [.Lt] [b] pos) (tT X.K W (wB (wLt wa wb))) := t_op op_lt ok_cmpD (nomark _) ha hb
theorem t_le (ha : PE X a (tE X.K W wa)) (hb : PE X b (tE X.K W wb)) : PT X (.Compare a [.LtE] [b] pos) (tT X.K W (wB (wLe wa wb))) := t_op op_le ok_cmpD (nomark _) ha hb
theorem t_gt (ha : PE X a (tE X.K W wa)) (hb : PE X b (tE X.K W wb)) : PT X (.Compare a [.Gt] [b] pos) (tT X.K W (wB (wGt wa wb))) := t_op op_gt ok_cmpD (nomark _) ha hb
theorem t_ge (ha : PE X a (tE X.K W wa)) (hb : PE X b (tE X.K W wb)) : PT X (.Compare a [.GtE] [b] pos) (tT X.K W (wB (wGe wa wb))) := t_op op_ge ok_cmpD (nomark _) ha hb
theorem t_in (hu : X.A.units + 65 < cLine) (hm : behindInMarks .In b = false) (ha : PE X a (tE X.K W wa)) (hb : PE X b (tE X.K W wb)) : PT X (.Compare a [.In] [b] pos) (tT X.K W (wB (wIn wa wb))) := t_op (op_inR hu) ok_inP hm ha hb
theorem t_notIn (hu : X.A.units + 65 < cLine) (hm : behindInMarks .NotIn b = false) (ha : PE X a (tE X.K W wa)) (hb : PE X b (tE X.K W wb)) : PT X (.Compare a [.NotIn] [b] pos) (tT X.K W (wB (wNotIn wa wb))) := t_op (op_notInR hu) ok_notInP hm ha hb
theorem t_val (h : PE X a (tE X.K W wa)) (he : ∀ whole, isTrue a X.env whole = (do let v ← whole; standAt a.pos; holding [v] (truthy v)) := by intro _; rfl) : PT X a (tT X.K W (wB wa)) := PT.imp (pt_val h he) fun _ _ _ h => tB_of h
def truD : PyData → (Bool → Prop) → Prop := fun x q => match x with
  | .none => q false
  | .bool b => q b
  | .int i => q (i != 0)
  | .str y => y.length ≤ sizeLine ∧ q ((y.length : Int) != 0)
  | .list xs => q (!xs.isEmpty)
  | .tuple xs => q (!xs.isEmpty)
  | .dict _ => False
theorem dpAll_isEmpty {K : PySem.W.Frag} {H : Hp} : ∀ {us : List V} {ds : List PyData}, DpAll K H us ds → us.isEmpty = ds.isEmpty
  | _, _, .nil => rfl
  | _, _, .cons _ _ => rfl
theorem tru_dp {K : PySem.W.Frag} {H : Hp} {u : V} {d : PyData} {P : Bool → Prop} (h : Dp K H u d) (t : truD d P) : ∃ k, TruV K u H k ∧ P k := by
  cases h with
  | non => exact ⟨_, rfl, t⟩
  | bl b => exact ⟨_, rfl, t⟩
  | int i => exact ⟨_, rfl, t⟩
  | str x => exact ⟨_, ⟨t.1, rfl⟩, t.2⟩
  | lst h r => exact ⟨_, .inl ⟨_, h, rfl⟩, by rw [dpAll_isEmpty r]; exact t⟩
  | tup h r => exact ⟨_, .inr (.inl ⟨_, h, rfl⟩), by rw [dpAll_isEmpty r]; exact t⟩
def wAnd (t u : TW) : TW := fun kx s k => t kx s fun c s1 => (c = true → u kx s1 k) ∧ (c = false → k false s1)
def wOr (t u : TW) : TW := fun kx s k => t kx s fun c s1 => (c = true → k true s1) ∧ (c = false → u kx s1 k)
def wNot (t : TW) : TW := fun kx s k => t kx s fun c s1 => k (!c) s1
theorem tAnd_of {σ : St} {H : Hp} {Q : Bool → Hp → Prop} (h : tT X.K W (wAnd ta tb) σ H Q) : tAnd (tT X.K W ta) (tT X.K W tb) σ H Q := by
  obtain ⟨H0, F0, A0, s, T, kx, k, w, xl, h, q⟩ := h
  refine ⟨H0, F0, A0, s, T, kx, _, w, xl, h, fun c s1 h1 H1 w1 => ?_⟩
  cases c with
  | true => exact iteT ⟨H0, F0, A0, s1, T, kx, k, w1, xl, h1.1 rfl, q⟩
  | false => exact iteF (q _ _ (h1.2 rfl) H1 w1)
theorem tOr_of {σ : St} {H : Hp} {Q : Bool → Hp → Prop} (h : tT X.K W (wOr ta tb) σ H Q) : tOr (tT X.K W ta) (tT X.K W tb) σ H Q := by
  obtain ⟨H0, F0, A0, s, T, kx, k, w, xl, h, q⟩ := h
  refine ⟨H0, F0, A0, s, T, kx, _, w, xl, h, fun c s1 h1 H1 w1 => ?_⟩
  cases c with
  | true => exact iteT (q _ _ (h1.1 rfl) H1 w1)
  | false => exact iteF ⟨H0, F0, A0, s1, T, kx, k, w1, xl, h1.2 rfl, q⟩
theorem t_and1 (ha : PT X a (tT X.K W ta)) : L2.PW X (.BoolOp .And [a] pos) (tT X.K W ta) := pw_and1 ha
theorem t_or1 (ha : PT X a (tT X.K W ta)) : L2.PW X (.BoolOp .Or [a] pos) (tT X.K W ta) := pw_or1 ha
theorem t_andC (ha : PT X a (tT X.K W ta)) (hb : L2.PW X (.BoolOp .And (b :: rest) pos) (tT X.K W tb)) : L2.PW X (.BoolOp .And (a :: b :: rest) pos) (tT X.K W (wAnd ta tb)) := PWi.imp (pw_and ha hb) fun _ _ _ h => tAnd_of h
theorem t_orC (ha : PT X a (tT X.K W ta)) (hb : L2.PW X (.BoolOp .Or (b :: rest) pos) (tT X.K W tb)) : L2.PW X (.BoolOp .Or (a :: b :: rest) pos) (tT X.K W (wOr ta tb)) := PWi.imp (pw_or ha hb) fun _ _ _ h => tOr_of h
theorem t_pw {e : Expr} (h : L2.PW X e (tT X.K W ta)) : PT X e (tT X.K W ta) := h.pt
theorem t_not (ha : PT X a (tT X.K W ta)) : PT X (.UnaryOp .Not a pos) (tT X.K W (wNot ta)) := by
  refine PT.imp (pt_not ha) fun σ H Q ⟨H0, F0, A0, s, T, kx, k, w, xl, h, q⟩ => ?_
  exact ⟨H0, F0, A0, s, T, kx, _, w, xl, h, fun c s1 h1 H1 w1 => q _ _ h1 H1 w1⟩
def wAndV (wa wb : EW) : EW := fun kx s k => wa kx s fun x s1 => ∃ c, x = .d (.bool c) ∧ (c = true → wb kx s1 k) ∧ (c = false → k (.d (.bool false)) s1)
def wNotV (wa : EW) : EW := fun kx s k => wa kx s fun x s1 => ∃ c, x = .d (.bool c) ∧ k (.d (.bool (!c))) s1
theorem e_andC (ha : PE X a (tE X.K W wa)) (hb : PE X (.BoolOp .And (b :: rest) pos) (tE X.K W wb)) : PE X (.BoolOp .And (a :: b :: rest) pos) (tE X.K W (wAndV wa wb)) := by
  refine PE.imp (pe_and ha hb) fun σ H Q ⟨H0, F0, A0, s, T, kx, k, w, xl, h, q⟩ => un_of w xl h fun x s1 u H1 h1 w1 => ?_
  obtain ⟨c, rfl, h1, h2⟩ := h1
  obtain ⟨F, A, w1⟩ := w1
  refine ⟨c, dp_bl (dq_dp (w1.tm _ List.mem_cons_self)), ?_⟩
  have w2 := w1.sub (T' := T) fun t h => List.mem_cons_of_mem _ h
  cases c with
  | true => exact iteT ⟨H0, F0, A0, s1, T, kx, k, ⟨F, A, w2⟩, xl, h1 rfl, q⟩
  | false => exact iteF (q _ _ (h2 rfl) _ H1 ⟨F, A, w2.push (.bl _)⟩)
theorem e_one {op : BoolOp} (ha : PE X a (tE X.K W wa)) : PE X (.BoolOp op [a] pos) (tE X.K W wa) := pe_one ha
theorem e_not (ha : PE X a (tE X.K W wa)) : PE X (.UnaryOp .Not a pos) (tE X.K W (wNotV wa)) := by
  refine PE.imp (pe_not ha) fun σ H Q ⟨H0, F0, A0, s, T, kx, k, w, xl, h, q⟩ => un_of w xl h fun x s1 u H1 h1 w1 => ?_
  obtain ⟨c, rfl, h1⟩ := h1
  obtain ⟨F, A, w1⟩ := w1
  exact ⟨c, dp_bl (dq_dp (w1.tm _ List.mem_cons_self)), q _ _ h1 _ H1 ⟨F, A, (w1.sub fun t h => List.mem_cons_of_mem _ h).push (.bl _)⟩⟩
end
end PW
namespace PW
open PySem L2
def frzs : List PV → PSt → (List PyData → PSt → Prop) → Prop
  | [], s, k => k [] s
  | v :: vs, s, k => frz v s fun x s1 => frzs vs s1 fun xs s2 => k (x :: xs) s2
def prep : List PV → PSt → (List PV → PSt → Prop) → Prop
  | [], s, k => k [] s
  | .scr ns :: vs, s, k => prep vs s fun xs s2 => k (.scr ns :: xs) s2
  | .gl u :: vs, s, k => prep vs s fun xs s2 => k (.gl u :: xs) s2
  | .exc u :: vs, s, k => prep vs s fun xs s2 => k (.exc u :: xs) s2
  | .dk u :: vs, s, k => prep vs s fun xs s2 => k (.dk u :: xs) s2
  | .own n :: vs, s, k => match s.o[n]? with
    | some (.di kvs) => prep vs (s.frzV n (.dk kvs)) fun xs s2 => k (.dk kvs :: xs) s2
    | _ => frz (.own n) s fun x s1 => prep vs s1 fun xs s2 => k (.d x :: xs) s2
  | v :: vs, s, k => frz v s fun x s1 => prep vs s1 fun xs s2 => k (.d x :: xs) s2
section
variable {K : PySem.W.Frag} {H0 F0 : Hp} {A0 : List Addr} {σ : St} {H : Hp}
theorem frzs_ok : ∀ (vs : List PV) (us : List V) (s : PSt) (T : List (PV × V)) (k : List PyData → PSt → Prop), us.length = vs.length → Wd K H0 F0 A0 s σ (vs.zip us ++ T) H → frzs vs s k →
    ∃ xs s', k xs s' ∧ xs.length = us.length ∧ Wd K H0 F0 A0 s' σ ((xs.map PV.d).zip us ++ T) H
  | [], [], s, T, k, _, w, h => ⟨[], s, h, rfl, w⟩
  | v :: vs, u :: us, s, T, k, e, w, h => by
    obtain ⟨x, s1, h1, w1⟩ := frz_ok w h
    obtain ⟨xs, s2, h2, e2, w2⟩ := frzs_ok vs us s1 ((.d x, u) :: T) _ (Nat.succ.inj e) (w1.sub fun t ht => by
      rcases List.mem_append.mp ht with q | q
      · exact List.mem_cons_of_mem _ (List.mem_append_left _ q)
      · rcases List.mem_cons.mp q with q | q
        · rw [q]; exact List.mem_cons_self
        · exact List.mem_cons_of_mem _ (List.mem_append_right _ q)) h1
    refine ⟨x :: xs, s2, h2, by rw [List.length_cons, List.length_cons, e2], w2.sub fun t ht => ?_⟩
    rcases List.mem_cons.mp ht with q | q
    · rw [q]; exact List.mem_append_right _ List.mem_cons_self
    · rcases List.mem_append.mp q with q | q
      · exact List.mem_append_left _ q
      · exact List.mem_append_right _ (List.mem_cons_of_mem _ q)
  | [], _ :: _, _, _, _, e, _, _ => nomatch e
  | _ :: _, [], _, _, _, e, _, _ => nomatch e
def Plain : PV → Prop
  | .own _ => False
  | .tp _ => False
  | .fn _ _ _ _ _ => False
  | _ => True
theorem prep_cons {v : PV} {vs : List PV} {s : PSt} {k : List PV → PSt → Prop} (h : prep (v :: vs) s k) : (Plain v ∧ prep vs s fun xs s2 => k (v :: xs) s2) ∨ (frz v s fun x s1 => prep vs s1 fun xs s2 => k (.d x :: xs) s2) ∨
    ∃ n kvs, v = .own n ∧ s.o[n]? = some (.di kvs) ∧ prep vs (s.frzV n (.dk kvs)) fun xs s2 => k (.dk kvs :: xs) s2 := by
  cases v with
  | scr ns => exact .inl ⟨True.intro, h⟩
  | gl ns => exact .inl ⟨True.intro, h⟩
  | exc ns => exact .inl ⟨True.intro, h⟩
  | d x => exact .inr (.inl h)
  | own n =>
    have h : (match s.o[n]? with
      | some (.di kvs) => prep vs (s.frzV n (.dk kvs)) fun xs s2 => k (.dk kvs :: xs) s2
      | _ => frz (.own n) s fun x s1 => prep vs s1 fun xs s2 => k (.d x :: xs) s2) := h
    split at h
    · rename_i kvs e
      exact .inr (.inr ⟨n, kvs, rfl, e, h⟩)
    · exact .inr (.inl h)
  | tp ps => exact .inr (.inl h)
  | xd ps => exact .inr (.inl h)
  | dk ps => exact .inl ⟨True.intro, h⟩
  | fn _ _ _ _ _ => exact .inr (.inl h)
theorem prep_ok : ∀ (vs : List PV) (us : List V) (s : PSt) (T : List (PV × V)) (k : List PV → PSt → Prop), us.length = vs.length → Wd K H0 F0 A0 s σ (vs.zip us ++ T) H → prep vs s k →
    ∃ xs s', k xs s' ∧ xs.length = us.length ∧ (∀ x ∈ xs, Plain x) ∧ Wd K H0 F0 A0 s' σ (xs.zip us ++ T) H
  | [], [], s, T, k, _, w, h => ⟨[], s, h, rfl, (fun _ z => nomatch z), w⟩
  | v :: vs, u :: us, s, T, k, e, w, h => by
    have go : ∃ x s1, Plain x ∧ (prep vs s1 fun xs s2 => k (x :: xs) s2) ∧ Wd K H0 F0 A0 s1 σ ((x, u) :: (vs.zip us ++ T)) H := by
      rcases prep_cons h with ⟨pl, h⟩ | h | ⟨n, kvs, rfl, ho, h⟩
      · exact ⟨v, s, pl, h, w⟩
      · obtain ⟨x, s1, h1, w1⟩ := frz_ok w h
        exact ⟨.d x, s1, True.intro, h1, w1⟩
      · obtain ⟨F, A, w⟩ := w
        obtain ⟨p, hp, rfl⟩ := w.tm _ List.mem_cons_self
        obtain ⟨F', w'⟩ := w.frzD hp ho
        refine ⟨.dk kvs, _, True.intro, h, F', A, w'.sub fun t ht => ?_⟩
        rcases List.mem_cons.mp ht with e | ht
        · rw [e]; exact List.mem_cons_self
        · exact List.mem_cons_of_mem _ (List.mem_cons_of_mem _ ht)
    obtain ⟨x, s1, px, h1, w1⟩ := go
    obtain ⟨xs, s2, h2, e2, p2, w2⟩ := prep_ok vs us s1 ((x, u) :: T) _ (Nat.succ.inj e) (w1.sub fun t ht => by
      rcases List.mem_append.mp ht with q | q
      · exact List.mem_cons_of_mem _ (List.mem_append_left _ q)
      · rcases List.mem_cons.mp q with q | q
        · rw [q]; exact List.mem_cons_self
        · exact List.mem_cons_of_mem _ (List.mem_append_right _ q)) h1
    refine ⟨x :: xs, s2, h2, by rw [List.length_cons, List.length_cons, e2], fun y hy => ?_, w2.sub fun t ht => ?_⟩
    · rcases List.mem_cons.mp hy with q | q
      · rw [q]; exact px
      · exact p2 y q
    · rcases List.mem_cons.mp ht with q | q
      · rw [q]; exact List.mem_append_right _ List.mem_cons_self
      · rcases List.mem_append.mp q with q | q
        · exact List.mem_append_left _ q
        · exact List.mem_append_right _ (List.mem_cons_of_mem _ q)
  | [], _ :: _, _, _, _, e, _, _ => nomatch e
  | _ :: _, [], _, _, _, e, _, _ => nomatch e
theorem temps_dq {s : PSt} {F : Hp} {A : List Addr} : ∀ (xs : List PyData) (us : List V) (T : List (PV × V)), xs.length = us.length → WdF K H0 F0 A0 s σ ((xs.map PV.d).zip us ++ T) H F A → DqAll K F us xs
  | [], [], _, _, _ => .nil
  | x :: xs, u :: us, T, e, w => .cons (w.tm (.d x, u) List.mem_cons_self) (temps_dq xs us T (Nat.succ.inj e) (w.sub fun t h => List.mem_cons_of_mem _ h))
  | [], _ :: _, _, e, _ => nomatch e
  | _ :: _, [], _, e, _ => nomatch e
end
def wNil : AW := fun _ s k => k [] s
def wCons (wa : EW) (wr : AW) : AW := fun kx s k => wa kx s fun x s1 => wr kx s1 fun xs s2 => k (x :: xs) s2
def wTup (ws : AW) : EW := fun kx s k => ws kx s fun vs s1 => frzs vs s1 fun xs s2 => xs.length ≤ sizeLine ∧ k (.d (.tuple xs)) s2
def wLst (ws : AW) : EW := fun kx s k => ws kx s fun vs s1 => frzs vs s1 fun xs s2 => xs.length ≤ sizeLine ∧ k (.own s2.o.length) ⟨s2.r, s2.o ++ [.dl xs]⟩
def ixD (a : PyData) (i : Int) : Option PyData := match a with
  | .list xs => atI xs i
  | .tuple xs => atI xs i
  | .str z => (atI z.cps.toList i).map fun c => .str ⟨#[c]⟩
  | _ => none
def strLe : PyData → Prop
  | .str z => z.length ≤ sizeLine
  | _ => True
def wIx (wa wb : EW) : EW := fun kx s k => wa kx s fun x s1 => wb kx s1 fun y s2 => ∃ a i, dat s2 x = some a ∧ dat s2 y = some (.int i) ∧ strLe a ∧ ∃ z, ixD a i = some z ∧ k (.d z) s2
def cutD {α : Type} (xs : List α) (lo hi : Option Int) : List α := (xs.drop (HT.sIx xs.length 0 lo)).take (HT.sIx xs.length xs.length hi - HT.sIx xs.length 0 lo)
def wNoPart : OW := fun _ s k => k none s
def wPart (wa : EW) : OW := fun kx s k => wa kx s fun x s1 => ∃ i, x = .d (.int i) ∧ k (some i) s1
def wSl (wa : EW) (wl wh : OW) : EW := fun kx s k => wa kx s fun x s1 => wl kx s1 fun lo s2 => wh kx s2 fun hi s3 => ∃ a, dat s3 x = some a ∧ match a with
  | .str z => z.length ≤ sizeLine ∧ k (.d (.str (cutS z lo hi))) s3
  | .tuple xs => k (.d (.tuple (cutD xs lo hi))) s3
  | .list xs => k (.own s3.o.length) ⟨s3.r, s3.o ++ [.dl (cutD xs lo hi)]⟩
  | _ => False
section
variable {X : Cx} {W : WX} {a b e : Expr} {es : List Expr} {wa wb we : EW} {ws : AW} {wl wh : OW} {pos : Pos}
theorem a_nil : PA X [] (tA X.K W wNil) := PA.imp pa_nil fun σ H Q ⟨H0, F0, A0, s, T, kx, k, w, xl, h, q⟩ => q [] s h [] H rfl w
theorem a_cons (ha : PE X e (tE X.K W we)) (hr : PA X es (tA X.K W ws)) (hs : starEach (e :: es) X.env = (false, eval e X.env) :: starEach es X.env := by rfl) : PA X (e :: es) (tA X.K W (wCons we ws)) := by
  refine PA.imp (pa_cons ha hr hs) fun σ H Q ⟨H0, F0, A0, s, T, kx, k, w, xl, h, q⟩ => ?_
  refine ⟨H0, F0, A0, s, T, kx, _, w, xl, h, fun x s1 h1 u H1 w1 => ?_⟩
  refine ⟨H0, F0, A0, s1, (x, u) :: T, kx, _, w1, xl.push, h1, fun xs s2 h2 us H2 e2 w2 => ?_⟩
  refine q _ _ h2 _ H2 (by rw [List.length_cons, List.length_cons, e2]) (w2.sub fun t ht => ?_)
  rcases List.mem_cons.mp ht with z | z
  · rw [z]; exact List.mem_append_right _ List.mem_cons_self
  · rcases List.mem_append.mp z with z | z
    · exact List.mem_append_left _ z
    · exact List.mem_append_right _ (List.mem_cons_of_mem _ z)
theorem ar_of {σ : St} {H : Hp} {Q : List V → Hp → Prop} {H0 F0 : Hp} {A0 : List Addr} {s : PSt} {T : List (PV × V)} {kx : KX} {R : List PV → PSt → Prop} (w : Wd X.K H0 F0 A0 s σ T H) (xl : XL X.K H0 F0 A0 T W kx)
    (h : ws kx s R) (hr : ∀ vs s1 us H1, R vs s1 → us.length = vs.length → Wd X.K H0 F0 A0 s1 σ (vs.zip us ++ T) H1 → Q us H1) : tA X.K W ws σ H Q := ⟨H0, F0, A0, s, T, kx, R, w, xl, h, fun vs s1 h1 us H1 e w1 => hr vs s1 us H1 h1 e w1⟩
theorem e_tup {x1} (h : PA X es (tA X.K W ws)) : PE X (.Tuple es x1 pos) (tE X.K W (wTup ws)) := by
  refine PE.imp (pe_tup h) fun σ H Q ⟨H0, F0, A0, s, T, kx, k, w, xl, h, q⟩ => ar_of w xl h fun vs s1 us H1 h1 e w1 => ?_
  obtain ⟨xs, s2, ⟨hz, hk⟩, e2, w2⟩ := frzs_ok vs us s1 T _ e w1 h1
  refine ⟨by rw [← e2]; exact hz, fun p hp => ?_⟩
  obtain ⟨F, A, w2⟩ := w2
  have d := temps_dq xs us T e2 w2
  have w3 := w2.newD (o := .tup us) hp
  refine q _ _ hk _ _ ⟨_, A, (w3.sub fun t h => List.mem_append_right _ h).push (.tup (SqT.of upd_same) (dqAll_same (same_new (w2.fz.g.free hp)) d))⟩
theorem e_lst (h : PA X es (tA X.K W ws)) : PE X (.List es pos) (tE X.K W (wLst ws)) := by
  refine PE.imp (pe_lst h) fun σ H Q ⟨H0, F0, A0, s, T, kx, k, w, xl, h, q⟩ => ar_of w xl h fun vs s1 us H1 h1 e w1 => ?_
  obtain ⟨xs, s2, ⟨hz, hk⟩, e2, w2⟩ := frzs_ok vs us s1 T _ e w1 h1
  refine ⟨by rw [← e2]; exact hz, fun p hp => ?_⟩
  obtain ⟨F, A, w2⟩ := w2
  have d := temps_dq xs us T e2 w2
  have w3 := (w2.sub (T' := T) fun t h => List.mem_append_right _ h).newL hp d
  refine q _ _ hk _ _ ⟨_, _, w3.push ⟨p, ?_, rfl⟩⟩
  rw [← w2.len, List.getElem?_append_right (Nat.le_refl _), Nat.sub_self]
  rfl
theorem atI_dq {K : PySem.W.Frag} {H : Hp} {vs : List V} {ds : List PyData} {i : Int} {z : PyData} (h : DqAll K H vs ds) (e : atI ds i = some z) : ∃ v, atI vs i = some v ∧ Dq K H v z := by
  unfold atI at e ⊢
  rw [h.len]
  cases hx : ixN ds.length i with
  | none => rw [hx] at e; cases e
  | some j =>
    rw [hx] at e
    exact h.getd j z e
theorem e_ix (ha : PE X a (tE X.K W wa)) (hb : PE X b (tE X.K W wb)) (hs : PlainIx b := by exact fun _ _ => rfl) : PE X (.Subscript a b pos) (tE X.K W (wIx wa wb)) := by
  refine PE.imp (pe_ix ix_seq ha hb hs) fun σ H Q ⟨H0, F0, A0, s, T, kx, k, w, xl, h, q⟩ => tOp_of w xl h fun x y s2 u v H2 hR w2 => ?_
  obtain ⟨d, i, hd, hi, hz, z, ez, hk⟩ := hR
  obtain ⟨F, A, w2⟩ := w2
  have pu := w2.tm _ (List.mem_cons_of_mem _ List.mem_cons_self)
  have ev := dp_int (dat_ok w2 (w2.tm _ List.mem_cons_self) hi)
  have w3 := w2.sub (T' := T) fun t h => List.mem_cons_of_mem _ (List.mem_cons_of_mem _ h)
  cases d with
  | list xs =>
    obtain ⟨p, vs, e1, h1, h2⟩ := items_ok w2 pu hd
    obtain ⟨t, h3, h4⟩ := atI_dq h2 ez
    exact .inl ⟨p, vs, i, t, e1, ev, h1, h3, q _ _ hk t H2 ⟨F, A, w3.push h4⟩⟩
  | tuple xs =>
    obtain ⟨p, vs, e1, h1, h2⟩ := itemsT_ok w2 pu hd
    obtain ⟨t, h3, h4⟩ := atI_dq h2 ez
    exact .inr (.inl ⟨p, vs, i, t, e1, ev, h1, h3, q _ _ hk t H2 ⟨F, A, w3.push h4⟩⟩)
  | str zs =>
    have ez : (atI zs.cps.toList i).map (fun c => PyData.str ⟨#[c]⟩) = some z := ez
    cases hc : atI zs.cps.toList i with
    | none => rw [hc] at ez; cases ez
    | some c =>
      rw [hc] at ez
      cases ez
      exact .inr (.inr ⟨zs, i, c, dp_str (dat_ok w2 pu hd), ev, hz, hc, q _ _ hk _ H2 ⟨F, A, w3.push (.str _)⟩⟩)
  | _ => cases ez
theorem o_none : PO X none (tO X.K W wNoPart) := PO.imp po_none fun σ H Q ⟨H0, F0, A0, s, T, kx, k, w, xl, h, q⟩ => q _ _ h H w
theorem o_some (h : PE X e (tE X.K W we)) : PO X (some e) (tO X.K W (wPart we)) := by
  refine PO.imp (po_some h) fun σ H Q ⟨H0, F0, A0, s, T, kx, k, w, xl, h, q⟩ => un_of w xl h fun x s1 u H1 h1 w1 => ?_
  obtain ⟨i, rfl, hk⟩ := h1
  obtain ⟨F, A, w1⟩ := w1
  exact ⟨i, dp_int (dq_dp (w1.tm _ List.mem_cons_self)), q _ _ hk H1 ⟨F, A, w1.sub fun t h => List.mem_cons_of_mem _ h⟩⟩
theorem cut_dq {K : PySem.W.Frag} {H : Hp} {vs : List V} {ds : List PyData} (lo hi : Option Int) (h : DqAll K H vs ds) : DqAll K H (cutV vs lo hi) (cutD ds lo hi) := by
  unfold cutV cutD
  rw [h.len]
  exact (h.drop _).take _
abbrev rSlP (K : PySem.W.Frag) : V → Option Int → Option Int → Hp → VK → Prop := fun x lo hi H Q => rSlL K x lo hi H Q ∨ (rSlA K x lo hi H Q ∨ rSlS x lo hi H Q)
theorem sl_of {σ : St} {H : Hp} {Q : VK} (h : tE X.K W (wSl we wl wh) σ H Q) : tSl (rSlP X.K) (tE X.K W we) (tO X.K W wl) (tO X.K W wh) σ H Q := by
  obtain ⟨H0, F0, A0, s, T, kx, k, w, xl, h, q⟩ := h
  refine un_of w xl h fun x s1 u H1 h1 w1 => ?_
  refine ⟨H0, F0, A0, s1, (x, u) :: T, kx, _, w1, xl.push, h1, fun lo s2 h2 H2 w2 => ?_⟩
  refine ⟨H0, F0, A0, s2, (x, u) :: T, kx, _, w2, xl.push, h2, fun hi s3 h3 H3 w3 => ?_⟩
  obtain ⟨d, hd, hk⟩ := h3
  obtain ⟨F, A, w3⟩ := w3
  have pu := w3.tm _ List.mem_cons_self
  have w4 := w3.sub (T' := T) fun t h => List.mem_cons_of_mem _ h
  cases d with
  | list xs =>
    obtain ⟨p, vs, e1, i1, i2⟩ := items_ok w3 pu hd
    refine .inl ⟨p, vs, e1, i1, fun n hn => q _ _ hk _ _ ⟨F, _, (w4.newL hn (cut_dq lo hi i2)).push ⟨n, ?_, rfl⟩⟩⟩
    rw [← w3.len, List.getElem?_append_right (Nat.le_refl _), Nat.sub_self]
    rfl
  | tuple xs =>
    obtain ⟨p, vs, e1, i1, i2⟩ := itemsT_ok w3 pu hd
    refine .inr (.inl ⟨p, vs, e1, i1, fun hw => ?_, fun hw n hn => ?_⟩)
    · have el : cutV vs lo hi = vs := by
        unfold cutV
        rw [hw.1, hw.2, List.drop_zero, Nat.sub_zero, List.take_length]
      have h3 := cut_dq lo hi i2
      rw [el] at h3
      cases x with
      | d y =>
        cases hd
        cases pu with
        | tup k1 k2 =>
          refine q _ _ hk _ _ ⟨F, A, w4.push ?_⟩
          cases e1
          exact .tup k1 (by
            have el2 : cutD xs lo hi = xs := by
              unfold cutD
              rw [← i2.len, hw.1, hw.2, List.drop_zero, Nat.sub_zero, i2.len, List.take_length]
            rw [el2]; exact k2)
      | scr ns => cases hd
      | tp ps => cases hd
      | gl g => cases hd
      | exc y => cases hd
      | xd y => cases hd
      | dk y => cases hd
      | fn _ _ _ _ _ => cases hd
      | own m =>
        have hd : ocD s3.o[m]? = some (.tuple xs) := hd
        cases ho : s3.o[m]? with
        | none => rw [ho] at hd; cases hd
        | some c => rw [ho] at hd; cases c <;> cases hd
    · have w5 := w4.newD (o := .tup (cutV vs lo hi)) hn
      exact q _ _ hk _ _ ⟨_, A, w5.push (.tup (SqT.of upd_same) (dqAll_same (same_new (w3.fz.g.free hn)) (cut_dq lo hi i2)))⟩
  | str z => exact .inr (.inr ⟨z, dp_str (dat_ok w3 pu hd), hk.1, q _ _ hk.2 _ H3 ⟨F, A, w4.push (.str _)⟩⟩)
  | _ => exact hk.elim
theorem e_sl {lo hi : Option Expr} {p2 : Pos} (he : PE X e (tE X.K W we)) (hl : PO X lo (tO X.K W wl)) (hu : PO X hi (tO X.K W wh)) : PE X (.Subscript e (.Slice lo hi none p2) pos) (tE X.K W (wSl we wl wh)) :=
  PE.imp (pe_slice (sl_list.or (sl_tupA.or sl_str)) he hl hu) fun σ H Q h => sl_of h
def wCat (wa wb : EW) : EW := fun kx s k => wa kx s fun x s1 => wb kx s1 fun y s2 => ∃ xs ys, datq s2 x = some (.list xs) ∧ datq s2 y = some (.list ys) ∧ xs.length + ys.length ≤ sizeLine ∧ k (.own s2.o.length) ⟨s2.r, s2.o ++ [.dl (xs ++ ys)]⟩
theorem itemsq_ok {K : PySem.W.Frag} {H0 F0 : Hp} {A0 : List Addr} {s : PSt} {σ : St} {T : List (PV × V)} {H F : Hp} {A : List Addr} {v : PV} {u : V} {xs : List PyData} (w : WdF K H0 F0 A0 s σ T H F A) (p : PVOk K F A v u) (e : datq s v = some (.list xs)) :
    ∃ a vs, u = .ref a ∧ H a = some (.lst vs) ∧ DqAll K F vs xs := by
  cases v with
  | d y =>
    cases e
    cases p with
    | lst h t => exact ⟨_, _, rfl, w.fz.g _ _ h, t⟩
  | scr ns => cases e
  | tp ps => cases e
  | gl g => cases e
  | exc y => cases e
  | xd y => cases e
  | dk y => cases e
  | fn _ _ _ _ _ => cases e
  | own n =>
    obtain ⟨q, hq, rfl⟩ := p
    have e : ocD s.o[n]? = some (.list xs) := e
    cases ho : s.o[n]? with
    | none => rw [ho] at e; cases e
    | some c =>
      rw [ho] at e
      cases c with
      | no => cases e
      | dl ys =>
        cases e
        obtain ⟨_, vs, h1, h2⟩ := w.oc n q _ hq ho
        exact ⟨_, _, rfl, h1, h2⟩
      | di kvs => cases e
      | ml ps => cases e
      | ob _ _ => cases e
      | dm _ => cases e
      | dt _ => cases e
      | tb _ _ => cases e
theorem top_at {K : PySem.W.Frag} {H0 F0 : Hp} {A0 : List Addr} {s : PSt} {σ : St} {T : List (PV × V)} {H F : Hp} {A : List Addr} (w : WdF K H0 F0 A0 s σ T H F A) (n : Addr) (F' : Hp) : PVOk K F' (A ++ [n]) (.own s.o.length) (.ref n) := by
  refine ⟨n, ?_, rfl⟩
  rw [← w.len, List.getElem?_append_right (Nat.le_refl _), Nat.sub_self]
  rfl
theorem e_cat (ha : PE X a (tE X.K W wa)) (hb : PE X b (tE X.K W wb)) : PE X (.BinOp a .Add b pos) (tE X.K W (wCat wa wb)) := by
  refine PE.imp (pe_op op_cat ha hb) fun σ H Q ⟨H0, F0, A0, s, T, kx, k, w, xl, h, q⟩ => tOp_of w xl h fun x y s2 u v H2 hR w2 => ?_
  obtain ⟨xs, ys, hx, hy, hz, hk⟩ := hR
  obtain ⟨F, A, w2⟩ := w2
  obtain ⟨p, vs, e1, h1, h2⟩ := itemsq_ok w2 (w2.tm _ (List.mem_cons_of_mem _ List.mem_cons_self)) hx
  obtain ⟨p', vs', e1', h1', h2'⟩ := itemsq_ok w2 (w2.tm _ List.mem_cons_self) hy
  have w3 := w2.sub (T' := T) fun t h => List.mem_cons_of_mem _ (List.mem_cons_of_mem _ h)
  refine ⟨p, p', vs, vs', e1, e1', h1, h1', by rw [h2.len, h2'.len]; exact hz, fun n hn => q _ _ hk _ _ ⟨F, _, (w3.newL hn (h2.app h2')).push (top_at w3 n F)⟩⟩
end
end PW
namespace PW
open PySem L2
inductive RV where
  | d (x : PyData)
  | new (xs : List PyData)
abbrev FS := List PV → List OC → (RV → List OC → Prop) → (XV → List OC → Prop) → Prop
def RetOk (K : PySem.W.Frag) (H0 F0 : Hp) (A0 : List Addr) (r : RV) (v : V) (o : List OC) (H : Hp) : Prop :=
  match r with
  | .d x => Wd K H0 F0 A0 ⟨[], o⟩ [] [(.d x, v)] H
  | .new xs => Wd K H0 F0 A0 ⟨[], o ++ [.dl xs]⟩ [] [(.own o.length, v)] H
def spOf (K : PySem.W.Frag) (S : FS) : Sp := fun vs H Q E => ∃ H0 F0 A0 args o ret exc, Wd K H0 F0 A0 ⟨args.map some, o⟩ (vs.map some) [] H ∧ A0.length = o.length ∧ S args o ret exc ∧
  (∀ r o', ret r o' → o'.length = o.length → ∀ v H', RetOk K H0 F0 A0 r v o' H' → Q v H') ∧ ∀ x o', exc x o' → o'.length = o.length → ∀ d H', Wd K H0 F0 A0 ⟨[], o'⟩ [] [(.xd x.fs, dV d)] H' → E (.ref x.C) d H'
section
variable {K : PySem.W.Frag} {H0 F0 : Hp} {A0 : List Addr} {s : PSt} {σ : St} {T : List (PV × V)} {H F H' F' : Hp} {A : List Addr}
theorem WdF.after (w : WdF K H0 F0 A0 s σ T H F A) (z : Fz H F H' F') : WdF K H0 F0 A0 s σ T H' F' A where
  fz := ⟨w.fz.f.trans z.f, z.g, w.fz.h.trans z.h, fun p h1 h2 => z.n p (fun e => h1 (w.fz.h.free e)) (w.fz.n p h1 h2)⟩
  pre := w.pre
  len := w.len
  nd := w.nd
  ad := fun q hq => ⟨(w.ad q hq).1, fun e => (w.ad q hq).2 (z.h.free e)⟩
  oc := fun n p c h1 h2 => by
    exact (w.oc n p c h1 h2).mono z.f (List.prefix_refl _) (fun a => z.n p (w.ad p (List.mem_of_getElem? h1)).2 a) fun o a => z.h _ _ a
  sl := w.sl
  pv := fun i v h => by
    obtain ⟨u, a, b⟩ := w.pv i v h
    exact ⟨u, a, b.mono z.f (List.prefix_refl _)⟩
  tm := fun t ht => (w.tm t ht).mono z.f (List.prefix_refl _)
theorem WdF.addL {q : Addr} {c : OC} (w : WdF K H0 F0 A0 s σ T H F A) (hq : q ∉ A) (h0 : H0 q = none) (h1 : H q ≠ none) (hc : OCOk K F H (A ++ [q]) q c) : WdF K H0 F0 A0 ⟨s.r, s.o ++ [c]⟩ σ T H F (A ++ [q]) where
  fz := w.fz
  pre := w.pre.trans (List.prefix_append _ _)
  len := by rw [List.length_append, List.length_append, w.len]; rfl
  nd := by
    rw [List.nodup_append]
    refine ⟨w.nd, by simp, fun a ha b hb => ?_⟩
    have e : b = q := by simpa using hb
    rw [e]
    exact fun e => hq (e ▸ ha)
  ad := fun p hp => by
    rcases List.mem_append.mp hp with h | h
    · exact w.ad p h
    · have e : p = q := by simpa using h
      rw [e]; exact ⟨h0, h1⟩
  oc := fun n p c' e1 e2 => by
    rcases Nat.lt_trichotomy n A.length with hn | hn | hn
    · rw [List.getElem?_append_left hn] at e1
      have e2 : (s.o ++ [c])[n]? = some c' := e2
      rw [List.getElem?_append_left (by rw [← w.len]; exact hn)] at e2
      exact (w.oc n p c' e1 e2).mono (Same.refl _) (List.prefix_append _ _) id fun _ z => z
    · subst hn
      have e2 : (s.o ++ [c])[A.length]? = some c' := e2
      rw [List.getElem?_append_right (Nat.le_refl _), Nat.sub_self] at e1
      rw [List.getElem?_append_right (by rw [w.len]; exact Nat.le_refl _), w.len, Nat.sub_self] at e2
      cases e1
      cases e2
      exact hc
    · rw [List.getElem?_eq_none (by rw [List.length_append]; show A.length + 1 ≤ n; omega)] at e1
      cases e1
  sl := w.sl
  pv := fun i v h => by
    obtain ⟨u, a, b⟩ := w.pv i v h
    exact ⟨u, a, b.mono (Same.refl _) (List.prefix_append _ _)⟩
  tm := fun t ht => (w.tm t ht).mono (Same.refl _) (List.prefix_append _ _)
end
def wCall (S : FS) (ws : AW) : EW := fun kx s k => ws kx s fun vs s1 => prep vs s1 fun xs s2 => S xs [] (fun r _ => match r with | .d z => k (.d z) s2 | .new zs => k (.own s2.o.length) ⟨s2.r, s2.o ++ [.dl zs]⟩) (fun x _ => kx x s2)
section
variable {X : Cx} {W : WX} {k : Nat} {f : Addr} {fd : FuncData} {ps : List Str} {S : FS} {x : Str} {p pos : Pos} {e : Expr} {es : List Expr} {ws : AW}
theorem args_wd {K : PySem.W.Frag} {H0 F0 : Hp} {A0 : List Addr} {s : PSt} {σ : St} {T : List (PV × V)} {H F : Hp} {A : List Addr} (w : WdF K H0 F0 A0 s σ T H F A) (xs : List PV) (us : List V) (e : xs.length = us.length) (hp : ∀ x ∈ xs, Plain x) (ht : ∀ t ∈ xs.zip us, t ∈ T) :
    ∀ (i : Nat) v, (xs.map some)[i]? = some (some v) → ∃ u, (us.map some)[i]? = some (some u) ∧ ∀ A', PVOk K F A' v u := fun i v hv => by
  rw [List.getElem?_map] at hv
  cases hx : xs[i]? with
  | none => rw [hx] at hv; cases hv
  | some y =>
    rw [hx] at hv
    have hv : some y = some v := Option.some.inj hv
    cases hv
    have hi : i < xs.length := (List.getElem?_eq_some_iff.mp hx).1
    have hu : us[i]? = some us[i] := List.getElem?_eq_getElem (by rw [← e]; exact hi)
    refine ⟨us[i], by rw [List.getElem?_map, hu]; rfl, fun A' => ?_⟩
    have hz : (xs.zip us)[i]? = some (v, us[i]) := by
      rw [List.getElem?_zip_eq_some]
      exact ⟨hx, hu⟩
    have q := w.tm _ (ht _ (List.mem_of_getElem? hz))
    cases v with
    | d z => exact q
    | scr ns => exact q
    | gl g => exact q
    | exc y => exact q
    | xd y => exact q
    | dk y => exact q
    | fn _ _ _ _ _ => exact (hp _ (List.mem_of_getElem? hx)).elim
    | tp ps => exact (hp _ (List.mem_of_getElem? hx)).elim
    | own n => exact (hp _ (List.mem_of_getElem? hx)).elim
theorem e_call (F : FnOk X.prog X.w X.K X.mg X.base (L2.CX X.prog X.w) k f fd ps (spOf X.K S)) (tk : Takes X W) (hr : Room k X.A) (hg : Gl X x) (hm : X.mg x = some (.ref f)) (hk : PySem.W.keepIn X.K (.ref f) = true) (hb : Binds X.K fd ps [])
    (ha : PA X (e :: es) (tA X.K W ws)) (hdb : (x == ("__debug__" : Str)) = false := by decide) (he : starEach (e :: es) X.env = (false, eval e X.env) :: starEach es X.env := by rfl) (hpl : (backTo pos (starEach es X.env)).any (·.1) = false := by rfl) :
    PE X (.Call (.Name x p) (e :: es) [] pos) (tE X.K W (wCall S ws)) := by
  refine PE.imp (pe_callS F hr hg hm hk hb (fun σ => passAt tk σ) ha hdb he hpl) fun σ H Q ⟨H0, F0, A0, s, T, kx, kk, w, xl, h, q⟩ => ar_of w xl h fun vs s1 us H1 h1 e1 w1 => ?_
  obtain ⟨xs, s2, hS, e2, pl, w2⟩ := prep_ok vs us s1 T _ e1 w1 h1
  obtain ⟨F1, A, w2⟩ := w2
  have w3 := w2.sub (T' := T) fun t h => List.mem_append_right _ h
  refine ⟨H1, F1, [], xs, [], _, _, ⟨F1, [], ?_⟩, rfl, hS, fun r o hr ho v H' ret => ?_, fun y o hx ho d H' w' => ?_⟩
  · refine ⟨⟨Same.refl _, w2.fz.g, Same.refl _, fun p _ h => h⟩, List.prefix_refl _, rfl, List.nodup_nil, (fun _ z => nomatch z), (fun n p c z => by simp at z), (by rw [List.length_map, List.length_map, e2]), (fun i v hv => ?_), (fun _ z => nomatch z)⟩
    obtain ⟨u, a, b⟩ := args_wd w2 xs us e2 pl (fun t h => List.mem_append_left _ h) i v hv
    exact ⟨u, a, b _⟩
  · cases List.eq_nil_of_length_eq_zero ho
    cases r with
    | d z =>
      obtain ⟨F', A', w'⟩ := ret
      have dz : Dq X.K F' v z := w'.tm (.d z, v) List.mem_cons_self
      exact q _ _ hr v H' ⟨F', A, (w3.after w'.fz).push dz⟩
    | new zs =>
      obtain ⟨F', A', w'⟩ := ret
      obtain ⟨qq, hq, rfl⟩ := w'.tm (.own 0, v) List.mem_cons_self
      have ad := w'.ad qq (List.mem_of_getElem? hq)
      have oc := w'.oc 0 qq (.dl zs) hq rfl
      have w4 := w3.after w'.fz
      have nin : qq ∉ A := fun hA => (w2.ad qq hA).2 ad.1
      refine q _ _ hr _ H' ⟨F', A ++ [qq], (w4.addL (c := .dl zs) nin (w3.fz.h.free ad.1) ad.2 oc).push ⟨qq, ?_, rfl⟩⟩
      rw [← w4.len, List.getElem?_append_right (Nat.le_refl _), Nat.sub_self]
      rfl
  · obtain ⟨F', A', w'⟩ := w'
    have px : PVOk X.K F' A (.xd y.fs) (dV d) := w'.tm (.xd y.fs, dV d) List.mem_cons_self
    exact xl y s2 hx σ H' d ⟨F', A, (w3.after w'.fz).push px⟩
end
end PW
namespace PW
open PySem L2
def lenD : PyData → (Int → Prop) → Prop := fun a q => match a with
  | .str z => z.length ≤ sizeLine ∧ q (z.length : Int)
  | .list xs => q (xs.length : Int)
  | .tuple xs => q (xs.length : Int)
  | _ => False
def wLen (wa : EW) : EW := fun kx s k => wa kx s fun x s1 => ∃ d, dat s1 x = some d ∧ lenD d fun n => k (.d (.int n)) s1
def wMax2 (wa wb : EW) : EW := fun kx s k => wa kx s fun x s1 => wb kx s1 fun y s2 => ∃ i j, x = .d (.int i) ∧ y = .d (.int j) ∧ k (.d (.int (if j > i then j else i))) s2
def tyD : PyData → String
  | .none => "NoneType"
  | .bool _ => "bool"
  | .int _ => "int"
  | .str _ => "str"
  | .list _ => "list"
  | .tuple _ => "tuple"
  | .dict _ => "dict"
def tyOC : Option OC → Option String
  | some (.dl _) => some "list"
  | some (.ml _) => some "list"
  | some (.di _) => some "dict"
  | some (.dm _) => some "dict"
  | _ => none
def tyPV (s : PSt) : PV → Option String
  | .d x => some (tyD x)
  | .scr _ => some "list"
  | .tp _ => some "tuple"
  | .dk _ => some "dict"
  | .own n => tyOC s.o[n]?
  | _ => none
def wIsi (t : String) (wa : EW) : EW := fun kx s k => wa kx s fun x s1 => ∃ d r, tyPV s1 x = some d ∧ kitB d t = some r ∧ k (.d (.bool r)) s1
def wListOf (wa : EW) : EW := fun kx s k => wa kx s fun x s1 => ∃ xs, (dat s1 x = some (.list xs) ∨ dat s1 x = some (.tuple xs)) ∧ k (.own s1.o.length) ⟨s1.r, s1.o ++ [.dl xs]⟩
def wTupOf (wa : EW) : EW := fun kx s k => wa kx s fun x s1 => ∃ xs, (dat s1 x = some (.list xs) ∨ dat s1 x = some (.tuple xs)) ∧ k (.d (.tuple xs)) s1
def wM1 (R : Str → PyData → (PyData → Prop) → Prop) (wo we : EW) : EW := fun kx s k => wo kx s fun x s1 => ∃ a, x = .d (.str a) ∧ we kx s1 fun y s2 => ∃ b, dat s2 y = some b ∧ R a b fun z => k (.d z) s2
def strsOf : List PyData → Option (List Str)
  | [] => some []
  | .str x :: r => (strsOf r).map (x :: ·)
  | _ :: _ => none
def rJoinD : Str → PyData → (PyData → Prop) → Prop := fun a b q => match b with
  | .list xs => ∃ ys, strsOf xs = some ys ∧ (ys.map (·.length)).sum + ys.length * a.length ≤ 16777216 ∧ q (.str (Txt.join a ys))
  | .tuple xs => ∃ ys, strsOf xs = some ys ∧ (ys.map (·.length)).sum + ys.length * a.length ≤ 16777216 ∧ q (.str (Txt.join a ys))
  | _ => False
def wApp (wo we : EW) : EW := fun kx s k => wo kx s fun x s1 => ∃ n ws, x = .own n ∧ s1.o[n]? = some (.dl ws) ∧ we kx s1 fun y s2 => frz y s2 fun d s3 => ∃ xs, s3.o[n]? = some (.dl xs) ∧ xs.length < sizeLine ∧ k (.d .none) ⟨s3.r, s3.o.set n (.dl (xs ++ [d]))⟩
section
variable {X : Cx} {W : WX} {a b e wo_e : Expr} {wa wb we wo : EW} {pos p : Pos}
theorem len_dp {K : PySem.W.Frag} {H : Hp} {u : V} {d : PyData} {P : Int → Prop} (h : Dp K H u d) (t : lenD d P) : ∃ n : Nat, LenV K u H n ∧ P n := by
  cases h with
  | str x => exact ⟨_, ⟨t.1, rfl⟩, t.2⟩
  | @lst a xs ds h r => exact ⟨xs.length, .inl ⟨_, h, rfl⟩, by
      have e : xs.length = ds.length := DpAll_len r
      rw [e]; exact t⟩
  | @tup a xs ds h r => exact ⟨xs.length, .inr ⟨_, h, rfl⟩, by
      have e : xs.length = ds.length := DpAll_len r
      rw [e]; exact t⟩
  | _ => exact t.elim
where DpAll_len {K : PySem.W.Frag} {H : Hp} : ∀ {vs : List V} {ds : List PyData}, DpAll K H vs ds → vs.length = ds.length
  | _, _, .nil => rfl
  | _, _, .cons _ t => by rw [List.length_cons, List.length_cons, DpAll_len t]
theorem cb1_of {r : List V → Hp → VK → Prop} {σ : St} {H : Hp} {Q : VK} {H0 F0 : Hp} {A0 : List Addr} {s : PSt} {T : List (PV × V)} {kx : KX} {R : PV → PSt → Prop} (w : Wd X.K H0 F0 A0 s σ T H) (xl : XL X.K H0 F0 A0 T W kx)
    (h : wa kx s R) (hr : ∀ x s1 u H1, R x s1 → Wd X.K H0 F0 A0 s1 σ ((x, u) :: T) H1 → r [u] H1 Q) : tCB r (tCons (tE X.K W wa) tNil) σ H Q := un_of w xl h fun x s1 u H1 h1 w1 => hr x s1 u H1 h1 w1
theorem cb2_of {r : List V → Hp → VK → Prop} {σ : St} {H : Hp} {Q : VK} {H0 F0 : Hp} {A0 : List Addr} {s : PSt} {T : List (PV × V)} {kx : KX} {R : PV → PV → PSt → Prop} (w : Wd X.K H0 F0 A0 s σ T H) (xl : XL X.K H0 F0 A0 T W kx)
    (h : wa kx s fun x s1 => wb kx s1 fun y s2 => R x y s2) (hr : ∀ x y s2 u v H2, R x y s2 → Wd X.K H0 F0 A0 s2 σ ((y, v) :: (x, u) :: T) H2 → r [u, v] H2 Q) : tCB r (tCons (tE X.K W wa) (tCons (tE X.K W wb) tNil)) σ H Q :=
  ⟨H0, F0, A0, s, T, kx, _, w, xl, h, fun x s1 h1 u H1 w1 => ⟨H0, F0, A0, s1, (x, u) :: T, kx, _, w1, xl.push, h1, fun y s2 h2 v H2 w2 => hr x y s2 u v H2 h2 w2⟩⟩
theorem e_len (hm : X.mg "len" = none) (ha : PE X a (tE X.K W wa)) (hg : Gl X "len" := by rfl) (he : starEach [a] X.env = (false, eval a X.env) :: starEach [] X.env := by rfl) (hpl : (backTo pos (starEach [] X.env)).any (·.1) = false := by rfl) :
    PE X (.Call (.Name "len" p) [a] [] pos) (tE X.K W (wLen wa)) := by
  refine PE.imp (pe_callB call_len hg hm PySem.boot_len (pa_cons ha pa_nil he) (he := he) (hpl := hpl)) fun σ H Q ⟨H0, F0, A0, s, T, kx, k, w, xl, h, q⟩ => cb1_of w xl h fun x s1 u H1 h1 w1 => ?_
  obtain ⟨d, hd, t⟩ := h1
  obtain ⟨F, A, w1⟩ := w1
  obtain ⟨n, h1, h2⟩ := len_dp (dat_ok w1 (w1.tm _ List.mem_cons_self) hd) t
  exact ⟨u, n, rfl, h1, q _ _ h2 _ H1 ⟨F, A, (w1.sub fun t h => List.mem_cons_of_mem _ h).push (.int _)⟩⟩
theorem e_max2 (hc : X.calm = true) (hm : X.mg "max" = none) (ha : PE X a (tE X.K W wa)) (hb : PE X b (tE X.K W wb)) (hg : Gl X "max" := by rfl) (he : starEach [a, b] X.env = (false, eval a X.env) :: starEach [b] X.env := by rfl) (he2 : starEach [b] X.env = (false, eval b X.env) :: starEach [] X.env := by rfl) (hpl : (backTo pos (starEach [b] X.env)).any (·.1) = false := by rfl) :
    PE X (.Call (.Name "max" p) [a, b] [] pos) (tE X.K W (wMax2 wa wb)) := by
  refine PE.imp (pe_callB (call_max2 hc) hg hm (by decide +kernel) (pa_cons ha (pa_cons hb pa_nil he2) he) (he := he) (hpl := hpl)) fun σ H Q ⟨H0, F0, A0, s, T, kx, k, w, xl, h, q⟩ => cb2_of w xl h fun x y s2 u v H2 h2 w2 => ?_
  obtain ⟨F, A, w2⟩ := w2
  obtain ⟨i, j, rfl, rfl, hk⟩ := h2
  cases dp_int (dq_dp (w2.tm _ List.mem_cons_self))
  cases dp_int (dq_dp (w2.tm (.d (.int i), u) (List.mem_cons_of_mem _ List.mem_cons_self)))
  exact ⟨i, j, rfl, q _ _ hk _ H2 ⟨F, A, (w2.sub fun t h => List.mem_cons_of_mem _ (List.mem_cons_of_mem _ h)).push (.int _)⟩⟩
theorem ty_pv {K : PySem.W.Frag} {H0 F0 : Hp} {A0 : List Addr} {s : PSt} {σ : St} {T : List (PV × V)} {H F : Hp} {A : List Addr} {v : PV} {u : V} {d : PyData} (w : WdF K H0 F0 A0 s σ T H F A) (p : PVOk K F A v u) (e : dat s v = some d) : TyX K H u (.type (tyD d)) := by
  have g : Dq K H u d → TyX K H u (.type (tyD d)) := fun h => by
    cases h with
    | non => exact .base .non
    | bl b => exact .base (.bl b)
    | int i => exact .base (.int i)
    | str x => exact .base (.str x)
    | lst h r => exact .base (.lst h)
    | tup h r =>
      rcases h with (h | ⟨o, h⟩) | ⟨o, its, n, e, c, _⟩
      · exact .base (.tup h)
      · exact .fTuple h
      · exact .kTuple e c
  cases v with
  | d x => exact g (datq_ok w p e)
  | own n => exact g (datq_ok w p e)
  | tp ps => cases e
  | gl g => cases e
  | exc y => cases e
  | xd y => cases e
  | dk y => cases e
  | fn _ _ _ _ _ => cases e
  | scr ns =>
    cases e
    obtain ⟨a, rfl, h⟩ := p
    rcases same_l w.fz.g h with (h | ⟨o, h⟩) | ⟨o, its, n, e, c, _⟩
    · exact .base (.lst h)
    · exact .base (.frz h)
    · exact .kList e c
theorem tyx_tup {K : PySem.W.Frag} {H : Hp} {a : Addr} {us : List V} (h : SqT K H a us) : TyX K H (.ref a) (.type "tuple") := by
  rcases h with (h | ⟨o, h⟩) | ⟨o, its, n, e, c, _⟩
  · exact .base (.tup h)
  · exact .fTuple h
  · exact .kTuple e c
theorem tyx_pv {K : PySem.W.Frag} {H0 F0 : Hp} {A0 : List Addr} {s : PSt} {σ : St} {T : List (PV × V)} {H F : Hp} {A : List Addr} {v : PV} {u : V} {t : String} (w : WdF K H0 F0 A0 s σ T H F A) (p : PVOk K F A v u) (e : tyPV s v = some t) : TyX K H u (.type t) := by
  cases v with
  | d x => cases e; exact ty_pv w p rfl
  | scr ns => cases e; exact ty_pv w p rfl
  | tp ps =>
    cases e
    obtain ⟨a, us, rfl, h, _⟩ := p
    exact tyx_tup (same_t w.fz.g h)
  | dk kvs =>
    cases e
    obtain ⟨a, vs, rfl, h, _⟩ := p
    exact .base (.dK (w.fz.g _ _ h))
  | own n =>
    obtain ⟨q, hq, rfl⟩ := p
    have e : tyOC s.o[n]? = some t := e
    cases ho : s.o[n]? with
    | none => rw [ho] at e; cases e
    | some c =>
      rw [ho] at e
      have oc := w.oc n q c hq ho
      cases c with
      | dl xs => cases e; obtain ⟨_, vs, h, _⟩ := oc; exact .base (.lst h)
      | ml xs => cases e; obtain ⟨_, vs, h, _⟩ := oc; exact .base (.lst h)
      | di xs => cases e; obtain ⟨_, vs, h, _⟩ := oc; exact .base (.dK h)
      | dm xs => cases e; obtain ⟨_, vs, h, _⟩ := oc; exact .base (.dK h)
      | _ => cases e
  | _ => cases e
theorem e_isi {x : Str} {T : String} {q1 : Pos} (hm : X.mg "isinstance" = none) (hT : X.mg x = none) (hb : bootBuiltins x = some (.type T)) (ha : PE X a (tE X.K W wa)) (hgT : Gl X x := by rfl) (hg : Gl X "isinstance" := by rfl)
    (hn : x ≠ "__name__" := by decide) (hd : (x == ("__debug__" : Str)) = false := by decide)
    (he : starEach [a, .Name x q1] X.env = (false, eval a X.env) :: starEach [.Name x q1] X.env := by rfl) (he2 : starEach [.Name x q1] X.env = (false, eval (.Name x q1) X.env) :: starEach [] X.env := by rfl) (hpl : (backTo pos (starEach [.Name x q1] X.env)).any (·.1) = false := by rfl) :
    PE X (.Call (.Name "isinstance" p) [a, .Name x q1] [] pos) (tE X.K W (wIsi T wa)) := by
  have pt : PE X (.Name x q1) (tC (.ty T)) := pe_bltn hgT hT hb rfl hn hd
  refine PE.imp (pe_callB call_isi hg hm (by decide +kernel) (pa_cons ha (pa_cons pt pa_nil he2) he) (he := he) (hpl := hpl)) fun σ H Q ⟨H0, F0, A0, s, T', kx, k, w, xl, h, q⟩ => ?_
  refine un_of w xl h fun x s1 u H1 h1 w1 => ?_
  obtain ⟨d, r, hd, hk, hq⟩ := h1
  obtain ⟨F, A, w1⟩ := w1
  exact ⟨u, .ty T, _, _, r, rfl, .ty T, tyx_pv w1 (w1.tm _ List.mem_cons_self) hd, kit_ty hk, q _ _ hq _ H1 ⟨F, A, (w1.sub fun t h => List.mem_cons_of_mem _ h).push (.bl _)⟩⟩
theorem e_listOf (hm : X.mg "list" = none) (ha : PE X a (tE X.K W wa)) (hg : Gl X "list" := by rfl) (he : starEach [a] X.env = (false, eval a X.env) :: starEach [] X.env := by rfl) (hpl : (backTo pos (starEach [] X.env)).any (·.1) = false := by rfl) :
    PE X (.Call (.Name "list" p) [a] [] pos) (tE X.K W (wListOf wa)) := by
  refine PE.imp (pe_callTy call_list_of hg hm (by decide +kernel) (pa_cons ha pa_nil he) (he := he) (hpl := hpl)) fun σ H Q ⟨H0, F0, A0, s, T, kx, k, w, xl, h, q⟩ => cb1_of w xl h fun x s1 u H1 h1 w1 => ?_
  obtain ⟨xs, hd, hk⟩ := h1
  obtain ⟨F, A, w1⟩ := w1
  have w2 := w1.sub (T' := T) fun t h => List.mem_cons_of_mem _ h
  rcases hd with hd | hd
  · obtain ⟨pp, vs, rfl, h1, h2⟩ := items_ok w1 (w1.tm _ List.mem_cons_self) hd
    exact ⟨pp, vs, rfl, .inl h1, fun n hn => q _ _ hk _ _ ⟨F, _, (w2.newL hn h2).push (top_at w2 n F)⟩⟩
  · obtain ⟨pp, vs, rfl, h1, h2⟩ := itemsT_ok w1 (w1.tm _ List.mem_cons_self) hd
    exact ⟨pp, vs, rfl, .inr h1, fun n hn => q _ _ hk _ _ ⟨F, _, (w2.newL hn h2).push (top_at w2 n F)⟩⟩
theorem e_tupOf (hm : X.mg "tuple" = none) (ha : PE X a (tE X.K W wa)) (hg : Gl X "tuple" := by rfl) (he : starEach [a] X.env = (false, eval a X.env) :: starEach [] X.env := by rfl) (hpl : (backTo pos (starEach [] X.env)).any (·.1) = false := by rfl) :
    PE X (.Call (.Name "tuple" p) [a] [] pos) (tE X.K W (wTupOf wa)) := by
  refine PE.imp (pe_callTy call_tuple_of hg hm (by decide +kernel) (pa_cons ha pa_nil he) (he := he) (hpl := hpl)) fun σ H Q ⟨H0, F0, A0, s, T, kx, k, w, xl, h, q⟩ => cb1_of w xl h fun x s1 u H1 h1 w1 => ?_
  obtain ⟨xs, hd, hk⟩ := h1
  obtain ⟨F, A, w1⟩ := w1
  have w2 := w1.sub (T' := T) fun t h => List.mem_cons_of_mem _ h
  rcases hd with hd | hd
  · obtain ⟨pp, vs, rfl, h1, h2⟩ := items_ok w1 (w1.tm _ List.mem_cons_self) hd
    exact ⟨pp, vs, rfl, .inl ⟨h1, fun n hn => q _ _ hk _ _ ⟨_, A, (w2.newD (o := .tup vs) hn).push (.tup (SqT.of upd_same) (dqAll_same (same_new (w2.fz.g.free hn)) h2))⟩⟩⟩
  · cases x with
    | d y =>
      cases hd
      have pd : Dq X.K F u (.tuple xs) := w1.tm (.d (.tuple xs), u) List.mem_cons_self
      obtain ⟨pp, vs, rfl, h1, h2⟩ := itemsT_ok w1 (v := .d (.tuple xs)) pd rfl
      exact ⟨pp, vs, rfl, .inr ⟨h1, q _ _ hk _ _ ⟨F, A, w2.push pd⟩⟩⟩
    | scr ns => cases hd
    | tp ps => cases hd
    | gl g => cases hd
    | exc y => cases hd
    | xd y => cases hd
    | dk y => cases hd
    | fn _ _ _ _ _ => cases hd
    | own m =>
      have hd : ocD s1.o[m]? = some (.tuple xs) := hd
      cases ho : s1.o[m]? with
      | none => rw [ho] at hd; cases hd
      | some c => rw [ho] at hd; cases c <;> cases hd
theorem str_at {K : PySem.W.Frag} {H0 F0 : Hp} {A0 : List Addr} {s : PSt} {σ : St} {T : List (PV × V)} {H : Hp} {u : V} {z : Str} (w : Wd K H0 F0 A0 s σ T H) (h : (PV.d (.str z), u) ∈ T) : u = .str z := by
  obtain ⟨F, A, w⟩ := w
  exact dp_str (dq_dp (w.tm _ h))
theorem e_m1 {name : Str} {id : String} {r : V → List V → Hp → VK → Prop} {R : Str → PyData → (PyData → Prop) → Prop} {apos : Pos} (slot : Slot "str" name id) (hty : typeOf (.builtin id) = pure (.type "method_descriptor")) (hm : MtR X id r)
    (hR : ∀ (z : Str) (v : V) (b : PyData) (H : Hp) (Q : VK) (P : PyData → Prop), Dp X.K H v b → R z b P → (∀ y t, P y → toV y = some t → Q t H) → r (.str z) [v] H Q) (ho : PE X wo_e (tE X.K W wo)) (ha : PE X a (tE X.K W wa))
    (hbase : attributeBase wo_e name X.env (eval wo_e X.env) = eval wo_e X.env := by rfl)
    (hfew : ((backTo pos (starEach [a] X.env)).all (fun x => !x.1) && (backToKw pos (keywordEach [] X.env)).all (fun x => x.1.isSome)
      && decide ([a].length + ([] : List Keyword).length + (if ([] : List Keyword).isEmpty then 0 else 1) < 30)) = true := by rfl)
    (hline : (apos.endLine == pos.line) = true := by rfl) (hs : starEach [a] X.env = (false, eval a X.env) :: starEach [] X.env := by rfl) (hplain : (backTo pos (starEach [] X.env)).any (·.1) = false := by rfl) :
    PE X (.Call (.Attribute wo_e name apos) [a] [] pos) (tE X.K W (wM1 R wo wa)) := by
  refine PE.imp (pe_bm PySem.F.plainAttrs_str slot hty hm ho (pa_cons ha pa_nil hs) hbase hfew hline hs hplain) fun σ H Q ⟨H0, F0, A0, s, T, kx, k, w, xl, h, q⟩ => ?_
  refine ⟨H0, F0, A0, s, T, kx, _, w, xl, h, fun x s1 h1 u H1 w1 => ?_⟩
  obtain ⟨z, rfl, h1⟩ := h1
  cases str_at w1 List.mem_cons_self
  refine ⟨rfl, H0, F0, A0, s1, _, kx, _, w1, xl.push, h1, fun y s2 h2 v H2 w2 => ?_⟩
  obtain ⟨b, hb, h2⟩ := h2
  obtain ⟨F, A, w2⟩ := w2
  exact hR z v b H2 Q _ (dat_ok w2 (w2.tm _ List.mem_cons_self) hb) h2 fun y t hy ht => q _ _ hy t H2 ⟨F, A, (w2.sub fun t h => List.mem_cons_of_mem _ (List.mem_cons_of_mem _ h)).push (toV_dp ht)⟩
theorem strs_dp {K : PySem.W.Frag} {H : Hp} : ∀ {xs : List PyData} {ys : List Str} {vs : List V}, strsOf xs = some ys → DpAll K H vs xs → vs = ys.map V.str
  | [], ys, _, e, .nil => by cases e; rfl
  | .str x :: r, ys, _, e, .cons h t => by
    have e : (strsOf r).map (x :: ·) = some ys := e
    cases hr : strsOf r with
    | none => rw [hr] at e; cases e
    | some zs =>
      rw [hr] at e
      cases e
      rw [strs_dp hr t, dp_str h]
      rfl
  | .none :: _, _, _, e, _ => nomatch e
  | .bool _ :: _, _, _, e, _ => nomatch e
  | .int _ :: _, _, _, e, _ => nomatch e
  | .list _ :: _, _, _, e, _ => nomatch e
  | .tuple _ :: _, _, _, e, _ => nomatch e
  | .dict _ :: _, _, _, e, _ => nomatch e
theorem e_join {apos : Pos} (ho : PE X wo_e (tE X.K W wo)) (ha : PE X a (tE X.K W wa))
    (hbase : attributeBase wo_e "join" X.env (eval wo_e X.env) = eval wo_e X.env := by rfl)
    (hfew : ((backTo pos (starEach [a] X.env)).all (fun x => !x.1) && (backToKw pos (keywordEach [] X.env)).all (fun x => x.1.isSome)
      && decide ([a].length + ([] : List Keyword).length + (if ([] : List Keyword).isEmpty then 0 else 1) < 30)) = true := by rfl)
    (hline : (apos.endLine == pos.line) = true := by rfl) (hs : starEach [a] X.env = (false, eval a X.env) :: starEach [] X.env := by rfl) (hplain : (backTo pos (starEach [] X.env)).any (·.1) = false := by rfl) :
    PE X (.Call (.Attribute wo_e "join" apos) [a] [] pos) (tE X.K W (wM1 rJoinD wo wa)) :=
  e_m1 PySem.F.slot_str_join PySem.F.type_str_join mt_join (fun z v b H Q P hb h q => by
    cases b with
    | list xs =>
      obtain ⟨ys, e, hz, h⟩ := h
      cases hb with
      | lst h1 h2 =>
        rw [strs_dp e h2] at h1
        exact ⟨_, _, ys, rfl, rfl, .inl h1, hz, q _ _ h rfl⟩
    | tuple xs =>
      obtain ⟨ys, e, hz, h⟩ := h
      cases hb with
      | tup h1 h2 =>
        rw [strs_dp e h2] at h1
        exact ⟨_, _, ys, rfl, rfl, .inr h1, hz, q _ _ h rfl⟩
    | _ => exact h.elim) ho ha hbase hfew hline hs hplain
theorem own_at {K : PySem.W.Frag} {H0 F0 : Hp} {A0 : List Addr} {s : PSt} {σ : St} {T : List (PV × V)} {H F : Hp} {A : List Addr} {u : V} {n : Nat} {xs : List PyData} (w : WdF K H0 F0 A0 s σ T H F A) (h : (PV.own n, u) ∈ T) (ho : s.o[n]? = some (.dl xs)) :
    ∃ p vs, A[n]? = some p ∧ u = .ref p ∧ H p = some (.lst vs) ∧ DqAll K F vs xs := by
  obtain ⟨p, hp, e⟩ := w.tm _ h
  obtain ⟨_, vs, h1, h2⟩ := w.oc n p _ hp ho
  exact ⟨p, vs, hp, e, h1, h2⟩
theorem e_app {apos : Pos} (ho : PE X wo_e (tE X.K W wo)) (ha : PE X a (tE X.K W wa))
    (hbase : attributeBase wo_e "append" X.env (eval wo_e X.env) = eval wo_e X.env := by rfl)
    (hfew : ((backTo pos (starEach [a] X.env)).all (fun x => !x.1) && (backToKw pos (keywordEach [] X.env)).all (fun x => x.1.isSome)
      && decide ([a].length + ([] : List Keyword).length + (if ([] : List Keyword).isEmpty then 0 else 1) < 30)) = true := by rfl)
    (hline : (apos.endLine == pos.line) = true := by rfl) (hs : starEach [a] X.env = (false, eval a X.env) :: starEach [] X.env := by rfl) (hplain : (backTo pos (starEach [] X.env)).any (·.1) = false := by rfl) :
    PE X (.Call (.Attribute wo_e "append" apos) [a] [] pos) (tE X.K W (wApp wo wa)) := by
  refine PE.imp (pe_bm PySem.F.plainAttrs_list PySem.F.slot_list_append PySem.F.type_list_append mt_append ho (pa_cons ha pa_nil hs) hbase hfew hline hs hplain) fun σ H Q ⟨H0, F0, A0, s, T, kx, k, w, xl, h, q⟩ => ?_
  refine ⟨H0, F0, A0, s, T, kx, _, w, xl, h, fun x s1 h1 u H1 w1 => ?_⟩
  obtain ⟨n, ws, rfl, ow, h1⟩ := h1
  have ty : tyV X.K "list" u H1 := by
    obtain ⟨F, A, w1⟩ := w1
    obtain ⟨p, vs, hp, rfl, hv, _⟩ := own_at w1 List.mem_cons_self ow
    exact .inl ⟨rfl, vs, SqL.of hv⟩
  refine ⟨ty, H0, F0, A0, s1, _, kx, _, w1, xl.push, h1, fun y s2 h2 v H2 w2 => ?_⟩
  obtain ⟨d, s3, h3, w3⟩ := frz_ok w2 h2
  obtain ⟨xs, ox, hz, hk⟩ := h3
  obtain ⟨F, A, w3⟩ := w3
  obtain ⟨p, vs, hp, rfl, hv, hd⟩ := own_at w3 (List.mem_cons_of_mem _ List.mem_cons_self) ox
  have dv : Dq X.K F v d := w3.tm (.d d, v) List.mem_cons_self
  refine ⟨p, vs, v, rfl, rfl, hv, by rw [hd.len]; exact hz, q _ _ hk _ _ ⟨F, A, ((w3.sub (T' := T) fun t h => List.mem_cons_of_mem _ (List.mem_cons_of_mem _ h)).wr hp ox (hd.app (.cons dv .nil))).push .non⟩⟩
end
end PW
namespace PW
open PySem L2
def PSt.st (s : PSt) (i : Nat) (v : PV) : PSt := ⟨s.r.set i (some v), s.o⟩
mutual
def PV.lt (m : Nat) : PV → Bool
  | .own n => decide (n < m)
  | .tp ps => PV.ltAll m ps
  | .fn _ _ _ ps _ => PV.ltAll m ps
  | _ => true
def PV.ltAll (m : Nat) : List PV → Bool
  | [] => true
  | p :: ps => PV.lt m p && PV.ltAll m ps
end
def cutP (m : Nat) : Option PV → Option PV
  | some (.own n) => if n < m then some (.own n) else none
  | some (.tp ps) => if PV.ltAll m ps = true then some (.tp ps) else none
  | some (.fn f c q ps us) => if PV.ltAll m ps = true then some (.fn f c q ps us) else none
  | v => v
def OC.pvs : OC → List PV
  | .ml ps => ps
  | .ob _ fs => fs.map (·.2)
  | .dm kvs => kvs.map (·.2)
  | .dt kvs => kvs.map (·.2)
  | _ => []
def OC.cut (m : Nat) : OC → OC
  | .dl xs => .dl xs
  | .di kvs => .di kvs
  | .no => .no
  | c => if PV.ltAll m c.pvs = true then c else .no
def cutL (m : Nat) (o : List OC) : List OC := (o.take m).map (OC.cut m)
def PSt.trim (s : PSt) (m : Nat) : PSt := ⟨s.r.map (cutP m), cutL m s.o⟩
def PSt.wipe (s : PSt) : List Nat → PSt
  | [] => s
  | v :: vs => ⟨(s.wipe vs).r.set v none, s.o⟩
def wSeq (a b : SW) : SW := fun kx s k => a kx s { k with nx := fun s1 => b kx s1 k }
def wNext : SW := fun _ s k => k.nx s
def wBrk : SW := fun _ s k => k.bk s
def wAsg (we : EW) (i : Nat) : SW := fun kx s k => we kx s fun v s1 => k.nx (s1.st i v)
def wDrop (we : EW) : SW := fun kx s k => we kx s fun _ s1 => k.nx s1
def wRet (we : EW) : SW := fun kx s k => we kx s fun v s1 => k.rt v s1
def wIfS (t : TW) (a b : SW) : SW := fun kx s k => t kx s fun c s1 => (c = true → a kx s1 k) ∧ (c = false → b kx s1 k)
def gN (i : Nat) : GW := fun x s k => k (s.st i (.d x))
abbrev GWs := List PyData → PSt → (PSt → Prop) → Prop
def gT (n : Nat) (gs : GWs) : GW := fun x s k => ∃ xs, x = .tuple xs ∧ xs.length = n ∧ gs xs s k
def gsNil : GWs := fun xs s k => xs = [] ∧ k s
def gsCons (g : GW) (gs : GWs) : GWs := fun xs s k => ∃ x r, xs = x :: r ∧ g x s fun s1 => gs r s1 k
def wUnp (we : EW) (g : GW) : SW := fun kx s k => we kx s fun v s1 => frz v s1 fun x s2 => g x s2 k.nx
def wSetIx (wv wo wi : EW) : SW := fun kx s k => wv kx s fun v s1 => wo kx s1 fun x s2 => wi kx s2 fun y s3 => frz v s3 fun d s4 => ∃ n xs i j, x = .own n ∧ y = .d (.int i) ∧ s4.o[n]? = some (.dl xs) ∧ ixN xs.length i = some j ∧ k.nx ⟨s4.r, s4.o.set n (.dl (xs.set j d))⟩
def wAug (R : PyData → PyData → (PyData → Prop) → Prop) (i : Nat) (we : EW) : SW := fun kx s k => ∃ x, s.r[i]? = some (some (.d x)) ∧ we kx s fun y s1 => ∃ b, dat s1 y = some b ∧ R x b fun z => k.nx (s1.st i (.d z))
def wFor (wi : IW) (g : GW) (b : SW) : SW := fun kx s k => wi kx s fun xs c s0 => ∃ I : Nat → PSt → Prop, I 0 s0 ∧ (∀ j s1, j ≤ xs.length → I j s1 → Src c s1) ∧ (∀ j x s1, xs[j]? = some x → I j s1 → g x s1 fun s2 =>
  b kx s2 { k with nx := fun s3 => I (j + 1) s3 ∨ I (j + 1) (s3.trim s0.o.length), ct := fun s3 => I (j + 1) s3 ∨ I (j + 1) (s3.trim s0.o.length), bk := k.nx }) ∧ ∀ s1, I xs.length s1 → k.nx s1
def wRaise (C : Addr) : SW := fun kx s _ => kx ⟨C, none⟩ s
section
variable {K : PySem.W.Frag} {H0 F0 : Hp} {A0 : List Addr} {s : PSt} {σ : St} {T : List (PV × V)} {H F : Hp} {A : List Addr}
theorem cutP_is {m : Nat} {v : PV} : ∀ {o : Option PV}, cutP m o = some v → o = some v ∧ v.lt m = true
  | none, h => nomatch h
  | some (.own n), h => by
    by_cases hn : n < m
    · have e : cutP m (some (.own n)) = some (.own n) := if_pos hn
      rw [e] at h
      cases h
      exact ⟨rfl, decide_eq_true hn⟩
    · have e : cutP m (some (.own n)) = none := if_neg hn
      rw [e] at h
      cases h
  | some (.tp ps), h => by
    by_cases hn : PV.ltAll m ps = true
    · have e : cutP m (some (.tp ps)) = some (.tp ps) := if_pos hn
      rw [e] at h
      cases h
      exact ⟨rfl, hn⟩
    · have e : cutP m (some (.tp ps)) = none := if_neg hn
      rw [e] at h
      cases h
  | some (.fn f c q ps us), h => by
    by_cases hn : PV.ltAll m ps = true
    · have e : cutP m (some (.fn f c q ps us)) = some (.fn f c q ps us) := if_pos hn
      rw [e] at h
      cases h
      exact ⟨rfl, hn⟩
    · have e : cutP m (some (.fn f c q ps us)) = none := if_neg hn
      rw [e] at h
      cases h
  | some (.d x), h => by cases h; exact ⟨rfl, rfl⟩
  | some (.scr x), h => by cases h; exact ⟨rfl, rfl⟩
  | some (.gl x), h => by cases h; exact ⟨rfl, rfl⟩
  | some (.exc x), h => by cases h; exact ⟨rfl, rfl⟩
  | some (.xd x), h => by cases h; exact ⟨rfl, rfl⟩
  | some (.dk x), h => by cases h; exact ⟨rfl, rfl⟩
theorem cutP_of {m : Nat} {v : PV} (h : v.lt m = true) : cutP m (some v) = some v := by
  cases v with
  | own n => exact if_pos (of_decide_eq_true h)
  | tp ps => exact if_pos h
  | fn _ _ _ ps _ => exact if_pos h
  | _ => rfl
theorem ocut_if {m : Nat} : ∀ c : OC, OC.cut m c = if PV.ltAll m c.pvs = true then c else .no
  | .ml ps => rfl
  | .ob _ _ => rfl
  | .dm _ => rfl
  | .dt _ => rfl
  | .tb _ _ => rfl
  | .no => rfl
  | .dl _ => rfl
  | .di _ => rfl
theorem ocut_is {m : Nat} (c : OC) : OC.cut m c = .no ∨ OC.cut m c = c := by
  rw [ocut_if]
  split
  · exact .inr rfl
  · exact .inl rfl
mutual
theorem lt_mono {m n : Nat} (h : m ≤ n) : ∀ {v : PV}, v.lt m = true → v.lt n = true
  | .own k, e => decide_eq_true (Nat.lt_of_lt_of_le (of_decide_eq_true e) h)
  | .tp ps, e => ltAll_mono h (ps := ps) e
  | .fn _ _ _ ps _, e => ltAll_mono h (ps := ps) e
  | .d _, _ => rfl
  | .scr _, _ => rfl
  | .gl _, _ => rfl
  | .exc _, _ => rfl
  | .xd _, _ => rfl
  | .dk _, _ => rfl
theorem ltAll_mono {m n : Nat} (h : m ≤ n) : ∀ {ps : List PV}, PV.ltAll m ps = true → PV.ltAll n ps = true
  | [], _ => rfl
  | p :: ps, e => by
    have e : (PV.lt m p && PV.ltAll m ps) = true := e
    rw [Bool.and_eq_true] at e
    show (PV.lt n p && PV.ltAll n ps) = true
    rw [lt_mono h e.1, ltAll_mono h e.2]
    rfl
end
mutual
theorem PVOk.lt {K : PySem.W.Frag} {F : Hp} {A : List Addr} : ∀ {v : PV} {u : V}, PVOk K F A v u → v.lt A.length = true
  | .own n, _, ⟨_, hp, _⟩ => decide_eq_true (List.getElem?_eq_some_iff.mp hp).1
  | .tp ps, _, ⟨_, us, _, _, r⟩ => PVAll.lt r
  | .fn _ _ _ ps us, _, ⟨_, _, r⟩ => PVAll.lt r
  | .d _, _, _ => rfl
  | .scr _, _, _ => rfl
  | .gl _, _, _ => rfl
  | .exc _, _, _ => rfl
  | .xd _, _, _ => rfl
  | .dk _, _, _ => rfl
theorem PVAll.lt {K : PySem.W.Frag} {F : Hp} {A : List Addr} : ∀ {ps : List PV} {us : List V}, PVAll K F A ps us → PV.ltAll A.length ps = true
  | [], [], _ => rfl
  | p :: ps, u :: us, ⟨h, r⟩ => by
    show (PV.lt _ p && PV.ltAll _ ps) = true
    rw [PVOk.lt h, PVAll.lt r]
    rfl
  | [], _ :: _, h => h.elim
  | _ :: _, [], h => h.elim
end
mutual
theorem PVOk.take {K : PySem.W.Frag} {F : Hp} {A : List Addr} {m : Nat} : ∀ {v : PV} {u : V}, PVOk K F A v u → v.lt m = true → PVOk K F (A.take m) v u
  | .own n, _, ⟨p, hp, e⟩, h => ⟨p, by rw [List.getElem?_take, if_pos (of_decide_eq_true h)]; exact hp, e⟩
  | .tp ps, _, ⟨a, us, e, q, r⟩, h => ⟨a, us, e, q, PVAll.take r h⟩
  | .fn _ _ _ ps us, _, ⟨e, q, r⟩, h => ⟨e, q, PVAll.take r h⟩
  | .d _, _, h, _ => h
  | .scr _, _, h, _ => h
  | .gl _, _, h, _ => h
  | .exc _, _, h, _ => h
  | .xd _, _, h, _ => h
  | .dk _, _, h, _ => h
theorem PVAll.take {K : PySem.W.Frag} {F : Hp} {A : List Addr} {m : Nat} : ∀ {ps : List PV} {us : List V}, PVAll K F A ps us → PV.ltAll m ps = true → PVAll K F (A.take m) ps us
  | [], [], _, _ => True.intro
  | p :: ps, u :: us, ⟨h, r⟩, e => by
    have e : (PV.lt m p && PV.ltAll m ps) = true := e
    rw [Bool.and_eq_true] at e
    exact ⟨PVOk.take h e.1, PVAll.take r e.2⟩
  | [], _ :: _, h, _ => h.elim
  | _ :: _, [], h, _ => h.elim
end
theorem OCOk.tk {m : Nat} {p : Addr} : ∀ {c : OC}, OCOk K F H A p c → PV.ltAll m c.pvs = true → OCOk K F H (A.take m) p c
  | .ml ps, ⟨a, vs, b, r⟩, h => ⟨a, vs, b, PVAll.take r h⟩
  | .ob _ _, ⟨a, dx, vs, b, k, r⟩, h => ⟨a, dx, vs, b, k, PVAll.take r h⟩
  | .dm _, ⟨a, vs, b, k, r⟩, h => ⟨a, vs, b, k, PVAll.take r h⟩
  | .dt _, ⟨a, vs, b, k, r⟩, h => ⟨a, vs, b, k, PVAll.take r h⟩
  | .tb _ _, h, _ => h
  | .no, h, _ => h
  | .dl _, h, _ => h
  | .di _, h, _ => h
theorem OCOk.cut {m : Nat} {p : Addr} {c : OC} (h : OCOk K F H A p c) : OCOk K F H (A.take m) p (OC.cut m c) := by
  rw [ocut_if]
  split
  · rename_i e
    exact h.tk e
  · trivial
theorem ocut_up {m n : Nat} (h : m ≤ n) {c : OC} (e : OC.cut m c = c) : OC.cut n c = c ∨ c = .no := by
  rw [ocut_if] at e ⊢
  split at e
  · rename_i z
    rw [if_pos (ltAll_mono h z)]
    exact .inl rfl
  · exact .inr e.symm
theorem cutL_at {m n : Nat} {o : List OC} {c : OC} (h : (cutL m o)[n]? = some c) : n < m ∧ ∃ c0, o[n]? = some c0 ∧ c = OC.cut m c0 := by
  unfold cutL at h
  rw [List.getElem?_map, List.getElem?_take] at h
  by_cases hn : n < m
  · rw [if_pos hn] at h
    cases ho : o[n]? with
    | none => rw [ho] at h; cases h
    | some c0 =>
      rw [ho] at h
      exact ⟨hn, c0, rfl, (Option.some.inj h).symm⟩
  · rw [if_neg hn] at h
    cases h
theorem cutL_len (m : Nat) (o : List OC) : (cutL m o).length = min m o.length := by
  unfold cutL
  rw [List.length_map, List.length_take]
theorem WdF.trim {m : Nat} (w : WdF K H0 F0 A0 s σ T H F A) (hm : A0.length ≤ m) (hT : ∀ t ∈ T, t.1.lt m = true) : WdF K H0 F0 A0 (s.trim m) σ T H F (A.take m) where
  fz := w.fz
  pre := by
    obtain ⟨t, e⟩ := w.pre
    subst e
    rw [List.take_append, List.take_of_length_le hm]
    exact List.prefix_append _ _
  len := by
    show (A.take m).length = (cutL m s.o).length
    rw [List.length_take, cutL_len, w.len]
  nd := w.nd.sublist (List.take_sublist _ _)
  ad := fun p hp => w.ad p (List.mem_of_mem_take hp)
  oc := fun n p c h1 h2 => by
    obtain ⟨hn, c0, h3, rfl⟩ := cutL_at (o := s.o) h2
    rw [List.getElem?_take, if_pos hn] at h1
    exact (w.oc n p c0 h1 h3).cut
  sl := by
    show (s.r.map _).length = _
    rw [List.length_map]; exact w.sl
  pv := fun i v h => by
    have h : (s.r.map (cutP m))[i]? = some (some v) := h
    rw [List.getElem?_map] at h
    cases hr : s.r[i]? with
    | none => rw [hr] at h; cases h
    | some o =>
      rw [hr] at h
      obtain ⟨h, hl⟩ := cutP_is (Option.some.inj h)
      subst h
      obtain ⟨u, a, b⟩ := w.pv i v hr
      exact ⟨u, a, b.take hl⟩
  tm := fun t ht => (w.tm t ht).take (hT t ht)
theorem WdF.own_lt (w : WdF K H0 F0 A0 s σ T H F A) : A0.length ≤ s.o.length ∧ ∀ t ∈ T, t.1.lt s.o.length = true := by
  refine ⟨by rw [← w.len]; exact w.pre.length_le, fun t ht => ?_⟩
  rw [← w.len]
  exact (w.tm t ht).lt
theorem Wd.trim {m : Nat} (w : Wd K H0 F0 A0 s σ T H) (hm : A0.length ≤ m) (hT : ∀ t ∈ T, t.1.lt m = true) : Wd K H0 F0 A0 (s.trim m) σ T H := by
  obtain ⟨F, A, w⟩ := w
  exact ⟨F, _, w.trim hm hT⟩
theorem Wd.own_lt (w : Wd K H0 F0 A0 s σ T H) : A0.length ≤ s.o.length ∧ ∀ t ∈ T, t.1.lt s.o.length = true := by
  obtain ⟨F, A, w⟩ := w
  exact w.own_lt
end
section
variable {X : Cx} {W : WX} {st : Stmt} {rest body orelse : List Stmt} {wa wb : SW} {we wo wi : EW} {wt : TW} {e o a : Expr} {pos : Pos} {g : GW}
theorem s_cons (h1 : PS X st (tS X.K W wa)) (h2 : PSs X rest (tS X.K W wb)) : PSs X (st :: rest) (tS X.K W (wSeq wa wb)) := by
  refine PSs.imp (pss_cons h1 h2) fun D σ H ⟨H0, F0, A0, s, T, kx, k, w, xl, h, q1, q2, q3, q4⟩ => ?_
  exact ⟨H0, F0, A0, s, T, kx, _, w, xl, h, fun s' h' σ' H' w' => ⟨H0, F0, A0, s', T, kx, k, w', xl, h', q1, q2, q3, q4⟩, q2, q3, q4⟩
theorem s_one (h1 : PS X st (tS X.K W wa)) : PSs X [st] (tS X.K W wa) := pss_one h1
theorem s_nil : PSs X [] (tS X.K W wNext) := PSs.imp pss_nil fun D σ H ⟨H0, F0, A0, s, T, kx, k, w, xl, h, q1, q2, q3, q4⟩ => q1 s h σ H w
theorem s_brk : PS X (.Break pos) (tS X.K W wBrk) := PS.imp ps_break fun D σ H ⟨H0, F0, A0, s, T, kx, k, w, xl, h, q1, q2, q3, q4⟩ => q3 s h σ H w
theorem s_expr (he : PE X e (tE X.K W we)) (hs : swapsWith e none pos.line X.env = pure false := by rfl) : PS X (.Expr e pos) (tS X.K W (wDrop we)) := by
  refine PS.imp (ps_expr he hs) fun D σ H ⟨H0, F0, A0, s, T, kx, k, w, xl, h, q1, q2, q3, q4⟩ => ?_
  exact ⟨H0, F0, A0, s, T, kx, _, w, xl, h, fun v s' h' u H' w' => q1 s' h' σ H' w'.pop⟩
theorem s_ret (he : PE X e (tE X.K W we)) : PS X (.Return (some e) pos) (tS X.K W (wRet we)) := by
  refine PS.imp (ps_ret he) fun D σ H ⟨H0, F0, A0, s, T, kx, k, w, xl, h, q1, q2, q3, q4⟩ => ?_
  exact ⟨H0, F0, A0, s, T, kx, _, w, xl, h, fun v s' h' u H' w' => q2 v s' h' u σ H' w'⟩
theorem s_if (hc : PT X e (tT X.K W wt)) (ha : PSs X body (tS X.K W wa)) (hb : PSs X orelse (tS X.K W wb)) : PS X (.If e body orelse pos) (tS X.K W (wIfS wt wa wb)) := by
  refine PS.imp (ps_if hc ha hb) fun D σ H ⟨H0, F0, A0, s, T, kx, k, w, xl, h, q1, q2, q3, q4⟩ => ?_
  refine ⟨H0, F0, A0, s, T, kx, _, w, xl, h, fun c s' h' H' w' => ?_⟩
  cases c with
  | true => exact iteT ⟨H0, F0, A0, s', T, kx, k, w', xl, h'.1 rfl, q1, q2, q3, q4⟩
  | false => exact iteF ⟨H0, F0, A0, s', T, kx, k, w', xl, h'.2 rfl, q1, q2, q3, q4⟩
theorem s_set {i : Nat} {x : Str} {pos' : Pos} (hN : X.N.Nodup) (hi : X.N[i]? = some x) (hx : Loc X.env.scope x) (he : PE X e (tE X.K W we)) (hs : swapsWith e (some (.Name x pos')) pos.line X.env = pure false := by rfl) (hf : X.fn x = true ∨ X.env.scope.names.lookup x = some .local := by first | exact .inl rfl | exact .inr rfl | assumption) :
    PS X (.Assign [.Name x pos'] e pos) (tS X.K W (wAsg we i)) := by
  refine PS.imp (ps_set hN hi hx he hs hf) fun D σ H ⟨H0, F0, A0, s, T, kx, k, w, xl, h, q1, q2, q3, q4⟩ => ?_
  refine ⟨H0, F0, A0, s, T, kx, _, w, xl, h, fun v s' h' u H' w' => ?_⟩
  obtain ⟨F, A, w'⟩ := w'
  exact q1 _ h' _ H' ⟨F, A, (w'.sub fun t h => List.mem_cons_of_mem _ h).st (w'.tm _ List.mem_cons_self)⟩
theorem g_name {i : Nat} {x : Str} (hN : X.N.Nodup) (hi : X.N[i]? = some x) (hx : Loc X.env.scope x) (hf : X.fn x = true ∨ X.env.scope.names.lookup x = some .local := by first | exact .inl rfl | exact .inr rfl | assumption) : PG X (.Name x pos) (tG X.K [i] (gN i)) := by
  refine PG.imp (pg_name hN hi hx hf) fun v σ H Q ⟨H0, F0, A0, s, T, x, k, w, m, h, q⟩ => ?_
  obtain ⟨F, A, w⟩ := w
  exact q _ h _ H ⟨by rw [List.length_set], fun j hj => List.getElem?_set_ne (fun e => hj (by rw [e]; exact List.mem_cons_self))⟩ ⟨F, A, w.st (w.tm _ m)⟩
def tGs (K : PySem.W.Frag) (L : List Nat) (g : GWs) : TGs := fun vs σ H Q => ∃ H0 F0 A0 s T xs k, Wd K H0 F0 A0 s σ T H ∧ vs.length = xs.length ∧ (∀ t ∈ (xs.map PV.d).zip vs, t ∈ T) ∧ g xs s k ∧ ∀ s', k s' → ∀ σ' H', OutL L σ σ' → Wd K H0 F0 A0 s' σ' T H' → Q σ' H'
theorem PGs.imp {es : List Expr} {t t' : TGs} (h : PGs X es t) (i : ∀ v σ H Q, t' v σ H Q → t v σ H Q) : PGs X es t' := ⟨fun pins s σ H v u Q I r q => h.run pins s σ H v u Q I r (i v σ H Q q)⟩
theorem gs_nil : PGs X [] (tGs X.K [] gsNil) := by
  refine PGs.imp pgs_nil fun vs σ H Q ⟨H0, F0, A0, s, T, xs, k, w, e, m, ⟨hx, h⟩, q⟩ => ?_
  subst hx
  exact ⟨List.eq_nil_of_length_eq_zero e, q s h σ H ⟨rfl, fun _ _ => rfl⟩ w⟩
theorem gs_cons {es : List Expr} {g1 : GW} {g2 : GWs} {L1 L2 : List Nat} (h1 : PG X e (tG X.K L1 g1)) (h2 : PGs X es (tGs X.K L2 g2)) (hs : (assignEach (e :: es) X.env).map (·.2) = assign e X.env :: (assignEach es X.env).map (·.2) := by rfl) : PGs X (e :: es) (tGs X.K (L1 ++ L2) (gsCons g1 g2)) := by
  refine PGs.imp (pgs_cons h1 h2 hs) fun vs σ H Q ⟨H0, F0, A0, s, T, xs, k, w, e, m, ⟨x, r, hx, h⟩, q⟩ => ?_
  subst hx
  cases vs with
  | nil => cases e
  | cons v vs =>
    refine ⟨v, vs, rfl, H0, F0, A0, s, T, x, _, w, m _ List.mem_cons_self, h, fun s' h' σ' H' l' w' => ?_⟩
    exact ⟨H0, F0, A0, s', T, r, k, w', Nat.succ.inj e, fun t ht => m t (List.mem_cons_of_mem _ ht), h', fun s2 h2 σ2 H2 l2 w2 => q s2 h2 σ2 H2 ⟨l2.1.trans l'.1, fun j hj => (l2.2 j fun z => hj (List.mem_append_right _ z)).trans (l'.2 j fun z => hj (List.mem_append_left _ z))⟩ w2⟩
theorem g_tup {es : List Expr} {kk n : Nat} {gs : GWs} {L : List Nat} (hc : X.calm = true) (h : PGs X es (tGs X.K L gs)) (hn : (assignEach es X.env).length = n := by rfl) (hst : (assignEach es X.env).findIdx? (·.1) = none := by rfl) : PG X (.Tuple es kk pos) (tG X.K L (gT n gs)) := by
  refine PG.imp (pg_tup hc h hn hst) fun v σ H Q ⟨H0, F0, A0, s, T, x, k, w, m, ⟨xs, hx, hl, h⟩, q⟩ => ?_
  subst hx
  obtain ⟨F, A, w⟩ := w
  have pv : PVOk X.K F A (.d (.tuple xs)) v := w.tm _ m
  obtain ⟨p, vs, e1, h1, h2⟩ := itemsT_ok w pv rfl
  refine ⟨p, vs, e1, h1, h2.len.trans hl, H0, F0, A0, s, (xs.map PV.d).zip vs ++ T, xs, k, ⟨F, A, w.tms fun t ht => ?_⟩, h2.len, fun t ht => List.mem_append_left _ ht, h, fun s' h' σ' H' l' w' => q s' h' σ' H' l' (w'.sub fun t ht => List.mem_append_right _ ht)⟩
  rcases List.mem_append.mp ht with z | z
  · have zip_ok : ∀ {vs : List V} {xs : List PyData}, DqAll X.K F vs xs → ∀ t ∈ (xs.map PV.d).zip vs, PVOk X.K F A t.1 t.2 := by
      intro vs xs hd
      induction vs generalizing xs with
      | nil => cases hd; exact fun t ht => by simp at ht
      | cons v vs ih =>
        cases hd with
        | cons d r =>
          intro t ht
          rcases List.mem_cons.mp ht with e | ht
          · rw [e]; exact d
          · exact ih r t ht
    exact zip_ok h2 t z
  · exact w.tm t z
theorem s_unp {tg : Expr} {L : List Nat} (he : PE X e (tE X.K W we)) (hg : PG X tg (tG X.K L g)) (hs : swapsWithSole [tg] e pos.line X.env = pure false := by rfl) (hw : swappedStores [tg] e X.env = pure none := by rfl)
    (h1 : (assignEach [tg] X.env).map (·.2) = [assign tg X.env] := by rfl) : PS X (.Assign [tg] e pos) (tS X.K W (wUnp we g)) := by
  refine PS.imp (ps_asg he hg hs hw h1) fun D σ H ⟨H0, F0, A0, s, T, kx, k, w, xl, h, q1, q2, q3, q4⟩ => ?_
  refine ⟨H0, F0, A0, s, T, kx, _, w, xl, h, fun v s' h' u H' w' => ?_⟩
  obtain ⟨d, s2, h2, w2⟩ := frz_ok w' h'
  exact ⟨H0, F0, A0, s2, _, d, k.nx, w2, List.mem_cons_self, h2, fun s3 h3 σ3 H3 _ w3 => q1 s3 h3 σ3 H3 w3.pop⟩
theorem s_setIx {i : Expr} {wv : EW} {p2 : Pos} (he : PE X e (tE X.K W wv)) (ho : PE X o (tE X.K W wo)) (hi : PE X i (tE X.K W wi))
    (ha : ∀ v, assign (.Subscript o i p2) X.env v = (do
      let ov ← holding [v] (eval o X.env)
      let iv ← holding [v, ov] (eval i X.env)
      standAt p2
      holding [v, ov, iv] (setItem ov iv v)
      release [v, ov, iv] []) := by intro _; rfl)
    (hs : swapsWithSole [.Subscript o i p2] e pos.line X.env = pure false := by rfl) (hw : swappedStores [.Subscript o i p2] e X.env = pure none := by rfl)
    (h1 : (assignEach [.Subscript o i p2] X.env).map (·.2) = [assign (.Subscript o i p2) X.env] := by rfl) : PS X (.Assign [.Subscript o i p2] e pos) (tS X.K W (wSetIx wv wo wi)) := by
  refine PS.imp (ps_asg he (pg_sub ho hi set_list ha) hs hw h1) fun D σ H ⟨H0, F0, A0, s, T, kx, k, w, xl, h, q1, q2, q3, q4⟩ => ?_
  refine ⟨H0, F0, A0, s, T, kx, _, w, xl, h, fun v s1 h1 u H1 w1 => ?_⟩
  refine ⟨H0, F0, A0, s1, _, kx, _, w1, xl.push, h1, fun x s2 h2 ux H2 w2 => ?_⟩
  refine ⟨H0, F0, A0, s2, _, kx, _, w2, xl.push.push, h2, fun y s3 h3 uy H3 w3 => ?_⟩
  obtain ⟨d, s4, h4, w4⟩ := frz_ok (T := (y, uy) :: (x, ux) :: T) (w3.sub fun t ht => by
    rcases List.mem_cons.mp ht with e | ht
    · rw [e]; exact List.mem_cons_of_mem _ (List.mem_cons_of_mem _ List.mem_cons_self)
    · rcases List.mem_cons.mp ht with e | ht
      · rw [e]; exact List.mem_cons_self
      · rcases List.mem_cons.mp ht with e | ht
        · rw [e]; exact List.mem_cons_of_mem _ List.mem_cons_self
        · exact List.mem_cons_of_mem _ (List.mem_cons_of_mem _ (List.mem_cons_of_mem _ ht))) h3
  obtain ⟨n, xs, i, j, rfl, rfl, ox, hj, hk⟩ := h4
  obtain ⟨F, A, w4⟩ := w4
  obtain ⟨p, vs, hp, rfl, hv, hd⟩ := own_at w4 (List.mem_cons_of_mem _ (List.mem_cons_of_mem _ List.mem_cons_self)) ox
  have dv : Dq X.K F u d := w4.tm (.d d, u) List.mem_cons_self
  have di : Dq X.K F uy (.int i) := w4.tm (.d (.int i), uy) (List.mem_cons_of_mem _ List.mem_cons_self)
  cases dp_int (dq_dp di)
  refine ⟨p, vs, i, j, rfl, rfl, hv, by rw [hd.len]; exact hj, q1 _ hk σ _ ⟨F, A, (w4.sub (T' := T) fun t h => List.mem_cons_of_mem _ (List.mem_cons_of_mem _ (List.mem_cons_of_mem _ h))).wr hp ox (hd.set j dv)⟩⟩
theorem s_aug {i : Nat} {x : Str} {op : Operator} {r : R2} {R : PyData → PyData → (PyData → Prop) → Prop} {pos' : Pos} (hN : X.N.Nodup) (hi : X.N[i]? = some x) (hx : Loc X.env.scope x) (hr : OpR X (inplaceOp op) r) (hR : ROk X.K r R) (he : PE X e (tE X.K W we))
    (hf : X.fn x = true ∨ X.env.scope.names.lookup x = some .local := by first | exact .inl rfl | exact .inr rfl | assumption) : PS X (.AugAssign (.Name x pos') op e pos) (tS X.K W (wAug R i we)) := by
  have hp : PIp X op r := hr
  refine PS.imp (ps_aug hN hi hx he hp hf) fun D σ H ⟨H0, F0, A0, s, T, kx, k, w, xl, h, q1, q2, q3, q4⟩ => ?_
  obtain ⟨z, hz, h⟩ := h
  obtain ⟨F, A, w⟩ := w
  obtain ⟨u, hu, pu⟩ := w.pv i _ hz
  refine ⟨u, hu, H0, F0, A0, s, (.d z, u) :: T, kx, _, ⟨F, A, w.push pu⟩, xl.push, h, fun y s1 h1 v H1 w1 => ?_⟩
  obtain ⟨b, hb, h1⟩ := h1
  obtain ⟨F1, A1, w1⟩ := w1
  have pz : PVOk X.K F1 A1 (.d z) u := w1.tm _ (List.mem_cons_of_mem _ List.mem_cons_self)
  refine hR u v z b H1 _ _ (dat_ok w1 pz rfl) (dat_ok w1 (w1.tm _ List.mem_cons_self) hb) h1 fun c t hc ht => ?_
  exact q1 _ hc _ H1 ⟨F1, A1, (w1.sub fun t h => List.mem_cons_of_mem _ (List.mem_cons_of_mem _ h)).st (toV_dp ht)⟩
theorem iop_addD : OpR X (inplaceOp .Add) (fun x y H Q => (rI0 fun i j => .int (i + j)) x y H Q ∨ ∃ i j, x = .str i ∧ y = .str j ∧ i.length + j.length ≤ sizeLine ∧ Q (.str (i ++ j)) H) := iop_add.or iop_add_str
theorem s_augAdd {i : Nat} {x : Str} {pos' : Pos} (hN : X.N.Nodup) (hi : X.N[i]? = some x) (hx : Loc X.env.scope x) (he : PE X e (tE X.K W we))
    (hf : X.fn x = true ∨ X.env.scope.names.lookup x = some .local := by first | exact .inl rfl | exact .inr rfl | assumption) : PS X (.AugAssign (.Name x pos') .Add e pos) (tS X.K W (wAug rAddD i we)) := s_aug hN hi hx iop_addD ok_addD he hf
theorem s_for {tg iter : Expr} {iw : IW} {L : List Nat} (hp : PassesOwn (model X.prog X.w) X.A X.env X.xe) (hc : X.calm = true) (hi : PI X tg iter (tI X.K W iw)) (hg : PG X tg (tG X.K L g)) (hb : PSs X body (tS X.K W wb))
    (hs : ∀ v, foldedSetIterable iter X.env v = pure v := by intro _; rfl) : PS X (.For tg iter body [] pos) (tS X.K W (wFor iw g wb)) := by
  refine PS.imp (ps_for hp hc hi hg hb hs) fun D σ H ⟨H0, F0, A0, s, T, kx, k, w, xl, h, q1, q2, q3, q4⟩ => ?_
  refine ⟨H0, F0, A0, s, T, kx, _, w, xl, h, fun xs c s0 h0 J T1 H1 w1 hJ => ?_⟩
  obtain ⟨I, i0, hC, turn, fin⟩ := h0
  have lt := w1.own_lt
  refine ⟨fun i m σ' H' => m = xs.length - i ∧ i ≤ xs.length ∧ ∃ s', Wd X.K H0 F0 A0 s' σ' (T1 ++ T) H' ∧ I i s', ⟨_, rfl, Nat.zero_le _, s0, w1, i0⟩, ?_⟩
  rintro i m σ2 H2 ⟨rfl, hi, s2, ⟨F, A, w2⟩, i2⟩
  obtain ⟨j1, j2, j3⟩ := hJ H0 F0 A0 s2 σ2 (T1 ++ T) H2 F A w2 (fun t ht => List.mem_append_left _ ht) (hC i s2 hi i2) i
  by_cases hlt : i < xs.length
  · refine .inr ⟨j1 hlt, fun σ' H' => ∃ s', Wd X.K H0 F0 A0 s' σ' (T1 ++ T) H' ∧ I (i + 1) s', fun σ' H' ⟨s', w', i'⟩ => ⟨xs.length - (i + 1), by omega, rfl, hlt, s', w', i'⟩, fun x H' hy => ?_⟩
    obtain ⟨d, hd, F', w3⟩ := j3 hlt x H' hy
    refine ⟨H0, F0, A0, s2, _, d, _, ⟨F', A, w3⟩, List.mem_cons_self, turn i d s2 hd i2, fun s4 h4 σ4 H4 _ w4 => ?_⟩
    have nx : ∀ s3, (I (i + 1) s3 ∨ I (i + 1) (s3.trim s0.o.length)) → ∀ σ' H', Wd X.K H0 F0 A0 s3 σ' ((.d d, x) :: (T1 ++ T)) H' → ∃ s', Wd X.K H0 F0 A0 s' σ' (T1 ++ T) H' ∧ I (i + 1) s' := fun s3 h3 σ' H' w3 => by
      rcases h3 with h3 | h3
      · exact ⟨s3, w3.pop, h3⟩
      · exact ⟨_, w3.pop.trim lt.1 lt.2, h3⟩
    refine ⟨H0, F0, A0, s4, _, kx, _, w4, xl.more fun t ht => List.mem_cons_of_mem _ (List.mem_append_right _ ht), h4, nx, fun v s' h' u σ' H' w' => q2 v s' h' u σ' H' (w'.sub fun t ht => ?_), fun s' h' σ' H' w' => q1 s' h' σ' H' (w'.sub fun t ht => List.mem_cons_of_mem _ (List.mem_append_right _ ht)), nx⟩
    rcases List.mem_cons.mp ht with e | ht
    · rw [e]; exact List.mem_cons_self
    · exact List.mem_cons_of_mem _ (List.mem_cons_of_mem _ (List.mem_append_right _ ht))
  · have e : i = xs.length := by omega
    subst e
    exact .inl ⟨j2 (Nat.le_refl _), q1 s2 (fin s2 i2) σ2 H2 ⟨F, A, w2.sub fun t ht => List.mem_append_right _ ht⟩⟩
theorem s_raise {C : Addr} {c : Expr} (hc : X.calm = true) (tk : Takes X W) (hm : PMk X c (fun _ H Q => Q (.ref C) none H)) : PS X (.Raise (some c) none pos) (tS X.K W (wRaise C)) :=
  PS.imp (ps_raise hc tk hm) fun D σ H ⟨H0, F0, A0, s, T, kx, k, ⟨F, A, w⟩, xl, h, q1, q2, q3, q4⟩ => xl ⟨C, none⟩ s h σ H none ⟨F, A, w.push ⟨none, rfl, rfl⟩⟩
end
end PW

namespace PW
open PySem L2
def lst (v : PV) (s : PSt) (k : List PyData → PSt → Prop) : Prop :=
  match v with
  | .scr ns => k (ns.map PyData.int) s
  | v => frz v s fun x s1 => ∃ xs, x = .list xs ∧ k xs s1
def wL (we : EW) : IW := fun kx s k => we kx s fun v s1 => lst v s1 fun xs s2 => k xs none s2
def wTp (we : EW) : IW := fun kx s k => we kx s fun v s1 => ∃ xs, v = .d (.tuple xs) ∧ k xs none s1
def charsD (z : Str) : List PyData := z.cps.toList.map fun c => .str ⟨#[c]⟩
def wSt (we : EW) : IW := fun kx s k => we kx s fun v s1 => ∃ z, v = .d (.str z) ∧ k (charsD z) none s1
def intsD (lo : Int) (n : Nat) : List PyData := (List.range n).map fun i => PyData.int (lo + (i : Nat))
def wRg1 (we : EW) : IW := fun kx s k => we kx s fun v s1 => ∃ j, v = .d (.int j) ∧ -(2 ^ 62) ≤ j ∧ j < 2 ^ 62 ∧ k (intsD 0 j.toNat) none s1
def enumD : Nat → List PyData → List PyData
  | _, [] => []
  | i, x :: r => .tuple [.int (i : Nat), x] :: enumD (i + 1) r
def wEn (we : EW) : IW := fun kx s k => we kx s fun v s1 => lst v s1 fun xs s2 => k (enumD 0 xs) none s2
theorem enumD_get : ∀ (xs : List PyData) (n i : Nat), (enumD n xs)[i]? = (xs[i]?).map fun x => .tuple [.int ((n + i : Nat) : Int), x]
  | [], _, _ => by simp [enumD]
  | x :: r, n, 0 => rfl
  | x :: r, n, i + 1 => by
    rw [enumD, List.getElem?_cons_succ, List.getElem?_cons_succ, enumD_get r (n + 1) i]
    rw [show n + 1 + i = n + (i + 1) by omega]
theorem enumD_len : ∀ (xs : List PyData) (n : Nat), (enumD n xs).length = xs.length
  | [], _ => rfl
  | x :: r, n => by rw [enumD, List.length_cons, List.length_cons, enumD_len r]
def LSrc : PV → List PyData → Prop
  | .scr ns, xs => xs = ns.map PyData.int
  | .d x, xs => x = .list xs
  | _, _ => False
theorem lsrc_ok {K : PySem.W.Frag} {H0 F0 : Hp} {A0 : List Addr} {s : PSt} {σ : St} {T : List (PV × V)} {H F : Hp} {A : List Addr} {v : PV} {u : V} {xs : List PyData} (w : WdF K H0 F0 A0 s σ T H F A) (h : LSrc v xs) (m : (v, u) ∈ T) : ∃ a vs, u = .ref a ∧ SqL K H a vs ∧ DqAll K F vs xs := by
  have p := w.tm _ m
  cases v with
  | scr ns => cases h; exact items_ok w p rfl
  | d x => cases h; exact items_ok w p rfl
  | own n => exact h.elim
  | tp n => exact h.elim
  | gl n => exact h.elim
  | exc n => exact h.elim
  | xd n => exact h.elim
  | dk n => exact h.elim
  | fn _ _ _ _ _ => exact h.elim
theorem lst_ok {K : PySem.W.Frag} {H0 F0 : Hp} {A0 : List Addr} {s : PSt} {σ : St} {T : List (PV × V)} {H : Hp} {v : PV} {u : V} {k : List PyData → PSt → Prop} (w : Wd K H0 F0 A0 s σ ((v, u) :: T) H) (h : lst v s k) :
    ∃ v' xs s', k xs s' ∧ LSrc v' xs ∧ Wd K H0 F0 A0 s' σ ((v', u) :: T) H := by
  cases v with
  | scr ns => exact ⟨.scr ns, _, s, h, rfl, w⟩
  | d x =>
    obtain ⟨xs, rfl, h⟩ := h
    exact ⟨.d (.list xs), _, s, h, rfl, w⟩
  | own n =>
    have h : frz (.own n) s fun x s1 => ∃ xs, x = .list xs ∧ k xs s1 := h
    obtain ⟨x, s1, h1, w1⟩ := frz_ok w h
    obtain ⟨xs, rfl, h1⟩ := h1
    exact ⟨.d (.list xs), _, s1, h1, rfl, w1⟩
  | tp n => exact h.elim
  | gl n => exact h.elim
  | exc n => exact h.elim
  | xd n => exact h.elim
  | dk n => exact h.elim
  | fn _ _ _ _ _ => exact h.elim
theorem it_list {K : PySem.W.Frag} {v : PV} {a : Addr} {xs : List PyData} (h : LSrc v xs) : ItOk K (Itl K a) [(v, .ref a)] none xs := by
  intro H0 F0 A0 s σ T H F A w ht _ i
  obtain ⟨a', vs, e, h1, h2⟩ := lsrc_ok w h (ht _ List.mem_cons_self)
  cases e
  have hl := h2.len
  refine ⟨fun hi => ⟨vs, vs[i]'(by omega), h1, List.getElem?_eq_getElem (by omega)⟩, fun hi => ⟨vs, h1, by omega⟩, fun _ x H' hy => ?_⟩
  obtain ⟨rfl, hx⟩ := hy
  obtain ⟨d, hd, dq⟩ := h2.get i x (hx vs h1)
  exact ⟨d, hd, F, w.push dq⟩
theorem it_tup {K : PySem.W.Frag} {a : Addr} {xs : List PyData} : ItOk K (Itt K a) [(.d (.tuple xs), .ref a)] none xs := by
  intro H0 F0 A0 s σ T H F A w ht _ i
  have p : PVOk K F A (.d (.tuple xs)) (.ref a) := w.tm _ (ht _ List.mem_cons_self)
  obtain ⟨a', vs, e, h1, h2⟩ := itemsT_ok w p rfl
  cases e
  have hl := h2.len
  refine ⟨fun hi => ⟨vs, vs[i]'(by omega), h1, List.getElem?_eq_getElem (by omega)⟩, fun hi => ⟨vs, h1, by omega⟩, fun _ x H' hy => ?_⟩
  obtain ⟨rfl, hx⟩ := hy
  obtain ⟨d, hd, dq⟩ := h2.get i x (hx vs h1)
  exact ⟨d, hd, F, w.push dq⟩
theorem it_str {K : PySem.W.Frag} {z : Str} : ItOk K (Its z) [] none (charsD z) := by
  intro H0 F0 A0 s σ T H F A w ht _ i
  have hl : (charsD z).length = z.cps.size := by unfold charsD; rw [List.length_map]; simp
  refine ⟨fun hi => by rw [hl] at hi; exact hi, fun hi => by rw [hl] at hi; exact hi, fun _ x H' hy => ?_⟩
  obtain ⟨rfl, c, hc, rfl⟩ := hy
  refine ⟨.str ⟨#[c]⟩, ?_, F, w.push (.str _)⟩
  unfold charsD
  rw [List.getElem?_map, Array.getElem?_toList, hc]
  rfl
theorem it_range {K : PySem.W.Frag} {lo : Int} {n : Nat} : ItOk K (Itr lo n) [] none (intsD lo n) := by
  intro H0 F0 A0 s σ T H F A w ht _ i
  have hl : (intsD lo n).length = n := by unfold intsD; rw [List.length_map, List.length_range]
  refine ⟨fun hi => by rw [hl] at hi; exact hi, fun hi => by rw [hl] at hi; exact hi, fun hi x H' hy => ?_⟩
  rw [hl] at hi
  obtain ⟨rfl, rfl⟩ := hy
  refine ⟨.int (lo + (i : Nat)), ?_, F, w.push (.int _)⟩
  unfold intsD
  rw [List.getElem?_map, List.getElem?_range hi]
  rfl
theorem it_enum {K : PySem.W.Frag} {v : PV} {a : Addr} {xs : List PyData} (h : LSrc v xs) : ItOk K (Ite K a) [(v, .ref a)] none (enumD 0 xs) := by
  intro H0 F0 A0 s σ T H F A w ht _ i
  obtain ⟨a', vs, e, h1, h2⟩ := lsrc_ok w h (ht _ List.mem_cons_self)
  cases e
  have hl := h2.len
  rw [enumD_len]
  refine ⟨fun hi => ⟨vs, vs[i]'(by omega), h1, List.getElem?_eq_getElem (by omega)⟩, fun hi => ⟨vs, h1, by omega⟩, fun _ x H' hy => ?_⟩
  obtain ⟨t, y, rfl, ht, rfl, hx⟩ := hy
  obtain ⟨d, hd, dq⟩ := h2.get i y (hx vs h1)
  refine ⟨.tuple [.int (i : Nat), d], by rw [enumD_get, hd, Nat.zero_add]; rfl, _, (w.newD (o := .tup [.int (i : Nat), y]) ht).push (.tup (SqT.of upd_same) (.cons (.int _) (.cons (dq_same (same_new (w.fz.g.free ht)) dq) .nil)))⟩
section
variable {X : Cx} {W : WX} {e a b tg : Expr} {we wa wb : EW} {pos p : Pos}
theorem i_list (he : PE X e (tE X.K W we)) : PI X tg e (tI X.K W (wL we)) := by
  refine PI.imp (pi_list he) fun σ H R ⟨H0, F0, A0, s, T, kx, k, w, xl, h, q⟩ => un_of w xl h fun v s1 u H1 h1 w1 => ?_
  obtain ⟨v', xs, s2, h2, hs, w2⟩ := lst_ok w1 h1
  obtain ⟨F, A, w3⟩ := id w2
  obtain ⟨a, vs, rfl, h3, h4⟩ := lsrc_ok w3 hs List.mem_cons_self
  exact ⟨a, rfl, ⟨vs, h3⟩, q _ _ _ h2 _ [(v', .ref a)] H1 w2 (it_list hs)⟩
theorem it_own {K : PySem.W.Frag} {n : Nat} {a : Addr} {xs : List PyData} : ItOk K (Itl K a) [(.own n, .ref a)] (some (n, xs)) xs := by
  intro H0 F0 A0 s σ T H F A w ht hs i
  obtain ⟨p, vs, hp, e, h1, h2⟩ := own_at w (ht _ List.mem_cons_self) hs
  cases e
  have hl := h2.len
  refine ⟨fun hi => ⟨vs, vs[i]'(by omega), SqL.of h1, List.getElem?_eq_getElem (by omega)⟩, fun hi => ⟨vs, SqL.of h1, by omega⟩, fun _ x H' hy => ?_⟩
  obtain ⟨rfl, hx⟩ := hy
  obtain ⟨d, hd, dq⟩ := h2.get i x (hx vs (SqL.of h1))
  exact ⟨d, hd, F, w.push dq⟩
theorem i_tup (he : PE X e (tE X.K W we)) : PI X tg e (tI X.K W (wTp we)) := by
  refine PI.imp (pi_tup he) fun σ H R ⟨H0, F0, A0, s, T, kx, k, w, xl, h, q⟩ => un_of w xl h fun v s1 u H1 h1 w1 => ?_
  obtain ⟨xs, rfl, h1⟩ := h1
  obtain ⟨F, A, w3⟩ := id w1
  have pv : PVOk X.K F A (.d (.tuple xs)) u := w3.tm _ List.mem_cons_self
  obtain ⟨a, vs, rfl, h3, h4⟩ := itemsT_ok w3 pv rfl
  exact ⟨a, rfl, ⟨vs, h3⟩, q _ _ _ h1 _ [(.d (.tuple xs), .ref a)] H1 w1 it_tup⟩
theorem i_str (he : PE X e (tE X.K W we)) : PI X tg e (tI X.K W (wSt we)) := by
  refine PI.imp (pi_str he) fun σ H R ⟨H0, F0, A0, s, T, kx, k, w, xl, h, q⟩ => un_of w xl h fun v s1 u H1 h1 w1 => ?_
  obtain ⟨z, rfl, h1⟩ := h1
  cases str_at w1 List.mem_cons_self
  exact ⟨z, rfl, q _ _ _ h1 _ [] H1 w1.pop it_str⟩
theorem i_rg1 (hm : X.mg "range" = none) (he : PE X e (tE X.K W we)) (hg : Gl X "range" := by rfl) (hs : starEach [e] X.env = [(false, eval e X.env)] := by rfl) : PI X tg (.Call (.Name "range" p) [e] [] pos) (tI X.K W (wRg1 we)) := by
  refine PI.imp (pi_range1 hg hm (pa_cons he pa_nil hs) hs) fun σ H R ⟨H0, F0, A0, s, T, kx, k, w, xl, h, q⟩ => un_of w xl h fun v s1 u H1 h1 w1 => ?_
  obtain ⟨j, rfl, l1, l2, h1⟩ := h1
  obtain ⟨F, A, w2⟩ := id w1
  cases dp_int (dq_dp (w2.tm _ List.mem_cons_self))
  exact ⟨j, rfl, l1, l2, q _ _ _ h1 _ [] H1 w1.pop it_range⟩
theorem i_enum {elts : List Expr} {kk : Nat} {tpos : Pos} (hm : X.mg "enumerate" = none) (he : PE X e (tE X.K W we)) (hg : Gl X "enumerate" := by rfl) (hs : starEach [e] X.env = [(false, eval e X.env)] := by rfl) : PI X (.Tuple elts kk tpos) (.Call (.Name "enumerate" p) [e] [] pos) (tI X.K W (wEn we)) := by
  refine PI.imp (pi_enum hg hm (pa_cons he pa_nil hs) hs) fun σ H R ⟨H0, F0, A0, s, T, kx, k, w, xl, h, q⟩ => un_of w xl h fun v s1 u H1 h1 w1 => ?_
  obtain ⟨v', xs, s2, h2, hs, w2⟩ := lst_ok w1 h1
  obtain ⟨F, A, w3⟩ := id w2
  obtain ⟨a, vs, rfl, h3, h4⟩ := lsrc_ok w3 hs List.mem_cons_self
  exact ⟨a, vs, rfl, h3, q _ _ _ h2 _ [(v', .ref a)] H1 w2 (it_enum hs)⟩
end
end PW
namespace PW
open PySem L2
def wYes : TW := fun _ s k => k true s
def wLc (wi : IW) (g : GW) (tt : TW) (we : EW) (vs : List Nat) : EW := fun kx s k => wi kx s fun xs c s1 => ∃ I : Nat → List PyData → PSt → Prop, I 0 [] (s1.wipe vs) ∧ (∀ j acc s2, j ≤ xs.length → I j acc s2 → Src c s2) ∧
  (∀ j x acc s2, xs[j]? = some x → s2.o.length = s1.o.length → I j acc s2 → g x ⟨s2.r, s2.o ++ [.dl acc]⟩ fun s3 => tt (fun _ _ => False) s3 fun b s4 =>
    (b = true → we (fun _ _ => False) s4 fun y s5 => frz y s5 fun d s6 => s6.o[s1.o.length]? = some (.dl acc) ∧ acc.length < sizeLine ∧ I (j + 1) (acc ++ [d]) ((s6.trim s1.o.length).wipe vs)) ∧
    (b = false → s4.o[s1.o.length]? = some (.dl acc) ∧ I (j + 1) acc ((s4.trim s1.o.length).wipe vs))) ∧
  ∀ acc s2, s2.o.length = s1.o.length → I xs.length acc s2 → k (.own s1.o.length) ⟨s2.r, s2.o ++ [.dl acc]⟩
section
variable {K : PySem.W.Frag} {H0 F0 : Hp} {A0 : List Addr} {s : PSt} {σ : St} {T : List (PV × V)} {H F : Hp} {A : List Addr}
theorem wipe_r (s : PSt) : ∀ vs : List Nat, (s.wipe vs).o = s.o ∧ (s.wipe vs).r.length = s.r.length ∧ ∀ (i : Nat) v, (s.wipe vs).r[i]? = some (some v) → s.r[i]? = some (some v) ∧ i ∉ vs
  | [] => ⟨rfl, rfl, fun i v h => ⟨h, List.not_mem_nil⟩⟩
  | w :: vs => by
    obtain ⟨h1, h2, h3⟩ := wipe_r s vs
    refine ⟨rfl, ?_, fun i v h => ?_⟩
    · show ((s.wipe vs).r.set w none).length = _
      rw [List.length_set]; exact h2
    · have h : ((s.wipe vs).r.set w none)[i]? = some (some v) := h
      by_cases e : i = w
      · subst e
        by_cases hl : i < (s.wipe vs).r.length
        · rw [List.getElem?_set_self hl] at h; cases h
        · rw [List.getElem?_eq_none (by rw [List.length_set]; omega)] at h; cases h
      · rw [List.getElem?_set_ne (Ne.symm e)] at h
        obtain ⟨a, b⟩ := h3 i v h
        exact ⟨a, fun z => (List.mem_cons.mp z).elim e b⟩
theorem WdF.relO {s' : PSt} {σ' : St} (w : WdF K H0 F0 A0 s σ T H F A) (hn : s'.o.length = s.o.length) (ho : ∀ (n : Nat) c, s'.o[n]? = some c → c = .no ∨ s.o[n]? = some c) (hl : s'.r.length = σ'.length) (h : ∀ (i : Nat) v, s'.r[i]? = some (some v) → s.r[i]? = some (some v) ∧ ∀ u, σ[i]? = some (some u) → σ'[i]? = some (some u)) : WdF K H0 F0 A0 s' σ' T H F A :=
  { fz := w.fz, pre := w.pre, len := by rw [hn]; exact w.len, nd := w.nd, ad := w.ad, sl := hl, tm := w.tm,
    oc := fun n p c h1 h2 => by
      rcases ho n c h2 with e | e
      · rw [e]; trivial
      · exact w.oc n p c h1 e
    pv := fun i v e => by
      obtain ⟨a, b⟩ := h i v e
      obtain ⟨u, c, d⟩ := w.pv i v a
      exact ⟨u, b u c, d⟩ }
theorem WdF.rel {s' : PSt} {σ' : St} (w : WdF K H0 F0 A0 s σ T H F A) (ho : s'.o = s.o) (hl : s'.r.length = σ'.length) (h : ∀ (i : Nat) v, s'.r[i]? = some (some v) → s.r[i]? = some (some v) ∧ ∀ u, σ[i]? = some (some u) → σ'[i]? = some (some u)) : WdF K H0 F0 A0 s' σ' T H F A :=
  w.relO (by rw [ho]) (fun n c e => .inr (by rw [← ho]; exact e)) hl h
theorem wipe_len (σ : St) (vs : List Nat) : (wipe σ vs).length = σ.length := wipe_length σ vs
theorem wipe_eq {σ σ' : St} {vs L : List Nat} (h : OutL L (wipe σ vs) σ') (hl : ∀ i ∈ L, i ∈ vs) : wipe σ' vs = wipe σ vs := by
  apply List.ext_getElem?
  intro i
  by_cases hi : i ∈ vs
  · have z : ∀ σ : St, i < σ.length → (wipe σ vs)[i]? = some none := by
      intro σ hs
      have : ∀ vs : List Nat, i ∈ vs → (wipe σ vs)[i]? = some none := by
        intro vs
        induction vs with
        | nil => intro h; cases h
        | cons v vs ih =>
          intro h
          show ((wipe σ vs).set v none)[i]? = some none
          by_cases e : i = v
          · subst e
            rw [List.getElem?_set_self (by rw [wipe_len]; exact hs)]
          · rw [List.getElem?_set_ne (Ne.symm e)]
            exact ih ((List.mem_cons.mp h).resolve_left e)
      exact this vs hi
    by_cases hs : i < σ.length
    · rw [z σ' (by rw [h.1, wipe_len]; exact hs), z σ hs]
    · rw [List.getElem?_eq_none (by rw [wipe_len, h.1, wipe_len]; omega), List.getElem?_eq_none (by rw [wipe_len]; omega)]
  · rw [wipe_out hi, h.2 i fun z => hi (hl i z)]
end
theorem src_app {c : SrcO} {s : PSt} {x : List OC} (h : Src c s) : Src c ⟨s.r, s.o ++ x⟩ := by
  cases c with
  | none => trivial
  | some p =>
    obtain ⟨n, xs⟩ := p
    have h : s.o[n]? = some (.dl xs) := h
    show (s.o ++ x)[n]? = some (.dl xs)
    rw [List.getElem?_append_left (List.getElem?_eq_some_iff.mp h).1]
    exact h
section
variable {X : Cx} {W : WX} {elt tg iter c : Expr} {ifs : List Expr} {scope : Scope} {own : List (Str × Nat)} {pos : Pos} {iw : IW} {g : GW} {tt : TW} {we : EW} {L : List Nat}
abbrev W0 : WX := fun _ _ _ _ => False
theorem ts_nil : PTs X [] (tT X.K W wYes) := PTs.imp pts_nil fun σ H Q ⟨H0, F0, A0, s, T, kx, k, w, xl, h, q⟩ => q _ _ h H w
theorem ts_one {t : TW} (h : PT X c (tT X.K W t)) : PTs X [c] (tT X.K W t) := pts_one h
theorem XL.none {K : PySem.W.Frag} {H0 F0 : Hp} {A0 : List Addr} {T : List (PV × V)} {W : WX} : XL K H0 F0 A0 T W (fun _ _ => False) := fun _ _ h => h.elim
theorem lc_of (hL : ∀ i ∈ L, i ∈ own.map (·.2)) {σ : St} {H : Hp} {Q : VK} (h : tE X.K W (wLc iw g tt we (own.map (·.2))) σ H Q) : tLc (tI X.K W iw) (tG X.K L g) (tT X.K W0 tt) (tE X.K W0 we) (own.map (·.2)) σ H Q := by
  obtain ⟨H0, F0, A0, s, T, kx, k, w, xl, h, q⟩ := h
  generalize own.map (·.2) = vs at *
  refine ⟨H0, F0, A0, s, T, kx, _, w, xl, h, fun xs c s1 h1 J T1 H1 w1 hJ D hD => ?_⟩
  obtain ⟨I, i0, hC, turn, fin⟩ := h1
  have lt := w1.own_lt
  have n : Nat := s1.o.length
  refine ⟨fun i m H' => m = xs.length - i ∧ i ≤ xs.length ∧ ∃ s2 acc, s2.o.length = s1.o.length ∧ I i acc s2 ∧ Wd X.K H0 F0 A0 ⟨s2.r, s2.o ++ [.dl acc]⟩ (wipe σ vs) ((.own s1.o.length, .ref D) :: (T1 ++ T)) H', ⟨_, rfl, Nat.zero_le _, s1.wipe vs, [], by rw [(wipe_r s1 vs).1], i0, ?_⟩, ?_⟩
  · obtain ⟨F, A, w1⟩ := w1
    have w2 := w1.newL hD .nil
    have w3 := w2.push (top_at w1 D F)
    obtain ⟨e1, e2, e3⟩ := wipe_r s1 vs
    refine ⟨F, _, w3.rel (s' := ⟨(s1.wipe vs).r, (s1.wipe vs).o ++ [.dl []]⟩) (by rw [e1]) ?_ fun i v e => ?_⟩
    · show (s1.wipe vs).r.length = _
      rw [e2, wipe_len]; exact w1.sl
    · obtain ⟨a, b⟩ := e3 i v e
      exact ⟨a, fun u hu => by rw [wipe_out b]; exact hu⟩
  · rintro i m H2 ⟨rfl, hi, s2, acc, hn, i2, ⟨F, A, w2⟩⟩
    obtain ⟨j1, j2, j3⟩ := hJ H0 F0 A0 _ _ _ H2 F A w2 (fun t ht => List.mem_cons_of_mem _ (List.mem_append_left _ ht)) (src_app (hC i acc s2 hi i2)) i
    by_cases hlt : i < xs.length
    · refine .inr ⟨j1 hlt, fun H' => ∃ s2 acc, s2.o.length = s1.o.length ∧ I (i + 1) acc s2 ∧ Wd X.K H0 F0 A0 ⟨s2.r, s2.o ++ [.dl acc]⟩ (wipe σ vs) ((.own s1.o.length, .ref D) :: (T1 ++ T)) H', fun H' ⟨s', a', e', i', w'⟩ => ⟨xs.length - (i + 1), by omega, rfl, hlt, s', a', e', i', w'⟩, fun x H' hy => ?_⟩
      obtain ⟨d, hd, F', w3⟩ := j3 hlt x H' hy
      have lT : ∀ t ∈ (PV.own s1.o.length, V.ref D) :: (T1 ++ T), t.1.lt (s1.o.length + 1) = true := fun t ht => by
        rcases List.mem_cons.mp ht with z | z
        · subst z; exact decide_eq_true (Nat.lt_succ_self _)
        · exact lt_mono (Nat.le_succ _) (lt.2 t z)
      have back : ∀ (s6 : PSt) (σ2 : St) (H4 : Hp) (a' : List PyData), wipe σ2 vs = wipe σ vs → s6.o[s1.o.length]? = some (.dl a') → Wd X.K H0 F0 A0 s6 σ2 ((.own s1.o.length, .ref D) :: (T1 ++ T)) H4 →
          Wd X.K H0 F0 A0 ⟨((s6.trim s1.o.length).wipe vs).r, ((s6.trim s1.o.length).wipe vs).o ++ [.dl a']⟩ (wipe σ vs) ((.own s1.o.length, .ref D) :: (T1 ++ T)) H4 := fun s6 σ2 H4 a' hw ho w6 => by
        have w7 := w6.trim (m := s1.o.length + 1) (by have := lt.1; omega) lT
        obtain ⟨F7, A7, w7⟩ := w7
        obtain ⟨e1, e2, e3⟩ := wipe_r (s6.trim s1.o.length) vs
        refine ⟨F7, A7, w7.relO ?_ (fun n c hc => ?_) ?_ fun j v e => ?_⟩
        · show (((s6.trim s1.o.length).wipe vs).o ++ [OC.dl a']).length = (cutL (s1.o.length + 1) s6.o).length
          rw [e1, List.length_append, cutL_len]
          show (cutL s1.o.length s6.o).length + 1 = _
          rw [cutL_len]
          have := (List.getElem?_eq_some_iff.mp ho).1
          omega
        · have hc : (((s6.trim s1.o.length).wipe vs).o ++ [OC.dl a'])[n]? = some c := hc
          show c = .no ∨ (cutL (s1.o.length + 1) s6.o)[n]? = some c
          have hlen : (cutL s1.o.length s6.o).length = s1.o.length := by
            rw [cutL_len]
            have := (List.getElem?_eq_some_iff.mp ho).1
            omega
          rw [e1] at hc
          have hc : (cutL s1.o.length s6.o ++ [OC.dl a'])[n]? = some c := hc
          rcases Nat.lt_or_ge n s1.o.length with hn | hn
          · rw [List.getElem?_append_left (by rw [hlen]; exact hn)] at hc
            obtain ⟨_, c0, h3, rfl⟩ := cutL_at hc
            rcases ocut_is (m := s1.o.length) c0 with z | z
            · exact .inl z
            · refine .inr ?_
              unfold cutL
              rw [List.getElem?_map, List.getElem?_take, if_pos (Nat.lt_succ_of_lt hn), h3, z]
              show some (OC.cut (s1.o.length + 1) c0) = some c0
              rcases ocut_up (Nat.le_succ s1.o.length) z with y | y
              · exact congrArg some y
              · subst y; rfl
          · rw [List.getElem?_append_right (by rw [hlen]; exact hn), hlen] at hc
            have e : n = s1.o.length := by
              cases hk : n - s1.o.length with
              | zero => omega
              | succ k => rw [hk] at hc; cases hc
            subst e
            rw [Nat.sub_self] at hc
            cases hc
            refine .inr ?_
            unfold cutL
            rw [List.getElem?_map, List.getElem?_take, if_pos (Nat.lt_succ_self _), ho]
            rfl
        · show ((s6.trim s1.o.length).wipe vs).r.length = _
          rw [e2, ← hw, wipe_len, ← w7.sl]
          show (s6.r.map _).length = (s6.r.map _).length
          rw [List.length_map, List.length_map]
        · obtain ⟨a, b⟩ := e3 j v e
          refine ⟨?_, fun u hu => by rw [← hw, wipe_out b]; exact hu⟩
          have a : (s6.r.map (cutP s1.o.length))[j]? = some (some v) := a
          show (s6.r.map (cutP (s1.o.length + 1)))[j]? = some (some v)
          rw [List.getElem?_map] at a ⊢
          cases hr : s6.r[j]? with
          | none => rw [hr] at a; cases a
          | some o =>
            rw [hr] at a
            obtain ⟨rfl, hl⟩ := cutP_is (Option.some.inj a)
            exact congrArg some (cutP_of (lt_mono (Nat.le_succ _) hl))
      refine ⟨H0, F0, A0, _, _, d, _, ⟨F', A, w3⟩, List.mem_cons_self, turn i d acc s2 hd hn i2, fun s3 h3 σ2 H3 l3 w4 => ?_⟩
      have hw := wipe_eq l3 hL
      refine ⟨hw, H0, F0, A0, s3, _, _, _, w4, XL.none, h3, fun b s4 h4 H4 w5 => ?_⟩
      cases b with
      | false =>
        obtain ⟨ho, hI⟩ := h4.2 rfl
        refine iteF ⟨_, acc, ?_, hI, back s4 σ2 H4 acc hw ho w5.pop⟩
        rw [(wipe_r _ vs).1]
        show (cutL s1.o.length s4.o).length = _
        rw [cutL_len]
        have := (List.getElem?_eq_some_iff.mp ho).1
        omega
      | true =>
        refine iteT ⟨H0, F0, A0, s4, _, _, _, w5, XL.none, h4.1 rfl, fun y s5 h5 u H5 w6 => ?_⟩
        obtain ⟨dd, s6, h6, w7⟩ := frz_ok w6 h5
        obtain ⟨ho, hz, hI⟩ := h6
        obtain ⟨F8, A8, w8⟩ := w7
        obtain ⟨p, vs', hp, ep, hv, hdq⟩ := own_at w8 (List.mem_cons_of_mem _ (List.mem_cons_of_mem _ List.mem_cons_self)) ho
        cases ep
        have du : Dq X.K F8 u dd := w8.tm (.d dd, u) List.mem_cons_self
        refine ⟨vs', hv, by rw [hdq.len]; exact hz, _, acc ++ [dd], ?_, hI, ?_⟩
        · rw [(wipe_r _ vs).1]
          show (cutL s1.o.length s6.o).length = _
          rw [cutL_len]
          have := (List.getElem?_eq_some_iff.mp ho).1
          omega
        · have w9 := (w8.sub (T' := (.own s1.o.length, .ref D) :: (T1 ++ T)) fun t h => List.mem_cons_of_mem _ (List.mem_cons_of_mem _ h)).wr hp ho (hdq.app (.cons du .nil))
          have b := back ⟨s6.r, s6.o.set s1.o.length (.dl (acc ++ [dd]))⟩ σ2 _ (acc ++ [dd]) hw (by
            show (s6.o.set s1.o.length _)[s1.o.length]? = _
            rw [List.getElem?_set_self (List.getElem?_eq_some_iff.mp ho).1]) ⟨F8, A8, w9⟩
          have e : (((⟨s6.r, s6.o.set s1.o.length (.dl (acc ++ [dd]))⟩ : PSt).trim s1.o.length).wipe vs) = ((s6.trim s1.o.length).wipe vs) := by
            have : (⟨s6.r, s6.o.set s1.o.length (.dl (acc ++ [dd]))⟩ : PSt).trim s1.o.length = s6.trim s1.o.length := by
              unfold PSt.trim cutL
              show (⟨s6.r.map _, ((s6.o.set s1.o.length _).take s1.o.length).map _⟩ : PSt) = ⟨s6.r.map _, (s6.o.take s1.o.length).map _⟩
              rw [List.take_set_of_le (Nat.le_refl _)]
            rw [this]
          rw [e] at b
          exact b
    · have e : i = xs.length := by omega
      subst e
      refine .inl ⟨j2 (Nat.le_refl _), q _ _ (fin acc s2 hn i2) (.ref D) H2 ⟨F, A, (w2.rel rfl ?_ fun i v e => ⟨e, fun u hu => (wipe_some hu).1⟩).sub fun t ht => ?_⟩⟩
      · have := w2.sl
        rw [wipe_len] at this
        exact this
      · rcases List.mem_cons.mp ht with e | ht
        · rw [e]; exact List.mem_cons_self
        · exact List.mem_cons_of_mem _ (List.mem_append_right _ ht)
theorem e_lc (hc : X.calm = true) (hN : X.N.Nodup) (hi : PI X tg iter (tI X.K W iw)) (ok : BlkOk X.N X.env.scope scope own) (hL : ∀ i ∈ L, i ∈ own.map (·.2))
    (hg : ∀ (s : Shared) (H : Hp) (C : Addr) (cl : List (Str × Addr)) (fp : List Addr), PG (X.blk s H scope (compEnvC scope cl C X.env) fp) tg (tG X.K L g)) (ht : ∀ (s : Shared) (H : Hp) (C : Addr) (cl : List (Str × Addr)) (fp : List Addr), PTs (X.blk s H scope (compEnvC scope cl C X.env) fp) ifs (tT X.K W0 tt))
    (he : ∀ (s : Shared) (H : Hp) (C : Addr) (cl : List (Str × Addr)) (fp : List Addr), PE (X.blk s H scope (compEnvC scope cl C X.env) fp) elt (tE X.K W0 we)) (hs : ∀ x, foldedSetIterable iter X.env x = pure x := by intro _; rfl) :
    PE X (.ListComp elt [⟨tg, iter, ifs, 0⟩] scope pos) (tE X.K W (wLc iw g tt we (own.map (·.2)))) :=
  PE.imp (pe_lc hc hN hi ok hg ht he hs) fun σ H Q h => lc_of hL h
end
end PW
namespace PW
open PySem L2 PySem.Spec PyProof.Rows
def retK (n : Nat) (ret : RV → List OC → Prop) : PV → PSt → Prop := fun v s => match v with
  | .d x => ret (.d x) (cutL n s.o)
  | .own m => n ≤ m ∧ ∃ xs, s.o[m]? = some (.dl xs) ∧ ret (.new xs) (cutL n s.o)
  | _ => False
def bodyE (n : Nat) (ret : RV → List OC → Prop) : PEnds := { nx := fun s => ret (.d .none) (cutL n s.o), rt := retK n ret }
def pst0 (args : List PV) (o : List OC) (N : Nat) : PSt := ⟨args.map some ++ List.replicate (N - args.length) none, o⟩
section
variable {K : PySem.W.Frag} {H0 F0 : Hp} {A0 : List Addr} {s : PSt} {σ : L2.St} {T : List (PV × V)} {H F : Hp} {A : List Addr}
theorem Wd.lent {x : List (PV × V)} (w : Wd K H0 F0 A0 s σ T H) (hx : ∀ t ∈ x, t ∈ T ∧ t.1.lt A0.length = true) : Wd K H0 F0 A0 ⟨[], cutL A0.length s.o⟩ [] x H := by
  obtain ⟨F, A, w⟩ := w.sub (T' := x) fun t ht => (hx t ht).1
  have w2 := w.trim (m := A0.length) (Nat.le_refl _) fun t ht => (hx t ht).2
  exact ⟨F, _, w2.rel rfl rfl fun i v e => by simp at e⟩
theorem Wd.ret {n : Nat} {ret : RV → List OC → Prop} {v : PV} {u : V} {R : Prop} (w : Wd K H0 F0 A0 s σ ((v, u) :: T) H) (hn : n = A0.length) (h : retK n ret v s) (q : ∀ r o', ret r o' → o'.length = n → ∀ v H', RetOk K H0 F0 A0 r v o' H' → (v = u → H' = H → R)) : R := by
  subst hn
  have hl : (cutL A0.length s.o).length = A0.length := by
    rw [cutL_len]
    have := w.own_lt.1
    omega
  cases v with
  | d x => exact q _ _ h hl u H (w.lent fun t ht => by
      have e : t = (.d x, u) := by simpa using ht
      rw [e]; exact ⟨List.mem_cons_self, rfl⟩) rfl rfl
  | scr ns => exact h.elim
  | tp ns => exact h.elim
  | gl ns => exact h.elim
  | exc ns => exact h.elim
  | xd ns => exact h.elim
  | dk ns => exact h.elim
  | fn _ _ _ _ _ => exact h.elim
  | own m =>
    obtain ⟨hm, xs, ho, h⟩ := h
    refine q _ _ h hl u H ?_ rfl rfl
    obtain ⟨F, A, w⟩ := w
    obtain ⟨p, vs, hp, rfl, hv, hd⟩ := own_at w List.mem_cons_self ho
    have ad := w.ad p (List.mem_of_getElem? hp)
    have oc := w.oc m p _ hp ho
    have w2 := (w.sub (T' := []) (fun _ z => nomatch z)).trim (m := A0.length) (Nat.le_refl _) (fun _ z => nomatch z)
    have w3 := w2.rel (s' := ⟨[], cutL A0.length s.o⟩) (σ' := []) rfl rfl fun i v e => by simp at e
    have nin : p ∉ A.take A0.length := fun hA => by
      obtain ⟨j, hj⟩ := List.getElem?_of_mem hA
      rw [List.getElem?_take] at hj
      split at hj
      · rename_i h1
        exact nodup_ne w.nd hj hp (by omega) rfl
      · cases hj
    refine ⟨F, _, (w3.addL (c := .dl xs) nin ad.1 ad.2 oc).push ⟨p, ?_, rfl⟩⟩
    show (A.take A0.length ++ [p])[(cutL A0.length s.o).length]? = some p
    rw [← w3.len, List.getElem?_append_right (Nat.le_refl _), Nat.sub_self]
    rfl
end
section
variable {P : Program} {w : World} {K : PySem.W.Frag} {mg : Str → Option Value} {base : Heap}
theorem fn_len {ps : List Str} {S : FS} (len : ∀ args o r e, S args o r e → args.length = ps.length) (vs : List V) (H : Hp) (Q : VK) (E : XK) (h : spOf K S vs H Q E) : vs.length = ps.length := by
  obtain ⟨H0, F0, A0, args, o, ret, exc, ⟨F, A, w⟩, _, h, _⟩ := h
  have := w.sl
  rw [List.length_map, List.length_map] at this
  rw [← this]
  exact len _ _ _ _ h
theorem fn_core {N : List Str} {S : FS} {wb : SW} (pure : ∀ args o ret exc, S args o ret exc → wb (fun x s => exc x (cutL o.length s.o)) (pst0 args o N.length) (bodyE o.length ret)) (vs : List V) (H : Hp) (Q : VK) (E : XK) (h : spOf K S vs H Q E) :
    tS K (fun cls d _ H => E cls d H) wb { nx := fun _ H' => Q .non H', rt := Q } (L2.start N vs) H := by
  obtain ⟨H0, F0, A0, args, o, ret, exc, wd, ho, h, q1, q2⟩ := h
  refine ⟨H0, F0, A0, pst0 args o N.length, [], _, _, ?_, fun y s' hy σ' H' d w' => ?_, pure args o ret exc h, fun s' hs σ' H' w' => ?_, fun v s' hv u σ' H' w' => ?_, fun _ z => z.elim, fun _ z => z.elim⟩
  · obtain ⟨F, A, wd⟩ := wd
    have e := wd.sl
    rw [List.length_map, List.length_map] at e
    refine ⟨F, A, wd.rel rfl ?_ fun i v hv => ?_⟩
    · show (args.map some ++ List.replicate (N.length - args.length) none).length = (vs.map some ++ List.replicate (N.length - vs.length) none).length
      rw [e]
      simp [e]
    · have hv : (args.map some ++ List.replicate (N.length - args.length) none)[i]? = some (some v) := hv
      show (args.map some)[i]? = some (some v) ∧ ∀ u, (vs.map some)[i]? = some (some u) → (vs.map some ++ List.replicate (N.length - vs.length) none)[i]? = some (some u)
      by_cases hi : i < args.length
      · rw [List.getElem?_append_left (by rw [List.length_map]; exact hi)] at hv
        refine ⟨hv, fun u hu => ?_⟩
        rw [List.getElem?_append_left (by rw [List.length_map, ← e]; exact hi)]
        exact hu
      · rw [List.getElem?_append_right (by rw [List.length_map]; omega)] at hv
        have := List.mem_of_getElem? hv
        have := List.eq_of_mem_replicate this
        cases this
  · have hl : (cutL o.length s'.o).length = o.length := by
      rw [cutL_len, ← ho]
      have := w'.own_lt.1
      omega
    refine q2 y _ hy hl d H' ?_
    have := w'.lent (x := [(.xd y.fs, dV d)]) (fun t ht => by
      have e : t = (.xd y.fs, dV d) := by simpa using ht
      rw [e]; exact ⟨List.mem_cons_self, rfl⟩)
    rw [ho] at this
    exact this
  · have hl : (cutL o.length s'.o).length = o.length := by
      rw [cutL_len, ← ho]
      have := w'.own_lt.1
      omega
    refine q1 _ _ hs hl .non H' ?_
    obtain ⟨F, A, w'⟩ := w'
    have w2 : Wd K H0 F0 A0 s' σ' [(.d .none, .non)] H' := ⟨F, A, w'.push (v := .d .none) (u := .non) .non⟩
    have := w2.lent (x := [(.d .none, .non)]) (fun t ht => by
      have e : t = (.d .none, .non) := by simpa using ht
      rw [e]; exact ⟨List.mem_cons_self, rfl⟩)
    rw [ho] at this
    exact this
  · refine w'.ret ho.symm hv fun r o' hr hl v H'' hret e1 e2 => ?_
    subst e1
    subst e2
    exact q1 r o' hr hl v H'' hret
theorem fn_ok {x qual : Str} {st : Stmt} {f : Addr} {fd : FuncData} {N ps : List Str} {k : Nat} {S : FS} {wb : SW} (F : Fun K x qual st f fd) (Sc : FnScope N ps (defScope st)) (len : ∀ args o r e, S args o r e → args.length = ps.length)
    (body : ∀ (cdv : Value) (A : Around) (outer : List Env) (s : Shared) (H : Hp) (E : XK), Room k (A.deeper (envOfC qual (defScope st) s.heap.objs.size f cdv)) →
      PSs (cxOf (L2.CX P w) P w K mg base N qual (defScope st) f cdv A outer s H E) (defBody st) (tS K (fun cls d _ H => E cls d H) wb))
    (pure : ∀ args o ret exc, S args o ret exc → wb (fun x s => exc x (cutL o.length s.o)) (pst0 args o N.length) (bodyE o.length ret)) : FnOk P w K mg base (L2.CX P w) (k + 1) f fd ps (spOf K S) := by
  exact F.okX Sc (fn_len len) fun cdv A outer s H vs Q E hr h => ⟨_, body cdv A outer s H E hr, fn_core pure vs H Q E h⟩
structure Cal (P : Program) (w : World) (K : PySem.W.Frag) (mg : Str → Option Value) (base : Heap) (k : Nat) (x : Str) (ps : List Str) (S : FS) : Prop where
  ex : ∃ f fd, FnOk P w K mg base (L2.CX P w) k f fd ps (spOf K S) ∧ mg x = some (.ref f) ∧ PySem.W.keepIn K (.ref f) = true ∧ Binds K fd ps []
structure Dfd (K : PySem.W.Frag) (mg : Str → Option Value) (x : Str) (ps : List Str) (st : Stmt) : Prop where
  ex : ∃ f fd, Fun K x x st f fd ∧ mg x = some (.ref f) ∧ Binds K fd ps []
theorem Dfd.cal {x : Str} {ps N : List Str} {st : Stmt} {k : Nat} {S : FS} {wb : SW} (D : Dfd K mg x ps st) (Sc : FnScope N ps (defScope st)) (len : ∀ args o r e, S args o r e → args.length = ps.length)
    (body : ∀ (f : Addr) (cdv : Value) (A : Around) (outer : List Env) (s : Shared) (H : Hp) (E : XK), Room k (A.deeper (envOfC x (defScope st) s.heap.objs.size f cdv)) →
      PSs (cxOf (L2.CX P w) P w K mg base N x (defScope st) f cdv A outer s H E) (defBody st) (tS K (fun cls d _ H => E cls d H) wb))
    (pure : ∀ args o ret exc, S args o ret exc → wb (fun x s => exc x (cutL o.length s.o)) (pst0 args o N.length) (bodyE o.length ret)) : Cal P w K mg base (k + 1) x ps S := by
  obtain ⟨f, fd, F, m, b⟩ := D.ex
  exact ⟨f, fd, fn_ok F Sc len (body f) pure, m, F.kp, b⟩
theorem Cal.mono {k j : Nat} {x : Str} {ps : List Str} {S : FS} (C : Cal P w K mg base j x ps S) (h : j ≤ k) : Cal P w K mg base k x ps S := by
  obtain ⟨f, fd, F, m, kp, b⟩ := C.ex
  exact ⟨f, fd, F.mono h, m, kp, b⟩
theorem Cal.imp {k : Nat} {x : Str} {ps : List Str} {S S' : FS} (C : Cal P w K mg base k x ps S) (h : ∀ args o r e, S' args o r e → S args o r e) : Cal P w K mg base k x ps S' := by
  obtain ⟨f, fd, F, m, kp, b⟩ := C.ex
  exact ⟨f, fd, F.imp fun vs H Q E ⟨H0, F0, A0, args, o, ret, exc, wd, ho, hS, q⟩ => ⟨H0, F0, A0, args, o, ret, exc, wd, ho, h _ _ _ _ hS, q⟩, m, kp, b⟩
theorem dfd_mk {x : Str} {ps : List Str} {st : Stmt} {f : Addr} {h : Heap} {oc : Value} {od an : Option Addr} {osl : Array (Option Value)} {kV doc pm cdv ct : Value} (X : K.In h) (G : h.Ns mainGlobals mg)
    (a : PySem.W.nsIn K mainGlobals x = some (some (.ref f))) (l : K.lookup f = some ⟨oc, od, .func (PySem.W.fnOf x x (defArgs st) (defBody st) (defScope st) .none kV doc pm an cdv ct), osl⟩) (c : PySem.W.codeIn K cdv x = true) (k : PySem.W.keepIn K (.ref f) = true)
    (hb : ∀ (kV doc pm : Value) (an : Option Addr) (cdv ct : Value) (us : List Value), us.length = ps.length → bindArgs (PySem.W.fnOf x x (defArgs st) (defBody st) (defScope st) .none kV doc pm an cdv ct) ⟨us, []⟩ = pure (ps.zip us)) : Dfd K mg x ps st := by
  have F := fun_mk (st := st) l c k
  exact ⟨f, _, F, PySem.W.mg_of X G a, F.binds hb⟩
end
section
variable {X : Cx} {W : WX} {k j : Nat} {ps : List Str} {S : FS} {x : Str} {p pos : Pos} {e : Expr} {es : List Expr} {ws : AW}
theorem c_call (C : Cal X.prog X.w X.K X.mg X.base k x ps S) (tk : Takes X W) (hr : Room j X.A) (ha : PA X (e :: es) (tA X.K W ws)) (hk : k ≤ j := by decide) (hg : Gl X x := by rfl)
    (hdb : (x == ("__debug__" : Str)) = false := by decide) (he : starEach (e :: es) X.env = (false, eval e X.env) :: starEach es X.env := by rfl) (hpl : (backTo pos (starEach es X.env)).any (·.1) = false := by rfl) :
    PE X (.Call (.Name x p) (e :: es) [] pos) (tE X.K W (wCall S ws)) := by
  obtain ⟨f, fd, F, m, kp, b⟩ := C.ex
  exact e_call F tk (hr.mono hk) hg m kp b ha hdb he hpl
end
end PW
namespace PW
open PySem L2 PySem.Spec PyProof.Rows
theorem hu64 {k : Nat} {A : Around} (hr : Room k A) : A.units + 64 < cLine := by have := hr.un; omega
theorem hu65 {k : Nat} {A : Around} (hr : Room k A) : A.units + 65 < cLine := by have := hr.un; omega
def wNeg (wa : EW) : EW := fun kx s k => wa kx s fun x s1 => ∃ i, x = .d (.int i) ∧ k (.d (.int (-i))) s1
structure GTup (K : PySem.W.Frag) (mg : Str → Option Value) (x : Str) (ds : List PyData) : Prop where
  ex : ∃ p, mg x = some (.ref p) ∧ ∀ H, Dq K H (.ref p) (.tuple ds)
def vD : Value → Option PyData
  | .none => some .none
  | .bool b => some (.bool b)
  | .int i _ => some (.int i)
  | .str x _ => some (.str x)
  | _ => none
def vDs : List Value → Option (List PyData)
  | [] => some []
  | v :: r => match vD v, vDs r with
    | some d, some ds => some (d :: ds)
    | _, _ => none
structure Exc1 (K : PySem.W.Frag) (mg : Str → Option Value) (x : Str) (C : Addr) : Prop where
  g : mg x = some (.ref C)
  q : PySem.W.excIn K C [.type "ValueError", .type "Exception", .type "BaseException", .type "object"] "ValueError.__new__" = true
  k : PySem.W.keepIn K (.ref C) = true
  b : PySem.W.subIn K (.ref C) (.type "BaseException") = some true
  t : PySem.W.typeIn K (.ref C) = some (.type "type")
theorem Exc1.mk1 {X : Cx} {x : Str} {C : Addr} {m : Str} {j : Nat} {p p2 pos : Pos} (E : Exc1 X.K X.mg x C) (hg : Gl X x := by rfl) (hdb : (x == ("__debug__" : Str)) = false := by decide) : PMk X (.Call (.Name x p) [.Constant (.str m) j p2] [] pos) (fun _ H Q => Q (.ref C) none H) :=
  pmk_own PySem.F.excBase_ValueError E.q E.g E.k (raises_own E.b E.t) hg hdb
section
variable {X : Cx} {W : WX} {a b c e : Expr} {wa wb wc we : EW} {pos p : Pos}
theorem e_neg (ha : PE X a (tE X.K W wa)) : PE X (.UnaryOp .USub a pos) (tE X.K W (wNeg wa)) := by
  refine PE.imp (pe_un un_neg ha) fun σ H Q ⟨H0, F0, A0, s, T, kx, k, w, xl, h, q⟩ => un_of w xl h fun x s1 u H1 h1 w1 => ?_
  obtain ⟨i, rfl, hk⟩ := h1
  obtain ⟨F, A, w1⟩ := w1
  exact ⟨i, dp_int (dq_dp (w1.tm _ List.mem_cons_self)), q _ _ hk _ H1 ⟨F, A, (w1.sub fun t h => List.mem_cons_of_mem _ h).push (.int _)⟩⟩
def wCatT (wa wb : EW) : EW := fun kx s k => wa kx s fun x s1 => wb kx s1 fun y s2 => ∃ xs ys, x = .d (.tuple xs) ∧ y = .d (.tuple ys) ∧ xs.length + ys.length ≤ sizeLine ∧ k (.d (.tuple (xs ++ ys))) s2
theorem e_catT (ha : PE X a (tE X.K W wa)) (hb : PE X b (tE X.K W wb)) : PE X (.BinOp a .Add b pos) (tE X.K W (wCatT wa wb)) := by
  refine PE.imp (pe_op op_catA ha hb) fun σ H Q ⟨H0, F0, A0, s, T, kx, k, w, xl, h, q⟩ => tOp_of w xl h fun x y s2 u v H2 hR w2 => ?_
  obtain ⟨xs, ys, rfl, rfl, hz, hk⟩ := hR
  obtain ⟨F, A, w2⟩ := w2
  have d1 : Dq X.K F u (.tuple xs) := w2.tm (.d (.tuple xs), u) (List.mem_cons_of_mem _ List.mem_cons_self)
  have d2 : Dq X.K F v (.tuple ys) := w2.tm (.d (.tuple ys), v) List.mem_cons_self
  have w3 := w2.sub (T' := T) fun t h => List.mem_cons_of_mem _ (List.mem_cons_of_mem _ h)
  cases d1 with
  | @tup p vs _ h1 h2 =>
    cases d2 with
    | @tup p' vs' _ h1' h2' =>
      have hl := h2.len
      have hl' := h2'.len
      refine ⟨p, p', vs, vs', rfl, rfl, same_t w2.fz.g h1, same_t w2.fz.g h1', by omega, fun e => ?_, fun e e' => ?_, fun e e' n hn => ?_⟩
      · subst e
        cases h2
        exact q _ _ hk _ _ ⟨F, A, w3.push (.tup h1' h2')⟩
      · subst e'
        cases h2'
        rw [List.append_nil] at hk
        exact q _ _ hk _ _ ⟨F, A, w3.push (.tup h1 h2)⟩
      · have sn := same_new (o := .tup (vs ++ vs')) (w2.fz.g.free hn)
        exact q _ _ hk _ _ ⟨_, A, (w3.newD (o := .tup (vs ++ vs')) hn).push (.tup (SqT.of upd_same) (dqAll_same sn (h2.app h2')))⟩
def wRep (wa wb : EW) : EW := fun kx s k => wa kx s fun x s1 => wb kx s1 fun y s2 => ∃ xs i, datq s2 x = some (.list xs) ∧ y = .d (.int i) ∧ -(2 ^ 63) ≤ i ∧ i < 2 ^ 63 ∧ xs.length * i.toNat ≤ sizeLine ∧ k (.own s2.o.length) ⟨s2.r, s2.o ++ [.dl (List.replicate i.toNat xs).flatten]⟩
theorem DqAll.rep {K : PySem.W.Frag} {H : Hp} {vs : List V} {ds : List PyData} (h : DqAll K H vs ds) : ∀ n : Nat, DqAll K H (List.replicate n vs).flatten (List.replicate n ds).flatten
  | 0 => .nil
  | n + 1 => by
    rw [List.replicate_succ, List.replicate_succ, List.flatten_cons, List.flatten_cons]
    exact h.app (DqAll.rep h n)
theorem e_rep (ha : PE X a (tE X.K W wa)) (hb : PE X b (tE X.K W wb)) : PE X (.BinOp a .Mult b pos) (tE X.K W (wRep wa wb)) := by
  refine PE.imp (pe_op op_rep ha hb) fun σ H Q ⟨H0, F0, A0, s, T, kx, k, w, xl, h, q⟩ => tOp_of w xl h fun x y s2 u v H2 hR w2 => ?_
  obtain ⟨xs, i, hx, rfl, h1, h2, hz, hk⟩ := hR
  obtain ⟨F, A, w2⟩ := w2
  cases dp_int (dq_dp (w2.tm _ List.mem_cons_self))
  obtain ⟨p, vs, e1, h3, h4⟩ := itemsq_ok w2 (w2.tm _ (List.mem_cons_of_mem _ List.mem_cons_self)) hx
  have w3 := w2.sub (T' := T) fun t h => List.mem_cons_of_mem _ (List.mem_cons_of_mem _ h)
  exact ⟨p, i, vs, e1, rfl, h3, h1, h2, by rw [h4.len]; exact hz, fun n hn => q _ _ hk _ _ ⟨F, _, (w3.newL hn (h4.rep _)).push (top_at w3 n F)⟩⟩
def wChain (R R' : PyData → PyData → (PyData → Prop) → Prop) (wa wb wc : EW) : EW := fun kx s k => wa kx s fun x s1 => wb kx s1 fun y s2 => ∃ a b, dat s2 x = some a ∧ y = .d b ∧ R a b fun z => ∃ r, z = .bool r ∧
  (r = true → wc kx s2 fun v s3 => ∃ c, dat s3 v = some c ∧ R' b c fun z => k (.d z) s3) ∧ (r = false → k (.d (.bool false)) s2)
theorem chain_of {r r' : R2} {R R' : PyData → PyData → (PyData → Prop) → Prop} {σ : L2.St} {H : Hp} {Q : VK} (ho : ROk X.K r R) (ho' : ROk X.K r' R') (h : tE X.K W (wChain R R' wa wb wc) σ H Q) : tChain r r' (tE X.K W wa) (tE X.K W wb) (tE X.K W wc) σ H Q := by
  obtain ⟨H0, F0, A0, s, T, kx, k, w, xl, h, q⟩ := h
  refine ⟨H0, F0, A0, s, T, kx, _, w, xl, h, fun x s1 h1 u H1 w1 => ⟨H0, F0, A0, s1, (x, u) :: T, kx, _, w1, xl.push, h1, fun y s2 h2 v H2 w2 => ?_⟩⟩
  obtain ⟨a, b, da, rfl, hR⟩ := h2
  obtain ⟨F, A, w3⟩ := id w2
  have db : Dq X.K F v b := w3.tm (.d b, v) List.mem_cons_self
  refine ho u v a b H2 _ _ (dat_ok w3 (w3.tm _ (List.mem_cons_of_mem _ List.mem_cons_self)) da) (dq_dp (dq_same w3.fz.g db)) hR fun z t hz ht => ?_
  obtain ⟨rr, rfl, h1, h2⟩ := hz
  cases ht
  refine ⟨rr, rfl, ?_⟩
  cases rr with
  | false => exact iteF (q _ _ (h2 rfl) _ H2 ⟨F, A, (w3.sub fun t h => List.mem_cons_of_mem _ (List.mem_cons_of_mem _ h)).push (.bl _)⟩)
  | true =>
    refine iteT ⟨H0, F0, A0, s2, _, kx, _, w2, xl.push.push, h1 rfl, fun c s3 h3 uc H3 w4 => ?_⟩
    obtain ⟨cc, dc, h3⟩ := h3
    obtain ⟨F4, A4, w4⟩ := w4
    have db' : Dq X.K F4 v b := w4.tm (.d b, v) (List.mem_cons_of_mem _ List.mem_cons_self)
    refine ho' v uc b cc H3 Q _ (dq_dp (dq_same w4.fz.g db')) (dat_ok w4 (w4.tm _ List.mem_cons_self) dc) h3 fun z t hz ht => ?_
    exact q _ _ hz t H3 ⟨F4, A4, (w4.sub fun t h => List.mem_cons_of_mem _ (List.mem_cons_of_mem _ (List.mem_cons_of_mem _ h))).push (toV_dp ht)⟩
theorem e_chain {op op' : CmpOp} {g g' : Int → Int → Bool} (h1 : OpR X (compareOp op) (rI0 fun i j => .bl (g i j))) (h2 : OpR X (compareOp op') (rI0 fun i j => .bl (g' i j))) (ha : PE X a (tE X.K W wa)) (hb : PE X b (tE X.K W wb)) (hc : PE X c (tE X.K W wc))
    (hm : lastMarks [op, op'] [b, c] = false := by with_unfolding_all rfl) : PE X (.Compare a [op, op'] [b, c] pos) (tE X.K W (wChain (rCmpD g) (rCmpD g') wa wb wc)) :=
  PE.imp (pe_chain h1 h2 ha hb hc hm) fun σ H Q h => chain_of ok_cmpD ok_cmpD h
theorem t_chain {op op' : CmpOp} {g g' : Int → Int → Bool} (h1 : OpR X (compareOp op) (rI0 fun i j => .bl (g i j))) (h2 : OpR X (compareOp op') (rI0 fun i j => .bl (g' i j))) (ha : PE X a (tE X.K W wa)) (hb : PE X b (tE X.K W wb)) (hc : PE X c (tE X.K W wc))
    (hm : lastMarks [op, op'] [b, c] = false := by with_unfolding_all rfl) : PT X (.Compare a [op, op'] [b, c] pos) (tT X.K W (wB (wChain (rCmpD g) (rCmpD g') wa wb wc))) := by
  refine PT.imp (pt_chain h1 h2 ha hb hc hm) fun σ H Q ⟨H0, F0, A0, s, T, kx, k, w, xl, h, q⟩ => ?_
  refine chain_of ok_cmpD ok_cmpD ⟨H0, F0, A0, s, T, kx, _, w, xl, h, fun v s1 h1 u H1 w1 => ?_⟩
  obtain ⟨c, rfl, hk⟩ := h1
  obtain ⟨F, A, w1⟩ := w1
  exact ⟨c, dp_bl (dq_dp (w1.tm _ List.mem_cons_self)), q c s1 hk H1 ⟨F, A, w1.sub fun t h => List.mem_cons_of_mem _ h⟩⟩
end
end PW

namespace PW
open PySem L2
def tx (l : List Nat) : Str := ⟨l.toArray⟩
abbrev dT (l : List Nat) : PyData := .str (tx l)
theorem tx_cps (l : List Nat) : (tx l).cps.toList = l := rfl
theorem tx_len (l : List Nat) : (tx l).length = l.length := by show l.toArray.size = l.length; simp
theorem tx_app (a b : List Nat) : tx a ++ tx b = tx (a ++ b) := TL.ext_tl (by rw [TL.tl_append]; rfl)
theorem le_sz {n : Nat} (h : n ≤ 16777216) : n ≤ sizeLine := h
theorem lt_sz {n : Nat} (h : n < 16777216) : n < sizeLine := h
theorem tx_sz {l : List Nat} (h : l.length ≤ 16777216) : (tx l).length ≤ sizeLine := by rw [tx_len]; exact h
theorem strLe_tx {l : List Nat} (h : l.length ≤ 16777216) : strLe (dT l) := tx_sz h
theorem atI_nat {α : Type} {xs : List α} {i : Nat} (h : i < xs.length) : atI xs (i : Int) = some xs[i] := by
  unfold atI ixN
  rw [if_pos (by omega), if_pos (by omega)]
  show xs[(i : Int).toNat]? = some xs[i]
  rw [Int.toNat_natCast]
  exact List.getElem?_eq_getElem h
theorem ix_tx {l : List Nat} {i : Nat} (h : i < l.length) : ixD (dT l) (i : Int) = some (dT [l[i]]) := by
  show (atI (tx l).cps.toList (i : Int)).map _ = _
  rw [tx_cps, atI_nat h]
  rfl
theorem ix_hd {c : Nat} {r : List Nat} : ixD (dT (c :: r)) 0 = some (dT [c]) := ix_tx (l := c :: r) (i := 0) (by simp)
theorem ix_list {l : List PyData} {i : Nat} (h : i < l.length) : ixD (.list l) (i : Int) = some l[i] := atI_nat h
theorem ix_tup {l : List PyData} {i : Nat} (h : i < l.length) : ixD (.tuple l) (i : Int) = some l[i] := atI_nat h
theorem cut_tx (l : List Nat) (i j : Nat) : cutS (tx l) (some (i : Int)) (some (j : Int)) = tx ((l.take j).drop i) := by
  unfold cutS
  rw [tx_len, HT.sIx_nat, HT.sIx_nat, tx_cps]
  show tx _ = tx _
  congr 1
  rw [List.drop_take]
  apply List.ext_getElem?
  intro k
  rw [List.getElem?_take, List.getElem?_take, List.getElem?_drop, List.getElem?_drop]
  by_cases h : k < min j l.length - min i l.length
  · rw [if_pos h, if_pos (by omega), Nat.min_eq_left (by omega)]
  · rw [if_neg h]
    by_cases h2 : k < j - i
    · rw [if_pos h2, List.getElem?_eq_none (by omega)]
    · rw [if_neg h2]
theorem cut_tx_to (l : List Nat) (j : Nat) : cutS (tx l) none (some (j : Int)) = tx (l.take j) := by
  unfold cutS
  rw [tx_len, HT.sIx_nat, tx_cps]
  show tx ((l.drop 0).take (min j l.length - 0)) = tx _
  congr 1
  rw [List.drop_zero, Nat.sub_zero]
  by_cases h : j ≤ l.length
  · rw [Nat.min_eq_left h]
  · rw [Nat.min_eq_right (by omega), List.take_of_length_le (Nat.le_refl _), List.take_of_length_le (by omega)]
theorem cut_tx_from (l : List Nat) (i : Nat) : cutS (tx l) (some (i : Int)) none = tx (l.drop i) := by
  unfold cutS
  rw [tx_len, HT.sIx_nat, tx_cps]
  show tx ((l.drop (min i l.length)).take (l.length - min i l.length)) = tx _
  congr 1
  by_cases h : i ≤ l.length
  · rw [Nat.min_eq_left h, List.take_of_length_le (by rw [List.length_drop]; omega)]
  · rw [Nat.min_eq_right (by omega), List.drop_of_length_le (Nat.le_refl _), List.drop_of_length_le (by omega), List.take_nil]
theorem cutD_nat {α : Type} (l : List α) (i j : Nat) : cutD l (some (i : Int)) (some (j : Int)) = (l.take j).drop i := by
  unfold cutD
  rw [HT.sIx_nat, HT.sIx_nat, List.drop_take]
  apply List.ext_getElem?
  intro k
  rw [List.getElem?_take, List.getElem?_take, List.getElem?_drop, List.getElem?_drop]
  by_cases h : k < min j l.length - min i l.length
  · rw [if_pos h, if_pos (by omega), Nat.min_eq_left (by omega)]
  · rw [if_neg h]
    by_cases h2 : k < j - i
    · rw [if_pos h2, List.getElem?_eq_none (by omega)]
    · rw [if_neg h2]
theorem cutD_to {α : Type} (l : List α) (j : Nat) : cutD l none (some (j : Int)) = l.take j := cutD_nat l 0 j
theorem cutD_from {α : Type} (l : List α) (i : Nat) : cutD l (some (i : Int)) none = l.drop i := by
  unfold cutD
  rw [HT.sIx_nat]
  show ((l.drop (min i l.length)).take (l.length - min i l.length)) = _
  by_cases h : i ≤ l.length
  · rw [Nat.min_eq_left h, List.take_of_length_le (by rw [List.length_drop]; omega)]
  · rw [Nat.min_eq_right (by omega), List.drop_of_length_le (Nat.le_refl _), List.drop_of_length_le (by omega), List.take_nil]
theorem chars_len (l : List Nat) : (charsD (tx l)).length = l.length := by unfold charsD; rw [tx_cps, List.length_map]
theorem map_get {α β : Type} {f : α → β} {l : List α} {j : Nat} {x : β} (h : (l.map f)[j]? = some x) : ∃ (hj : j < l.length), x = f l[j] := by
  rw [List.getElem?_map] at h
  rcases Nat.lt_or_ge j l.length with h1 | h1
  · rw [List.getElem?_eq_getElem h1] at h
    cases h
    exact ⟨h1, rfl⟩
  · rw [List.getElem?_eq_none h1] at h; cases h
theorem br_t {c : Bool} {A B : Prop} (h : c = true) (a : A) : (c = true → A) ∧ (c = false → B) := ⟨fun _ => a, fun z => by rw [h] at z; cases z⟩
theorem br_f {c : Bool} {A B : Prop} (h : c = false) (b : B) : (c = true → A) ∧ (c = false → B) := ⟨(fun z => by rw [h] at z; cases z), fun _ => b⟩
theorem br_s {c : Bool} {A B : Prop} (p : Bool) (e : c = p) (a : p = true → A) (b : p = false → B) : (c = true → A) ∧ (c = false → B) := ⟨fun z => a (e ▸ z), fun z => b (e ▸ z)⟩
theorem br_d {c : Bool} {A B : Prop} (P : Prop) (e : c = true ↔ P) (a : P → A) (b : ¬ P → B) : (c = true → A) ∧ (c = false → B) := ⟨fun z => a (e.mp z), fun z => b fun p => by rw [e.mpr p] at z; cases z⟩
theorem cmul_r {i : Int} {n : Nat} (h : Nat.ble n 18446744073709551615 = true) : CMul i (OfNat.ofNat n) := by
  have h := Nat.le_of_ble_eq_true h
  have e : (OfNat.ofNat n : Int) = (n : Int) := rfl
  exact .inr ⟨by rw [e]; omega, by rw [e]; omega⟩
theorem cmul_l {j : Int} {n : Nat} (h : Nat.ble n 18446744073709551615 = true) : CMul (OfNat.ofNat n) j := by
  have h := Nat.le_of_ble_eq_true h
  have e : (OfNat.ofNat n : Int) = (n : Int) := rfl
  exact .inl ⟨by rw [e]; omega, by rw [e]; omega⟩
theorem cmul_o {i j : Int} (h : (-18446744073709551616 < i ∧ i < 18446744073709551616) ∨ (-18446744073709551616 < j ∧ j < 18446744073709551616)) : CMul i j := by
  rcases h with h | h
  · exact .inl ⟨by omega, by omega⟩
  · exact .inr ⟨by omega, by omega⟩
theorem cdiv_ok {i : Int} {n : Nat} (h : (Nat.ble 1 n && Nat.ble n 1073741823) = true) : CDiv i (OfNat.ofNat n) := by
  rw [Bool.and_eq_true] at h
  have h1 := Nat.le_of_ble_eq_true h.1
  have h2 := Nat.le_of_ble_eq_true h.2
  have e : (OfNat.ofNat n : Int) = (n : Int) := rfl
  exact ⟨by rw [e]; omega, by rw [e]; omega⟩
theorem pos_ok {n : Nat} (h : Nat.ble 1 n = true) : (0 : Int) < OfNat.ofNat n := by
  have h1 := Nat.le_of_ble_eq_true h
  have e : (OfNat.ofNat n : Int) = (n : Int) := rfl
  rw [e]; omega
theorem sh_list {xs : List PyData} (h : ∀ x ∈ xs, x.canLay0 = true ∧ x.depth ≤ 60) : PyData.canLayAll0 xs = true ∧ PyData.depthAll xs ≤ 60 := by
  induction xs with
  | nil => exact ⟨rfl, Nat.zero_le _⟩
  | cons x r ih =>
    obtain ⟨a, b⟩ := ih fun y m => h y (List.mem_cons_of_mem _ m)
    obtain ⟨c, d⟩ := h x List.mem_cons_self
    refine ⟨?_, ?_⟩
    · rw [PyData.canLayAll0, c, a]; rfl
    · rw [PyData.depthAll]; exact Nat.max_le.mpr ⟨d, b⟩
theorem shaped_tup {xs : List PyData} (h : ∀ x ∈ xs, x.canLay0 = true ∧ x.depth ≤ 60) : SeqAt.shaped (.tuple xs) = true := by
  obtain ⟨a, b⟩ := sh_list h
  unfold SeqAt.shaped
  rw [Bool.and_eq_true, decide_eq_true_eq]
  exact ⟨a, by rw [PyData.depth]; omega⟩
theorem strsOf_tx : ∀ L : List (List Nat), strsOf (L.map dT) = some (L.map tx)
  | [] => rfl
  | x :: r => by
    show (strsOf (r.map dT)).map (tx x :: ·) = _
    rw [strsOf_tx r]
    rfl
theorem join_tx (c : List Nat) (L : List (List Nat)) : Txt.join (tx c) (L.map tx) = tx (TL.joinL c L) := by
  rw [TL.join_eq]
  refine TL.ext_tl ?_
  rw [TL.tl_join, List.map_map]
  show TL.joinL c (L.map (TL.tl ∘ tx)) = _
  rw [show (TL.tl ∘ tx) = id from rfl, List.map_id]
  rfl
end PW

namespace PW
open PySem L2 PySem.Spec PyProof.Rows
section
variable {X : Cx} {W : WX} {e o wo_e : Expr} {st : Stmt} {rest : List Stmt} {we wo : EW} {wa wb : SW} {pos p : Pos} {y z c : Str} {j k : Nat} {c0 c1 cp : Pos}
end
end PW

namespace PW
open PySem L2 PySem.Spec PyProof.Rows
section
variable {X : Cx} {W : WX} {a b e o i : Expr} {wa wb we wo wi wv : EW} {pos p p2 : Pos}
end
end PW

namespace PW
open PySem L2 PySem.Spec PyProof.Rows
section
variable {X : Cx} {W : WX} {a : Expr} {wa : EW} {pos p : Pos}
end
end PW

namespace PW
open PySem L2 PySem.Spec PyProof.Rows
end PW

namespace PW
open PySem PySem.Spec PyProof.Rows L2
abbrev excO (a : Addr) (oe : Obj) : HO := .ext fun h => h.get? a = some oe
section
variable {X : Cx} {pins : List (Addr × Obj)} {σ : L2.St} {H : Hp} {s : Shared}
theorem inv_track {a : Addr} {oe : Obj} (I : Inv X pins σ H s) (h0 : X.s_0.heap.get? a = none) (hg : s.heap.get? a = some oe) (ha : H a = none) (hl : a ≠ X.env.locals) (hc : ∀ v, oe.data ≠ .cell v) (hp : ∀ p ∈ X.pn ++ pins, p.1 ≠ a) :
    Inv X pins σ (upd H a (excO a oe)) s := by
  have ne0 : ∀ {b o}, X.s_0.heap.get? b = some o → b ≠ a := fun {b o} e z => by
    rw [z, h0] at e
    cases e
  have neH : ∀ {b o}, H b = some o → b ≠ a := fun {b o} e z => by
    rw [z, ha] at e
    cases e
  refine { I with
    base := ⟨I.base.keep, I.base.slot, fun b o e n x => (upd_ne (ne0 e)).trans (I.base.free b o e n x), I.base.there, fun b xs e => ?_, fun b o u e => ?_, fun b ps e => ?_⟩
    free := (upd_ne fun z => hl z.symm).trans I.free
    freeC := fun x c e => ?_
    pin := fun p m => ?_
    hok := fun b o e => ?_ }
  · have q := I.base.tups b xs e
    exact (upd_ne (neH q)).trans q
  · have q := I.base.frzs b o u e
    exact (upd_ne (neH q)).trans q
  · obtain ⟨more, q⟩ := I.base.tbls b ps e
    exact ⟨more, (upd_ne (neH q)).trans q⟩
  · have nc : c ≠ a := fun z => by
      obtain ⟨v, o, e1, e2⟩ := I.cell x c e
      rw [z, hg] at e1
      cases e1
      exact hc _ e2
    exact (upd_ne nc).trans (I.freeC x c e)
  · obtain ⟨e1, e2, e3⟩ := I.pin p m
    exact ⟨e1, (upd_ne (hp p m)).trans e2, e3⟩
  · by_cases hb : b = a
    · rw [hb, upd_same] at e
      cases e
      rw [hb]
      exact ⟨hg, ⟨oe, hg⟩, fun _ _ e k => k oe e⟩
    · rw [upd_ne hb] at e
      exact (I.hok b o e).stay (fun _ _ _ q => q) (fun c q => (upd_ne (neH q)).trans q) fun c xs q => (upd_ne (neH q)).trans q
theorem inv_in {a : Addr} (I : Inv X pins σ H s) : Inv (X.suite a (X.pn ++ pins)) [] σ H s :=
  ⟨I.ok.suite _ _, I.os, I.bare, I.base, I.loc, I.cell, I.free, I.freeC, fun p hp => I.pin p (by rw [List.append_nil] at hp; exact hp), I.hok, I.len⟩
theorem inv_out {a : Addr} {pn' : List (Addr × Obj)} (I : Inv (X.suite a (X.pn ++ pins)) pn' σ H s) (ok : X.Ok) : Inv X pins σ H s :=
  ⟨ok, I.os, I.bare, I.base, I.loc, I.cell, I.free, I.freeC, fun p hp => I.pin p (List.mem_append_left _ hp), I.hok, I.len⟩
end
def stI (oi : Option Nat) (v : Option V) (σ : L2.St) : L2.St := match oi with
  | none => σ
  | some i => σ.set i v
def endsI (oi : Option Nat) (D : Ends) : Ends := { nx := fun σ H => D.nx (stI oi none σ) H, rt := D.rt, bk := fun σ H => D.bk (stI oi none σ) H, ct := fun σ H => D.ct (stI oi none σ) H }
def wishes (K : PySem.W.Frag) (Wout : WX) (D : Ends) : List (Value × Option Nat × TS) → WX
  | [] => Wout
  | (c, oi, ts) :: r => fun cls d σ H => ∃ b, PySem.W.exmOne K cls c = some b ∧ (b = true → ∀ a oe, H a = none → Zc cls d oe → (∃ vs, oe.data = .fields vs) → ts (endsI oi D) (stI oi (some (.ref a)) σ) (upd H a (excO a oe))) ∧ (b = false → wishes K Wout D r cls d σ H)
inductive Clauses (X : Cx) : List ExceptHandler → List (Value × Option Nat × TS) → Prop
  | nil : Clauses X [] []
  | only {x : Str} {c : Value} {ts : TS} {b₀ : Stmt} {suite : List Stmt} {np pos' : Pos} {hds : List ExceptHandler} {l : List (Value × Option Nat × TS)} (hc : Names X x c)
      (hsu : ∀ (a : Addr) (pn : List (Addr × Obj)), PSs (X.suite a pn) (b₀ :: suite) ts) (r : Clauses X hds l) : Clauses X (.ExceptHandler (some (.Name x np)) none (b₀ :: suite) pos' :: hds) ((c, none, ts) :: l)
  | as {x n : Str} {c : Value} {i : Nat} {ts : TS} {b₀ : Stmt} {suite : List Stmt} {np pos' : Pos} {hds : List ExceptHandler} {l : List (Value × Option Nat × TS)} (hc : Names X x c) (hN : X.N.Nodup) (hi : X.N[i]? = some n) (hln : X.env.kindOf n = some .local)
      (hsu : ∀ (a : Addr) (pn : List (Addr × Obj)), PSs (X.suite a pn) (b₀ :: suite) ts) (r : Clauses X hds l) : Clauses X (.ExceptHandler (some (.Name x np)) (some n) (b₀ :: suite) pos' :: hds) ((c, some i, ts) :: l)
section
variable {X : Cx} {body : List Stmt} {hd0 : ExceptHandler} {hds : List ExceptHandler} {l : List (Value × Option Nat × TS)} {pos : Pos} {tb : WX → TS} {Wout : WX}
theorem ps_tryT (hst : X.stack = X.env :: X.outer) (hfr : X.env.frame = some X.env.locals) (hex : X.ex = []) (tk : Takes X Wout)
    (hbody : ∀ (W' : WX) (pn : List (Addr × Obj)) (xe : Value → Shared → Prop), Takes (X.tr pn xe) W' → PassesOwn (model X.prog X.w) X.A X.env xe → PSs (X.tr pn xe) body (tb W'))
    (hcl : Clauses X (hd0 :: hds) l) : PS X (.Try body (hd0 :: hds) [] [] pos) (fun D σ H => tb (wishes X.K Wout D l) D σ H) := by
  refine ⟨fun pins s σ H D I hq => ?_⟩
  have okX := I.ok
  have frA : X.A.frames = some (X.env :: X.outer) := okX.frames.trans (congrArg some hst)
  refine wpAny_Try_except ?_
  have run0 := (hbody (wishes X.K Wout D l) (X.pn ++ pins) (fun e s₁ => wpAny (model X.prog X.w) X.A (noteFrame e X.env) (fun _ s₂ => wpAny (model X.prog X.w) X.A (setFlight e none)
    (fun _ s₃ => wpAny (model X.prog X.w) X.A (handleBy e X.env (hd0 :: hds)) (SP X pins D) X.xe s₃) X.xe s₂) X.xe s₁) (fun u t xx => ?_) PassesOwn.looking).run [] s σ H D (I.toTry _) hq
  · refine wpAny_mono run0 (fun fl t hsp => ?_) (fun _ _ z => z)
    cases fl with
    | next =>
      obtain ⟨σ1, H1, I1, q⟩ := hsp
      exact wpAny_execs_nil ⟨σ1, H1, I1.ofTry okX, q⟩
    | ret u =>
      obtain ⟨v, σ1, H1, I1, rv, q⟩ := hsp
      exact ⟨v, σ1, H1, I1.ofTry okX, rv, q⟩
    | brk =>
      obtain ⟨σ1, H1, I1, q⟩ := hsp
      exact ⟨σ1, H1, I1.ofTry okX, q⟩
    | cont =>
      obtain ⟨σ1, H1, I1, q⟩ := hsp
      exact ⟨σ1, H1, I1.ofTry okX, q⟩
  · obtain ⟨a, B, sI, pins1, σ1, H1, cls, d, rfl, I1, below, upS, skyB, aNone, sameOs, bareG, wish⟩ := xx
    have IX : Inv X pins σ1 H1 sI := I1.ofTry okX
    have skyX : Sky B (X.env :: X.outer) a (Zc cls d) X.env.locals t.heap := hst ▸ skyB
    show wpAny (model X.prog X.w) X.A (noteFrame (.ref a) X.env) _ _ _
    refine Sky.land Zc.steady frA hfr skyX fun g3 fly3 up3 => ?_
    have I3 : Inv X pins σ1 H1 { t with heap := g3 } := IX.landed below fly3.1 (upS.trans up3) sameOs bareG
    obtain ⟨ob3, arr3, get3, zc3, dat3⟩ := fly3.there
    have offF : ∀ {g : Heap} {ob : Obj} {arr : Array Value}, g.FunFrames B (X.env :: X.outer) → g.get? a = some ob → ob.data = .fields arr → a ∉ frs (X.env :: X.outer) := fun {g ob arr} ff e dd hm => by
      obtain ⟨_, ob', e', nofld⟩ := ff.mem hm
      rw [e] at e'
      cases e'
      exact nofld _ dd
    have aOff := offF fly3.2.2.1 get3 dat3
    have aLoc : a ≠ X.env.locals := fun z => aOff (List.mem_filterMap.mpr ⟨X.env, List.mem_cons_self, by rw [hfr, z]⟩)
    have apart : ∀ {b o}, sI.heap.get? b = some o → b ∉ frs X.stack → b ≠ a := fun {b o} e hb z => by
      have q := below b o e hb
      rw [z, fly3.2.1] at q
      cases q
    have new0 : X.s_0.heap.get? a = none := by
      cases e : X.s_0.heap.get? a with
      | none => rfl
      | some o =>
        obtain ⟨o', e'⟩ := IX.base.there a o e (by rw [hex]; exact fun z => nomatch z)
        exact absurd rfl (apart e' (by rw [hst]; exact aOff))
    have pinsOff : ∀ p ∈ X.pn ++ pins, p.1 ≠ a := fun p hp => by
      obtain ⟨e1, _, e3, e4, _⟩ := IX.pin p hp
      refine apart e1 fun hm => ?_
      rw [hst] at hm
      obtain ⟨env, he, q⟩ := List.mem_filterMap.mp hm
      rcases List.mem_cons.mp he with z | z
      · rw [z, hfr] at q
        exact e3 (Option.some.inj q).symm
      · exact e4 (List.mem_filterMap.mpr ⟨env, z, q⟩)
    have inSuite : ∀ {g : Heap} {ob : Obj} {arr : Array Value}, HandSPX.FlyingZ B (X.env :: X.outer) a (Zc cls d) g → t.heap.UpToSlots g → g.get? a = some ob → ob.data = .fields arr → Inv X pins σ1 (upd H1 a (excO a ob)) { t with heap := g } :=
      fun {g ob arr} fl up e dd => inv_track (IX.landed below fl.1 (upS.trans up) sameOs bareG) new0 e aNone aLoc (fun v z => by rw [dd] at z; cases z) pinsOff
    have S3 := inv_in (a := a) I3
    have go : ∀ {hs : List ExceptHandler} {ws : List (Value × Option Nat × TS)}, Clauses X hs ws → wishes X.K Wout D ws cls d σ1 H1 → wpAny (model X.prog X.w) X.A (handleBy (.ref a) X.env hs) (SP X pins D) X.xe { t with heap := g3 } := by
      intro hs ws hk
      have looksT : PySem.W.Looks (model X.prog X.w) g3 (typeOf (.ref a)) cls := fun _ _ _ _ k q => wpAny_typeOf_ref (k _ _ get3) (by rw [zc3.1]; exact q)
      have test : ∀ {x : Str} {c : Value} {np : Pos} {Q : Value → Shared → Prop} {E : Value → Shared → Prop}, Names X x c → Q c { t with heap := g3 } → wpAny (model X.prog X.w) (X.A.mark (some (.ref a))) (eval (.Name x np) X.env) Q E { t with heap := g3 } := fun {x c np Q E} hc q => by
        obtain ⟨hg, hdbg, hm | ⟨hm, hv, hnn⟩⟩ := hc
        · exact ld_glob (X := X.suite a (X.pn ++ pins)) S3 hg hm q hdbg
        · exact ld_blt (X := X.suite a (X.pn ++ pins)) S3 hg hm hv q hnn hdbg
      induction hk with
      | nil =>
        intro wq
        refine wpAny_handleBy_nil ?_
        obtain ⟨q1, q2, q3, ob, arr, tb0, obT, arrT, e1, e2, e3, e4, e5⟩ := id fly3
        unfold PySem.passOn
        refine wpAny_bind (wpAny_field e1 e3 e4 ?_)
        rw [if_neg (show ¬ ((Value.ref tb0 == Value.none) = true) from by simp)]
        have last : wpAny (model X.prog X.w) X.A (setFlight (.ref a) X.env.frame) (fun _ s4 => wpAny (model X.prog X.w) X.A (throw (.ref a) : Sem Flow) (SP X pins D) X.xe s4) X.xe { t with heap := g3 } := by
          rw [hfr]
          refine HandSPX.setFlight_upZ fly3 fun g4 held4 up4 => wpAny_throw (tk _ _ ?_)
          exact ⟨a, B, sI, pins, σ1, H1, cls, d, rfl, IX, below, (upS.trans up3).trans up4, .inr (.inr (by rw [hst]; exact held4)), aNone, sameOs, bareG, wq⟩
        first
          | exact wpAny_bind (wpAny_pure (wpAny_bind last))
          | exact wpAny_bind last
      | @only x c ts b₀ suite np pos' hds2 l2 hc hsu r ih =>
        intro wq
        obtain ⟨b, hb1, yes, no⟩ := wq
        refine wpAny_handleBy_cons (codeAny_handlers_test ?_) (fun z => nomatch z)
        refine test hc ((PySem.W.exm_one (M := model X.prog X.w) I3.kIn looksT hb1).here ?_)
        cases b with
        | false => exact ih (no rfl)
        | true =>
          refine codeAny_handlers_suite (HandSPX.lands_againZ fly3 fun g4 fly4 up4 => ?_)
          obtain ⟨ob4, arr4, get4, zc4, dat4⟩ := fly4.there
          have I4 := inSuite fly4 (up3.trans up4) get4 dat4
          refine wpAny_mono ((hsu a (X.pn ++ pins)).run [] _ _ _ _ (inv_in I4) (yes rfl a ob4 aNone zc4 ⟨_, dat4⟩)) (fun fl s6 hsp => ?_) (fun _ _ z => z.elim)
          cases fl with
          | next =>
            obtain ⟨_, _, I6, q6⟩ := hsp
            exact ⟨_, _, inv_out I6 okX, q6⟩
          | ret u =>
            obtain ⟨_, _, _, I6, rv, q6⟩ := hsp
            exact ⟨_, _, _, inv_out I6 okX, rv, q6⟩
          | brk =>
            obtain ⟨_, _, I6, q6⟩ := hsp
            exact ⟨_, _, inv_out I6 okX, q6⟩
          | cont =>
            obtain ⟨_, _, I6, q6⟩ := hsp
            exact ⟨_, _, inv_out I6 okX, q6⟩
      | @as x n c i ts b₀ suite np pos' hds2 l2 hc hN hi hln hsu r ih =>
        intro wq
        obtain ⟨b, hb1, yes, no⟩ := wq
        refine wpAny_handleBy_cons (codeAny_handlers_test ?_) (fun z => nomatch z)
        refine test hc ((PySem.W.exm_one (M := model X.prog X.w) I3.kIn looksT hb1).here ?_)
        cases b with
        | false => exact ih (no rfl)
        | true =>
          refine codeAny_handlers_suite_as (HandSPX.lands_againZ fly3 fun g4 fly4 up4 => ?_)
          obtain ⟨ob4, arr4, get4, zc4, dat4⟩ := fly4.there
          have I4 := inSuite fly4 (up3.trans up4) get4 dat4
          refine store_ok (X := X.suite a (X.pn ++ pins)) (v := .ref a) (inv_in I4) hN hi (.inl hln) rfl (fun s5 I5 => ?_) (.inr hln)
          refine wpAny_mono ((hsu a (X.pn ++ pins)).run [] s5 _ _ _ I5 (yes rfl a ob4 aNone zc4 ⟨_, dat4⟩)) (fun fl s6 hsp => ?_) (fun _ _ z => z.elim)
          have gone : ∀ {σ6 : L2.St} {H6 : Hp} {Q : Shared → Prop}, Inv (X.suite a (X.pn ++ pins)) [] σ6 H6 s6 → (∀ s7, Inv X pins (σ6.set i none) H6 s7 → Q s7) → wpAny (model X.prog X.w) X.A (do bindName X.env n .none; unbindBehindTheSuite X.env n pos') (fun _ s7 => Q s7) X.xe s6 :=
            fun {σ6 H6 Q} I6 hQ => gone_ok (inv_out I6 okX) hN hi hln hQ
          cases fl with
          | next =>
            obtain ⟨_, _, I6, q6⟩ := hsp
            exact gone I6 fun _ I7 => ⟨_, _, I7, q6⟩
          | ret u =>
            obtain ⟨_, _, _, I6, rv, q6⟩ := hsp
            exact gone I6 fun _ I7 => ⟨_, _, _, I7, rv, q6⟩
          | brk =>
            obtain ⟨_, _, I6, q6⟩ := hsp
            exact gone I6 fun _ I7 => ⟨_, _, I7, q6⟩
          | cont =>
            obtain ⟨_, _, I6, q6⟩ := hsp
            exact gone I6 fun _ I7 => ⟨_, _, I7, q6⟩
    exact go hcl wish
end
end PW
namespace PW
open PySem PySem.Spec PyProof.Rows L2
section
variable {X : Cx} {pins : List (Addr × Obj)} {σ : L2.St} {H : Hp} {s : Shared} {a C : Addr} {oe : Obj} {d : Option Addr}
structure ExcAt (H : Hp) (a C : Addr) (oe : Obj) (d : Option Addr) : Prop where
  at_ : H a = some (excO a oe)
  zc : Zc (.ref C) d oe
  fl : ∃ vs, oe.data = .fields vs
  dc : d = none ∨ ∃ dd fs, d = some dd ∧ H dd = some (.xd fs)
theorem ExcAt.inst (I : Inv X pins σ H s) (E : ExcAt H a C oe d) : ∃ od, PySem.W.InstAt s.heap a oe C od ∧ ∀ dd fs, d = some dd → H dd = some (.xd fs) → ∃ o mA, od = some o ∧ s.heap.Ns1 dd mA ∧ (∀ f, RelO (fs.lookup f) (mA f)) ∧ s.heap.get? dd = some o := by
  have ha : s.heap.get? a = some oe := (show _ ∧ _ ∧ _ from I.hok a _ E.at_).1
  obtain ⟨vs, hv⟩ := E.fl
  have no : PySem.W.notCls oe = true := by unfold PySem.W.notCls; rw [hv]
  rcases E.dc with hd | ⟨dd, fs, hd, hx⟩
  · refine ⟨none, ⟨ha, E.zc.1, no, ?_⟩, fun dd fs e => by rw [hd] at e; cases e⟩
    rw [E.zc.2, hd]
    trivial
  · have hk : ObjOk X.prog X.w H s.heap dd (.xd fs) := I.hok dd _ hx
    obtain ⟨mA, hns, hr⟩ := hk
    obtain ⟨o, ho, hl⟩ := lookIn_ns hns
    refine ⟨some o, ⟨ha, E.zc.1, no, ?_⟩, fun dd' fs' e1 e2 => ?_⟩
    · rw [E.zc.2, hd]
      exact ho
    · rw [hd] at e1
      cases e1
      rw [hx] at e2
      cases e2
      exact ⟨o, mA, rfl, hns, hr, ho⟩
end
def rIsT (K : PySem.W.Frag) : List V → Hp → VK → Prop := fun xs H Q => ∃ (a C : Addr) (oe : Obj) (d : Option Addr) (c : V) (cv : Value) (b : Bool), xs = [.ref a, c] ∧ ExcAt H a C oe d ∧ L2.ExcC K C ∧ (∀ u, RelV c u → u = cv) ∧ PySem.W.kitOne K (.ref C) cv = some b ∧ Q (.bl b) H
theorem call_isT {X : Cx} : CallR X (.builtin "isinstance") (rIsT X.K) := by
  intro pins s σ H xs us Q I r h
  obtain ⟨a, C, oe, d, c, cv, b, rfl, E, xc, hcv, e, q⟩ := h
  cases r with
  | cons ra rr =>
    cases rr with
    | cons rc rr =>
      cases rr
      cases ra
      have ec := hcv _ rc
      subst ec
      obtain ⟨od, J, _⟩ := E.inst I
      obtain ⟨cd, hc, _⟩ := PySem.W.any_some xc.hd
      exact PySem.W.kia_one (PySem.W.kitx_exc (by rw [hc]; rfl) xc.hg xc.hk xc.hs xc.ha xc.hn xc.ht xc.hm) I.kIn J e (fun z => nomatch z) fun tk => ⟨.bl b, H, I.kept (t' := tk) fun _ _ z => z, rfl, q⟩
structure FnT (P : Program) (w : World) (K : PySem.W.Frag) (mg : Str → Option Value) (base : Heap) (CX : CXT) (k : Nat) (f : Addr) (fd : FuncData) (ps : List Str) (sp : Sp) : Prop where
  len : ∀ vs H Q E, sp vs H Q E → vs.length = ps.length
  run : ∀ (A : Around) (outer : List Env) (s : Shared) (H : Hp) (args : Args) (us : List Value) (vs : List V) (Q : VK) (E : XK), L2H.RoomH k A → Env0 P w K mg base A outer s H → BindsTo s fd args (ps.zip us) → Vals vs us → sp vs H Q E →
    codeAny (model P w) A (.call (.ref f) args) (CR CX outer P w H s Q E) s
def cxT (CX : CXT) (P : Program) (w : World) (K : PySem.W.Frag) (mg : Str → Option Value) (base : Heap) (N : List Str) (qual : Str) (scope : Scope) (f : Addr) (cd : Value) (A : Around) (outer : List Env) (s : Shared) (H : Hp) (E : XK) : Cx :=
  { cxOf CX P w K mg base N qual scope f cd A outer s H E with calm := false }
theorem startT {CX : CXT} {P : Program} {w : World} {K : PySem.W.Frag} {mg : Str → Option Value} {base : Heap} {N ps : List Str} {qual : Str} {scope : Scope} {f : Addr} {cd : Value} {A : Around} {outer : List Env} {s s1 : Shared} {H : Hp} {E : XK} {us : List Value} {vs : List V}
    (Sc : FnScope N ps scope) (env0 : Env0 P w K mg base A outer s H) (hlen : vs.length = ps.length) (rel : Vals vs us)
    (called : InCallC s s.heap.objs.size (bindL (envOfC qual scope s.heap.objs.size f cd).kindOf (ps.zip us) fun _ => none) (cellsFrom (s.heap.objs.size + 1) scope.names []) (bindC (envOfC qual scope s.heap.objs.size f cd).kindOf (ps.zip us) fun _ => none) s1) :
    Inv (cxT CX P w K mg base N qual scope f cd A outer s H E) [] (L2.start N vs) H s1 := by
  obtain ⟨g1, tk, rfl, kept⟩ := called.done
  have noX : ∀ {b : Addr}, b ∈ (cxT CX P w K mg base N qual scope f cd A outer s H E).ex → False := fun {b} z => nomatch (show b ∈ ([] : List Addr) from z)
  have plen : ps.length ≤ N.length := by
    have e := congrArg List.length Sc.pre
    rw [List.length_take] at e
    omega
  have pnd : ps.Nodup := by
    rw [← Sc.pre]
    exact Sc.nd.sublist (List.take_sublist _ _)
  constructor
  · refine ⟨env0.mod, Sc.kind, rfl, rfl, Nat.le_refl _, fun y z c e1 e2 => name_of_addr called.apart (PySem.mem_of_lookup e1) (PySem.mem_of_lookup e2), fun y hy => ?_, fun y c _ e => Nat.le_of_lt (called.above y c (PySem.mem_of_lookup e)), (fun z => nomatch (show false = true from z)), Around.frames_deeper env0.frames, .inr ⟨rfl, rfl⟩,
      fun b z => (noX z).elim, env0.bs, env0.bsz, fun b _ _ z => noX z, fun b z => (noX z).elim, env0.funs, env0.frf⟩
    rcases (show scope.names.lookup y = some .cell ∨ scope.names.lookup y = some .free from hy) with hy | hy
    · exact cell_has hy
    · exact absurd rfl (Sc.nofree _ (PySem.mem_of_lookup hy))
  · rfl
  · exact env0.bare
  · exact Un.kept kept
  · refine ⟨_, called.toInCall.ns, fun i y v e1 e2 _ => ?_⟩
    have hi : i < vs.length := by
      rcases Nat.lt_or_ge i vs.length with z | z
      · exact z
      · unfold L2.start at e2
        rw [List.getElem?_append_right (by simpa using z), List.getElem?_replicate] at e2
        split at e2 <;> cases e2
    have hv : vs[i]? = some v := by
      unfold L2.start at e2
      rw [List.getElem?_append_left (by simpa using hi), List.getElem?_map] at e2
      cases e : vs[i]? with
      | none => rw [e] at e2; cases e2
      | some w => rw [e] at e2; cases e2; rfl
    have hp : ps[i]? = some y := by
      rw [← Sc.pre, List.getElem?_take_of_lt (by omega)]
      exact e1
    obtain ⟨u, hu, ru⟩ := rel.get hv
    refine ⟨u, ru, ?_⟩
    rcases Sc.par y (List.mem_of_getElem? hp) with z | z
    · exact .inl ⟨z, bindL_get pnd hp hu z⟩
    · obtain ⟨c, e⟩ := cell_has (n := s.heap.objs.size + 1) z
      have q := called.cell y c e
      rw [bindC_get pnd hp hu (by show scope.names.lookup y ≠ _; rw [z]; decide)] at q
      exact .inr ⟨.inl z, c, e, q⟩
  · exact fun y c e => ⟨_, called.cell y c e⟩
  · exact env0.hok.fresh (Nat.le_refl _)
  · exact fun y c e => env0.hok.fresh (Nat.le_of_lt (called.above y c (PySem.mem_of_lookup e)))
  · exact fun q hq => nomatch (show q ∈ ([] : List (Addr × Obj)) from hq)
  · exact env0.hok.kept kept
  · unfold L2.start
    show _ = N.length
    rw [List.length_append, List.length_map, List.length_replicate]
    omega
theorem fnT_of {P : Program} {w : World} {K : PySem.W.Frag} {mg : Str → Option Value} {base : Heap} {x qual : Str} {st : Stmt} {f : Addr} {fd : FuncData} {N ps : List Str} {k : Nat} {sp : Sp} (F : Fun K x qual st f fd) (Sc : FnScope N ps (defScope st)) (len : ∀ vs H Q E, sp vs H Q E → vs.length = ps.length)
    (body : ∀ (cdv : Value) (A : Around) (outer : List Env) (s : Shared) (H : Hp) (vs : List V) (Q : VK) (E : XK), L2H.RoomH k (A.deeper (envOfC qual (defScope st) s.heap.objs.size f cdv)) → sp vs H Q E →
      ∃ t, PSs (cxT (L2.CX P w) P w K mg base N qual (defScope st) f cdv A outer s H E) (defBody st) t ∧ t { nx := fun _ H' => Q .non H', rt := Q } (L2.start N vs) H) : FnT P w K mg base (L2.CX P w) (k + 1) f fd ps sp := by
  obtain ⟨oc, od, kV, doc, pm, an, cdv, ct, osl, rfl, lk, hcd⟩ := F.ex
  refine ⟨len, fun A outer s H args us vs Q E room env0 binds rel hsp => ?_⟩
  have keepB : ∀ b o, base.get? b = some o → s.heap.get? b = some o := fun b o e => (env0.bs b o e).1
  have inK : K.In s.heap := env0.mod.kin.keeps keepB
  have kinds : ∀ y ∈ ps.zip us, (defScope st).names.lookup y.1 = some .local ∨ ((defScope st).names.lookup y.1 = some .cell ∧ ((cellsFrom (s.heap.objs.size + 1) (defScope st).names []).lookup y.1).isSome = true) := fun ⟨n, v⟩ hy =>
    (Sc.par n (List.of_mem_zip hy).1).imp id fun z => ⟨z, PySem.W.cellsFrom_some _ _ _ (.inl z)⟩
  refine codeAny_call_function room.depth (inK _ _ lk) rfl Sc.co Sc.gen rfl (PySem.W.codeRec_of inK hcd) (binds _ _ _ _ ?_)
  refine wpAny_newFunctionEnv_cells Sc.kind kinds fun env ee s1 called => ?_
  subst ee
  refine ⟨(env0.mod.nolimit.keeps keepB).keeps called.toInCall.keep, codeAny_func ?_⟩
  obtain ⟨t, ht, hq⟩ := body cdv A outer s H vs Q E (room.deeper _) hsp
  have start := startT (CX := L2.CX P w) (E := E) Sc env0 (len _ _ _ _ hsp) rel called
  refine wpAny_mono (ht.run [] s1 (L2.start N vs) H _ start hq) (fun fl s' hs => ?_) fun _ _ z => z
  cases fl with
  | next =>
    obtain ⟨_, H', J, q⟩ := hs
    exact ⟨V.non, H', J.os, J.bare, J.base, J.hok, rfl, q⟩
  | ret u =>
    obtain ⟨v, _, H', J, rv, q⟩ := hs
    exact ⟨v, H', J.os, J.bare, J.base, J.hok, rv, q⟩
  | brk =>
    obtain ⟨_, _, _, q⟩ := hs
    exact q.elim
  | cont =>
    obtain ⟨_, _, _, q⟩ := hs
    exact q.elim
theorem FnT.mono {P : Program} {w : World} {K : PySem.W.Frag} {mg : Str → Option Value} {base : Heap} {CX : CXT} {j k : Nat} {f : Addr} {fd : FuncData} {ps : List Str} {sp : Sp} (F : FnT P w K mg base CX j f fd ps sp) (h : j ≤ k) : FnT P w K mg base CX k f fd ps sp :=
  ⟨F.len, fun A outer s H args us vs Q E r => F.run A outer s H args us vs Q E (r.mono h)⟩
theorem FnT.ok {P : Program} {w : World} {K : PySem.W.Frag} {mg : Str → Option Value} {base : Heap} {CX : CXT} {k : Nat} {f : Addr} {fd : FuncData} {ps : List Str} {sp : Sp} (F : FnT P w K mg base CX k f fd ps sp) : FnOk P w K mg base CX k f fd ps sp :=
  ⟨F.len, fun A outer s H args us vs Q E r => F.run A outer s H args us vs Q E (L2H.roomH_of r)⟩
section
variable {X : Cx} {CX : CXT} {k : Nat} {f : Addr} {fd : FuncData} {ps : List Str} {sp : Sp} {E : L2.St → XK} {x : Str} {q pos : Pos} {e : Expr} {es : List Expr} {t : TA}
theorem run_fnT {pins : List (Addr × Obj)} {σ : L2.St} {H : Hp} {s : Shared} {Q : VK} {us : List Value} {vs : List V} (F : FnT X.prog X.w X.K X.mg X.base CX k f fd ps sp) (room : L2H.RoomH k X.A) (hb : Binds X.K fd ps []) (hx : PassesAt CX X σ (E σ))
    (I : Inv X pins σ H s) (r : Vals vs us) (h : sp vs H Q (E σ)) : wpAny (model X.prog X.w) X.A (call (.ref f) us) (EP X pins σ Q) X.xe s := by
  have ul : us.length = ps.length := r.length.symm.trans (F.len _ _ _ _ h)
  have bb := hb s us I.kIn (by rw [List.append_nil]; exact ul)
  rw [List.append_nil] at bb
  refine wpAny_call (codeAny_mono (F.run X.A X.stack s H ⟨us, []⟩ us vs Q (E σ) room I.env0 bb r h) fun res s' hq => ?_)
  cases res with
  | error e => exact hx pins H s e s' I hq
  | ok fl =>
    cases fl with
    | ret u => exact I.after hq
    | next => exact hq.elim
    | brk => exact hq.elim
    | cont => exact hq.elim
theorem pe_callT (F : FnT X.prog X.w X.K X.mg X.base CX k f fd ps sp) (room : L2H.RoomH k X.A) (hg : Gl X x) (hm : X.mg x = some (.ref f)) (hk : PySem.W.keepIn X.K (.ref f) = true) (hb : Binds X.K fd ps []) (hx : ∀ σ, PassesAt CX X σ (E σ))
    (ha : PA X (e :: es) t) (hdb : (x == ("__debug__" : Str)) = false := by decide) (he : starEach (e :: es) X.env = (false, eval e X.env) :: starEach es X.env := by rfl) (hpl : (backTo pos (starEach es X.env)).any (·.1) = false := by rfl) :
    PE X (.Call (.Name x q) (e :: es) [] pos) (tCallS sp E t) := by
  refine ⟨fun pins s σ H Q I h => ?_⟩
  refine wpAny_Call_Name_kw (ld_glob I hg hm ?_ hdb)
  refine PySem.W.callWith_K (h₀ := X.base) I.ok.mod.kin hk (thn (ha.run pos pins s σ H _ I h) fun us s1 ⟨vs, H1, I1, r, hs⟩ => ⟨I1.kIn, ?_⟩) he hpl
  exact run_fnT F room hb (hx σ) I1 r hs
end
end PW
namespace PW
open PySem PySem.Spec PyProof.Rows L2
theorem roomT {k : Nat} {A : Around} (r : Room k A) : L2H.RoomH k A := L2H.roomH_of r
theorem roomS {X : Cx} {k : Nat} (r : L2H.RoomH k X.A) (a : Addr) (pn : List (Addr × Obj)) : L2H.RoomH k (X.suite a pn).A := ⟨r.dp, r.un⟩
theorem hu64H {k : Nat} {A : Around} (hr : L2H.RoomH k A) : A.units + 64 < cLine := by have := hr.un; omega
theorem hu65H {k : Nat} {A : Around} (hr : L2H.RoomH k A) : A.units + 65 < cLine := by have := hr.un; omega
section
variable {P : Program} {w : World} {K : PySem.W.Frag} {mg : Str → Option Value} {base : Heap}
structure CalT (P : Program) (w : World) (K : PySem.W.Frag) (mg : Str → Option Value) (base : Heap) (k : Nat) (x : Str) (ps : List Str) (S : FS) : Prop where
  ex : ∃ f fd, FnT P w K mg base (L2.CX P w) k f fd ps (spOf K S) ∧ mg x = some (.ref f) ∧ PySem.W.keepIn K (.ref f) = true ∧ Binds K fd ps []
theorem CalT.cal {k : Nat} {x : Str} {ps : List Str} {S : FS} (C : CalT P w K mg base k x ps S) : Cal P w K mg base k x ps S := by
  obtain ⟨f, fd, F, r⟩ := C.ex
  exact ⟨f, fd, F.ok, r⟩
theorem Dfd.calT {x : Str} {ps N : List Str} {st : Stmt} {k : Nat} {S : FS} {wb : SW} (D : Dfd K mg x ps st) (Sc : FnScope N ps (defScope st)) (len : ∀ args o r e, S args o r e → args.length = ps.length)
    (body : ∀ (f : Addr) (cdv : Value) (A : Around) (outer : List Env) (s : Shared) (H : Hp) (E : XK), L2H.RoomH k (A.deeper (envOfC x (defScope st) s.heap.objs.size f cdv)) →
      PSs (cxT (L2.CX P w) P w K mg base N x (defScope st) f cdv A outer s H E) (defBody st) (tS K (fun cls d _ H => E cls d H) wb))
    (pure : ∀ args o ret exc, S args o ret exc → wb (fun x s => exc x (cutL o.length s.o)) (pst0 args o N.length) (bodyE o.length ret)) : CalT P w K mg base (k + 1) x ps S := by
  obtain ⟨f, fd, F, m, b⟩ := D.ex
  exact ⟨f, fd, fnT_of F Sc (fn_len len) fun cdv A outer s H vs Q E hr h => ⟨_, body f cdv A outer s H E hr, fn_core pure vs H Q E h⟩, m, F.kp, b⟩
end
section
variable {X : Cx} {W : WX} {k j : Nat} {ps : List Str} {S : FS} {x : Str} {p pos : Pos} {e : Expr} {es : List Expr} {ws : AW} {sp : Sp} {E : L2.St → XK}
theorem call_of (h : PA X (e :: es) (tA X.K W ws)) (c : ∀ {t : TA}, PA X (e :: es) t → PE X (.Call (.Name x p) (e :: es) [] pos) (tCallS (spOf X.K S) (WE W) t)) : PE X (.Call (.Name x p) (e :: es) [] pos) (tE X.K W (wCall S ws)) := by
  refine PE.imp (c h) fun σ H Q ⟨H0, F0, A0, s, T, kx, kk, w, xl, h, q⟩ => ar_of w xl h fun vs s1 us H1 h1 e1 w1 => ?_
  obtain ⟨xs, s2, hS, e2, pl, w2⟩ := prep_ok vs us s1 T _ e1 w1 h1
  obtain ⟨F1, A, w2⟩ := w2
  have w3 := w2.sub (T' := T) fun t h => List.mem_append_right _ h
  refine ⟨H1, F1, [], xs, [], _, _, ⟨F1, [], ?_⟩, rfl, hS, fun r o hr ho v H' ret => ?_, fun y o hx ho d H' w' => ?_⟩
  · refine ⟨⟨Same.refl _, w2.fz.g, Same.refl _, fun p _ h => h⟩, List.prefix_refl _, rfl, List.nodup_nil, (fun _ z => nomatch z), (fun n p c z => by simp at z), (by rw [List.length_map, List.length_map, e2]), (fun i v hv => ?_), (fun _ z => nomatch z)⟩
    obtain ⟨u, a, b⟩ := args_wd w2 xs us e2 pl (fun t h => List.mem_append_left _ h) i v hv
    exact ⟨u, a, b _⟩
  · cases List.eq_nil_of_length_eq_zero ho
    cases r with
    | d z =>
      obtain ⟨F', A', w'⟩ := ret
      have dz : Dq X.K F' v z := w'.tm (.d z, v) List.mem_cons_self
      exact q _ _ hr v H' ⟨F', A, (w3.after w'.fz).push dz⟩
    | new zs =>
      obtain ⟨F', A', w'⟩ := ret
      obtain ⟨qq, hq, rfl⟩ := w'.tm (.own 0, v) List.mem_cons_self
      have ad := w'.ad qq (List.mem_of_getElem? hq)
      have oc := w'.oc 0 qq (.dl zs) hq rfl
      have w4 := w3.after w'.fz
      have nin : qq ∉ A := fun hA => (w2.ad qq hA).2 ad.1
      refine q _ _ hr _ H' ⟨F', A ++ [qq], (w4.addL (c := .dl zs) nin (w3.fz.h.free ad.1) ad.2 oc).push ⟨qq, ?_, rfl⟩⟩
      rw [← w4.len, List.getElem?_append_right (Nat.le_refl _), Nat.sub_self]
      rfl
  · obtain ⟨F', A', w'⟩ := w'
    have px : PVOk X.K F' A (.xd y.fs) (dV d) := w'.tm (.xd y.fs, dV d) List.mem_cons_self
    exact xl y s2 hx σ H' d ⟨F', A, (w3.after w'.fz).push px⟩
theorem c_callT (C : CalT X.prog X.w X.K X.mg X.base k x ps S) (tk : Takes X W) (hr : L2H.RoomH j X.A) (ha : PA X (e :: es) (tA X.K W ws)) (hk : k ≤ j := by decide) (hg : Gl X x := by rfl)
    (hdb : (x == ("__debug__" : Str)) = false := by decide) (he : starEach (e :: es) X.env = (false, eval e X.env) :: starEach es X.env := by rfl) (hpl : (backTo pos (starEach es X.env)).any (·.1) = false := by rfl) :
    PE X (.Call (.Name x p) (e :: es) [] pos) (tE X.K W (wCall S ws)) := by
  obtain ⟨f, fd, F, m, kp, b⟩ := C.ex
  exact call_of ha fun h => pe_callT F (hr.mono hk) hg m kp b (fun σ => passAt tk σ) h hdb he hpl
end
abbrev MX := Addr → V → Option Bool
open Classical in
noncomputable def mxK (K : PySem.W.Frag) : MX := fun c v => if L2.ExcC K c then (match v with
  | .ref D => if PySem.W.exmOne K (.ref c) (.ref D) = PySem.W.kitOne K (.ref c) (.ref D) then PySem.W.exmOne K (.ref c) (.ref D) else none
  | .ty T => PySem.W.kitOne K (.ref c) (.type T)
  | _ => none) else none
structure ClsX (K : PySem.W.Frag) (D : Addr) : Prop where
  b : PySem.W.subIn K (.ref D) (.type "BaseException") = some true
  t : PySem.W.typeIn K (.ref D) = some (.type "type")
  d : PySem.W.hasDictIn K D = true
  s : PySem.W.subIn K (.ref D) (.ref D) = some true
theorem mx_ref {K : PySem.W.Frag} {c D : Addr} {b : Bool} (xc : L2.ExcC K c) (xd : ClsX K D) (h : PySem.W.subIn K (.ref c) (.ref D) = some b) : mxK K c (.ref D) = some b := by
  obtain ⟨cd, hc, _⟩ := PySem.W.any_some xd.d
  have e2 : ((PySem.W.clsIn K D).isSome && PySem.W.typeIn K (.ref D) == some (.type "type")) = true := by rw [hc, xd.t]; rfl
  have e1 : (PySem.W.subIn K (.ref D) (.type "BaseException") == some true) = true := by rw [xd.b]; rfl
  have k : PySem.W.kitCls K (.ref c) (.ref D) = some b := (if_pos e2).trans h
  have e : PySem.W.exmOne K (.ref c) (.ref D) = some b := (if_pos e1).trans k
  have o : PySem.W.kitOne K (.ref c) (.ref D) = some b := by
    unfold PySem.W.kitOne
    by_cases z : (Value.ref c == Value.ref D) = true
    · have : c = D := Value.ref.inj (beq_iff_eq.mp z)
      subst this
      rw [xd.s] at h
      rw [if_pos z]
      exact h
    · rw [if_neg z]
      exact k
  unfold mxK
  rw [if_pos xc]
  show (if _ then _ else _) = _
  rw [e, o, if_pos rfl]
theorem mx_ty {K : PySem.W.Frag} {c : Addr} {T : String} {b : Bool} (xc : L2.ExcC K c) (hT : PySem.W.kitMeta T = true) (h : PySem.W.subIn K (.ref c) (.type T) = some b) : mxK K c (.ty T) = some b := by
  unfold mxK
  rw [if_pos xc]
  show PySem.W.kitOne K (.ref c) (.type T) = some b
  unfold PySem.W.kitOne
  rw [if_neg (by intro z; cases beq_iff_eq.mp z)]
  exact (if_pos hT).trans h
theorem mx_exm {K : PySem.W.Frag} {c D : Addr} {b : Bool} (h : mxK K c (.ref D) = some b) : PySem.W.exmOne K (.ref c) (.ref D) = some b := by
  unfold mxK at h
  split at h
  · have h : (if PySem.W.exmOne K (.ref c) (.ref D) = PySem.W.kitOne K (.ref c) (.ref D) then PySem.W.exmOne K (.ref c) (.ref D) else none) = some b := h
    split at h
    · exact h
    · cases h
  · cases h
theorem mx_kit {K : PySem.W.Frag} {c : Addr} {v : V} {b : Bool} (h : mxK K c v = some b) : L2.ExcC K c ∧ ∃ cv, (∀ u, RelV v u → u = cv) ∧ PySem.W.kitOne K (.ref c) cv = some b := by
  unfold mxK at h
  split at h
  · rename_i xc
    refine ⟨xc, ?_⟩
    cases v with
    | ref D =>
      have h : (if PySem.W.exmOne K (.ref c) (.ref D) = PySem.W.kitOne K (.ref c) (.ref D) then PySem.W.exmOne K (.ref c) (.ref D) else none) = some b := h
      split at h
      · rename_i e
        exact ⟨.ref D, fun u hu => hu, by rw [← e]; exact h⟩
      · cases h
    | ty T => exact ⟨.type T, fun u hu => hu, h⟩
    | _ => cases h
  · cases h
def stO (oi : Option Nat) (v : PV) (s : PSt) : PSt := match oi with
  | none => s
  | some i => s.st i v
def clrO (oi : Option Nat) (s : PSt) : PSt := match oi with
  | none => s
  | some i => s.wipe [i]
def clrE (oi : Option Nat) (k : PEnds) : PEnds := { nx := fun s => k.nx (clrO oi s), rt := k.rt, bk := fun s => k.bk (clrO oi s), ct := fun s => k.ct (clrO oi s) }
def tryM (M : MX) : List (Addr × Option Nat × SW) → XV → PSt → KX → PEnds → Prop
  | [], x, s, kx, _ => kx x s
  | (c, oi, h) :: r, x, s, kx, k => ∃ b, M x.C (.ref c) = some b ∧ (b = true → h (fun _ _ => False) (stO oi (.exc x) s) (clrE oi k)) ∧ (b = false → tryM M r x s kx k)
def wTry (M : MX) (b : SW) (cl : List (Addr × Option Nat × SW)) : SW := fun kx s k => b (fun x s1 => tryM M cl x s1 kx k) s k
def wIsE (M : MX) (c : V) (we : EW) : EW := fun kx s k => we kx s fun x s1 => ∃ y b, x = .exc y ∧ M y.C c = some b ∧ k (.d (.bool b)) s1
inductive ClsOk (X : Cx) : List ExceptHandler → List (Addr × Option Nat × SW) → Prop
  | nil : ClsOk X [] []
  | only {x : Str} {c : Addr} {h : SW} {b₀ : Stmt} {suite : List Stmt} {np pos' : Pos} {hds : List ExceptHandler} {l : List (Addr × Option Nat × SW)} (hm : X.mg x = some (.ref c)) (hsu : ∀ (a : Addr) (pn : List (Addr × Obj)), PSs (X.suite a pn) (b₀ :: suite) (tS X.K W0 h)) (r : ClsOk X hds l)
      (hg : Gl X x := by rfl) (hdb : (x == ("__debug__" : Str)) = false := by decide) : ClsOk X (.ExceptHandler (some (.Name x np)) none (b₀ :: suite) pos' :: hds) ((c, none, h) :: l)
  | as {x n : Str} {c : Addr} {i : Nat} {h : SW} {b₀ : Stmt} {suite : List Stmt} {np pos' : Pos} {hds : List ExceptHandler} {l : List (Addr × Option Nat × SW)} (hm : X.mg x = some (.ref c)) (hN : X.N.Nodup) (hi : X.N[i]? = some n) (hln : X.env.kindOf n = some .local) (hsu : ∀ (a : Addr) (pn : List (Addr × Obj)), PSs (X.suite a pn) (b₀ :: suite) (tS X.K W0 h)) (r : ClsOk X hds l)
      (hg : Gl X x := by rfl) (hdb : (x == ("__debug__" : Str)) = false := by decide) : ClsOk X (.ExceptHandler (some (.Name x np)) (some n) (b₀ :: suite) pos' :: hds) ((c, some i, h) :: l)
theorem cls_only {X : Cx} {k : Nat} {x : Str} {c : Addr} {h : SW} {b₀ : Stmt} {suite : List Stmt} {np pos' : Pos} {hds : List ExceptHandler} {l : List (Addr × Option Nat × SW)} (hr : L2H.RoomH k X.A) (hm : X.mg x = some (.ref c)) (hsu : ∀ (a : Addr) (pn : List (Addr × Obj)), L2H.RoomH k (X.suite a pn).A → PSs (X.suite a pn) (b₀ :: suite) (tS X.K W0 h)) (r : ClsOk X hds l)
    (hg : Gl X x := by rfl) (hdb : (x == ("__debug__" : Str)) = false := by decide) : ClsOk X (.ExceptHandler (some (.Name x np)) none (b₀ :: suite) pos' :: hds) ((c, none, h) :: l) := .only hm (fun a pn => hsu a pn (roomS hr a pn)) r hg hdb
theorem cls_as {X : Cx} {k : Nat} {x n : Str} {c : Addr} {i : Nat} {h : SW} {b₀ : Stmt} {suite : List Stmt} {np pos' : Pos} {hds : List ExceptHandler} {l : List (Addr × Option Nat × SW)} (hr : L2H.RoomH k X.A) (hm : X.mg x = some (.ref c)) (hN : X.N.Nodup) (hi : X.N[i]? = some n) (hln : X.env.kindOf n = some .local) (hsu : ∀ (a : Addr) (pn : List (Addr × Obj)), L2H.RoomH k (X.suite a pn).A → PSs (X.suite a pn) (b₀ :: suite) (tS X.K W0 h)) (r : ClsOk X hds l)
    (hg : Gl X x := by rfl) (hdb : (x == ("__debug__" : Str)) = false := by decide) : ClsOk X (.ExceptHandler (some (.Name x np)) (some n) (b₀ :: suite) pos' :: hds) ((c, some i, h) :: l) := .as hm hN hi hln (fun a pn => hsu a pn (roomS hr a pn)) r hg hdb
theorem ClsOk.to {X : Cx} {hds : List ExceptHandler} {l : List (Addr × Option Nat × SW)} (h : ClsOk X hds l) : Clauses X hds (l.map fun x => (Value.ref x.1, x.2.1, tS X.K W0 x.2.2)) := by
  induction h with
  | nil => exact .nil
  | only hm hsu r hg hdb ih => exact .only ⟨hg, hdb, .inl hm⟩ hsu ih
  | as hm hN hi hln hsu r hg hdb ih => exact .as ⟨hg, hdb, .inl hm⟩ hN hi hln hsu ih
section
variable {K : PySem.W.Frag} {H0 F0 : Hp} {A0 : List Addr} {s : PSt} {σ : L2.St} {T : List (PV × V)} {H : Hp}
theorem Wd.clr {oi : Option Nat} (w : Wd K H0 F0 A0 s σ T H) : Wd K H0 F0 A0 (clrO oi s) (stI oi none σ) T H := by
  cases oi with
  | none => exact w
  | some i =>
    obtain ⟨F, A, w⟩ := w
    refine ⟨F, A, w.rel rfl ?_ fun j v e => ?_⟩
    · show (s.r.set i none).length = (σ.set i none).length
      rw [List.length_set, List.length_set]
      exact w.sl
    · have e : (s.r.set i none)[j]? = some (some v) := e
      have ne : i ≠ j := fun z => by
        subst z
        by_cases hl : i < s.r.length
        · rw [List.getElem?_set_self hl] at e; cases e
        · rw [List.getElem?_eq_none (by rw [List.length_set]; omega)] at e; cases e
      rw [List.getElem?_set_ne ne] at e
      exact ⟨e, fun u hu => by show (σ.set i none)[j]? = _; rw [List.getElem?_set_ne ne]; exact hu⟩
theorem wish_of {W : WX} {D : Ends} {kx : KX} {k : PEnds} (xl : XL K H0 F0 A0 T W kx) (q1 : ∀ s', k.nx s' → ∀ σ' H', Wd K H0 F0 A0 s' σ' T H' → D.nx σ' H') (q2 : ∀ v s', k.rt v s' → ∀ u σ' H', Wd K H0 F0 A0 s' σ' ((v, u) :: T) H' → D.rt u H')
    (q3 : ∀ s', k.bk s' → ∀ σ' H', Wd K H0 F0 A0 s' σ' T H' → D.bk σ' H') (q4 : ∀ s', k.ct s' → ∀ σ' H', Wd K H0 F0 A0 s' σ' T H' → D.ct σ' H') (x : XV) (s' : PSt) (σ' : L2.St) (H' : Hp) (d : Option Addr) (w : Wd K H0 F0 A0 s' σ' ((.xd x.fs, dV d) :: T) H') :
    ∀ cl : List (Addr × Option Nat × SW), tryM (mxK K) cl x s' kx k → wishes K W D (cl.map fun x => (Value.ref x.1, x.2.1, tS K W0 x.2.2)) (.ref x.C) d σ' H'
  | [], h => xl x s' h σ' H' d w
  | (c, oi, h) :: r, ⟨b, hb, yes, no⟩ => by
    refine ⟨b, mx_exm hb, fun e a oe ha hz hf => ?_, fun e => wish_of xl q1 q2 q3 q4 x s' σ' H' d w r (no e)⟩
    obtain ⟨F, A, w⟩ := w
    obtain ⟨d', ed, hd⟩ := (show PVOk K F A (.xd x.fs) (dV d) from w.tm _ List.mem_cons_self)
    have e' : d' = d := by
      cases d' <;> cases d <;> first | rfl | (cases ed; done) | (cases ed; rfl)
    subst e'
    have fa : F a = none := w.fz.g.free ha
    have w2 := (w.sub (T' := T) fun t m => List.mem_cons_of_mem _ m).newD (o := excO a oe) ha
    have pe : PVOk K (upd F a (excO a oe)) A (.exc x) (.ref a) := ⟨a, oe, d', rfl, upd_same, hz, hf, hd.same (same_new fa)⟩
    refine ⟨H0, F0, A0, stO oi (.exc x) s', T, fun _ _ => False, clrE oi k, ?_, XL.none, yes e, fun s1 h1 σ1 H1 w1 => q1 _ h1 _ _ w1.clr, q2, fun s1 h1 σ1 H1 w1 => q3 _ h1 _ _ w1.clr, fun s1 h1 σ1 H1 w1 => q4 _ h1 _ _ w1.clr⟩
    cases oi with
    | none => exact ⟨_, A, w2⟩
    | some i => exact ⟨_, A, w2.st pe⟩
end
section
variable {X : Cx} {W : WX} {body : List Stmt} {hd0 : ExceptHandler} {hds : List ExceptHandler} {cl : List (Addr × Option Nat × SW)} {pos p : Pos} {wb : SW} {a e : Expr} {we : EW}
theorem s_try (hst : X.stack = X.env :: X.outer) (hfr : X.env.frame = some X.env.locals) (hex : X.ex = []) (tk : Takes X W)
    (hbody : ∀ (W' : WX) (pn : List (Addr × Obj)) (xe : Value → Shared → Prop), Takes (X.tr pn xe) W' → PassesOwn (model X.prog X.w) X.A X.env xe → PSs (X.tr pn xe) body (tS X.K W' wb))
    (hcl : ClsOk X (hd0 :: hds) cl) : PS X (.Try body (hd0 :: hds) [] [] pos) (tS X.K W (wTry (mxK X.K) wb cl)) := by
  refine PS.imp (ps_tryT hst hfr hex tk hbody hcl.to) fun D σ H ⟨H0, F0, A0, s, T, kx, k, w, xl, h, q1, q2, q3, q4⟩ => ?_
  exact ⟨H0, F0, A0, s, T, _, k, w, fun x s' hx σ' H' d w' => wish_of xl q1 q2 q3 q4 x s' σ' H' d w' cl hx, h, q1, q2, q3, q4⟩
theorem isE_of {c : V} {σ : L2.St} {H : Hp} {Q : VK} (h : tE X.K W (wIsE (mxK X.K) c we) σ H Q) : tE X.K W we σ H fun x H1 => rIsT X.K [x, c] H1 Q := by
  obtain ⟨H0, F0, A0, s, T, kx, k, w, xl, h, q⟩ := h
  refine un_of w xl h fun x s1 u H1 h1 w1 => ?_
  obtain ⟨y, b, rfl, hb, hk⟩ := h1
  obtain ⟨F, A, w1⟩ := w1
  obtain ⟨xc, cv, hcv, hkit⟩ := mx_kit hb
  obtain ⟨a, oe, d, rfl, hx, hz, hf, hd⟩ := (show PVOk X.K F A (.exc y) u from w1.tm _ List.mem_cons_self)
  refine ⟨a, y.C, oe, d, c, cv, b, rfl, ⟨w1.fz.g _ _ hx, hz, hf, ?_⟩, xc, hcv, hkit, q _ _ hk _ H1 ⟨F, A, (w1.sub fun t h => List.mem_cons_of_mem _ h).push (.bl _)⟩⟩
  cases hy : y.fs with
  | none => rw [hy] at hd; exact .inl hd
  | some l =>
    rw [hy] at hd
    obtain ⟨dd, vl, h1, h2, _⟩ := hd
    exact .inr ⟨dd, vl, h1, w1.fz.g _ _ h2⟩
theorem e_isE {x : Str} {C : Addr} {q1 : Pos} (hi : X.mg "isinstance" = none) (hm : X.mg x = some (.ref C)) (ha : PE X a (tE X.K W we)) (hgx : Gl X x := by rfl) (hg : Gl X "isinstance" := by rfl) (hdb : (x == ("__debug__" : Str)) = false := by decide)
    (he : starEach [a, .Name x q1] X.env = (false, eval a X.env) :: starEach [.Name x q1] X.env := by rfl) (he2 : starEach [.Name x q1] X.env = (false, eval (.Name x q1) X.env) :: starEach [] X.env := by rfl) (hpl : (backTo pos (starEach [.Name x q1] X.env)).any (·.1) = false := by rfl) :
    PE X (.Call (.Name "isinstance" p) [a, .Name x q1] [] pos) (tE X.K W (wIsE (mxK X.K) (.ref C) we)) := by
  have pt : PE X (.Name x q1) (tC (.ref C)) := pe_glob hgx hm rfl hdb
  exact PE.imp (pe_callB call_isT hg hi (by decide +kernel) (pa_cons ha (pa_cons pt pa_nil he2) he) (he := he) (hpl := hpl)) fun σ H Q h => isE_of h
theorem e_isEB {x : Str} {B : String} {q1 : Pos} (hi : X.mg "isinstance" = none) (hm : X.mg x = none) (hb : bootBuiltins x = some (.type B)) (ha : PE X a (tE X.K W we)) (hgx : Gl X x := by rfl) (hg : Gl X "isinstance" := by rfl) (hn : x ≠ "__name__" := by decide) (hdb : (x == ("__debug__" : Str)) = false := by decide)
    (he : starEach [a, .Name x q1] X.env = (false, eval a X.env) :: starEach [.Name x q1] X.env := by rfl) (he2 : starEach [.Name x q1] X.env = (false, eval (.Name x q1) X.env) :: starEach [] X.env := by rfl) (hpl : (backTo pos (starEach [.Name x q1] X.env)).any (·.1) = false := by rfl) :
    PE X (.Call (.Name "isinstance" p) [a, .Name x q1] [] pos) (tE X.K W (wIsE (mxK X.K) (.ty B) we)) := by
  have pt : PE X (.Name x q1) (tC (.ty B)) := pe_bltn hgx hm hb rfl hn hdb
  exact PE.imp (pe_callB call_isT hg hi (by decide +kernel) (pa_cons ha (pa_cons pt pa_nil he2) he) (he := he) (hpl := hpl)) fun σ H Q h => isE_of h
end
end PW
namespace PW
open PySem L2
section
variable {K : PySem.W.Frag} {F : Hp} {A : List Addr}
theorem PVAll.len : ∀ {ps : List PV} {us : List V}, PVAll K F A ps us → us.length = ps.length
  | [], [], _ => rfl
  | _ :: _, _ :: _, ⟨_, r⟩ => congrArg Nat.succ (PVAll.len r)
  | [], _ :: _, h => h.elim
  | _ :: _, [], h => h.elim
theorem PVAll.at : ∀ {ps : List PV} {us : List V}, PVAll K F A ps us → ∀ (i : Nat) v, ps[i]? = some v → ∃ u, us[i]? = some u ∧ PVOk K F A v u
  | [], [], _, _, _, e => by simp at e
  | p :: ps, u :: us, ⟨h, _⟩, 0, v, e => by
    have e : p = v := Option.some.inj e
    subst e
    exact ⟨u, rfl, h⟩
  | _ :: _, _ :: _, ⟨_, r⟩, i + 1, v, e => PVAll.at r i v e
  | [], _ :: _, h, _, _, _ => h.elim
  | _ :: _, [], h, _, _, _ => h.elim
theorem PVAll.of : ∀ {ps : List PV} {us : List V} {T : List (PV × V)}, us.length = ps.length → (∀ t ∈ ps.zip us, PVOk K F A t.1 t.2) → PVAll K F A ps us
  | [], [], _, _, _ => True.intro
  | p :: ps, u :: us, T, e, h => ⟨h (p, u) List.mem_cons_self, PVAll.of (T := T) (Nat.succ.inj e) fun t m => h t (List.mem_cons_of_mem _ m)⟩
  | [], _ :: _, _, e, _ => nomatch e
  | _ :: _, [], _, e, _ => nomatch e
theorem PVAll.app : ∀ {ps : List PV} {us : List V} {qs : List PV} {vs : List V}, PVAll K F A ps us → PVAll K F A qs vs → PVAll K F A (ps ++ qs) (us ++ vs)
  | [], [], _, _, _, h => h
  | _ :: _, _ :: _, _, _, ⟨h, r⟩, q => ⟨h, PVAll.app r q⟩
  | [], _ :: _, _, _, h, _ => h.elim
  | _ :: _, [], _, _, h, _ => h.elim
theorem PVAll.tk : ∀ {ps : List PV} {us : List V} (n : Nat), PVAll K F A ps us → PVAll K F A (ps.take n) (us.take n)
  | _, _, 0, _ => by rw [List.take_zero, List.take_zero]; exact True.intro
  | [], [], _ + 1, _ => True.intro
  | _ :: _, _ :: _, n + 1, ⟨h, r⟩ => ⟨h, PVAll.tk n r⟩
  | [], _ :: _, _ + 1, h => h.elim
  | _ :: _, [], _ + 1, h => h.elim
theorem PVAll.dr : ∀ {ps : List PV} {us : List V} (n : Nat), PVAll K F A ps us → PVAll K F A (ps.drop n) (us.drop n)
  | _, _, 0, h => h
  | [], [], _ + 1, _ => True.intro
  | _ :: _, _ :: _, n + 1, ⟨_, r⟩ => PVAll.dr n r
  | [], _ :: _, _ + 1, h => h.elim
  | _ :: _, [], _ + 1, h => h.elim
theorem PVAll.dl : ∀ {vs : List V} {xs : List PyData}, DqAll K F vs xs → PVAll K F A (xs.map PV.d) vs
  | _, _, .nil => True.intro
  | _, _, .cons h r => ⟨h, PVAll.dl r⟩
variable {H0 F0 : Hp} {A0 : List Addr} {s : PSt} {σ : L2.St} {T : List (PV × V)} {H : Hp}
end
def titems : PV → Option (List PV)
  | .tp ps => some ps
  | .d (.tuple xs) => some (xs.map PV.d)
  | _ => none
def wTupM (ws : AW) : EW := fun kx s k => ws kx s fun vs s1 => vs.length ≤ sizeLine ∧ k (.tp vs) s1
abbrev GWM := PV → PSt → (PSt → Prop) → Prop
def gNM (i : Nat) : GWM := fun v s k => k (s.st i v)
abbrev GWMs := List PV → PSt → (PSt → Prop) → Prop
def gTM (n : Nat) (gs : GWMs) : GWM := fun v s k => ∃ ps, titems v = some ps ∧ ps.length = n ∧ gs ps s k
def gsNilM : GWMs := fun ps s k => ps = [] ∧ k s
def gsConsM (g : GWM) (gs : GWMs) : GWMs := fun ps s k => ∃ v r, ps = v :: r ∧ g v s fun s1 => gs r s1 k
def wUnpM (we : EW) (g : GWM) : SW := fun kx s k => we kx s fun v s1 => g v s1 k.nx
section
variable {X : Cx} {W : WX} {a b e o wo_e : Expr} {es : List Expr} {wa wb we wo : EW} {ws : AW} {wl wh : OW} {pos p : Pos}
end
end PW
namespace PW
open PySem L2
section
variable {X : Cx} {W : WX} {a b e o wo_e : Expr} {es : List Expr} {wa wb we wo : EW} {ws : AW} {wl wh : OW} {pos p : Pos}
theorem PVAll.zip {K : PySem.W.Frag} {F : Hp} {A : List Addr} : ∀ {ps : List PV} {us : List V}, PVAll K F A ps us → ∀ t ∈ ps.zip us, PVOk K F A t.1 t.2
  | [], _, _, _, m => nomatch m
  | p :: ps, u :: us, ⟨h, r⟩, t, m => by
    rcases List.mem_cons.mp m with e | m
    · rw [e]; exact h
    · exact PVAll.zip r t m
  | _ :: _, [], h, _, _ => h.elim
end
end PW
namespace PW
open PySem L2
section
variable {X : Cx} {W : WX} {elt tg iter c : Expr} {ifs : List Expr} {scope : Scope} {own : List (Str × Nat)} {pos : Pos} {wl : EW} {g : GWM} {tt : TW} {we : EW} {L : List Nat}
end
end PW
namespace PW
open PySem PySem.Spec PyProof.Rows L2
section
variable {X : Cx} {W : WX} {e o : Expr} {we wo : EW} {pos p : Pos} {y z : Str} {j k : Nat} {c0 c1 p2 : Pos} {i : Int}
end
end PW

namespace PW
open PySem L2
def lendA (H : Hp) (A : List Addr) : Hp := fun b => if b ∈ A then none else H b
theorem lendA_out {H : Hp} {A : List Addr} {b : Addr} (h : b ∉ A) : lendA H A b = H b := if_neg h
theorem lendA_in {H : Hp} {A : List Addr} {b : Addr} (h : b ∈ A) : lendA H A b = none := if_pos h
section
variable {K : PySem.W.Frag} {H0 F0 : Hp} {A0 : List Addr} {s : PSt} {σ : L2.St} {T : List (PV × V)} {H F : Hp} {A : List Addr}
theorem WdF.afterH {s' : PSt} {σ' : L2.St} {T' : List (PV × V)} {H' F' : Hp} {A' : List Addr} (w : WdF K H0 F0 A0 s σ T H F A) (z : WdF K (lendA H A) F A s' σ' T' H' F' A') : WdF K H0 F0 A0 ⟨s.r, s'.o⟩ σ T H' F' A' where
  fz := ⟨w.fz.f.trans z.fz.f, z.fz.g, fun a u e => z.fz.h a u (by
      rw [lendA_out fun ha => by rw [(w.ad a ha).1] at e; cases e]
      exact w.fz.h a u e), fun p h1 h2 => z.fz.n p (by
      rw [lendA_out fun ha => h1 (w.ad p ha).1]
      exact fun e => h1 (w.fz.h.free e)) (w.fz.n p h1 h2)⟩
  pre := w.pre.trans z.pre
  len := z.len
  nd := z.nd
  ad := fun q hq => ⟨by
    by_cases h : q ∈ A
    · exact (w.ad q h).1
    · have := (z.ad q hq).1
      rw [lendA_out h] at this
      exact w.fz.h.free this, (z.ad q hq).2⟩
  oc := z.oc
  sl := w.sl
  pv := fun i v h => by
    obtain ⟨u, a, b⟩ := w.pv i v h
    exact ⟨u, a, b.mono z.fz.f z.pre⟩
  tm := fun t ht => (w.tm t ht).mono z.fz.f z.pre
theorem WdF.forH (w : WdF K H0 F0 A0 s σ T H F A) (xs : List PV) (us : List V) (e : us.length = xs.length) (ht : ∀ t ∈ xs.zip us, t ∈ T) : WdF K (lendA H A) F A ⟨xs.map some, s.o⟩ (us.map some) [] H F A where
  fz := ⟨Same.refl _, w.fz.g, fun a u h => by
    by_cases ha : a ∈ A
    · rw [lendA_in ha] at h; cases h
    · rw [lendA_out ha] at h; exact h, fun _ _ h => h⟩
  pre := List.prefix_refl _
  len := w.len
  nd := w.nd
  ad := fun p hp => ⟨lendA_in hp, (w.ad p hp).2⟩
  oc := w.oc
  sl := by show (xs.map some).length = (us.map some).length; rw [List.length_map, List.length_map, e]
  pv := fun i v hv => by
    have hv : (xs.map some)[i]? = some (some v) := hv
    rw [List.getElem?_map] at hv
    cases hx : xs[i]? with
    | none => rw [hx] at hv; cases hv
    | some y =>
      rw [hx] at hv
      have hv : some y = some v := Option.some.inj hv
      cases hv
      have hi : i < xs.length := (List.getElem?_eq_some_iff.mp hx).1
      have hu : us[i]? = some us[i] := List.getElem?_eq_getElem (by rw [e]; exact hi)
      refine ⟨us[i], by rw [List.getElem?_map, hu]; rfl, ?_⟩
      have hz : (xs.zip us)[i]? = some (v, us[i]) := by
        rw [List.getElem?_zip_eq_some]
        exact ⟨hx, hu⟩
      exact w.tm _ (ht _ (List.mem_of_getElem? hz))
  tm := fun _ z => nomatch z
end
def wCallH (S : FS) (ws : AW) : EW := fun kx s k => ws kx s fun vs s1 => S vs s1.o
  (fun r o => match r with | .d z => k (.d z) ⟨s1.r, o⟩ | .new zs => k (.own o.length) ⟨s1.r, o ++ [.dl zs]⟩) (fun x o => kx x ⟨s1.r, o⟩)
section
variable {X : Cx} {W : WX} {k j : Nat} {ps : List Str} {S : FS} {x : Str} {p pos : Pos} {e : Expr} {es : List Expr} {ws : AW} {f : Addr} {fd : FuncData}
end
section
variable {P : Program} {w : World} {K : PySem.W.Frag} {mg : Str → Option Value} {base : Heap}
theorem Dfd.cal0 {x : Str} {ps : List Str} {st : Stmt} {k : Nat} {S : FS} (D : Dfd K mg x ps st) (z : ∀ args o r e, ¬ S args o r e) : Cal P w K mg base k x ps S := by
  obtain ⟨f, fd, F, m, b⟩ := D.ex
  refine ⟨f, fd, ⟨fun vs H Q E h => ?_, fun A outer s H args us vs Q E _ _ _ _ h => ?_⟩, m, F.kp, b⟩
  · obtain ⟨_, _, _, _, _, _, _, _, _, h, _⟩ := h
    exact (z _ _ _ _ h).elim
  · obtain ⟨_, _, _, _, _, _, _, _, _, h, _⟩ := h
    exact (z _ _ _ _ h).elim
end
end PW
namespace PW
open PySem L2 PyProof.Rows
section
variable {X : Cx} {W : WX} {a b : Expr} {wa wb : EW} {pos : Pos}
end
end PW

namespace PW
open PySem L2
theorem dqAll_ints {K : PySem.W.Frag} {H : Hp} : ∀ {bs : List Int} {vs : List V}, DqAll K H vs (bs.map PyData.int) → vs = bs.map V.int
  | [], _, .nil => rfl
  | b :: bs, _, .cons h t => by
    cases h
    rw [dqAll_ints t]
    rfl
def wSum (wa : EW) : EW := fun kx s k => wa kx s fun x s1 => ∃ ns : List Int, dat s1 x = some (.list (ns.map PyData.int)) ∧ k (.d (.int ns.sum)) s1
section
variable {X : Cx} {W : WX} {a : Expr} {wa : EW} {pos p : Pos}
theorem e_sum (hc : X.calm = true) (hm : X.mg "sum" = none) (ha : PE X a (tE X.K W wa)) (hg : Gl X "sum" := by rfl) (he : starEach [a] X.env = (false, eval a X.env) :: starEach [] X.env := by rfl) (hpl : (backTo pos (starEach [] X.env)).any (·.1) = false := by rfl) :
    PE X (.Call (.Name "sum" p) [a] [] pos) (tE X.K W (wSum wa)) := by
  refine PE.imp (pe_callB (cr_sum hc) hg hm (by decide +kernel) (pa_cons ha pa_nil he) (he := he) (hpl := hpl)) fun σ H Q ⟨H0, F0, A0, s, T, kx, k, w, xl, h, q⟩ => cb1_of w xl h fun x s1 u H1 h1 w1 => ?_
  obtain ⟨bs, hd, hk⟩ := h1
  obtain ⟨F, A, w1⟩ := w1
  obtain ⟨pp, vs, rfl, h1, h2⟩ := items_ok w1 (w1.tm _ List.mem_cons_self) hd
  cases dqAll_ints h2
  exact ⟨pp, bs, rfl, h1, q _ _ hk _ _ ⟨F, A, (w1.sub (T' := T) fun t h => List.mem_cons_of_mem _ h).push (.int _)⟩⟩
end
end PW
namespace PW
open PySem L2
section
variable {X : Cx} {W : WX} {a b : Expr} {wa wb : EW} {pos p : Pos}
end
end PW

namespace PW
open PySem L2 PySem.Spec PyProof.Rows
section
variable {X : Cx} {W : WX} {a wo_e : Expr} {wa wo : EW} {pos : Pos}
def rCntD (K : PySem.W.Frag) : V → List V → Hp → VK → Prop := fun x xs H Q => ∃ (a : Addr) (y : V) (d : PyData) (ds : List PyData), x = V.ref a ∧ xs = [y] ∧ Dp K H (V.ref a) (.list ds) ∧ Dp K H y d ∧
  SeqAt.shaped (.list ds) = true ∧ SeqAt.shaped d = true ∧ Q (.int ((ds.countP fun z => PyData.eqv z d : Nat))) H
theorem mt_lcountD (hu : X.A.units + 65 < cLine) : MtR X "list.count" (rCntD X.K) := by
  intro pins s σ H x xs v us Q I rx rxs h
  obtain ⟨a, y, d, ds, rfl, rfl, hl, hy, sl, sd, q⟩ := h
  cases rx
  cases rxs with
  | cons ry rt =>
    rename_i uy ut
    cases rt
    obtain ⟨bs, r1⟩ := Dp.reads I d y uy hy ry
    have hxs : PyData.canLayAll0 ds = true := SeqAt.canLay_of_shaped sl
    have hroom : X.A.units + 1 + min (PyData.depthAll ds) d.depth < cLine := room_in_shaped sd hu
    cases hl with
    | lst hs ha =>
      obtain ⟨its, rv, ⟨⟨cls, dd, data, sls⟩, n, ho, hc, hdn, hdt⟩, hlen⟩ := I.list hs
      simp only at hc hdt
      subst hc hdt
      obtain ⟨as, h4⟩ := Dp.readsAll I ds _ its ha rv
      have hmap : its.map (SeqAt.readOf s.heap) = ds := SeqAt.readsAll_map ds its as hxs h4
      refine call_meets PySem.F.slot_list_count ⟨_, ho, rfl⟩ PySem.F.entry_list_count (PySem.F.args_list_count_2 _ _)
        (SeqAt.list_countAt a its.toArray n dd sls uy (fun u => PyData.eqv (SeqAt.readOf s.heap u) d)) ⟨ho, SeqAt.items_eqAt (vs := its.toArray) (show ReadsAll s.heap its.toArray.toList ds as from h4) r1 hxs (SeqAt.canLay_of_shaped sd) hroom, ?_⟩
      have ec : its.toArray.toList.countP (fun u => PyData.eqv (SeqAt.readOf s.heap u) d) = ds.countP fun z => PyData.eqv z d := by
        rw [← hmap, List.countP_map]
        rfl
      refine ⟨.int ((ds.countP fun z => PyData.eqv z d : Nat)), H, I.tok _, ⟨s.toks, ?_⟩, q⟩
      show Value.int ((its.toArray.toList.countP (fun u => PyData.eqv (SeqAt.readOf s.heap u) d) : Nat) : Int) s.toks = _
      rw [ec]
def wCount (wo we : EW) : EW := fun kx s k => wo kx s fun x s1 => (∃ xs, dat s1 x = some (.list xs)) ∧ we kx s1 fun y s2 => ∃ xs b, dat s2 x = some (.list xs) ∧ dat s2 y = some b ∧ SeqAt.shaped (.list xs) = true ∧ SeqAt.shaped b = true ∧ k (.d (.int ((xs.countP fun z => PyData.eqv z b : Nat)))) s2
theorem e_count {apos : Pos} (hu : X.A.units + 65 < cLine) (ho : PE X wo_e (tE X.K W wo)) (ha : PE X a (tE X.K W wa))
    (hbase : attributeBase wo_e "count" X.env (eval wo_e X.env) = eval wo_e X.env := by rfl)
    (hfew : ((backTo pos (starEach [a] X.env)).all (fun x => !x.1) && (backToKw pos (keywordEach [] X.env)).all (fun x => x.1.isSome)
      && decide ([a].length + ([] : List Keyword).length + (if ([] : List Keyword).isEmpty then 0 else 1) < 30)) = true := by rfl)
    (hline : (apos.endLine == pos.line) = true := by rfl) (hs : starEach [a] X.env = (false, eval a X.env) :: starEach [] X.env := by rfl) (hplain : (backTo pos (starEach [] X.env)).any (·.1) = false := by rfl) :
    PE X (.Call (.Attribute wo_e "count" apos) [a] [] pos) (tE X.K W (wCount wo wa)) := by
  refine PE.imp (pe_bm PySem.F.plainAttrs_list PySem.F.slot_list_count PySem.F.type_list_count (mt_lcountD hu) ho (pa_cons ha pa_nil hs) hbase hfew hline hs hplain) fun σ H Q ⟨H0, F0, A0, s, T, kx, k, w, xl, h, q⟩ => ?_
  refine ⟨H0, F0, A0, s, T, kx, _, w, xl, h, fun x s1 h1 u H1 w1 => ?_⟩
  obtain ⟨⟨ws, ow⟩, h1⟩ := h1
  have ty : tyV X.K "list" u H1 := by
    obtain ⟨F, A, w1⟩ := w1
    obtain ⟨p, vs, rfl, hv, _⟩ := items_ok w1 (w1.tm _ List.mem_cons_self) ow
    exact .inl ⟨rfl, vs, hv⟩
  refine ⟨ty, H0, F0, A0, s1, _, kx, _, w1, xl.push, h1, fun y s2 h2 v H2 w2 => ?_⟩
  obtain ⟨xs, b, ox, oy, sh1, sh2, hk⟩ := h2
  obtain ⟨F, A, w3⟩ := w2
  obtain ⟨p, vs, rfl, hv, hd⟩ := items_ok w3 (w3.tm _ (List.mem_cons_of_mem _ List.mem_cons_self)) ox
  have e1 := dat_ok w3 (w3.tm _ (List.mem_cons_of_mem _ List.mem_cons_self)) ox
  have e2 := dat_ok w3 (w3.tm _ List.mem_cons_self) oy
  exact ⟨p, v, b, xs, rfl, rfl, e1, e2, sh1, sh2, q _ _ hk _ _ ⟨F, A, (w3.sub (T' := T) fun t h => List.mem_cons_of_mem _ (List.mem_cons_of_mem _ h)).push (.int _)⟩⟩
end
end PW
namespace PW
open PySem L2
section
variable {X : Cx} {W : WX} {a b : Expr} {wa wb : EW} {p pos p2 pos2 : Pos}
end
end PW
namespace PW
open PySem L2
section
variable {X : Cx} {W : WX} {a : Expr} {wa : EW} {pos p : Pos}
end
end PW

namespace PW
open PySem L2 PySem.Spec PyProof.Rows
def dumpG (g : Addr → Option Obj) : Nat → PySem.W.Frag
  | 0 => []
  | n + 1 => match g n with
    | some o => (n, o) :: dumpG g n
    | none => dumpG g n
theorem dumpG_ok (g : Addr → Option Obj) : ∀ (n : Nat) (a : Addr) (o : Obj), (dumpG g n).lookup a = some o → g a = some o
  | 0, a, o, h => nomatch h
  | n + 1, a, o, h => by
    unfold dumpG at h
    cases e : g n with
    | none => rw [e] at h; exact dumpG_ok g n a o h
    | some x =>
      rw [e] at h
      have h : ((n, x) :: dumpG g n).lookup a = some o := h
      rw [List.lookup_cons] at h
      by_cases c : a = n
      · subst c
        rw [beq_self_eq_true] at h
        cases h
        exact e
      · rw [show (a == n) = false from by simpa using c] at h
        exact dumpG_ok g n a o h
def frHook {α : Type} (F : PySem.W.Frag → α) (v : World → α) : PySem.W.Hook where
  α := α
  obs s := F (dumpG s.heap.get? s.heap.objs.size)
  val := v
  says w h := ∃ K : PySem.W.Frag, K.In h ∧ F K = v w
  of w s e := ⟨_, dumpG_ok s.heap.get? _, e⟩
  keeps w h h' := fun ⟨K, X, e⟩ k => ⟨K, X.keeps k, e⟩
def frOb {α : Type} (F : PySem.W.Frag → α) (s : PySem.W.SharedT) : α := F (dumpG (HandSHeadRun.getT s) s.n)
theorem frOb_eq {α : Type} (F : PySem.W.Frag → α) (v : World → α) (s : PySem.W.SharedT) : frOb F s = (frHook F v).obs s.abs := by
  show F (dumpG (HandSHeadRun.getT s) s.n) = F (dumpG s.abs.heap.get? s.abs.heap.objs.size)
  rw [show HandSHeadRun.getT s = s.abs.heap.get? from funext (HandSHeadRun.getT_eq s)]
  rw [show s.abs.heap.objs.size = s.n from PySem.W.absHeap_size s.tree s.n _]
section
variable {K : PySem.W.Frag}
open PySem.W
def adr (K : PySem.W.Frag) (x : Str) : Option Addr := match nsIn K mainGlobals x with
  | some (some (.ref f)) => some f
  | _ => none
theorem adr_ok {x : Str} {f : Addr} (h : adr K x = some f) : nsIn K mainGlobals x = some (some (.ref f)) := by
  unfold adr at h
  split at h
  · rename_i e; cases h; exact e
  · cases h
abbrev FO := Arguments × List Stmt × Scope × Option (List PyData)
def foAt (K : PySem.W.Frag) (f : Addr) (n q : Str) : Option FO := match K.lookup f with
  | some ⟨_, _, .func ⟨name, qual, params, .stmts body, scope, globals, [], dV, _, _, _, _, code, _, bi⟩, _⟩ =>
    match decide (name = n) && decide (qual = q) && decide (globals = mainGlobals) && decide (bi = builtinsNs) && codeIn K code q && keepIn K (.ref f) with
    | true => (match dV with
      | .none => some (params, body, scope, none)
      | .ref d => (match K.lookup d with
        | some ⟨_, _, .seq its _, _⟩ => (vDs its.toList).map fun ds => (params, body, scope, some ds)
        | _ => none)
      | _ => none)
    | false => none
  | _ => none
theorem foAt_ok {f : Addr} {n q : Str} {A : Arguments} {B : List Stmt} {S : Scope} {D : Option (List PyData)} (h : foAt K f n q = some (A, B, S, D)) :
    ∃ (dV : Value) (oc : Value) (od an : Option Addr) (sl : Array (Option Value)) (kV dc pm cd ct : Value), K.lookup f = some ⟨oc, od, .func (fnOf n q A B S dV kV dc pm an cd ct), sl⟩ ∧ codeIn K cd q = true ∧ keepIn K (.ref f) = true ∧
      ((dV = .none ∧ D = none) ∨ ∃ (dT : Addr) (dc2 : Value) (dd2 : Option Addr) (its : Array Value) (dn : Nat) (ds2 : Array (Option Value)) (ds : List PyData), dV = .ref dT ∧ D = some ds ∧ K.lookup dT = some ⟨dc2, dd2, .seq its dn, ds2⟩ ∧ vDs its.toList = some ds) := by
  unfold foAt at h
  split at h
  · rename_i oc od name qual params body scope globals dV kV doc pm an code ct bi sl e
    split at h
    · rename_i c
      simp only [Bool.and_eq_true, decide_eq_true_eq] at c
      obtain ⟨⟨⟨⟨⟨rfl, rfl⟩, rfl⟩, rfl⟩, c1⟩, c2⟩ := c
      split at h
      · cases h
        exact ⟨_, _, _, _, _, _, _, _, _, _, e, c1, c2, .inl ⟨rfl, rfl⟩⟩
      · rename_i d
        split at h
        · rename_i e2
          obtain ⟨ds, h1, h2⟩ := Option.map_eq_some_iff.mp h
          cases h2
          exact ⟨_, _, _, _, _, _, _, _, _, _, e, c1, c2, .inr ⟨_, _, _, _, _, _, _, rfl, rfl, e2, h1⟩⟩
        · cases h
      · cases h
    · cases h
  · cases h
end
end PW

namespace PW
open PySem L2 PySem.Spec PyProof.Rows PySem.W
section
variable {K : PySem.W.Frag}
def isB (o : Option (Option Value)) (b : String) : Bool := match o with
  | some (some (.builtin x)) => decide (x = b)
  | _ => false
theorem isB_ok {o : Option (Option Value)} {b : String} (h : isB o b = true) : o = some (some (.builtin b)) := by
  unfold isB at h
  split at h
  · rw [of_decide_eq_true h]
  · cases h
def isNo (o : Option (Option Value)) : Bool := match o with
  | some none => true
  | _ => false
theorem isNo_ok {o : Option (Option Value)} (h : isNo o = true) : o = some none := by
  unfold isNo at h
  split at h
  · rfl
  · cases h
def isBo (o : Option Bool) (b : Bool) : Bool := match o with
  | some x => decide (x = b)
  | _ => false
theorem isBo_ok {o : Option Bool} {b : Bool} (h : isBo o b = true) : o = some b := by
  unfold isBo at h
  split at h
  · rw [of_decide_eq_true h]
  · cases h
def isTy (o : Option Value) (b : String) : Bool := match o with
  | some (.type x) => decide (x = b)
  | _ => false
theorem isTy_ok {o : Option Value} {b : String} (h : isTy o b = true) : o = some (.type b) := by
  unfold isTy at h
  split at h
  · rw [of_decide_eq_true h]
  · cases h
def onA (K : PySem.W.Frag) (x : Str) (q : Addr → Bool) : Bool := match adr K x with
  | some C => q C
  | none => false
theorem onA_ok {x : Str} {q : Addr → Bool} {C : Addr} (na : nsIn K mainGlobals x = some (some (.ref C))) (h : onA K x q = true) : q C = true := by
  unfold onA adr at h
  rw [na] at h
  exact h
def fCls (K : PySem.W.Frag) (x : Str) : Bool := onA K x fun _ => true
theorem cls_ok {x : Str} (h : fCls K x = true) : ∃ C, nsIn K mainGlobals x = some (some (.ref C)) := by
  unfold fCls onA at h
  split at h
  · rename_i C e; exact ⟨C, adr_ok e⟩
  · cases h
def fExc (K : PySem.W.Frag) (x : Str) : Bool := onA K x fun C => excIn K C [.type "ValueError", .type "Exception", .type "BaseException", .type "object"] "ValueError.__new__" && keepIn K (.ref C) && isBo (subIn K (.ref C) (.type "BaseException")) true && isTy (typeIn K (.ref C)) "type"
theorem exc_ok {x : Str} {C : Addr} (na : nsIn K mainGlobals x = some (some (.ref C))) (h : fExc K x = true) : excIn K C [.type "ValueError", .type "Exception", .type "BaseException", .type "object"] "ValueError.__new__" = true ∧ keepIn K (.ref C) = true ∧ subIn K (.ref C) (.type "BaseException") = some true ∧ typeIn K (.ref C) = some (.type "type") := by
  have h := onA_ok na h
  simp only [Bool.and_eq_true] at h
  obtain ⟨⟨⟨h1, h2⟩, h3⟩, h4⟩ := h
  exact ⟨h1, h2, isBo_ok h3, isTy_ok h4⟩
def fEx (K : PySem.W.Frag) (x : Str) : Bool := onA K x fun C => isB (findIn K (.ref C) "__getattribute__") "BaseException.__getattribute__" && isNo (findIn K (.ref C) "__getattr__") && hasDictIn K C && isB (findIn K (.ref C) "__class__") "object.__class__" && isBo (mroIn K C (.type "object")) true && isBo (subIn K (.ref C) (.type "BaseException")) true
theorem ex_ok {x : Str} {C : Addr} (na : nsIn K mainGlobals x = some (some (.ref C))) (h : fEx K x = true) : findIn K (.ref C) "__getattribute__" = some (some (.builtin "BaseException.__getattribute__")) ∧ findIn K (.ref C) "__getattr__" = some none ∧ hasDictIn K C = true ∧ findIn K (.ref C) "__class__" = some (some (.builtin "object.__class__")) ∧ mroIn K C (.type "object") = some true ∧ subIn K (.ref C) (.type "BaseException") = some true := by
  have h := onA_ok na h
  simp only [Bool.and_eq_true] at h
  obtain ⟨⟨⟨⟨⟨h1, h2⟩, h3⟩, h4⟩, h5⟩, h6⟩ := h
  exact ⟨isB_ok h1, isNo_ok h2, h3, isB_ok h4, isBo_ok h5, isBo_ok h6⟩
def fDb (K : PySem.W.Frag) (x : Str) : Bool := onA K x fun C => isBo (subIn K (.ref C) (.type "BaseException")) true && isTy (typeIn K (.ref C)) "type" && hasDictIn K C && isBo (subIn K (.ref C) (.ref C)) true
theorem db_ok {x : Str} {C : Addr} (na : nsIn K mainGlobals x = some (some (.ref C))) (h : fDb K x = true) : subIn K (.ref C) (.type "BaseException") = some true ∧ typeIn K (.ref C) = some (.type "type") ∧ hasDictIn K C = true ∧ subIn K (.ref C) (.ref C) = some true := by
  have h := onA_ok na h
  simp only [Bool.and_eq_true] at h
  obtain ⟨⟨⟨h1, h2⟩, h3⟩, h4⟩ := h
  exact ⟨isBo_ok h1, isTy_ok h2, h3, isBo_ok h4⟩
def fM (K : PySem.W.Frag) (x y : Str) (b : Bool) : Bool := onA K x fun C => onA K y fun D => isBo (subIn K (.ref C) (.ref D)) b
theorem m_ok {x y : Str} {b : Bool} {C D : Addr} (na : nsIn K mainGlobals x = some (some (.ref C))) (nb : nsIn K mainGlobals y = some (some (.ref D))) (h : fM K x y b = true) : subIn K (.ref C) (.ref D) = some b := isBo_ok (onA_ok nb (onA_ok na h))
def fMt (K : PySem.W.Frag) (x : Str) (y : String) (b : Bool) : Bool := onA K x fun C => isBo (subIn K (.ref C) (.type y)) b
theorem mt_ok {x : Str} {y : String} {b : Bool} {C : Addr} (na : nsIn K mainGlobals x = some (some (.ref C))) (h : fMt K x y b = true) : subIn K (.ref C) (.type y) = some b := isBo_ok (onA_ok na h)
def fOn (K : PySem.W.Frag) (x f : Str) : Bool := onA K x fun C => isNo (findIn K (.ref C) f)
theorem on_ok {x f : Str} {C : Addr} (na : nsIn K mainGlobals x = some (some (.ref C))) (h : fOn K x f = true) : findIn K (.ref C) f = some none := isNo_ok (onA_ok na h)
def fInt (K : PySem.W.Frag) (x : Str) (v : Int) : Bool := match nsIn K mainGlobals x with
  | some (some (.int i _)) => decide (i = v)
  | _ => false
theorem int_ok {x : Str} {v : Int} (h : fInt K x v = true) : ∃ t, nsIn K mainGlobals x = some (some (.int v t)) := by
  unfold fInt at h
  split at h
  · rename_i e; rw [of_decide_eq_true h] at e; exact ⟨_, e⟩
  · cases h
def fStr (K : PySem.W.Frag) (x : Str) (v : Str) : Bool := match nsIn K mainGlobals x with
  | some (some (.str i _)) => decide (i = v)
  | _ => false
theorem str_ok' {x v : Str} (h : fStr K x v = true) : ∃ t, nsIn K mainGlobals x = some (some (.str v t)) := by
  unfold fStr at h
  split at h
  · rename_i e; rw [of_decide_eq_true h] at e; exact ⟨_, e⟩
  · cases h
def fo (K : PySem.W.Frag) (x : Str) : Option FO := match adr K x with
  | some f => foAt K f x x
  | none => none
theorem fo_ok {x : Str} {A : Arguments} {B : List Stmt} {S : Scope} {D : Option (List PyData)} (h : fo K x = some (A, B, S, D)) : ∃ f, nsIn K mainGlobals x = some (some (.ref f)) ∧ foAt K f x x = some (A, B, S, D) := by
  unfold fo at h
  split at h
  · rename_i f e; exact ⟨f, adr_ok e, h⟩
  · cases h
def fom (K : PySem.W.Frag) (x m q : Str) : Option FO := match adr K x with
  | some C => (match findIn K (.ref C) m with
    | some (some (.ref f)) => (match isFn K (.ref f) with
      | true => foAt K f m q
      | false => none)
    | _ => none)
  | none => none
theorem fom_ok {x m q : Str} {C : Addr} {A : Arguments} {B : List Stmt} {S : Scope} {D : Option (List PyData)} (na : nsIn K mainGlobals x = some (some (.ref C))) (h : fom K x m q = some (A, B, S, D)) : ∃ f, findIn K (.ref C) m = some (some (.ref f)) ∧ isFn K (.ref f) = true ∧ foAt K f m q = some (A, B, S, D) := by
  unfold fom adr at h
  rw [na] at h
  dsimp only at h
  split at h
  · rename_i f e
    split at h
    · rename_i e2; exact ⟨f, e, e2, h⟩
    · cases h
  · cases h
theorem foAt_none {f : Addr} {n q : Str} {A : Arguments} {B : List Stmt} {S : Scope} (h : foAt K f n q = some (A, B, S, none)) :
    ∃ (oc : Value) (od an : Option Addr) (sl : Array (Option Value)) (kV dc pm cd ct : Value), K.lookup f = some ⟨oc, od, .func (fnOf n q A B S .none kV dc pm an cd ct), sl⟩ ∧ codeIn K cd q = true ∧ keepIn K (.ref f) = true := by
  obtain ⟨dV, oc, od, an, sl, kV, dc, pm, cd, ct, h1, h2, h3, ⟨rfl, _⟩ | ⟨_, _, _, _, _, _, _, _, z, _⟩⟩ := foAt_ok h
  · exact ⟨oc, od, an, sl, kV, dc, pm, cd, ct, h1, h2, h3⟩
  · cases z
def fXC (K : PySem.W.Frag) (x : Str) : Bool := onA K x fun C => match K.lookup C with
  | some ⟨.type "type", dd, .cls ⟨nm, bs, .ref C1 :: bm, N, q, hd, sn, sub, ab, col, hdel⟩, sl⟩ => match sl.toList with
    | [k0, k1, k2, k3, .some (.builtin nid), k5] => decide (C1 = C) && hd && !hdel && PySem.HandSPX.refsVE bm && decide (nid = "ValueError.__new__")
    | _ => false
  | _ => false
theorem xc_ok {x : Str} {C : Addr} (na : nsIn K mainGlobals x = some (some (.ref C))) (h : fXC K x = true) :
    ∃ (nm q : Str) (N : Addr) (bs bm : List Value) (sn : List Str) (sub : List Value) (ab : Bool) (col : Option Bool) (dd : Option Addr) (k0 k1 k2 k3 k5 : Option Value), K.lookup C = some (excClassObj nm q C N bs bm true sn sub ab col dd k0 k1 k2 k3 k5 "ValueError.__new__") ∧ PySem.HandSPX.refsVE bm = true := by
  have h := onA_ok na h
  split at h
  · rename_i dd nm bs C1 bm N q hd sn sub ab col hdel sl e
    split at h
    · rename_i k0 k1 k2 k3 nid k5 e2
      simp only [Bool.and_eq_true, decide_eq_true_eq, Bool.not_eq_true'] at h
      obtain ⟨⟨⟨⟨rfl, rfl⟩, rfl⟩, h4⟩, rfl⟩ := h
      have e3 : sl = #[k0, k1, k2, k3, some (.builtin "ValueError.__new__"), k5] := by
        rw [← Array.toArray_toList (xs := sl), e2]
      subst e3
      exact ⟨_, _, _, _, _, _, _, _, _, _, _, _, _, _, _, e, h4⟩
    · cases h
  · cases h
def fXS (K : PySem.W.Frag) (x : Str) : Bool := onA K x fun C => isB (findIn K (.ref C) "__setattr__") "object.__setattr__" && isBo (subIn K (.ref C) (.type "BaseException")) true && isTy (typeIn K (.ref C)) "type" && keepIn K (.ref C)
theorem xs_ok {x : Str} {C : Addr} (na : nsIn K mainGlobals x = some (some (.ref C))) (h : fXS K x = true) : findIn K (.ref C) "__setattr__" = some (some (.builtin "object.__setattr__")) ∧ subIn K (.ref C) (.type "BaseException") = some true ∧ typeIn K (.ref C) = some (.type "type") ∧ keepIn K (.ref C) = true := by
  have h := onA_ok na h
  simp only [Bool.and_eq_true] at h
  obtain ⟨⟨⟨h1, h2⟩, h3⟩, h4⟩ := h
  exact ⟨isB_ok h1, isBo_ok h2, isTy_ok h3, h4⟩
def fYB (K : PySem.W.Frag) (x : Str) : Bool := onA K x fun C => readsIn K C (.type "type") && isB (specialIn K (.ref C) "__getattribute__") "type.__getattribute__" && (match findCls K (.ref C) (.type "type") "__init__" with
  | some (.val (.builtin b)) => decide (b = "ValueError.__init__")
  | _ => false)
theorem yb_ok {x : Str} {C : Addr} (na : nsIn K mainGlobals x = some (some (.ref C))) (h : fYB K x = true) : readsIn K C (.type "type") = true ∧ specialIn K (.ref C) "__getattribute__" = some (some (.builtin "type.__getattribute__")) ∧ findCls K (.ref C) (.type "type") "__init__" = some (.val (.builtin "ValueError.__init__")) := by
  have h := onA_ok na h
  simp only [Bool.and_eq_true] at h
  obtain ⟨⟨h1, h2⟩, h3⟩ := h
  refine ⟨h1, isB_ok h2, ?_⟩
  split at h3
  · rename_i e
    rw [e, of_decide_eq_true h3]
  · cases h3
def fSp (K : PySem.W.Frag) : Bool := isB (specialIn K (.builtin "object.__class__") "__get__") "getset_descriptor.__get__" && isBo (takesIn K (.builtin "object.__class__")) true
theorem sp_ok' (h : fSp K = true) : specialIn K (.builtin "object.__class__") "__get__" = some (some (.builtin "getset_descriptor.__get__")) ∧ takesIn K (.builtin "object.__class__") = some true := by
  unfold fSp at h
  rw [Bool.and_eq_true] at h
  exact ⟨isB_ok h.1, isBo_ok h.2⟩
end
end PW

namespace PW
open PySem L2 PySem.Spec PyProof.Rows
def vStr : Value → Bool
  | .str _ _ => true
  | _ => false
def vInt : Value → Bool
  | .int _ _ => true
  | _ => false
def vBool : Value → Bool
  | .bool _ => true
  | _ => false
def tabE : Option Obj → Bool
  | some ⟨.none, none, .fields ts, sl⟩ => Nat.beq ts.size 0 && Nat.beq sl.size 0
  | _ => false
def refE (P : Addr) : Option Value → Bool
  | some (.ref p) => Nat.beq p P
  | _ => false
def codE (P : Addr) : Option Obj → Bool
  | some ⟨.type t, _, .fields vs, _⟩ => decide (t = "code") && refE P vs[11]? && vStr (vs.getD 18 .none) && vInt (vs.getD 7 .none) && vBool (vs.getD 9 .none) && vInt (vs.getD 10 .none)
  | _ => false
def fncE (K : PySem.W.Frag) (P : Addr) : Option Obj → Bool
  | some ⟨_, _, .func ⟨_, _, _, _, _, _, _, _, _, _, _, _, .ref c, _, _⟩, _⟩ => codE P (K.lookup c) && !(Nat.beq c P)
  | _ => false
def fT (K K' : PySem.W.Frag) (x : Str) (P : Addr) : Bool := (match adr K' x with
  | some f => fncE K' P (K'.lookup f)
  | none => false) && tabE (K.lookup P)
def cutK (ts : List Addr) (K : PySem.W.Frag) : PySem.W.Frag := K.filter fun p => !(ts.any fun t => Nat.beq p.1 t)
end PW

namespace HDP
noncomputable section
open PySem PySem.W PySem.Calls PyProof.Rows HandSHeadRun
section
variable (st : SharedT → Thread → Option (SharedT × Thread)) (n0 : Nat) (ann : Option Value)
def gT : Nat → SharedT → Thread → Option (SharedT × Thread)
  | 0, s, t => some (s, t)
  | m + 1, s, t => match through t with
    | true => none
    | false => match stepOk n0 ann t with
      | false => none
      | true => match st s t with
        | some (s', t') => frS s' fun s' => gT m s' t'
        | none => none
def rT : Nat → SharedT → Thread → Option (Flow × SharedT × Code × Pos)
  | 0, _, _ => none
  | m + 1, s, t => match endAt 1 t with
    | some f => some (f, s, t.code, t.pos)
    | none => match stepOk n0 ann t with
      | false => none
      | true => match st s t with
        | some (s', t') => frS s' fun s' => rT m s' t'
        | none => none
end
variable {p : Program} {w : World} {n0 : Nat} {ann : Option Value}
theorem gT_ok {tb : String → Option Builtin} : ∀ {m : Nat} {s s' : SharedT} {t t' : Thread}, gT (stepT (denote tb) p w) n0 ann m s t = some (s', t') → topGo tb p w n0 ann m s.abs t = some (s'.abs, t')
  | 0, s, s', t, t', h => by
    cases h
    rfl
  | m + 1, s, s', t, t', h => by
    unfold gT at h
    unfold topGo
    cases ht : through t with
    | true => rw [ht] at h; cases h
    | false =>
      rw [ht] at h
      cases hk : stepOk n0 ann t with
      | false => rw [hk] at h; cases h
      | true =>
        rw [hk] at h
        cases hs : stepT (denote tb) p w s t with
        | none => rw [hs] at h; cases h
        | some r =>
          obtain ⟨s2, t2⟩ := r
          rw [hs] at h
          have h3 : (frS s2 fun s' => gT (stepT (denote tb) p w) n0 ann m s' t2) = some (s', t') := h
          rw [frS_eq] at h3
          rw [stepT_spec hs]
          exact gT_ok h3
theorem rT_ok {tb : String → Option Builtin} : ∀ {m : Nat} {s s' : SharedT} {t : Thread} {f : Flow} {c : Code} {q : Pos}, rT (stepT (denote tb) p w) n0 ann m s t = some (f, s', c, q) → segRun tb p w n0 ann 1 m s.abs t = some (f, s'.abs, c, q)
  | 0, _, _, _, _, _, _, h => by cases h
  | m + 1, s, s', t, f, c, q, h => by
    unfold rT at h
    unfold segRun
    cases he : endAt 1 t with
    | some x => rw [he] at h; cases h; rfl
    | none =>
      rw [he] at h
      cases hk : stepOk n0 ann t with
      | false => rw [hk] at h; cases h
      | true =>
        rw [hk] at h
        cases hs : stepT (denote tb) p w s t with
        | none => rw [hs] at h; cases h
        | some r =>
          obtain ⟨s2, t2⟩ := r
          rw [hs] at h
          have h3 : (frS s2 fun s' => rT (stepT (denote tb) p w) n0 ann m s' t2) = some (f, s', c, q) := h
          rw [frS_eq] at h3
          rw [stepT_spec hs]
          exact rT_ok h3
abbrev stQ (p : Program) (w : World) : SharedT → Thread → Option (SharedT × Thread) := stepQ (denQ tabQ) p w
theorem stQ_eq : stQ p w = stepT (denote treeTable) p w := by
  unfold stQ
  rw [stepQ_eq, denQ_eq, tabQ_eq]
def bootS (w : World) (os : OsState) : SharedT := match putAll (boot_heap w.params).objs.toList .nil 0 with
  | some (t, n) => frNat n fun n0 => bootT w os (t, n0)
  | none => bootT w os (.nil, 0)
def bootN (w : World) : Nat := match putAll (boot_heap w.params).objs.toList .nil 0 with
  | some (_, n) => n
  | none => 0
def envP (p : Program) : Env := { scope := p.main.scope, locals := mainNs, globals := mainNs, cells := [], code := .ref 13, frame := some 14 }
def codP (p : Program) : Code := .body (behindTheImports p) (envP p)
def preT (p : Program) (w : World) (os : OsState) : Option (SharedT × Thread) := gT (stQ p w) (bootN w) (bootAnn w) 12 (bootS w os) (topStub p)
structure Wr where
  objs : List Obj
  toks : Nat
  life : Life
  gens : Array GenState
  drawn : Drawn
def Wr.sh (x : Wr) (os : OsState) : Shared := ⟨⟨x.objs.toArray, x.life⟩, x.gens, x.drawn, x.toks, os⟩
def wr (s : SharedT) : Wr := ⟨s.tree.list s.n, s.toks, s.life, s.gens, s.drawn⟩
theorem wr_sh (s : SharedT) : (wr s).sh s.os = s.abs := rfl
def obsR : Option (Flow × SharedT × Code × Pos) → Option (Code × Wr × OsState)
  | some (.next, s, c, _) => some (c, wr s, s.os)
  | _ => none
theorem obsR_ok {r : Option (Flow × SharedT × Code × Pos)} {c : Code} {x : Wr} {os : OsState} (h : obsR r = some (c, x, os)) : ∃ s q, r = some (.next, s, c, q) ∧ s.abs = x.sh os := by
  unfold obsR at h
  split at h
  · rename_i s c' q
    simp only [Option.some.injEq, Prod.mk.injEq] at h
    obtain ⟨rfl, rfl, rfl⟩ := h
    exact ⟨s, q, rfl, rfl⟩
  · cases h
def lay {α : Type} (x : Wr) (os : OsState) (bad : α) (k : SharedT → α) : α := match putAll x.objs .nil 0 with
  | some (t, n) => frNat n fun n => frNat x.toks fun toks => k ⟨t, n, x.life, x.gens, x.drawn, toks, os⟩
  | none => bad
theorem lay_ok {α : Type} {x : Wr} {os : OsState} {bad : α} {k : SharedT → α} {r : α} (h : lay x os bad k = r) (hb : bad ≠ r) : ∃ s : SharedT, s.abs = x.sh os ∧ k s = r := by
  unfold lay at h
  cases e : putAll x.objs .nil 0 with
  | none => rw [e] at h; exact absurd h hb
  | some q =>
    obtain ⟨t, n⟩ := q
    rw [e] at h
    have h : (frNat n fun n => frNat x.toks fun toks => k ⟨t, n, x.life, x.gens, x.drawn, toks, os⟩) = r := h
    rw [frNat_eq, frNat_eq] at h
    refine ⟨_, ?_, h⟩
    show (⟨absHeap t n x.life, x.gens, x.drawn, x.toks, os⟩ : Shared) = _
    rw [putAll_ok (life := x.life) e, abs_nil, push_all]
    simp [Wr.sh]
abbrev B0 : List Frame := [topFrame default]
def At (p : Program) (w : World) (os : OsState) (M : Nat) (rest : List Stmt) (sh : Shared) : Prop := ∃ pos : Pos, ∀ N r,
  topRun treeTable p w (bootN w) (bootAnn w) N sh (restOf rest (envP p) (codP p) pos B0) = some r →
  topRun treeTable p w (bootN w) (bootAnn w) (M + N) ⟨boot_heap w.params, #[], boot_drawn, boot_toks, os⟩ (topStub p) = some r
theorem boot_abs (p : Program) (w : World) (os : OsState) {t : BT} {n : Nat} (e : putAll (boot_heap w.params).objs.toList .nil 0 = some (t, n)) : (bootS w os).abs = ⟨boot_heap w.params, #[], boot_drawn, boot_toks, os⟩ := by
  unfold bootS
  rw [e]
  show (frNat n fun n0 => bootT w os (t, n0)).abs = _
  rw [frNat_eq]
  show (⟨absHeap t n (boot_heap w.params).life, #[], boot_drawn, boot_toks, os⟩ : Shared) = _
  rw [putAll_heap e]
theorem boot_n (w : World) {t : BT} {n : Nat} (e : putAll (boot_heap w.params).objs.toList .nil 0 = some (t, n)) : bootN w = (boot_heap w.params).objs.size := by
  unfold bootN
  rw [e]
  show n = _
  rw [← putAll_heap e]
  exact (absHeap_size t n _).symm
def ph1 (p : Program) (w : World) (m : Nat) (l : List Stmt) (os : OsState) : Option (Code × Code × Wr × OsState) := match preT p w os with
  | some (sa, _) => match rT (stQ p w) (bootN w) (bootAnn w) 1 sa (blockOf (behindTheImports p) (envP p) (codP p) default B0) with
    | some (.next, sb, cb, pb) => (obsR (rT (stQ p w) (bootN w) (bootAnn w) m sb (piecesOf l (envP p) (codP p) pb B0))).map fun r => (cb, r)
    | _ => none
  | none => none
def PreOk (p : Program) (w : World) : Prop := ∀ os, (preT p w os).map (·.2) = some ⟨denQ tabQ (codP p), codP p, default, B0⟩
def BootOk (w : World) : Prop := ((putAll (boot_heap w.params).objs.toList .nil 0).map fun r => r.2) = some 11
variable {p : Program} {w : World} {os : OsState}
theorem at_first {m : Nat} {l rest : List Stmt} {x : Wr} (hb : BootOk w) (hp : PreOk p w) (e : behindTheImports p = l ++ rest) (h : ph1 p w m l os = some (codP p, codP p, x, os)) : At p w os (12 + (1 + m)) rest (x.sh os) := by
  obtain ⟨⟨t, n⟩, hb1, -⟩ := Option.map_eq_some_iff.mp hb
  have hp := hp os
  unfold ph1 at h
  cases e1 : preT p w os with
  | none => rw [e1] at h; cases h
  | some q =>
    obtain ⟨sa, ta⟩ := q
    rw [e1] at h hp
    have hp : some ta = some _ := hp
    cases hp
    have h : (match rT (stQ p w) (bootN w) (bootAnn w) 1 sa (blockOf (behindTheImports p) (envP p) (codP p) default B0) with
      | some (.next, sb, cb, pb) => (obsR (rT (stQ p w) (bootN w) (bootAnn w) m sb (piecesOf l (envP p) (codP p) pb B0))).map fun r => (cb, r)
      | _ => none) = some (codP p, codP p, x, os) := h
    split at h
    · rename_i sb cb pb e2
      obtain ⟨⟨c, y, os'⟩, h1, h2⟩ := Option.map_eq_some_iff.mp h
      simp only [Prod.mk.injEq] at h2
      obtain ⟨rfl, rfl, rfl, rfl⟩ := h2
      obtain ⟨s, q, h3, h4⟩ := obsR_ok h1
      unfold preT at e1
      rw [stQ_eq] at e1 e2 h3
      have g1 := gT_ok e1
      have g2 := rT_ok e2
      have g3 := rT_ok h3
      rw [boot_abs p w os' hb1] at g1
      refine ⟨q, fun N r k => ?_⟩
      rw [Nat.add_assoc, Nat.add_assoc]
      refine go_top g1 ?_
      rw [denQ_eq.symm, tabQ_eq.symm]
      refine piece_block g2 ?_
      rw [e]
      refine piece_app g3 ?_
      rw [h4]
      exact k
    · cases h
def phN (p : Program) (w : World) (x : Wr) (m : Nat) (l : List Stmt) (os : OsState) (pos : Pos) : Option (Code × Wr × OsState) := lay x os none fun s => obsR (rT (stQ p w) (bootN w) (bootAnn w) m s (piecesOf l (envP p) (codP p) pos B0))
theorem at_next {M m : Nat} {l rest : List Stmt} {x y : Wr} (a : At p w os M (l ++ rest) (x.sh os)) (h : ∀ pos, phN p w x m l os pos = some (codP p, y, os)) : At p w os (M + m) rest (y.sh os) := by
  obtain ⟨pos, a⟩ := a
  obtain ⟨s, h1, h2⟩ := lay_ok (h pos) (by simp)
  obtain ⟨s', q, h3, h4⟩ := obsR_ok h2
  rw [stQ_eq] at h3
  have g3 := rT_ok h3
  refine ⟨q, fun N r k => ?_⟩
  rw [Nat.add_assoc]
  refine a _ _ ?_
  rw [← h1]
  refine piece_app g3 ?_
  rw [h4]
  exact k
def hs (w : World) (s : Str) : Int := if s.cps.isEmpty then 0 else reduceHash (w.params.strHash s.cps)
def vR (a : Nat) : Value := .ref a
def vI (i : Nat) (t : Nat) : Value := .int (.ofNat i) t
def vS (s : String) (t : Nat) : Value := .str (Str.ofString s) t
def vT (s : String) : Value := .type s
def vB (s : String) : Value := .builtin s
def vN : Value := .none
def vb (b : Bool) : Value := .bool b
def eS (w : World) (s : String) (t : Nat) (v : Value) : DictEntry := ⟨hs w (Str.ofString s), .str (Str.ofString s) t, v⟩
def oQ (c : Value) (l : List Value) (n : Nat) : Obj := ⟨c, none, .seq l.toArray n, #[]⟩
def oF (c : Value) (l : List Value) : Obj := ⟨c, none, .fields l.toArray, #[]⟩
def oD (c : Value) (l : List DictEntry) (n : Nat) : Obj := ⟨c, none, .dict l.toArray n, #[]⟩
def oS (c : Value) (l : List (Option Value)) : Obj := ⟨c, none, .plain, l.toArray⟩
def fArgs : Stmt → Arguments
  | .FunctionDef _ a _ _ _ _ _ _ _ _ => a
  | _ => ⟨[], [], none, [], [], none, []⟩
def fBody : Stmt → List Stmt
  | .FunctionDef _ _ b _ _ _ _ _ _ _ => b
  | _ => []
def fScope : Stmt → Scope
  | .FunctionDef _ _ _ _ _ _ s _ _ _ => s
  | _ => ⟨.function, [], false, false, []⟩
def topP (p : Program) (i : Nat) : Stmt := p.main.body.getD i (.Pass ⟨0, 0, 0, 0⟩)
def metP (p : Program) (i j : Nat) : Stmt := (match topP p i with
  | .ClassDef _ _ _ b _ _ _ _ _ _ _ => b
  | _ => []).getD j (.Pass ⟨0, 0, 0, 0⟩)
def oL (c : Value) (dd : Option Addr) (n q : String) (s : Stmt) (gl : Addr) (dV kV doc pm : Value) (an : Option Addr) (cd ct : Value) (bi : Addr) (sl : List (Option Value)) : Obj :=
  ⟨c, dd, .func ⟨Str.ofString n, Str.ofString q, fArgs s, .stmts (fBody s), fScope s, gl, [], dV, kV, doc, pm, an, cd, ct, bi⟩, sl.toArray⟩
def oC (c : Value) (dd : Option Addr) (n : String) (b m : List Value) (ns : Addr) (q : String) (hd : Bool) (sn : List Str) (sub : List Value) (ab : Bool) (co : Option Bool) (dl : Bool) (sl : List (Option Value)) : Obj :=
  ⟨c, dd, .cls ⟨Str.ofString n, b, m, ns, Str.ofString q, hd, sn, sub, ab, co, dl⟩, sl.toArray⟩
def bodP (p : Program) (a b : Nat) : List Stmt := ((behindTheImports p).drop a).take (b - a)
def resP (p : Program) (a : Nat) : List Stmt := (behindTheImports p).drop a
theorem bod_res (p : Program) {a b : Nat} (h : Nat.ble a b = true) : resP p a = bodP p a b ++ resP p b := by
  have h := Nat.le_of_ble_eq_true h
  unfold resP bodP
  rw [show (behindTheImports p).drop b = ((behindTheImports p).drop a).drop (b - a) by rw [List.drop_drop]; congr 1; omega]
  exact (List.take_append_drop _ _).symm
end
end HDP

namespace HDP
noncomputable section
open PySem PySem.W PySem.Calls PyProof.Rows HandSHeadRun
def obW {α : Type} (r : OpenRow) (q : Program) (loose : List Str) (w : World) (ob : SharedT → α) (s : SharedT) := (looksF r.prog (boot_heap w.params) s.abs, seenQ q loose (importedModules r.prog.main.body) (fun s => xlAt q [] s && recOk r.toRowW.records s) s.abs, ob s)
def RunIn {α : Type} (r : OpenRow) (q : Program) (ob : SharedT → α) (v : World → α) (M : Nat) (loose : List Str) (w : World) : Prop := ∀ os : OsState,
  ∃ s : SharedT, topRun treeTable r.prog w (bootN w) (bootAnn w) M ⟨boot_heap w.params, #[], boot_drawn, boot_toks, os⟩ (topStub r.prog) = some s.abs ∧ obW r q loose w ob s = (true, openGood q loose, v w)
theorem left_in {p q : Program} {loose : List Str} {Xt : Shared → Bool} {α : Type} {Yf : Shared → α} {Ya : World → α} {N M : Nat}
    (e : opening p = plainProg p.main.scope.names) (hN : Nat.ble 600 N = true) (f : ∀ s, fenceModules? p s = some s) (le : Nat.ble M N = true) (hb : ∀ w, BootOk w)
    (run : ∀ (w : World) (os : OsState), ∃ s : SharedT, topRun treeTable p w (bootN w) (bootAnn w) M ⟨boot_heap w.params, #[], boot_drawn, boot_toks, os⟩ (topStub p) = some s.abs ∧
      (looksF p (boot_heap w.params) s.abs, openSeen q loose (importedModules p.main.body) Xt true s.abs, Yf s.abs) = (true, openGood q loose, Ya w)) :
    LeftO p q loose Xt Yf Ya N true := fun w => by
  obtain ⟨⟨h, gs, d, k, os⟩, a, a'⟩ := Option.map_eq_some_iff.mp (boot_open e hN f w)
  obtain ⟨rfl, rfl, rfl, rfl⟩ : h = boot_heap w.params ∧ gs = Array.mk [] ∧ d = boot_drawn ∧ k = boot_toks := by simpa using a'
  obtain ⟨s, hs, hv⟩ := run w os
  obtain ⟨⟨t, n⟩, hb1, -⟩ := Option.map_eq_some_iff.mp (hb w)
  rw [boot_n w hb1] at hs
  obtain ⟨l1, l2, l3⟩ : _ ∧ _ ∧ _ := by simpa only [Prod.mk.injEq] using hv
  have r := topRun_mono (N - M) _ _ _ _ hs
  rw [show M + (N - M) = N by have := Nat.le_of_ble_eq_true le; omega] at r
  have l1' : (staticsOk (importedModules p.main.body) (boot_heap w.params) s.abs.heap && namesBound p s.abs.heap && gensDone s.abs && laidKept (boot_heap w.params) s.abs.heap) = true := l1
  have t : topFrom treeTable p w N ⟨boot_heap w.params, Array.mk [], boot_drawn, boot_toks, os⟩ = some s.abs := by
    unfold topFrom
    dsimp only
    rw [boot_ns]
    show (topRun treeTable p w (boot_heap w.params).objs.size (bootAnn w) N ⟨boot_heap w.params, #[], boot_drawn, boot_toks, os⟩ (topStub p)).bind _ = _
    rw [r]
    show (match staticsOk (importedModules p.main.body) (boot_heap w.params) s.abs.heap && namesBound p s.abs.heap && gensDone s.abs && laidKept (boot_heap w.params) s.abs.heap with | true => some s.abs | false => none) = _
    rw [l1']
  unfold openEnds
  rw [a]
  show (topFrom treeTable p w N _).map _ = _
  rw [t]
  exact congrArg some (Prod.ext l2 l3)
theorem boot_ok (w : World) : BootOk w := by
  unfold BootOk
  kernel_rfl
theorem head_in {r : OpenRow} {q : Program} {H : Hook} {ob : SharedT → H.α} {M : Nat} {loose : List PySem.Str} {d : DefRec} {kwd : List (PySem.Str × PySem.Expr)} (ho : ∀ s : SharedT, ob s = H.obs s.abs)
    (e : opening r.prog = plainProg r.prog.main.scope.names) (f : ∀ s, fenceModules? r.prog s = some s) (run : ∀ w, RunIn r q ob H.val M loose w)
    (hdef : defOf q r.name = some (d, kwd)) (hp : r.prog.theDef r.name = some (d.params, d.body, d.scope)) (hk : kwWritten? d.params.kwonlyargs d.params.kw_defaults = some kwd)
    (hwr : (!r.writes || r.records.isEmpty) = true) (k1 : r.wellSaid = true) (ok : (chainsOk q && opensWell r.prog && (frees r.toRowW && r.within.isEmpty)) = true) (hb : r.prog.bare) (hw : r.toRowW.promised)
    (call : WalkO q loose (XL q []) H.says r.toRowW d kwd fun f vs => PySem.call f vs) : r.Holds := by
  have left : LeftO r.prog q loose (fun s => xlAt q [] s && recOk r.toRowW.records s) H.obs H.val (M + 600) true :=
    left_in (M := M) e (Nat.ble_eq_true_of_le (by omega)) f (Nat.ble_eq_true_of_le (by omega)) boot_ok fun w os => by
      obtain ⟨s, hs, z⟩ := run w os
      refine ⟨s, hs, ?_⟩
      have eo : ob = fun s => H.obs s.abs := funext ho
      unfold obW at z
      rw [eo] at z
      simp only [seenQ_eq]
      exact z
  exact holds_open (r := r) (q := q) (loose := loose) (XP := XL q []) (YP := H.says) (d := d) (kwd := kwd) left H.of H.keeps (fun s z => xl_of s (Bool.and_eq_true_iff.mp z).1) XL.keeps hdef hp hk (fun s z => recFacts_of (Bool.and_eq_true_iff.mp z).2) hwr k1 ok hb hw call
theorem run_rows {r : OpenRow} {q : Program} {α : Type} {ob : SharedT → α} {v : World → α} {M : Nat} {loose : List Str} (h0 : ∀ w : World, RunIn r q ob v M loose (w.withFollow "special-get-raises" false)) (h1 : ∀ w : World, RunIn r q ob v M loose (w.withFollow "special-get-raises" true)) (w : World) : RunIn r q ob v M loose w :=
  byRow2 "special-get-raises" (P := fun w => RunIn r q ob v M loose w) h0 h1 w
theorem at_more {p : Program} {w : World} {os : OsState} {M m a b : Nat} {x y : Wr} (h : Nat.ble a b = true) (A : At p w os M (resP p a) (x.sh os)) (e : ∀ pos, phN p w x m (bodP p a b) os pos = some (codP p, y, os)) : At p w os (M + m) (resP p b) (y.sh os) := by
  rw [bod_res p h] at A
  exact at_next A e
def layT (x : Wr) (os : OsState) : SharedT := match putAll x.objs .nil 0 with
  | some (t, n) => frNat n fun n => frNat x.toks fun toks => ⟨t, n, x.life, x.gens, x.drawn, toks, os⟩
  | none => ⟨.nil, 0, x.life, x.gens, x.drawn, 0, os⟩
def LaysOk (x : Wr) : Prop := (putAll x.objs .nil 0).isSome = true
theorem layT_abs {x : Wr} (h : LaysOk x) (os : OsState) : (layT x os).abs = x.sh os := by
  unfold LaysOk at h
  unfold layT
  cases e : putAll x.objs .nil 0 with
  | none => rw [e] at h; cases h
  | some q =>
    obtain ⟨t, n⟩ := q
    show (frNat n fun n => frNat x.toks fun toks => (⟨t, n, x.life, x.gens, x.drawn, toks, os⟩ : SharedT)).abs = _
    rw [frNat_eq, frNat_eq]
    show (⟨absHeap t n x.life, x.gens, x.drawn, x.toks, os⟩ : Shared) = _
    rw [putAll_ok (life := x.life) e, abs_nil, push_all]
    simp [Wr.sh]
def phZ (p : Program) (w : World) (x : Wr) (l : List Stmt) (os : OsState) (pos : Pos) : Option (Wr × OsState) := lay x os none fun s => (goF (stQ p w) (bootN w) (bootAnn w) 100 s (restOf l (envP p) (codP p) pos B0)).map fun s => (wr s, s.os)
theorem at_zero {p : Program} {w : World} {os : OsState} {M : Nat} {l : List Stmt} {x : Wr} (a : At p w os M l (x.sh os)) (hx : LaysOk x) (h : ∀ pos, phZ p w x l os pos = some (x, os)) :
    topRun treeTable p w (bootN w) (bootAnn w) (M + 100) ⟨boot_heap w.params, #[], boot_drawn, boot_toks, os⟩ (topStub p) = some (layT x os).abs := by
  obtain ⟨pos, a⟩ := a
  obtain ⟨s, h1, h2⟩ := lay_ok (h pos) (by simp)
  obtain ⟨s', h3, h4⟩ := Option.map_eq_some_iff.mp h2
  simp only [Prod.mk.injEq] at h4
  obtain ⟨e1, e2⟩ := h4
  rw [stQ_eq] at h3
  have e3 : s'.abs = (layT x os).abs := by rw [layT_abs hx, ← wr_sh s', e1, e2]
  refine a _ _ ?_
  rw [← h1, ← e3]
  exact goF_ok h3
theorem run_zero {r : OpenRow} {q : Program} {α : Type} {ob : SharedT → α} {v : World → α} {M : Nat} {loose : List Str} {w : World} {l : List Stmt} {x : Wr} (a : ∀ os, At r.prog w os M l (x.sh os)) (hx : LaysOk x) (h : ∀ os pos, phZ r.prog w x l os pos = some (x, os))
    (h1 : ∀ os, looksF r.prog (boot_heap w.params) (layT x os).abs = true) (h2 : ∀ os, seenQ q loose (importedModules r.prog.main.body) (fun s => xlAt q [] s && recOk r.toRowW.records s) (layT x os).abs = openGood q loose) (h3 : ∀ os, ob (layT x os) = v w) : RunIn r q ob v (M + 100) loose w := fun os => by
  refine ⟨layT x os, at_zero (a os) hx (h os), ?_⟩
  unfold obW
  rw [h1 os, h2 os, h3 os]
def seeW (r : OpenRow) (q : Program) (loose : List Str) (s : SharedT) := seenQ q loose (importedModules r.prog.main.body) (fun s => xlAt q [] s && recOk r.toRowW.records s) s.abs
def looW (r : OpenRow) (w : World) (s : SharedT) : Bool := looksF r.prog (boot_heap w.params) s.abs
section
open PySem.TablesWhole
theorem gather_app (top : Scope) (cx : TablesWhole.Ctx) (sc : Scope) : ∀ a b : List Stmt, wSs gather top cx sc (a ++ b) = wSs gather top cx sc a ++ wSs gather top cx sc b
  | [], b => by
    show _ = wSs gather top cx sc [] ++ _
    simp only [wSs, List.nil_append]
    rfl
  | s :: r, b => by
    show wSs gather top cx sc (s :: (r ++ b)) = _
    simp only [wSs]
    rw [gather_app top cx sc r b]
    show wS gather top cx sc s ++ (_ ++ _) = (wS gather top cx sc s ++ _) ++ _
    rw [List.append_assoc]
theorem holds_app (top : Scope) (cx : TablesWhole.Ctx) (sc : Scope) : ∀ a b : List Stmt, wSs TablesWhole.holds top cx sc (a ++ b) = (wSs TablesWhole.holds top cx sc a && wSs TablesWhole.holds top cx sc b)
  | [], b => by
    simp only [wSs, List.nil_append]
    rfl
  | s :: r, b => by
    show wSs TablesWhole.holds top cx sc (s :: (r ++ b)) = _
    simp only [wSs]
    rw [holds_app top cx sc r b]
    show (wS TablesWhole.holds top cx sc s && (_ && _)) = ((wS TablesWhole.holds top cx sc s && _) && _)
    rw [Bool.and_assoc]
def tG (p : Program) (l : List Stmt) : List Str := wSs gather p.main.scope ⟨p.main.scope, [], [], [], none⟩ p.main.scope l
def tH (p : Program) (l : List Stmt) : Bool := wSs TablesWhole.holds p.main.scope ⟨p.main.scope, [], [], [], none⟩ p.main.scope l
def topB (p : Program) (a b : Nat) : List Stmt := (p.main.body.drop a).take (b - a)
theorem top_cut (p : Program) {a b : Nat} (h : Nat.ble a b = true) : p.main.body.drop a = topB p a b ++ p.main.body.drop b := by
  have h := Nat.le_of_ble_eq_true h
  unfold topB
  rw [show p.main.body.drop b = (p.main.body.drop a).drop (b - a) by rw [List.drop_drop]; congr 1; omega]
  exact (List.take_append_drop _ _).symm
theorem t_cut {p : Program} {a b : Nat} (h : Nat.ble a b = true) (h1 : tG p (topB p a b) = [] ∧ tH p (topB p a b) = true) (h2 : tG p (p.main.body.drop b) = [] ∧ tH p (p.main.body.drop b) = true) : tG p (p.main.body.drop a) = [] ∧ tH p (p.main.body.drop a) = true := by
  rw [top_cut p h]
  unfold tG tH at *
  rw [gather_app, holds_app, h1.1, h1.2, h2.1, h2.2]
  exact ⟨rfl, rfl⟩
theorem t_whole {p : Program} (h : tG p (p.main.body.drop 0) = [] ∧ tH p (p.main.body.drop 0) = true) (h1 : noTwice p.main.scope = true) (h2 : p.modules = []) (h3 : p.parses = []) (h4 : p.harvested = []) : p.tablesWhole = true := by
  obtain ⟨h5, h6⟩ := h
  rw [List.drop_zero] at h5 h6
  unfold tG at h5
  unfold tH at h6
  unfold Program.tablesWhole wProgram wModule
  rw [h2, h3, h4]
  dsimp only
  rw [h5]
  show (((true && (noTwice p.main.scope && (wSs TablesWhole.holds p.main.scope ⟨p.main.scope, [], [], [], none⟩ p.main.scope p.main.body && true))) : Bool) && (true && (true && (true && true)))) = true
  rw [h1, h6]
  rfl
end
theorem ok_of {r : OpenRow} {q : Program} (h1 : chainsOk q = true) (h2 : opensWell r.prog = true) (h3 : (frees r.toRowW && r.within.isEmpty) = true) : (chainsOk q && opensWell r.prog && (frees r.toRowW && r.within.isEmpty)) = true :=
  Bool.and_eq_true_iff.mpr ⟨Bool.and_eq_true_iff.mpr ⟨h1, h2⟩, h3⟩
end
end HDP

namespace H47
open PySem PySem.W PySem.Calls PyProof.Rows HandSHeadRun HDP
noncomputable section
abbrev R : OpenRow := OpenLaw.row PySem.Challenge.rw_mender_k47_edits_spoilt_anywhere
def o1_2 : Obj := oD vN [] 0
def o1_3 (w : World) : Obj := oD (vT "dict") [eS w "__name__" 165 (vS "law_mender_k47_edits_spoilt_anywhere" 476), eS w "__doc__" 166 vN, eS w "__package__" 167 vN, eS w "__loader__" 168 (vB "__main__.__loader__#opaque"), eS w "__spec__" 169 vN, eS w "__annotations__" 170 (vR 6), eS w "__builtins__" 171 (vR 4), eS w "__file__" 173 (vS "/claim/cut.py" 172), eS w "__cached__" 174 vN, eS w "MenderError" 206 (vR 24), eS w "NoText" 222 (vR 37), eS w "TooGreat" 238 (vR 49), eS w "NoEdit" 254 (vR 61), eS w "Clash" 281 (vR 80), eS w "NoPlace" 297 (vR 92), eS w "NoName" 313 (vR 104), eS w "NotWhole" 329 (vR 116), eS w "NoMend" 354 (vR 135), eS w "NoAsk" 370 (vR 147), eS w "LETTERS" 374 (vS "abcdefghijklmnopqrstuvwxyz" 373), eS w "FIGURES" 376 (vS "0123456789" 375), eS w "GREAT" 378 (vS "ABCDEFGHIJKLMNOPQRSTUVWXYZ" 377), eS w "MARKS" 380 (Value.str (⟨#[32, 33, 34, 35, 36, 38, 39, 40, 41, 42, 43, 44, 45, 46, 47, 58, 59, 60, 61, 62, 63, 64, 91, 92, 93, 94, 95, 96, 123, 124, 125, 126, 10]⟩ : Str) 379), eS w "MOST_SIGNS_signs" 382 (vI 2000 381), eS w "need_text" 390 (vR 156), eS w "MOST_SIGNS_edits" 394 (vI 2000 393), eS w "is_place" 402 (vR 163), eS w "is_text" 409 (vR 170), eS w "need_edits" 419 (vR 177), eS w "done" 432 (vR 184), eS w "grown" 439 (vR 191), eS w "backs" 451 (vR 198), eS w "touch" 459 (vR 205), eS w "need_apart" 469 (vR 212), eS w "moved" 475 (vR 217)] 35
def o1_11 : Obj := oQ (vT "tuple") [] 0
def o1_12 : Obj := oF vN [(vI 2 0), (vI 0 0), (vR 20), (vI 4 0), (vI 0 0), (vR 33), (vI 6 0), (vI 0 0), (vR 45), (vI 8 0), (vI 0 0), (vR 57), (vI 10 0), (vI 0 0), (vR 69), (vI 16 0), (vI 0 0), (vR 88), (vI 18 0), (vI 0 0), (vR 100), (vI 20 0), (vI 0 0), (vR 112), (vI 22 0), (vI 0 0), (vR 124), (vI 27 0), (vI 0 0), (vR 143), (vI 35 0), (vI 0 0), (vR 155), (vI 45 0), (vI 0 0), (vR 162), (vI 47 0), (vI 0 0), (vR 169), (vI 53 0), (vI 0 0), (vR 176), (vI 66 0), (vI 0 0), (vR 183), (vI 77 0), (vI 0 0), (vR 190), (vI 79 0), (vI 0 0), (vR 197), (vI 88 0), (vI 0 0), (vR 204), (vI 90 0), (vI 0 0), (vR 211), (vI 95 0), (vI 0 0), (vR 216)]
def o1_13 : Obj := oF (vT "code") [(vS "<module>" 182), (vS "<module>" 183), (vS "/claim/cut.py" 184), (vI 1 0), (vI 0 0), (vI 0 0), (vI 0 0), (vI 0 0), (vR 11), (vb false), (vI 181 0), (vR 12), vN, vN, vN, vN, (vI 185 0), (vI 1 0), (vS "/claim/cut.py" 186)]
def o1_14 : Obj := oS (vT "frame") [some (vR 13), some (vR 3), some (vR 3), none, some (vS "__main__" 164), none, some (vR 0)]
def o1_15 : Obj := oQ (vT "tuple") [(vT "ValueError")] 0
def o1_16 : Obj := oF (vT "builtin_function_or_method") [(vB "type.__prepare__"), (vT "type")]
def o1_17 (w : World) : Obj := oD (vT "dict") [eS w "__module__" 196 (vS "mender.errors" 187), eS w "__qualname__" 198 (vS "MenderError" 197), eS w "__firstlineno__" 200 (vI 2 199), eS w "__static_attributes__" 201 (vR 22)] 4
def o1_18 : Obj := oQ (vT "tuple") [] 0
def o1_19 : Obj := oF vN []
def o1_20 : Obj := oF (vT "code") [(vS "MenderError" 191), (vS "MenderError" 192), (vS "/claim/cut.py" 193), (vI 2 0), (vI 0 0), (vI 0 0), (vI 0 0), (vI 0 0), (vR 18), (vb false), (vI 181 0), (vR 19), vN, vN, vN, vN, (vI 194 0), (vI 2 0), (vS "/claim/cut.py" 195)]
def o1_21 : Obj := oS (vT "frame") [some (vR 20), some (vR 3), some (vR 17), none, some (vS "mender.errors" 187), none, some (vR 0)]
def o1_22 : Obj := oQ (vT "tuple") [] 0
def o1_23 (w : World) : Obj := oD (vT "dict") [eS w "__module__" 196 (vS "mender.errors" 187), eS w "__firstlineno__" 200 (vI 2 199), eS w "__static_attributes__" 201 (vR 22), eS w "__weakref__" 203 (vR 25), eS w "__doc__" 204 vN] 3
def o1_24 : Obj := oC (vT "type") none "MenderError" [(vT "ValueError")] [(vR 24), (vT "ValueError"), (vT "Exception"), (vT "BaseException"), (vT "object")] 23 "MenderError" true [] [(vR 37), (vR 49), (vR 61), (vR 80), (vR 92), (vR 104), (vR 116), (vR 135), (vR 147)] false none false [some (vR 15), none, some (vS "MenderError" 189), some (vS "MenderError" 197), some (vB "ValueError.__new__"), some (vb true)]
def o1_25 : Obj := oF (vT "getset_descriptor") [(vS "__weakref__" 202), (vR 24), (vB "ExceptionGroup.__weakref__"), vN]
def o1_26 : Obj := oF (vT "super") [(vR 24), (vR 24), (vR 24)]
def o1_27 : Obj := oF (vT "builtin_function_or_method") [(vB "object.__init_subclass__"), (vR 24)]
def o1_28 : Obj := oQ (vT "tuple") [(vR 24)] 0
def o1_29 : Obj := oF (vT "builtin_function_or_method") [(vB "type.__prepare__"), (vT "type")]
def o1_30 (w : World) : Obj := oD (vT "dict") [eS w "__module__" 214 (vS "mender.errors" 187), eS w "__qualname__" 216 (vS "NoText" 215), eS w "__firstlineno__" 218 (vI 4 217), eS w "__static_attributes__" 219 (vR 35)] 4
def o1_31 : Obj := oQ (vT "tuple") [] 0
def o1_32 : Obj := oF vN []
def o1_33 : Obj := oF (vT "code") [(vS "NoText" 209), (vS "NoText" 210), (vS "/claim/cut.py" 211), (vI 4 0), (vI 0 0), (vI 0 0), (vI 0 0), (vI 0 0), (vR 31), (vb false), (vI 181 0), (vR 32), vN, vN, vN, vN, (vI 212 0), (vI 4 0), (vS "/claim/cut.py" 213)]
def o1_34 : Obj := oS (vT "frame") [some (vR 33), some (vR 3), some (vR 30), none, some (vS "mender.errors" 187), none, some (vR 0)]
def o1_35 : Obj := oQ (vT "tuple") [] 0
def o1_36 (w : World) : Obj := oD (vT "dict") [eS w "__module__" 214 (vS "mender.errors" 187), eS w "__firstlineno__" 218 (vI 4 217), eS w "__static_attributes__" 219 (vR 35), eS w "__doc__" 220 vN] 2
def o1_37 : Obj := oC (vT "type") none "NoText" [(vR 24)] [(vR 37), (vR 24), (vT "ValueError"), (vT "Exception"), (vT "BaseException"), (vT "object")] 36 "NoText" true [] [] false none false [some (vR 28), none, some (vS "NoText" 207), some (vS "NoText" 215), some (vB "ValueError.__new__"), some (vb true)]
def o1_38 : Obj := oF (vT "super") [(vR 37), (vR 37), (vR 37)]
def o1_39 : Obj := oF (vT "builtin_function_or_method") [(vB "object.__init_subclass__"), (vR 37)]
def o1_40 : Obj := oQ (vT "tuple") [(vR 24)] 0
def o1_41 : Obj := oF (vT "builtin_function_or_method") [(vB "type.__prepare__"), (vT "type")]
def o1_42 (w : World) : Obj := oD (vT "dict") [eS w "__module__" 230 (vS "mender.errors" 187), eS w "__qualname__" 232 (vS "TooGreat" 231), eS w "__firstlineno__" 234 (vI 6 233), eS w "__static_attributes__" 235 (vR 47)] 4
def o1_43 : Obj := oQ (vT "tuple") [] 0
def o1_44 : Obj := oF vN []
def o1_45 : Obj := oF (vT "code") [(vS "TooGreat" 225), (vS "TooGreat" 226), (vS "/claim/cut.py" 227), (vI 6 0), (vI 0 0), (vI 0 0), (vI 0 0), (vI 0 0), (vR 43), (vb false), (vI 181 0), (vR 44), vN, vN, vN, vN, (vI 228 0), (vI 6 0), (vS "/claim/cut.py" 229)]
def o1_46 : Obj := oS (vT "frame") [some (vR 45), some (vR 3), some (vR 42), none, some (vS "mender.errors" 187), none, some (vR 0)]
def o1_47 : Obj := oQ (vT "tuple") [] 0
def o1_48 (w : World) : Obj := oD (vT "dict") [eS w "__module__" 230 (vS "mender.errors" 187), eS w "__firstlineno__" 234 (vI 6 233), eS w "__static_attributes__" 235 (vR 47), eS w "__doc__" 236 vN] 2
def o1_49 : Obj := oC (vT "type") none "TooGreat" [(vR 24)] [(vR 49), (vR 24), (vT "ValueError"), (vT "Exception"), (vT "BaseException"), (vT "object")] 48 "TooGreat" true [] [] false none false [some (vR 40), none, some (vS "TooGreat" 223), some (vS "TooGreat" 231), some (vB "ValueError.__new__"), some (vb true)]
def o1_50 : Obj := oF (vT "super") [(vR 49), (vR 49), (vR 49)]
def o1_51 : Obj := oF (vT "builtin_function_or_method") [(vB "object.__init_subclass__"), (vR 49)]
def o1_52 : Obj := oQ (vT "tuple") [(vR 24)] 0
def o1_53 : Obj := oF (vT "builtin_function_or_method") [(vB "type.__prepare__"), (vT "type")]
def o1_54 (w : World) : Obj := oD (vT "dict") [eS w "__module__" 246 (vS "mender.errors" 187), eS w "__qualname__" 248 (vS "NoEdit" 247), eS w "__firstlineno__" 250 (vI 8 249), eS w "__static_attributes__" 251 (vR 59)] 4
def o1_55 : Obj := oQ (vT "tuple") [] 0
def o1_56 : Obj := oF vN []
def o1_57 : Obj := oF (vT "code") [(vS "NoEdit" 241), (vS "NoEdit" 242), (vS "/claim/cut.py" 243), (vI 8 0), (vI 0 0), (vI 0 0), (vI 0 0), (vI 0 0), (vR 55), (vb false), (vI 181 0), (vR 56), vN, vN, vN, vN, (vI 244 0), (vI 8 0), (vS "/claim/cut.py" 245)]
def o1_58 : Obj := oS (vT "frame") [some (vR 57), some (vR 3), some (vR 54), none, some (vS "mender.errors" 187), none, some (vR 0)]
def o1_59 : Obj := oQ (vT "tuple") [] 0
def o1_60 (w : World) : Obj := oD (vT "dict") [eS w "__module__" 246 (vS "mender.errors" 187), eS w "__firstlineno__" 250 (vI 8 249), eS w "__static_attributes__" 251 (vR 59), eS w "__doc__" 252 vN] 2
def o1_61 : Obj := oC (vT "type") none "NoEdit" [(vR 24)] [(vR 61), (vR 24), (vT "ValueError"), (vT "Exception"), (vT "BaseException"), (vT "object")] 60 "NoEdit" true [] [] false none false [some (vR 52), none, some (vS "NoEdit" 239), some (vS "NoEdit" 247), some (vB "ValueError.__new__"), some (vb true)]
def o1_62 : Obj := oF (vT "super") [(vR 61), (vR 61), (vR 61)]
def o1_63 : Obj := oF (vT "builtin_function_or_method") [(vB "object.__init_subclass__"), (vR 61)]
def o1_64 : Obj := oQ (vT "tuple") [(vR 24)] 0
def o1_65 : Obj := oF (vT "builtin_function_or_method") [(vB "type.__prepare__"), (vT "type")]
def o1_66 (w : World) : Obj := oD (vT "dict") [eS w "__module__" 262 (vS "mender.errors" 187), eS w "__qualname__" 264 (vS "Clash" 263), eS w "__firstlineno__" 266 (vI 10 265), eS w "__init__" 275 (vR 77), eS w "__static_attributes__" 278 (vR 78)] 5
def o1_67 : Obj := oQ (vT "tuple") [] 0
def o1_68 : Obj := oF vN [(vI 12 0), (vI 4 0), (vR 76)]
def o1_69 : Obj := oF (vT "code") [(vS "Clash" 257), (vS "Clash" 258), (vS "/claim/cut.py" 259), (vI 10 0), (vI 0 0), (vI 0 0), (vI 0 0), (vI 0 0), (vR 67), (vb false), (vI 181 0), (vR 68), vN, vN, vN, vN, (vI 260 0), (vI 10 0), (vS "/claim/cut.py" 261)]
def o1_70 : Obj := oS (vT "frame") [some (vR 69), some (vR 3), some (vR 66), none, some (vS "mender.errors" 187), none, some (vR 0)]
def o1_71 : Obj := oQ (vT "tuple") [] 0
def o1_72 : Obj := oF vN []
def o1_73 : Obj := oQ (vT "tuple") [(vS "self" 270), (vS "one" 271), (vS "other" 272)] 0
def o1_74 : Obj := oQ (vT "tuple") [] 0
def o1_75 : Obj := oL vN none "__init__" "Clash.__init__" (metP R.prog 5 0) 0 vN vN vN vN none vN vN 0 []
def o1_76 : Obj := oF (vT "code") [(vS "__init__" 267), (vS "Clash.__init__" 268), (vS "/claim/cut.py" 269), (vI 12 0), (vI 3 0), (vI 0 0), (vI 0 0), (vI 3 0), (vR 71), (vb true), (vI 181 0), (vR 72), vN, (vR 73), (vR 74), (vR 75), (vI 273 0), (vI 12 0), (vS "/claim/cut.py" 274)]
def o1_77 : Obj := oL (vT "function") none "__init__" "Clash.__init__" (metP R.prog 5 0) 3 vN vN vN (vS "mender.errors" 187) none (vR 76) vN 0 []
def o1_78 : Obj := oQ (vT "tuple") [(vS "one" 276), (vS "other" 277)] 0
def o1_79 (w : World) : Obj := oD (vT "dict") [eS w "__module__" 262 (vS "mender.errors" 187), eS w "__firstlineno__" 266 (vI 10 265), eS w "__init__" 275 (vR 77), eS w "__static_attributes__" 278 (vR 78), eS w "__doc__" 279 vN] 2
def o1_80 : Obj := oC (vT "type") none "Clash" [(vR 24)] [(vR 80), (vR 24), (vT "ValueError"), (vT "Exception"), (vT "BaseException"), (vT "object")] 79 "Clash" true [] [] false none false [some (vR 64), none, some (vS "Clash" 255), some (vS "Clash" 263), some (vB "ValueError.__new__"), some (vb true)]
def o1_81 : Obj := oF (vT "super") [(vR 80), (vR 80), (vR 80)]
def o1_82 : Obj := oF (vT "builtin_function_or_method") [(vB "object.__init_subclass__"), (vR 80)]
def o1_83 : Obj := oQ (vT "tuple") [(vR 24)] 0
def o1_84 : Obj := oF (vT "builtin_function_or_method") [(vB "type.__prepare__"), (vT "type")]
def o1_85 (w : World) : Obj := oD (vT "dict") [eS w "__module__" 289 (vS "mender.errors" 187), eS w "__qualname__" 291 (vS "NoPlace" 290), eS w "__firstlineno__" 293 (vI 16 292), eS w "__static_attributes__" 294 (vR 90)] 4
def o1_86 : Obj := oQ (vT "tuple") [] 0
def o1_87 : Obj := oF vN []
def o1_88 : Obj := oF (vT "code") [(vS "NoPlace" 284), (vS "NoPlace" 285), (vS "/claim/cut.py" 286), (vI 16 0), (vI 0 0), (vI 0 0), (vI 0 0), (vI 0 0), (vR 86), (vb false), (vI 181 0), (vR 87), vN, vN, vN, vN, (vI 287 0), (vI 16 0), (vS "/claim/cut.py" 288)]
def o1_89 : Obj := oS (vT "frame") [some (vR 88), some (vR 3), some (vR 85), none, some (vS "mender.errors" 187), none, some (vR 0)]
def o1_90 : Obj := oQ (vT "tuple") [] 0
def o1_91 (w : World) : Obj := oD (vT "dict") [eS w "__module__" 289 (vS "mender.errors" 187), eS w "__firstlineno__" 293 (vI 16 292), eS w "__static_attributes__" 294 (vR 90), eS w "__doc__" 295 vN] 2
def o1_92 : Obj := oC (vT "type") none "NoPlace" [(vR 24)] [(vR 92), (vR 24), (vT "ValueError"), (vT "Exception"), (vT "BaseException"), (vT "object")] 91 "NoPlace" true [] [] false none false [some (vR 83), none, some (vS "NoPlace" 282), some (vS "NoPlace" 290), some (vB "ValueError.__new__"), some (vb true)]
def o1_93 : Obj := oF (vT "super") [(vR 92), (vR 92), (vR 92)]
def o1_94 : Obj := oF (vT "builtin_function_or_method") [(vB "object.__init_subclass__"), (vR 92)]
def o1_95 : Obj := oQ (vT "tuple") [(vR 24)] 0
def o1_96 : Obj := oF (vT "builtin_function_or_method") [(vB "type.__prepare__"), (vT "type")]
def o1_97 (w : World) : Obj := oD (vT "dict") [eS w "__module__" 305 (vS "mender.errors" 187), eS w "__qualname__" 307 (vS "NoName" 306), eS w "__firstlineno__" 309 (vI 18 308), eS w "__static_attributes__" 310 (vR 102)] 4
def o1_98 : Obj := oQ (vT "tuple") [] 0
def o1_99 : Obj := oF vN []
def o1_100 : Obj := oF (vT "code") [(vS "NoName" 300), (vS "NoName" 301), (vS "/claim/cut.py" 302), (vI 18 0), (vI 0 0), (vI 0 0), (vI 0 0), (vI 0 0), (vR 98), (vb false), (vI 181 0), (vR 99), vN, vN, vN, vN, (vI 303 0), (vI 18 0), (vS "/claim/cut.py" 304)]
def o1_101 : Obj := oS (vT "frame") [some (vR 100), some (vR 3), some (vR 97), none, some (vS "mender.errors" 187), none, some (vR 0)]
def o1_102 : Obj := oQ (vT "tuple") [] 0
def o1_103 (w : World) : Obj := oD (vT "dict") [eS w "__module__" 305 (vS "mender.errors" 187), eS w "__firstlineno__" 309 (vI 18 308), eS w "__static_attributes__" 310 (vR 102), eS w "__doc__" 311 vN] 2
def o1_104 : Obj := oC (vT "type") none "NoName" [(vR 24)] [(vR 104), (vR 24), (vT "ValueError"), (vT "Exception"), (vT "BaseException"), (vT "object")] 103 "NoName" true [] [] false none false [some (vR 95), none, some (vS "NoName" 298), some (vS "NoName" 306), some (vB "ValueError.__new__"), some (vb true)]
def o1_105 : Obj := oF (vT "super") [(vR 104), (vR 104), (vR 104)]
def o1_106 : Obj := oF (vT "builtin_function_or_method") [(vB "object.__init_subclass__"), (vR 104)]
def o1_107 : Obj := oQ (vT "tuple") [(vR 24)] 0
def o1_108 : Obj := oF (vT "builtin_function_or_method") [(vB "type.__prepare__"), (vT "type")]
def o1_109 (w : World) : Obj := oD (vT "dict") [eS w "__module__" 321 (vS "mender.errors" 187), eS w "__qualname__" 323 (vS "NotWhole" 322), eS w "__firstlineno__" 325 (vI 20 324), eS w "__static_attributes__" 326 (vR 114)] 4
def o1_110 : Obj := oQ (vT "tuple") [] 0
def o1_111 : Obj := oF vN []
def o1_112 : Obj := oF (vT "code") [(vS "NotWhole" 316), (vS "NotWhole" 317), (vS "/claim/cut.py" 318), (vI 20 0), (vI 0 0), (vI 0 0), (vI 0 0), (vI 0 0), (vR 110), (vb false), (vI 181 0), (vR 111), vN, vN, vN, vN, (vI 319 0), (vI 20 0), (vS "/claim/cut.py" 320)]
def o1_113 : Obj := oS (vT "frame") [some (vR 112), some (vR 3), some (vR 109), none, some (vS "mender.errors" 187), none, some (vR 0)]
def o1_114 : Obj := oQ (vT "tuple") [] 0
def o1_115 (w : World) : Obj := oD (vT "dict") [eS w "__module__" 321 (vS "mender.errors" 187), eS w "__firstlineno__" 325 (vI 20 324), eS w "__static_attributes__" 326 (vR 114), eS w "__doc__" 327 vN] 2
def o1_116 : Obj := oC (vT "type") none "NotWhole" [(vR 24)] [(vR 116), (vR 24), (vT "ValueError"), (vT "Exception"), (vT "BaseException"), (vT "object")] 115 "NotWhole" true [] [] false none false [some (vR 107), none, some (vS "NotWhole" 314), some (vS "NotWhole" 322), some (vB "ValueError.__new__"), some (vb true)]
def o1_117 : Obj := oF (vT "super") [(vR 116), (vR 116), (vR 116)]
def o1_118 : Obj := oF (vT "builtin_function_or_method") [(vB "object.__init_subclass__"), (vR 116)]
def o1_119 : Obj := oQ (vT "tuple") [(vR 24)] 0
def o1_120 : Obj := oF (vT "builtin_function_or_method") [(vB "type.__prepare__"), (vT "type")]
def o1_121 (w : World) : Obj := oD (vT "dict") [eS w "__module__" 337 (vS "mender.errors" 187), eS w "__qualname__" 339 (vS "NoMend" 338), eS w "__firstlineno__" 341 (vI 22 340), eS w "__init__" 349 (vR 132), eS w "__static_attributes__" 351 (vR 133)] 5
def o1_122 : Obj := oQ (vT "tuple") [] 0
def o1_123 : Obj := oF vN [(vI 24 0), (vI 4 0), (vR 131)]
def o1_124 : Obj := oF (vT "code") [(vS "NoMend" 332), (vS "NoMend" 333), (vS "/claim/cut.py" 334), (vI 22 0), (vI 0 0), (vI 0 0), (vI 0 0), (vI 0 0), (vR 122), (vb false), (vI 181 0), (vR 123), vN, vN, vN, vN, (vI 335 0), (vI 22 0), (vS "/claim/cut.py" 336)]
def o1_125 : Obj := oS (vT "frame") [some (vR 124), some (vR 3), some (vR 121), none, some (vS "mender.errors" 187), none, some (vR 0)]
def o1_126 : Obj := oQ (vT "tuple") [] 0
def o1_127 : Obj := oF vN []
def o1_128 : Obj := oQ (vT "tuple") [(vS "self" 345), (vS "place" 346)] 0
def o1_129 : Obj := oQ (vT "tuple") [] 0
def o1_130 : Obj := oL vN none "__init__" "NoMend.__init__" (metP R.prog 9 0) 0 vN vN vN vN none vN vN 0 []
def o1_131 : Obj := oF (vT "code") [(vS "__init__" 342), (vS "NoMend.__init__" 343), (vS "/claim/cut.py" 344), (vI 24 0), (vI 2 0), (vI 0 0), (vI 0 0), (vI 3 0), (vR 126), (vb true), (vI 181 0), (vR 127), vN, (vR 128), (vR 129), (vR 130), (vI 347 0), (vI 24 0), (vS "/claim/cut.py" 348)]
def o1_132 : Obj := oL (vT "function") none "__init__" "NoMend.__init__" (metP R.prog 9 0) 3 vN vN vN (vS "mender.errors" 187) none (vR 131) vN 0 []
def o1_133 : Obj := oQ (vT "tuple") [(vS "place" 350)] 0
def o1_134 (w : World) : Obj := oD (vT "dict") [eS w "__module__" 337 (vS "mender.errors" 187), eS w "__firstlineno__" 341 (vI 22 340), eS w "__init__" 349 (vR 132), eS w "__static_attributes__" 351 (vR 133), eS w "__doc__" 352 vN] 2
def o1_135 : Obj := oC (vT "type") none "NoMend" [(vR 24)] [(vR 135), (vR 24), (vT "ValueError"), (vT "Exception"), (vT "BaseException"), (vT "object")] 134 "NoMend" true [] [] false none false [some (vR 119), none, some (vS "NoMend" 330), some (vS "NoMend" 338), some (vB "ValueError.__new__"), some (vb true)]
def o1_136 : Obj := oF (vT "super") [(vR 135), (vR 135), (vR 135)]
def o1_137 : Obj := oF (vT "builtin_function_or_method") [(vB "object.__init_subclass__"), (vR 135)]
def o1_138 : Obj := oQ (vT "tuple") [(vR 24)] 0
def o1_139 : Obj := oF (vT "builtin_function_or_method") [(vB "type.__prepare__"), (vT "type")]
def o1_140 (w : World) : Obj := oD (vT "dict") [eS w "__module__" 362 (vS "mender.errors" 187), eS w "__qualname__" 364 (vS "NoAsk" 363), eS w "__firstlineno__" 366 (vI 27 365), eS w "__static_attributes__" 367 (vR 145)] 4
def o1_141 : Obj := oQ (vT "tuple") [] 0
def o1_142 : Obj := oF vN []
def o1_143 : Obj := oF (vT "code") [(vS "NoAsk" 357), (vS "NoAsk" 358), (vS "/claim/cut.py" 359), (vI 27 0), (vI 0 0), (vI 0 0), (vI 0 0), (vI 0 0), (vR 141), (vb false), (vI 181 0), (vR 142), vN, vN, vN, vN, (vI 360 0), (vI 27 0), (vS "/claim/cut.py" 361)]
def o1_144 : Obj := oS (vT "frame") [some (vR 143), some (vR 3), some (vR 140), none, some (vS "mender.errors" 187), none, some (vR 0)]
def o1_145 : Obj := oQ (vT "tuple") [] 0
def o1_146 (w : World) : Obj := oD (vT "dict") [eS w "__module__" 362 (vS "mender.errors" 187), eS w "__firstlineno__" 366 (vI 27 365), eS w "__static_attributes__" 367 (vR 145), eS w "__doc__" 368 vN] 2
def o1_147 : Obj := oC (vT "type") none "NoAsk" [(vR 24)] [(vR 147), (vR 24), (vT "ValueError"), (vT "Exception"), (vT "BaseException"), (vT "object")] 146 "NoAsk" true [] [] false none false [some (vR 138), none, some (vS "NoAsk" 355), some (vS "NoAsk" 363), some (vB "ValueError.__new__"), some (vb true)]
def o1_148 : Obj := oF (vT "super") [(vR 147), (vR 147), (vR 147)]
def o1_149 : Obj := oF (vT "builtin_function_or_method") [(vB "object.__init_subclass__"), (vR 147)]
def o1_150 : Obj := oQ (vT "tuple") [] 0
def o1_151 : Obj := oF vN []
def o1_152 : Obj := oQ (vT "tuple") [(vS "text" 386), (vS "sign" 387)] 0
def o1_153 : Obj := oQ (vT "tuple") [] 0
def o1_154 : Obj := oL vN none "need_text" "need_text" (topP R.prog 17) 0 vN vN vN vN none vN vN 0 []
def o1_155 : Obj := oF (vT "code") [(vS "need_text" 383), (vS "need_text" 384), (vS "/claim/cut.py" 385), (vI 35 0), (vI 1 0), (vI 0 0), (vI 0 0), (vI 3 0), (vR 150), (vb true), (vI 181 0), (vR 151), vN, (vR 152), (vR 153), (vR 154), (vI 388 0), (vI 35 0), (vS "/claim/cut.py" 389)]
def o1_156 : Obj := oL (vT "function") none "need_text" "need_text" (topP R.prog 17) 3 vN vN vN (vS "mender.signs" 371) none (vR 155) vN 0 []
def o1_157 : Obj := oQ (vT "tuple") [] 0
def o1_158 : Obj := oF vN []
def o1_159 : Obj := oQ (vT "tuple") [(vS "thing" 398), (vS "most" 399)] 0
def o1_160 : Obj := oQ (vT "tuple") [] 0
def o1_161 : Obj := oL vN none "is_place" "is_place" (topP R.prog 20) 0 vN vN vN vN none vN vN 0 []
def o1_162 : Obj := oF (vT "code") [(vS "is_place" 395), (vS "is_place" 396), (vS "/claim/cut.py" 397), (vI 45 0), (vI 2 0), (vI 0 0), (vI 0 0), (vI 3 0), (vR 157), (vb true), (vI 181 0), (vR 158), vN, (vR 159), (vR 160), (vR 161), (vI 400 0), (vI 45 0), (vS "/claim/cut.py" 401)]
def o1_163 : Obj := oL (vT "function") none "is_place" "is_place" (topP R.prog 20) 3 vN vN vN (vS "mender.edits" 391) none (vR 162) vN 0 []
def o1_164 : Obj := oQ (vT "tuple") [] 0
def o1_165 : Obj := oF vN []
def o1_166 : Obj := oQ (vT "tuple") [(vS "thing" 406)] 0
def o1_167 : Obj := oQ (vT "tuple") [] 0
def o1_168 : Obj := oL vN none "is_text" "is_text" (topP R.prog 21) 0 vN vN vN vN none vN vN 0 []
def o1_169 : Obj := oF (vT "code") [(vS "is_text" 403), (vS "is_text" 404), (vS "/claim/cut.py" 405), (vI 47 0), (vI 1 0), (vI 0 0), (vI 0 0), (vI 3 0), (vR 164), (vb true), (vI 181 0), (vR 165), vN, (vR 166), (vR 167), (vR 168), (vI 407 0), (vI 47 0), (vS "/claim/cut.py" 408)]
def o1_170 : Obj := oL (vT "function") none "is_text" "is_text" (topP R.prog 21) 3 vN vN vN (vS "mender.edits" 391) none (vR 169) vN 0 []
def o1_171 : Obj := oQ (vT "tuple") [] 0
def o1_172 : Obj := oF vN []
def o1_173 : Obj := oQ (vT "tuple") [(vS "text" 413), (vS "edits" 414), (vS "behind" 415), (vS "edit" 416)] 0
def o1_174 : Obj := oQ (vT "tuple") [] 0
def o1_175 : Obj := oL vN none "need_edits" "need_edits" (topP R.prog 22) 0 vN vN vN vN none vN vN 0 []
def o1_176 : Obj := oF (vT "code") [(vS "need_edits" 410), (vS "need_edits" 411), (vS "/claim/cut.py" 412), (vI 53 0), (vI 2 0), (vI 0 0), (vI 0 0), (vI 3 0), (vR 171), (vb true), (vI 181 0), (vR 172), vN, (vR 173), (vR 174), (vR 175), (vI 417 0), (vI 53 0), (vS "/claim/cut.py" 418)]
def o1_177 : Obj := oL (vT "function") none "need_edits" "need_edits" (topP R.prog 22) 3 vN vN vN (vS "mender.edits" 391) none (vR 176) vN 0 []
def o1_178 : Obj := oQ (vT "tuple") [] 0
def o1_179 : Obj := oF vN []
def o1_180 : Obj := oQ (vT "tuple") [(vS "text" 423), (vS "edits" 424), (vS "found" 425), (vS "behind" 426), (vS "begin" 427), (vS "end" 428), (vS "new" 429)] 0
def o1_181 : Obj := oQ (vT "tuple") [] 0
def o1_182 : Obj := oL vN none "done" "done" (topP R.prog 23) 0 vN vN vN vN none vN vN 0 []
def o1_183 : Obj := oF (vT "code") [(vS "done" 420), (vS "done" 421), (vS "/claim/cut.py" 422), (vI 66 0), (vI 2 0), (vI 0 0), (vI 0 0), (vI 3 0), (vR 178), (vb true), (vI 181 0), (vR 179), vN, (vR 180), (vR 181), (vR 182), (vI 430 0), (vI 66 0), (vS "/claim/cut.py" 431)]
def o1_184 : Obj := oL (vT "function") none "done" "done" (topP R.prog 23) 3 vN vN vN (vS "mender.edits" 391) none (vR 183) vN 0 []
def o1_185 : Obj := oQ (vT "tuple") [] 0
def o1_186 : Obj := oF vN []
def o1_187 : Obj := oQ (vT "tuple") [(vS "edit" 436)] 0
def o1_188 : Obj := oQ (vT "tuple") [] 0
def o1_189 : Obj := oL vN none "grown" "grown" (topP R.prog 24) 0 vN vN vN vN none vN vN 0 []
def o1_190 : Obj := oF (vT "code") [(vS "grown" 433), (vS "grown" 434), (vS "/claim/cut.py" 435), (vI 77 0), (vI 1 0), (vI 0 0), (vI 0 0), (vI 3 0), (vR 185), (vb true), (vI 181 0), (vR 186), vN, (vR 187), (vR 188), (vR 189), (vI 437 0), (vI 77 0), (vS "/claim/cut.py" 438)]
def o1_191 : Obj := oL (vT "function") none "grown" "grown" (topP R.prog 24) 3 vN vN vN (vS "mender.edits" 391) none (vR 190) vN 0 []
def o1_192 : Obj := oQ (vT "tuple") [] 0
def o1_193 : Obj := oF vN []
def o1_194 : Obj := oQ (vT "tuple") [(vS "text" 443), (vS "edits" 444), (vS "found" 445), (vS "shift" 446), (vS "edit" 447), (vS "begin" 448)] 0
def o1_195 : Obj := oQ (vT "tuple") [] 0
def o1_196 : Obj := oL vN none "backs" "backs" (topP R.prog 25) 0 vN vN vN vN none vN vN 0 []
def o1_197 : Obj := oF (vT "code") [(vS "backs" 440), (vS "backs" 441), (vS "/claim/cut.py" 442), (vI 79 0), (vI 2 0), (vI 0 0), (vI 0 0), (vI 3 0), (vR 192), (vb true), (vI 181 0), (vR 193), vN, (vR 194), (vR 195), (vR 196), (vI 449 0), (vI 79 0), (vS "/claim/cut.py" 450)]
def o1_198 : Obj := oL (vT "function") none "backs" "backs" (topP R.prog 25) 3 vN vN vN (vS "mender.edits" 391) none (vR 197) vN 0 []
def o1_199 : Obj := oQ (vT "tuple") [] 0
def o1_200 : Obj := oF vN []
def o1_201 : Obj := oQ (vT "tuple") [(vS "one" 455), (vS "other" 456)] 0
def o1_202 : Obj := oQ (vT "tuple") [] 0
def o1_203 : Obj := oL vN none "touch" "touch" (topP R.prog 26) 0 vN vN vN vN none vN vN 0 []
def o1_204 : Obj := oF (vT "code") [(vS "touch" 452), (vS "touch" 453), (vS "/claim/cut.py" 454), (vI 88 0), (vI 2 0), (vI 0 0), (vI 0 0), (vI 3 0), (vR 199), (vb true), (vI 181 0), (vR 200), vN, (vR 201), (vR 202), (vR 203), (vI 457 0), (vI 88 0), (vS "/claim/cut.py" 458)]
def o1_205 : Obj := oL (vT "function") none "touch" "touch" (topP R.prog 26) 3 vN vN vN (vS "mender.edits" 391) none (vR 204) vN 0 []
def o1_206 : Obj := oQ (vT "tuple") [] 0
def o1_207 : Obj := oF vN []
def o1_208 : Obj := oQ (vT "tuple") [(vS "edits" 463), (vS "others" 464), (vS "one" 465), (vS "other" 466)] 0
def o1_209 : Obj := oQ (vT "tuple") [] 0
def o1_210 : Obj := oL vN none "need_apart" "need_apart" (topP R.prog 27) 0 vN vN vN vN none vN vN 0 []
def o1_211 : Obj := oF (vT "code") [(vS "need_apart" 460), (vS "need_apart" 461), (vS "/claim/cut.py" 462), (vI 90 0), (vI 2 0), (vI 0 0), (vI 0 0), (vI 3 0), (vR 206), (vb true), (vI 181 0), (vR 207), vN, (vR 208), (vR 209), (vR 210), (vI 467 0), (vI 90 0), (vS "/claim/cut.py" 468)]
def o1_212 : Obj := oL (vT "function") none "need_apart" "need_apart" (topP R.prog 27) 3 vN vN vN (vS "mender.edits" 391) none (vR 211) vN 0 []
def o1_213 : Obj := oQ (vT "tuple") [] 0
def o1_214 : Obj := oF vN []
def o1_215 : Obj := oL vN none "moved" "moved" (topP R.prog 28) 0 vN vN vN vN none vN vN 0 []
def o1_216 : Obj := oF (vT "code") [(vS "moved" 470), (vS "moved" 471), (vS "/claim/cut.py" 472), (vI 95 0), (vI 3 0), (vI 0 0), (vI 0 0), (vI 3 0), (vR 213), (vb true), (vI 181 0), (vR 214), vN, vN, vN, (vR 215), (vI 473 0), (vI 95 0), (vS "/claim/cut.py" 474)]
def o1_217 : Obj := oL (vT "function") none "moved" "moved" (topP R.prog 28) 3 vN vN vN (vS "mender.edits" 391) none (vR 216) vN 0 []
def c1_0 (w : World) : List Obj := [o1_11, o1_12, o1_13, o1_14, o1_15, o1_16, o1_17 w, o1_18, o1_19, o1_20, o1_21, o1_22, o1_23 w, o1_24, o1_25, o1_26, o1_27, o1_28, o1_29, o1_30 w, o1_31, o1_32, o1_33, o1_34, o1_35, o1_36 w, o1_37, o1_38, o1_39, o1_40, o1_41, o1_42 w, o1_43, o1_44, o1_45, o1_46, o1_47, o1_48 w, o1_49, o1_50]
def c1_40 (w : World) : List Obj := [o1_51, o1_52, o1_53, o1_54 w, o1_55, o1_56, o1_57, o1_58, o1_59, o1_60 w, o1_61, o1_62, o1_63, o1_64, o1_65, o1_66 w, o1_67, o1_68, o1_69, o1_70, o1_71, o1_72, o1_73, o1_74, o1_75, o1_76, o1_77, o1_78, o1_79 w, o1_80, o1_81, o1_82, o1_83, o1_84, o1_85 w, o1_86, o1_87, o1_88, o1_89, o1_90]
def c1_80 (w : World) : List Obj := [o1_91 w, o1_92, o1_93, o1_94, o1_95, o1_96, o1_97 w, o1_98, o1_99, o1_100, o1_101, o1_102, o1_103 w, o1_104, o1_105, o1_106, o1_107, o1_108, o1_109 w, o1_110, o1_111, o1_112, o1_113, o1_114, o1_115 w, o1_116, o1_117, o1_118, o1_119, o1_120, o1_121 w, o1_122, o1_123, o1_124, o1_125, o1_126, o1_127, o1_128, o1_129, o1_130]
def c1_120 (w : World) : List Obj := [o1_131, o1_132, o1_133, o1_134 w, o1_135, o1_136, o1_137, o1_138, o1_139, o1_140 w, o1_141, o1_142, o1_143, o1_144, o1_145, o1_146 w, o1_147, o1_148, o1_149, o1_150, o1_151, o1_152, o1_153, o1_154, o1_155, o1_156, o1_157, o1_158, o1_159, o1_160, o1_161, o1_162, o1_163, o1_164, o1_165, o1_166, o1_167, o1_168, o1_169, o1_170]
def c1_160 (w : World) : List Obj := [o1_171, o1_172, o1_173, o1_174, o1_175, o1_176, o1_177, o1_178, o1_179, o1_180, o1_181, o1_182, o1_183, o1_184, o1_185, o1_186, o1_187, o1_188, o1_189, o1_190, o1_191, o1_192, o1_193, o1_194, o1_195, o1_196, o1_197, o1_198, o1_199, o1_200, o1_201, o1_202, o1_203, o1_204, o1_205, o1_206, o1_207, o1_208, o1_209, o1_210]
def c1_200 (w : World) : List Obj := [o1_211, o1_212, o1_213, o1_214, o1_215, o1_216, o1_217]
def objs1 (w : World) : List Obj := ((boot_heap w.params).objs.toList.set 3 (o1_3 w)).set 2 (o1_2) ++ (c1_0 w ++ (c1_40 w ++ (c1_80 w ++ (c1_120 w ++ (c1_160 w ++ (c1_200 w))))))
def x1 (w : World) : Wr := ⟨objs1 w, 478, (boot_heap w.params).life, #[], boot_drawn⟩
theorem p1_false (w : World) (os : OsState) : ph1 R.prog (w.withFollow "special-get-raises" false) 2567 (bodP R.prog 0 30) os = some (codP R.prog, codP R.prog, x1 (w.withFollow "special-get-raises" false), os) := by
  kernel_rfl
theorem p1_true (w : World) (os : OsState) : ph1 R.prog (w.withFollow "special-get-raises" true) 2567 (bodP R.prog 0 30) os = some (codP R.prog, codP R.prog, x1 (w.withFollow "special-get-raises" true), os) := by
  kernel_rfl
end
end H47

namespace H47
open PySem PySem.W PySem.Calls PyProof.Rows HandSHeadRun HDP
noncomputable section
def o2_3 (w : World) : Obj := oD (vT "dict") [eS w "__name__" 165 (vS "law_mender_k47_edits_spoilt_anywhere" 476), eS w "__doc__" 166 vN, eS w "__package__" 167 vN, eS w "__loader__" 168 (vB "__main__.__loader__#opaque"), eS w "__spec__" 169 vN, eS w "__annotations__" 170 (vR 6), eS w "__builtins__" 171 (vR 4), eS w "__file__" 173 (vS "/claim/cut.py" 172), eS w "__cached__" 174 vN, eS w "MenderError" 206 (vR 24), eS w "NoText" 222 (vR 37), eS w "TooGreat" 238 (vR 49), eS w "NoEdit" 254 (vR 61), eS w "Clash" 281 (vR 80), eS w "NoPlace" 297 (vR 92), eS w "NoName" 313 (vR 104), eS w "NotWhole" 329 (vR 116), eS w "NoMend" 354 (vR 135), eS w "NoAsk" 370 (vR 147), eS w "LETTERS" 374 (vS "abcdefghijklmnopqrstuvwxyz" 373), eS w "FIGURES" 376 (vS "0123456789" 375), eS w "GREAT" 378 (vS "ABCDEFGHIJKLMNOPQRSTUVWXYZ" 377), eS w "MARKS" 380 (Value.str (⟨#[32, 33, 34, 35, 36, 38, 39, 40, 41, 42, 43, 44, 45, 46, 47, 58, 59, 60, 61, 62, 63, 64, 91, 92, 93, 94, 95, 96, 123, 124, 125, 126, 10]⟩ : Str) 379), eS w "MOST_SIGNS_signs" 382 (vI 2000 381), eS w "need_text" 390 (vR 156), eS w "MOST_SIGNS_edits" 394 (vI 2000 393), eS w "is_place" 402 (vR 163), eS w "is_text" 409 (vR 170), eS w "need_edits" 419 (vR 177), eS w "done" 432 (vR 184), eS w "grown" 439 (vR 191), eS w "backs" 451 (vR 198), eS w "touch" 459 (vR 205), eS w "need_apart" 469 (vR 212), eS w "moved" 475 (vR 217), eS w "_law_begun" 486 (vR 224), eS w "_law_next" 495 (vR 231), eS w "_law_spots" 501 (vR 236), eS w "_law_with" 511 (vR 243), eS w "_law_step" 522 (vR 250), eS w "_law_spoilt" 534 (vR 257), eS w "_law_word" 542 (vR 264), eS w "_law_told" 551 (vR 271), eS w "_law_text" 557 (vR 276), eS w "_law_edits" 570 (vR 283), eS w "_law_is_place" 578 (vR 290), eS w "_law_are_edits" 588 (vR 297), eS w "_law_done" 602 (vR 304), eS w "_law_right" 617 (vR 311), eS w "law" 632 (vR 318)] 50
def o2_12 : Obj := oF vN [(vI 2 0), (vI 0 0), (vR 20), (vI 4 0), (vI 0 0), (vR 33), (vI 6 0), (vI 0 0), (vR 45), (vI 8 0), (vI 0 0), (vR 57), (vI 10 0), (vI 0 0), (vR 69), (vI 16 0), (vI 0 0), (vR 88), (vI 18 0), (vI 0 0), (vR 100), (vI 20 0), (vI 0 0), (vR 112), (vI 22 0), (vI 0 0), (vR 124), (vI 27 0), (vI 0 0), (vR 143), (vI 35 0), (vI 0 0), (vR 155), (vI 45 0), (vI 0 0), (vR 162), (vI 47 0), (vI 0 0), (vR 169), (vI 53 0), (vI 0 0), (vR 176), (vI 66 0), (vI 0 0), (vR 183), (vI 77 0), (vI 0 0), (vR 190), (vI 79 0), (vI 0 0), (vR 197), (vI 88 0), (vI 0 0), (vR 204), (vI 90 0), (vI 0 0), (vR 211), (vI 95 0), (vI 0 0), (vR 216), (vI 106 0), (vI 0 0), (vR 223), (vI 111 0), (vI 0 0), (vR 230), (vI 118 0), (vI 0 0), (vR 235), (vI 124 0), (vI 0 0), (vR 242), (vI 129 0), (vI 0 0), (vR 249), (vI 141 0), (vI 0 0), (vR 256), (vI 148 0), (vI 0 0), (vR 263), (vI 155 0), (vI 0 0), (vR 270), (vI 162 0), (vI 0 0), (vR 275), (vI 165 0), (vI 0 0), (vR 282), (vI 176 0), (vI 0 0), (vR 289), (vI 178 0), (vI 0 0), (vR 296), (vI 191 0), (vI 0 0), (vR 303), (vI 199 0), (vI 0 0), (vR 310), (vI 210 0), (vI 0 0), (vR 317)]
def o2_218 : Obj := oQ (vT "tuple") [] 0
def o2_219 : Obj := oF vN []
def o2_220 : Obj := oQ (vT "tuple") [(vS "_law_cell" 481), (vS "_law_k" 482), (vS "_law_mixed" 483)] 0
def o2_221 : Obj := oQ (vT "tuple") [] 0
def o2_222 : Obj := oL vN none "_law_begun" "_law_begun" (topP R.prog 30) 0 vN vN vN vN none vN vN 0 []
def o2_223 : Obj := oF (vT "code") [(vS "_law_begun" 478), (vS "_law_begun" 479), (vS "/claim/cut.py" 480), (vI 106 0), (vI 2 0), (vI 0 0), (vI 0 0), (vI 3 0), (vR 218), (vb true), (vI 181 0), (vR 219), vN, (vR 220), (vR 221), (vR 222), (vI 484 0), (vI 106 0), (vS "/claim/cut.py" 485)]
def o2_224 : Obj := oL (vT "function") none "_law_begun" "_law_begun" (topP R.prog 30) 3 vN vN vN (vS "law_mender_k47_edits_spoilt_anywhere" 476) none (vR 223) vN 0 []
def o2_225 : Obj := oQ (vT "tuple") [] 0
def o2_226 : Obj := oF vN []
def o2_227 : Obj := oQ (vT "tuple") [(vS "_law_drawn" 490), (vS "_law_size" 491), (vS "_law_found" 492)] 0
def o2_228 : Obj := oQ (vT "tuple") [] 0
def o2_229 : Obj := oL vN none "_law_next" "_law_next" (topP R.prog 31) 0 vN vN vN vN none vN vN 0 []
def o2_230 : Obj := oF (vT "code") [(vS "_law_next" 487), (vS "_law_next" 488), (vS "/claim/cut.py" 489), (vI 111 0), (vI 2 0), (vI 0 0), (vI 0 0), (vI 3 0), (vR 225), (vb true), (vI 181 0), (vR 226), vN, (vR 227), (vR 228), (vR 229), (vI 493 0), (vI 111 0), (vS "/claim/cut.py" 494)]
def o2_231 : Obj := oL (vT "function") none "_law_next" "_law_next" (topP R.prog 31) 3 vN vN vN (vS "law_mender_k47_edits_spoilt_anywhere" 476) none (vR 230) vN 0 []
def o2_232 : Obj := oQ (vT "tuple") [] 0
def o2_233 : Obj := oF vN []
def o2_234 : Obj := oL vN none "_law_spots" "_law_spots" (topP R.prog 32) 0 vN vN vN vN none vN vN 0 []
def o2_235 : Obj := oF (vT "code") [(vS "_law_spots" 496), (vS "_law_spots" 497), (vS "/claim/cut.py" 498), (vI 118 0), (vI 1 0), (vI 0 0), (vI 0 0), (vI 3 0), (vR 232), (vb true), (vI 181 0), (vR 233), vN, vN, vN, (vR 234), (vI 499 0), (vI 118 0), (vS "/claim/cut.py" 500)]
def o2_236 : Obj := oL (vT "function") none "_law_spots" "_law_spots" (topP R.prog 32) 3 vN vN vN (vS "law_mender_k47_edits_spoilt_anywhere" 476) none (vR 235) vN 0 []
def o2_237 : Obj := oQ (vT "tuple") [] 0
def o2_238 : Obj := oF vN []
def o2_239 : Obj := oQ (vT "tuple") [(vS "_law_thing" 505), (vS "_law_way" 506), (vS "_law_other" 507), (vS "_law_k" 508)] 0
def o2_240 : Obj := oQ (vT "tuple") [] 0
def o2_241 : Obj := oL vN none "_law_with" "_law_with" (topP R.prog 33) 0 vN vN vN vN none vN vN 0 []
def o2_242 : Obj := oF (vT "code") [(vS "_law_with" 502), (vS "_law_with" 503), (vS "/claim/cut.py" 504), (vI 124 0), (vI 3 0), (vI 0 0), (vI 0 0), (vI 3 0), (vR 237), (vb true), (vI 181 0), (vR 238), vN, (vR 239), (vR 240), (vR 241), (vI 509 0), (vI 124 0), (vS "/claim/cut.py" 510)]
def o2_243 : Obj := oL (vT "function") none "_law_with" "_law_with" (topP R.prog 33) 3 vN vN vN (vS "law_mender_k47_edits_spoilt_anywhere" 476) none (vR 242) vN 0 []
def o2_244 : Obj := oQ (vT "tuple") [] 0
def o2_245 : Obj := oF vN []
def o2_246 : Obj := oQ (vT "tuple") [(vS "_law_drawn" 515), (vS "_law_one" 516), (vS "_law_at" 517), (vS "_law_sign" 518), (vS "_law_some" 519)] 0
def o2_247 : Obj := oQ (vT "tuple") [] 0
def o2_248 : Obj := oL vN none "_law_step" "_law_step" (topP R.prog 34) 0 vN vN vN vN none vN vN 0 []
def o2_249 : Obj := oF (vT "code") [(vS "_law_step" 512), (vS "_law_step" 513), (vS "/claim/cut.py" 514), (vI 129 0), (vI 2 0), (vI 0 0), (vI 0 0), (vI 3 0), (vR 244), (vb true), (vI 181 0), (vR 245), vN, (vR 246), (vR 247), (vR 248), (vI 520 0), (vI 129 0), (vS "/claim/cut.py" 521)]
def o2_250 : Obj := oL (vT "function") none "_law_step" "_law_step" (topP R.prog 34) 3 vN vN vN (vS "law_mender_k47_edits_spoilt_anywhere" 476) none (vR 249) vN 0 []
def o2_251 : Obj := oQ (vT "tuple") [] 0
def o2_252 : Obj := oF vN []
def o2_253 : Obj := oQ (vT "tuple") [(vS "_law_drawn" 526), (vS "_law_thing" 527), (vS "_law_spots_here" 528), (vS "_law_way" 529), (vS "_law_one" 530), (vS "_law_k" 531)] 0
def o2_254 : Obj := oQ (vT "tuple") [] 0
def o2_255 : Obj := oL vN none "_law_spoilt" "_law_spoilt" (topP R.prog 35) 0 vN vN vN vN none vN vN 0 []
def o2_256 : Obj := oF (vT "code") [(vS "_law_spoilt" 523), (vS "_law_spoilt" 524), (vS "/claim/cut.py" 525), (vI 141 0), (vI 2 0), (vI 0 0), (vI 0 0), (vI 3 0), (vR 251), (vb true), (vI 181 0), (vR 252), vN, (vR 253), (vR 254), (vR 255), (vI 532 0), (vI 141 0), (vS "/claim/cut.py" 533)]
def o2_257 : Obj := oL (vT "function") none "_law_spoilt" "_law_spoilt" (topP R.prog 35) 3 vN vN vN (vS "law_mender_k47_edits_spoilt_anywhere" 476) none (vR 256) vN 0 []
def o2_258 : Obj := oQ (vT "tuple") [] 0
def o2_259 : Obj := oF vN []
def o2_260 : Obj := oQ (vT "tuple") [(vS "_law_error" 538), (vS "_law_kinds" 539)] 0
def o2_261 : Obj := oQ (vT "tuple") [] 0
def o2_262 : Obj := oL vN none "_law_word" "_law_word" (topP R.prog 36) 0 vN vN vN vN none vN vN 0 []
def o2_263 : Obj := oF (vT "code") [(vS "_law_word" 535), (vS "_law_word" 536), (vS "/claim/cut.py" 537), (vI 148 0), (vI 1 0), (vI 0 0), (vI 0 0), (vI 3 0), (vR 258), (vb true), (vI 181 0), (vR 259), vN, (vR 260), (vR 261), (vR 262), (vI 540 0), (vI 148 0), (vS "/claim/cut.py" 541)]
def o2_264 : Obj := oL (vT "function") none "_law_word" "_law_word" (topP R.prog 36) 3 vN vN vN (vS "law_mender_k47_edits_spoilt_anywhere" 476) none (vR 263) vN 0 []
def o2_265 : Obj := oQ (vT "tuple") [] 0
def o2_266 : Obj := oF vN []
def o2_267 : Obj := oQ (vT "tuple") [(vS "_law_work" 546), (vS "_law_found" 547), (vS "e" 548)] 0
def o2_268 : Obj := oQ (vT "tuple") [] 0
def o2_269 : Obj := oL vN none "_law_told" "_law_told" (topP R.prog 37) 0 vN vN vN vN none vN vN 0 []
def o2_270 : Obj := oF (vT "code") [(vS "_law_told" 543), (vS "_law_told" 544), (vS "/claim/cut.py" 545), (vI 155 0), (vI 1 0), (vI 0 0), (vI 0 0), (vI 3 0), (vR 265), (vb true), (vI 181 0), (vR 266), vN, (vR 267), (vR 268), (vR 269), (vI 549 0), (vI 155 0), (vS "/claim/cut.py" 550)]
def o2_271 : Obj := oL (vT "function") none "_law_told" "_law_told" (topP R.prog 37) 3 vN vN vN (vS "law_mender_k47_edits_spoilt_anywhere" 476) none (vR 270) vN 0 []
def o2_272 : Obj := oQ (vT "tuple") [] 0
def o2_273 : Obj := oF vN []
def o2_274 : Obj := oL vN none "_law_text" "_law_text" (topP R.prog 38) 0 vN vN vN vN none vN vN 0 []
def o2_275 : Obj := oF (vT "code") [(vS "_law_text" 552), (vS "_law_text" 553), (vS "/claim/cut.py" 554), (vI 162 0), (vI 1 0), (vI 0 0), (vI 0 0), (vI 3 0), (vR 272), (vb true), (vI 181 0), (vR 273), vN, vN, vN, (vR 274), (vI 555 0), (vI 162 0), (vS "/claim/cut.py" 556)]
def o2_276 : Obj := oL (vT "function") none "_law_text" "_law_text" (topP R.prog 38) 3 vN vN vN (vS "law_mender_k47_edits_spoilt_anywhere" 476) none (vR 275) vN 0 []
def o2_277 : Obj := oQ (vT "tuple") [] 0
def o2_278 : Obj := oF vN []
def o2_279 : Obj := oQ (vT "tuple") [(vS "_law_drawn" 561), (vS "_law_text_here" 562), (vS "_law_found" 563), (vS "_law_begin" 564), (vS "_law_k" 565), (vS "_law_end" 566), (vS "_law_new" 567)] 0
def o2_280 : Obj := oQ (vT "tuple") [] 0
def o2_281 : Obj := oL vN none "_law_edits" "_law_edits" (topP R.prog 39) 0 vN vN vN vN none vN vN 0 []
def o2_282 : Obj := oF (vT "code") [(vS "_law_edits" 558), (vS "_law_edits" 559), (vS "/claim/cut.py" 560), (vI 165 0), (vI 2 0), (vI 0 0), (vI 0 0), (vI 3 0), (vR 277), (vb true), (vI 181 0), (vR 278), vN, (vR 279), (vR 280), (vR 281), (vI 568 0), (vI 165 0), (vS "/claim/cut.py" 569)]
def o2_283 : Obj := oL (vT "function") none "_law_edits" "_law_edits" (topP R.prog 39) 3 vN vN vN (vS "law_mender_k47_edits_spoilt_anywhere" 476) none (vR 282) vN 0 []
def o2_284 : Obj := oQ (vT "tuple") [] 0
def o2_285 : Obj := oF vN []
def o2_286 : Obj := oQ (vT "tuple") [(vS "_law_thing" 574), (vS "_law_text_here" 575)] 0
def o2_287 : Obj := oQ (vT "tuple") [] 0
def o2_288 : Obj := oL vN none "_law_is_place" "_law_is_place" (topP R.prog 40) 0 vN vN vN vN none vN vN 0 []
def o2_289 : Obj := oF (vT "code") [(vS "_law_is_place" 571), (vS "_law_is_place" 572), (vS "/claim/cut.py" 573), (vI 176 0), (vI 2 0), (vI 0 0), (vI 0 0), (vI 3 0), (vR 284), (vb true), (vI 181 0), (vR 285), vN, (vR 286), (vR 287), (vR 288), (vI 576 0), (vI 176 0), (vS "/claim/cut.py" 577)]
def o2_290 : Obj := oL (vT "function") none "_law_is_place" "_law_is_place" (topP R.prog 40) 3 vN vN vN (vS "law_mender_k47_edits_spoilt_anywhere" 476) none (vR 289) vN 0 []
def o2_291 : Obj := oQ (vT "tuple") [] 0
def o2_292 : Obj := oF vN []
def o2_293 : Obj := oQ (vT "tuple") [(vS "_law_thing" 582), (vS "_law_text_here" 583), (vS "_law_behind" 584), (vS "_law_one" 585)] 0
def o2_294 : Obj := oQ (vT "tuple") [] 0
def o2_295 : Obj := oL vN none "_law_are_edits" "_law_are_edits" (topP R.prog 41) 0 vN vN vN vN none vN vN 0 []
def o2_296 : Obj := oF (vT "code") [(vS "_law_are_edits" 579), (vS "_law_are_edits" 580), (vS "/claim/cut.py" 581), (vI 178 0), (vI 2 0), (vI 0 0), (vI 0 0), (vI 3 0), (vR 291), (vb true), (vI 181 0), (vR 292), vN, (vR 293), (vR 294), (vR 295), (vI 586 0), (vI 178 0), (vS "/claim/cut.py" 587)]
def o2_297 : Obj := oL (vT "function") none "_law_are_edits" "_law_are_edits" (topP R.prog 41) 3 vN vN vN (vS "law_mender_k47_edits_spoilt_anywhere" 476) none (vR 296) vN 0 []
def o2_298 : Obj := oQ (vT "tuple") [] 0
def o2_299 : Obj := oF vN []
def o2_300 : Obj := oQ (vT "tuple") [(vS "_law_text_here" 592), (vS "_law_edits_here" 593), (vS "_law_found" 594), (vS "_law_back" 595), (vS "_law_at" 596), (vS "_law_begin" 597), (vS "_law_end" 598), (vS "_law_new" 599)] 0
def o2_301 : Obj := oQ (vT "tuple") [] 0
def o2_302 : Obj := oL vN none "_law_done" "_law_done" (topP R.prog 42) 0 vN vN vN vN none vN vN 0 []
def o2_303 : Obj := oF (vT "code") [(vS "_law_done" 589), (vS "_law_done" 590), (vS "/claim/cut.py" 591), (vI 191 0), (vI 2 0), (vI 0 0), (vI 0 0), (vI 3 0), (vR 298), (vb true), (vI 181 0), (vR 299), vN, (vR 300), (vR 301), (vR 302), (vI 600 0), (vI 191 0), (vS "/claim/cut.py" 601)]
def o2_304 : Obj := oL (vT "function") none "_law_done" "_law_done" (topP R.prog 42) 3 vN vN vN (vS "law_mender_k47_edits_spoilt_anywhere" 476) none (vR 303) vN 0 []
def o2_305 : Obj := oQ (vT "tuple") [] 0
def o2_306 : Obj := oF vN []
def o2_307 : Obj := oQ (vT "tuple") [(vS "_law_text_here" 606), (vS "_law_thing" 607), (vS "_law_due" 608), (vS "_law_text_behind" 609), (vS "_law_back" 610), (vS "_law_kept" 611), (vS "_law_found" 612)] 0
def o2_308 : Obj := oQ (vT "tuple") [(vS "_law_text_here" 613), (vS "_law_thing" 614)] 0
def o2_309 : Obj := oL vN none "_law_right" "_law_right" (topP R.prog 43) 0 vN vN vN vN none vN vN 0 []
def o2_310 : Obj := oF (vT "code") [(vS "_law_right" 603), (vS "_law_right" 604), (vS "/claim/cut.py" 605), (vI 199 0), (vI 2 0), (vI 0 0), (vI 0 0), (vI 3 0), (vR 305), (vb true), (vI 181 0), (vR 306), vN, (vR 307), (vR 308), (vR 309), (vI 615 0), (vI 199 0), (vS "/claim/cut.py" 616)]
def o2_311 : Obj := oL (vT "function") none "_law_right" "_law_right" (topP R.prog 43) 3 vN vN vN (vS "law_mender_k47_edits_spoilt_anywhere" 476) none (vR 310) vN 0 []
def o2_312 : Obj := oQ (vT "tuple") [] 0
def o2_313 : Obj := oF vN []
def o2_314 : Obj := oQ (vT "tuple") [(vS "_law_script" 621), (vS "_law_k" 622), (vS "_law_cell" 623), (vS "_law_drawn" 624), (vS "_law_text_here" 625), (vS "_law_edits_here" 626), (vS "_law_turn" 627)] 0
def o2_315 : Obj := oQ (vT "tuple") [(vS "_law_thing" 628), (vS "_law_wrong" 629)] 0
def o2_316 : Obj := oL vN none "law" "law" (topP R.prog 44) 0 vN vN vN vN none vN vN 0 []
def o2_317 : Obj := oF (vT "code") [(vS "law" 618), (vS "law" 619), (vS "/claim/cut.py" 620), (vI 210 0), (vI 1 0), (vI 0 0), (vI 0 0), (vI 3 0), (vR 312), (vb true), (vI 181 0), (vR 313), vN, (vR 314), (vR 315), (vR 316), (vI 630 0), (vI 210 0), (vS "/claim/cut.py" 631)]
def o2_318 : Obj := oL (vT "function") none "law" "law" (topP R.prog 44) 3 vN vN vN (vS "law_mender_k47_edits_spoilt_anywhere" 476) none (vR 317) vN 0 []
def c2_0 (w : World) : List Obj := [o1_11, o2_12, o1_13, o1_14, o1_15, o1_16, o1_17 w, o1_18, o1_19, o1_20, o1_21, o1_22, o1_23 w, o1_24, o1_25, o1_26, o1_27, o1_28, o1_29, o1_30 w, o1_31, o1_32, o1_33, o1_34, o1_35, o1_36 w, o1_37, o1_38, o1_39, o1_40, o1_41, o1_42 w, o1_43, o1_44, o1_45, o1_46, o1_47, o1_48 w, o1_49, o1_50]
def c2_40 (w : World) : List Obj := [o1_51, o1_52, o1_53, o1_54 w, o1_55, o1_56, o1_57, o1_58, o1_59, o1_60 w, o1_61, o1_62, o1_63, o1_64, o1_65, o1_66 w, o1_67, o1_68, o1_69, o1_70, o1_71, o1_72, o1_73, o1_74, o1_75, o1_76, o1_77, o1_78, o1_79 w, o1_80, o1_81, o1_82, o1_83, o1_84, o1_85 w, o1_86, o1_87, o1_88, o1_89, o1_90]
def c2_80 (w : World) : List Obj := [o1_91 w, o1_92, o1_93, o1_94, o1_95, o1_96, o1_97 w, o1_98, o1_99, o1_100, o1_101, o1_102, o1_103 w, o1_104, o1_105, o1_106, o1_107, o1_108, o1_109 w, o1_110, o1_111, o1_112, o1_113, o1_114, o1_115 w, o1_116, o1_117, o1_118, o1_119, o1_120, o1_121 w, o1_122, o1_123, o1_124, o1_125, o1_126, o1_127, o1_128, o1_129, o1_130]
def c2_120 (w : World) : List Obj := [o1_131, o1_132, o1_133, o1_134 w, o1_135, o1_136, o1_137, o1_138, o1_139, o1_140 w, o1_141, o1_142, o1_143, o1_144, o1_145, o1_146 w, o1_147, o1_148, o1_149, o1_150, o1_151, o1_152, o1_153, o1_154, o1_155, o1_156, o1_157, o1_158, o1_159, o1_160, o1_161, o1_162, o1_163, o1_164, o1_165, o1_166, o1_167, o1_168, o1_169, o1_170]
def c2_160 (w : World) : List Obj := [o1_171, o1_172, o1_173, o1_174, o1_175, o1_176, o1_177, o1_178, o1_179, o1_180, o1_181, o1_182, o1_183, o1_184, o1_185, o1_186, o1_187, o1_188, o1_189, o1_190, o1_191, o1_192, o1_193, o1_194, o1_195, o1_196, o1_197, o1_198, o1_199, o1_200, o1_201, o1_202, o1_203, o1_204, o1_205, o1_206, o1_207, o1_208, o1_209, o1_210]
def c2_200 (w : World) : List Obj := [o1_211, o1_212, o1_213, o1_214, o1_215, o1_216, o1_217, o2_218, o2_219, o2_220, o2_221, o2_222, o2_223, o2_224, o2_225, o2_226, o2_227, o2_228, o2_229, o2_230, o2_231, o2_232, o2_233, o2_234, o2_235, o2_236, o2_237, o2_238, o2_239, o2_240, o2_241, o2_242, o2_243, o2_244, o2_245, o2_246, o2_247, o2_248, o2_249, o2_250]
def c2_240 (w : World) : List Obj := [o2_251, o2_252, o2_253, o2_254, o2_255, o2_256, o2_257, o2_258, o2_259, o2_260, o2_261, o2_262, o2_263, o2_264, o2_265, o2_266, o2_267, o2_268, o2_269, o2_270, o2_271, o2_272, o2_273, o2_274, o2_275, o2_276, o2_277, o2_278, o2_279, o2_280, o2_281, o2_282, o2_283, o2_284, o2_285, o2_286, o2_287, o2_288, o2_289, o2_290]
def c2_280 (w : World) : List Obj := [o2_291, o2_292, o2_293, o2_294, o2_295, o2_296, o2_297, o2_298, o2_299, o2_300, o2_301, o2_302, o2_303, o2_304, o2_305, o2_306, o2_307, o2_308, o2_309, o2_310, o2_311, o2_312, o2_313, o2_314, o2_315, o2_316, o2_317, o2_318]
def objs2 (w : World) : List Obj := ((boot_heap w.params).objs.toList.set 3 (o2_3 w)).set 2 (o1_2) ++ (c2_0 w ++ (c2_40 w ++ (c2_80 w ++ (c2_120 w ++ (c2_160 w ++ (c2_200 w ++ (c2_240 w ++ (c2_280 w))))))))
def x2 (w : World) : Wr := ⟨objs2 w, 633, (boot_heap w.params).life, #[], boot_drawn⟩
theorem p2_false (w : World) (os : OsState) (pos : Pos) : phN R.prog (w.withFollow "special-get-raises" false) (x1 (w.withFollow "special-get-raises" false)) 482 (bodP R.prog 30 45) os pos = some (codP R.prog, x2 (w.withFollow "special-get-raises" false), os) := by
  kernel_rfl
theorem p2_true (w : World) (os : OsState) (pos : Pos) : phN R.prog (w.withFollow "special-get-raises" true) (x1 (w.withFollow "special-get-raises" true)) 482 (bodP R.prog 30 45) os pos = some (codP R.prog, x2 (w.withFollow "special-get-raises" true), os) := by
  kernel_rfl
end
end H47

namespace PW
open PySem L2 PySem.Spec PyProof.Rows
section
variable {pg : Program} {wo : World} {Ar : Around} {Rr : Result → Shared → Prop} {It : Addr} {fa wa : List Addr} {mm : Nat} {Pv : Nat → Value → Prop} {Sg : Nat → Heap → Prop}
end
section
variable {pg : Program} {wo : World} {Ar : Around} {Ex : Value → Shared → Prop} {t : Shared} {l : Addr}
end
end PW

namespace PW
open PySem L2
section
variable {X : Cx} {W : WX} {k i : Nat} {ps : List Str} {x : Str} {p pos : Pos} {e : Expr} {es : List Expr} {ws : AW} {f : Addr} {fd : FuncData} {t : TA} {sp : Sp} {E : St → XK}
end
def Ld (o : List OC) (v : PV) (xs : List PyData) : Prop := match v with
  | .d x => x = .list xs
  | .own n => o[n]? = some (.dl xs)
  | _ => False
def srcOf (v : PV) (xs : List PyData) : SrcO := match v with
  | .own n => some (n, xs)
  | _ => none
def wLX (we : EW) : IW := fun kx s k => we kx s fun v s1 => ∃ xs, Ld s1.o v xs ∧ k xs (srcOf v xs) s1
section
variable {X : Cx} {W : WX} {tg e : Expr} {we : EW}
theorem i_listX (he : PE X e (tE X.K W we)) : PI X tg e (tI X.K W (wLX we)) := by
  refine PI.imp (pi_list he) fun σ H R ⟨H0, F0, A0, s, T, kx, k, w, xl, h, q⟩ => un_of w xl h fun v s1 u H1 h1 w1 => ?_
  obtain ⟨xs, hl, h1⟩ := h1
  cases v with
  | d x =>
    have hl : x = .list xs := hl
    subst hl
    obtain ⟨v', ys, s2, h2, hs, w2⟩ := lst_ok (k := fun xs s => k xs none s) w1 ⟨xs, rfl, h1⟩
    obtain ⟨F, A, w3⟩ := id w2
    obtain ⟨a, vs, rfl, h3, h4⟩ := lsrc_ok w3 hs List.mem_cons_self
    exact ⟨a, rfl, ⟨vs, h3⟩, q _ _ _ h2 _ [(v', .ref a)] H1 w2 (it_list hs)⟩
  | own n =>
    have ho : s1.o[n]? = some (.dl xs) := hl
    obtain ⟨F, A, w3⟩ := id w1
    obtain ⟨p, vs, hp, rfl, h3, h4⟩ := own_at w3 List.mem_cons_self ho
    exact ⟨p, rfl, ⟨vs, SqL.of h3⟩, q _ _ _ h1 _ [(.own n, .ref p)] H1 w1 it_own⟩
  | scr _ => exact hl.elim
  | tp _ => exact hl.elim
  | gl _ => exact hl.elim
  | exc _ => exact hl.elim
  | xd _ => exact hl.elim
  | dk _ => exact hl.elim
  | fn _ _ _ _ _ => exact hl.elim
end
theorem Ld.src {o : List OC} {v : PV} {xs : List PyData} {r : List (Option PV)} (h : Ld o v xs) : Src (srcOf v xs) ⟨r, o⟩ := by
  cases v with
  | own n => exact h
  | _ => trivial
theorem Ld.ty {o : List OC} {v : PV} {xs : List PyData} {r : List (Option PV)} (h : Ld o v xs) : tyPV ⟨r, o⟩ v = some "list" := by
  cases v with
  | d x => have h : x = .list xs := h; subst h; rfl
  | own n =>
    have h : o[n]? = some (.dl xs) := h
    unfold tyPV
    simp only [h]
    rfl
  | _ => exact h.elim
theorem Ld.app {o q : List OC} {v : PV} {xs : List PyData} (h : Ld o v xs) : Ld (o ++ q) v xs := by
  cases v with
  | d x => exact h
  | own n =>
    have h : o[n]? = some (.dl xs) := h
    show (o ++ q)[n]? = _
    rw [List.getElem?_append_left (List.getElem?_eq_some_iff.mp h).1, h]
  | _ => exact h.elim
end PW

namespace PW
open PySem PySem.Spec PyProof.Rows L2
section
variable {X : Cx} {o e : Expr} {es : List Expr} {to te : TE} {ta : TA} {f x : Str} {p p' p1 p2 pos : Pos} {C0 : Addr} {mc : Value}
theorem pe_meinit {pl : Sem Bool} (hg : Gl X x) (hm : X.mg x = some (.ref C0)) (hr : PySem.W.readsIn X.K C0 mc = true) (hs : PySem.W.specialIn X.K (.ref C0) "__getattribute__" = some (some (.builtin "type.__getattribute__")))
    (vV : PySem.W.findCls X.K (.ref C0) mc "__init__" = some (.val (.builtin "ValueError.__init__"))) (ha : PA X (e :: es) ta) (hdb : (x == ("__debug__" : Str)) = false := by decide)
    (hc : eval (.Call (.Attribute (.Name x p1) "__init__" p2) (e :: es) [] pos) X.env = (do
      let ov ← eval (.Name x p1) X.env
      standAt p2.atName
      let (f, first) ← holding [ov] (getMethod ov "__init__" pl)
      callWith pos f first (backTo pos (starEach (e :: es) X.env)) (backToKw pos (keywordEach [] X.env))) := by rfl)
    (he : starEach (e :: es) X.env = (false, eval e X.env) :: starEach es X.env := by rfl) (hpl : (backTo pos (starEach es X.env)).any (·.1) = false := by rfl) :
    PE X (.Call (.Attribute (.Name x p1) "__init__" p2) (e :: es) [] pos) (tVeI X.K ta) := by
  refine ⟨fun pins s σ H Q I h => ?_⟩
  refine PySem.W.methodCall_KW (ld_glob I hg hm ?_ hdb) hc
  obtain ⟨m, fr⟩ := I.fr
  refine PySem.W.method_of_cls fr I.ok.mod.kin hs ?_
  refine PySem.W.cls_value I.kIn hr vV (by decide +kernel) ?_
  show wpAny _ _ (callWith pos (Value.builtin "ValueError.__init__") [] (backTo pos (starEach (e :: es) X.env)) []) _ _ _
  refine PyProof.Rows.callWith_method1 (thn (ha.run pos pins _ σ H _ (I.tok _) h) fun us s1 ⟨vs, H1, I1, r1, a, C, ws, ev, hl, T, ea, q⟩ => ?_) he hpl
  subst ev
  cases r1 with
  | @cons _ u0 _ ur ra rw' =>
    obtain rfl : u0 = Value.ref a := ra
    have hlen : ur.length ≤ sizeLine := by
      rw [← Paired.length rw', sizeLine_eq]
      omega
    exact oinit_ok T I1 ea hlen fun s' J => ⟨.non, H1, J, rfl, q⟩
def spInit (K : PySem.W.Frag) (C : Addr) (g1 g2 : Str) : Sp := fun vs H Q _ => ∃ (a : Addr) (y1 y2 : V), vs = [.ref a, y1, y2] ∧ OexC K C ∧ PySem.W.findIn K (.ref C) g1 = some none ∧ PySem.W.findIn K (.ref C) g2 = some none ∧ H a = some (exo a C none) ∧
  ∀ dx, H dx = none → dx ≠ a → Q .non (upd (upd (upd H dx (exd dx [(g1, y1)])) a (exo a C (some dx))) dx (exd dx [(g2, y2), (g1, y1)]))
theorem init2_core {K : PySem.W.Frag} {C : Addr} {g1 g2 : Str} {N : List Str} (hN : N.length = 3) (vs : List V) (H : Hp) (Q : VK) (E : XK) (z : V) (h : spInit K C g1 g2 vs H Q E) :
    ∃ (a : Addr) (y1 y2 : V), L2.start N vs = [some (.ref a), some y1, some y2] ∧ OexC K C ∧ H a = some (exo a C none) ∧
      tOst K g1 (tVar 0) (tVar 1) { nx := fun σ H' => tOst K g2 (tVar 0) (tVar 2) { nx := fun _ H' => Q .non H', rt := Q } σ H', rt := Q } (L2.start N vs) H := by
  obtain ⟨a, y1, y2, rfl, T, n1, n2, e, q⟩ := h
  have st : L2.start N [V.ref a, y1, y2] = [some (.ref a), some y1, some y2] := by
    show [V.ref a, y1, y2].map some ++ List.replicate (N.length - 3) none = _
    rw [hN]
    rfl
  refine ⟨a, y1, y2, st, T, e, ?_⟩
  rw [st]
  refine ⟨y1, rfl, .ref a, rfl, a, C, rfl, T, n1, .inl ⟨e, fun dx hd ne => ?_⟩⟩
  refine ⟨y2, rfl, .ref a, rfl, a, C, rfl, T, n2, .inr ⟨dx, [(g1, y1)], upd_same, ?_, (by show 1 ≤ 900; omega), q dx hd ne⟩⟩
  rw [upd_ne ne]
  exact upd_same
end
section
variable {P : Program} {w : World} {K : PySem.W.Frag} {mg : Str → Option Value} {base : Heap}
def tInit2 (K : PySem.W.Frag) (msg g1 g2 : Str) : TS := tSeq (tDrop (tVeI K (tCons (tVar 0) (tCons (tC (.str msg)) tNil)))) (tSeq (tOst K g1 (tVar 0) (tVar 1)) (tOst K g2 (tVar 0) (tVar 2)))
theorem init2_ok {x qual msg g1 g2 : Str} {st : Stmt} {f C : Addr} {fd : FuncData} {N ps : List Str} {k : Nat} (F : Fun K x qual st f fd) (Sc : FnScope N ps (defScope st)) (hN : N.length = 3) (hp : ps.length = 3)
    (body : ∀ (cdv : Value) (A : Around) (outer : List Env) (s : Shared) (H : Hp) (E : XK), PSs (cxOf (L2.CX P w) P w K mg base N qual (defScope st) f cdv A outer s H E) (defBody st) (tInit2 K msg g1 g2)) :
    FnOk P w K mg base (L2.CX P w) (k + 1) f fd ps (spInit K C g1 g2) :=
  F.okX Sc (fun vs H Q E ⟨a, y1, y2, e, _⟩ => by rw [e, hp]; rfl) fun cdv A outer s H vs Q E hr h => ⟨_, body cdv A outer s H E, by
    obtain ⟨a, y1, y2, st, T, e, q⟩ := init2_core hN vs H Q E .non h
    have st1 : (L2.start N vs)[0]? = some (some (.ref a)) := by rw [st]; rfl
    exact ⟨.ref a, st1, a, C, [.str msg], rfl, (by show 1 ≤ 1000; omega), T, e, q⟩⟩
end
def wRaiseI (C : Addr) (g1 g2 : Str) (ws : AW) : SW := fun kx s _ => ws kx s fun vs s1 => frzs vs s1 fun xs s2 => ∃ y1 y2, xs = [y1, y2] ∧ kx ⟨C, some [(g2, y2), (g1, y1)]⟩ s2
section
variable {X : Cx} {W : WX} {e : Expr} {es : List Expr} {ws : AW} {x : Str} {p pos pos' : Pos} {C fI : Addr} {fd : FuncData} {ps : List Str} {k : Nat} {g1 g2 : Str}
theorem upd_two {H : Hp} {a d : Addr} {o1 o2 u u' v : HO} (hn : H a = none) (hd : d ≠ a) : upd (del (upd (upd (upd H a o1) d u) a o2 |> fun G => upd G d u') a) d v = upd H d v := by
  funext b
  unfold upd del
  by_cases h1 : b = d
  · simp [h1]
  · by_cases h2 : b = a
    · subst h2; simp [h1, hn]
    · simp [h1, h2]
theorem s_raiseI (hc : X.calm = true) (tk : Takes X W) (T : OexC X.K C) (n1 : PySem.W.findIn X.K (.ref C) g1 = some none) (n2 : PySem.W.findIn X.K (.ref C) g2 = some none)
    (iC : PySem.W.findIn X.K (.ref C) "__init__" = some (some (.ref fI))) (tI : PySem.W.typeIn X.K (.ref fI) = some (.type "function"))
    (F1 : FnOk X.prog X.w X.K X.mg X.base (L2.CX X.prog X.w) k fI fd ps (spInit X.K C g1 g2)) (hr : Room (k + 1) X.A) (hb : Binds X.K fd ps []) (hx : Passes (L2.CX X.prog X.w) X (fun _ _ _ => False)) (hg : Gl X x) (hm : X.mg x = some (.ref C)) (ha : PA X (e :: es) (tA X.K W ws))
    (hdb : (x == ("__debug__" : Str)) = false := by decide) (he : starEach (e :: es) X.env = (false, eval e X.env) :: starEach es X.env := by rfl) (hpl : (backTo pos (starEach es X.env)).any (·.1) = false := by rfl) :
    PS X (.Raise (some (.Call (.Name x p) (e :: es) [] pos)) none pos') (tS X.K W (wRaiseI C g1 g2 ws)) := by
  refine PS.imp (ps_raise hc tk (pmk_oex (dvs := []) (ds := []) T iC tI F1 hr hb .nil hx hg hm ha hdb he hpl)) fun D σ H ⟨H0, F0, A0, s, T1, kx, k, w, xl, h, q1, q2, q3, q4⟩ => ar_of w xl h fun vs s1 us H1 h1 e w1 => ?_
  obtain ⟨xs, s2, ⟨y1, y2, rfl, hk⟩, e2, w2⟩ := frzs_ok vs us s1 T1 _ e w1 h1
  obtain ⟨F, A, w2⟩ := w2
  have d := temps_dq _ us T1 e2 w2
  match us, e2, d, w2 with
  | [u1, u2], _, d, w2 =>
    refine ⟨by show 2 ≤ 1000; omega, fun a hn => ?_⟩
    refine ⟨a, u1, u2, rfl, T, n1, n2, upd_same, fun dx hd ne => ⟨rfl, dx, [(g2, u2), (g1, u1)], ?_, upd_same, ?_, ?_⟩⟩
    · rw [upd_ne (Ne.symm ne), upd_same]
    · rw [upd_ne ne] at hd; exact hd
    · have hd' : H1 dx = none := by rw [upd_ne ne] at hd; exact hd
      have w3 := (w2.newD (o := .xd [(g2, u2), (g1, u1)]) hd').sub (T' := T1) fun t h => List.mem_append_right _ h
      have hh := upd_two (H := H1) (a := a) (d := dx) (o1 := exo a C none) (o2 := exo a C (some dx)) (u := exd dx [(g1, u1)]) (u' := exd dx [(g2, u2), (g1, u1)]) (v := .xd [(g2, u2), (g1, u1)]) hn ne
      have hh2 : upd (del (upd (upd (upd (upd H1 a (exo a C none)) dx (exd dx [(g1, u1)])) a (exo a C (some dx))) dx (exd dx [(g2, u2), (g1, u1)])) a) dx (.xd [(g2, u2), (g1, u1)]) = upd H1 dx (.xd [(g2, u2), (g1, u1)]) := hh
      rw [hh2]
      cases d with | cons d1 dr => ?_
      cases dr with | cons d2 dn => ?_
      have fn := w2.fz.g.free hd'
      exact xl ⟨C, some [(g2, y2), (g1, y1)]⟩ s2 hk σ _ (some dx) ⟨_, A, w3.push ⟨some dx, rfl, dx, [(g2, u2), (g1, u1)], rfl, upd_same, rfl, dqAll_same (same_new fn) (.cons d2 (.cons d1 .nil))⟩⟩
end
section
variable {X : Cx} {W : WX} {e : Expr} {we : EW} {pos : Pos} {C : Addr} {f : Str}
end
end PW
namespace PW
open PySem PySem.Spec PyProof.Rows L2
structure CalI (P : Program) (w : World) (K : PySem.W.Frag) (mg : Str → Option Value) (base : Heap) (k : Nat) (x : Str) (C : Addr) (g1 g2 : Str) : Prop where
  ex : ∃ fI fd ps, OexC K C ∧ PySem.W.findIn K (.ref C) g1 = some none ∧ PySem.W.findIn K (.ref C) g2 = some none ∧ PySem.W.findIn K (.ref C) "__init__" = some (some (.ref fI)) ∧ PySem.W.typeIn K (.ref fI) = some (.type "function") ∧
    FnOk P w K mg base (L2.CX P w) k fI fd ps (spInit K C g1 g2) ∧ Binds K fd ps [] ∧ mg x = some (.ref C)
structure DfdI (K : PySem.W.Frag) (mg : Str → Option Value) (x qual : Str) (C : Addr) (g1 g2 : Str) (ps : List Str) (st : Stmt) : Prop where
  ex : ∃ fI fd, Fun K "__init__" qual st fI fd ∧ OexC K C ∧ PySem.W.findIn K (.ref C) g1 = some none ∧ PySem.W.findIn K (.ref C) g2 = some none ∧ PySem.W.findIn K (.ref C) "__init__" = some (some (.ref fI)) ∧ PySem.W.typeIn K (.ref fI) = some (.type "function") ∧
    Binds K fd ps [] ∧ mg x = some (.ref C)
theorem DfdI.cal {P : Program} {w : World} {K : PySem.W.Frag} {mg : Str → Option Value} {base : Heap} {x qual msg g1 g2 : Str} {C : Addr} {st : Stmt} {N ps : List Str} (D : DfdI K mg x qual C g1 g2 ps st) (Sc : FnScope N ps (defScope st)) (hN : N.length = 3) (hp : ps.length = 3)
    (body : ∀ (f : Addr) (cdv : Value) (A : Around) (outer : List Env) (s : Shared) (H : Hp) (E : XK), PSs (cxOf (L2.CX P w) P w K mg base N qual (defScope st) f cdv A outer s H E) (defBody st) (tInit2 K msg g1 g2)) : CalI P w K mg base 1 x C g1 g2 := by
  obtain ⟨fI, fd, F, T, n1, n2, i, t, b, m⟩ := D.ex
  exact ⟨fI, fd, ps, T, n1, n2, i, t, init2_ok (k := 0) F Sc hN hp (body fI), b, m⟩
section
variable {X : Cx} {W : WX} {k j : Nat} {e : Expr} {es : List Expr} {ws : AW} {x : Str} {p pos pos' : Pos} {C : Addr} {g1 g2 : Str}
theorem c_raiseI (c : CalI X.prog X.w X.K X.mg X.base k x C g1 g2) (hc : X.calm = true) (tk : Takes X W) (hr : Room j X.A) (ha : PA X (e :: es) (tA X.K W ws)) (hk : k + 1 ≤ j := by decide) (hg : Gl X x := by rfl)
    (hdb : (x == ("__debug__" : Str)) = false := by decide) (he : starEach (e :: es) X.env = (false, eval e X.env) :: starEach es X.env := by rfl) (hpl : (backTo pos (starEach es X.env)).any (·.1) = false := by rfl) :
    PS X (.Raise (some (.Call (.Name x p) (e :: es) [] pos)) none pos') (tS X.K W (wRaiseI C g1 g2 ws)) := by
  obtain ⟨fI, fd, ps, T, n1, n2, i, t, F, b, m⟩ := c.ex
  exact s_raiseI hc tk T n1 n2 i t F (hr.mono hk) b passL hg m ha hdb he hpl
end
structure BaseI (K : PySem.W.Frag) (mg : Str → Option Value) (x : Str) (C : Addr) : Prop where
  g : mg x = some (.ref C)
  r : PySem.W.readsIn K C (.type "type") = true
  s : PySem.W.specialIn K (.ref C) "__getattribute__" = some (some (.builtin "type.__getattribute__"))
  v : PySem.W.findCls K (.ref C) (.type "type") "__init__" = some (.val (.builtin "ValueError.__init__"))
def clsBody : Stmt → List Stmt
  | .ClassDef _ _ _ b _ _ _ _ _ _ _ => b
  | _ => []
abbrev iniS (st : Stmt) : Stmt := (clsBody st).getD 0 (.Pass ⟨0, 0, 0, 0⟩)
end PW

namespace K47
open PySem L2 PW
def topS (i : Nat) : Stmt := PySem.Challenge.pw_mender_k47_edits_spoilt_anywhere.main.body.getD i (.Pass ⟨0, 0, 0, 0⟩)
abbrev s_need_text : Stmt := topS 17
abbrev s_is_place : Stmt := topS 20
abbrev s_is_text : Stmt := topS 21
abbrev s_need_edits : Stmt := topS 22
abbrev s_done : Stmt := topS 23
abbrev s_grown : Stmt := topS 24
abbrev s_backs : Stmt := topS 25
abbrev s_touch : Stmt := topS 26
abbrev s_need_apart : Stmt := topS 27
abbrev s_moved : Stmt := topS 28
abbrev s_law_begun : Stmt := topS 30
abbrev s_law_next : Stmt := topS 31
abbrev s_law_spots : Stmt := topS 32
abbrev s_law_with : Stmt := topS 33
abbrev s_law_step : Stmt := topS 34
abbrev s_law_spoilt : Stmt := topS 35
abbrev s_law_word : Stmt := topS 36
abbrev s_law_told : Stmt := topS 37
abbrev s_law_text : Stmt := topS 38
abbrev s_law_edits : Stmt := topS 39
abbrev s_law_is_place : Stmt := topS 40
abbrev s_law_are_edits : Stmt := topS 41
abbrev s_law_done : Stmt := topS 42
abbrev s_law_right : Stmt := topS 43
abbrev s_law : Stmt := topS 44
abbrev i_Clash : Stmt := iniS (topS 5)
def hn0 : List PySem.Str := (["__name__", "MenderError", "NoText", "TooGreat", "NoEdit", "Clash", "NoPlace", "NoName", "NotWhole", "NoMend", "NoAsk", "LETTERS", "FIGURES", "GREAT", "MARKS", "MOST_SIGNS_signs", "need_text", "MOST_SIGNS_edits", "is_place", "is_text", "need_edits", "done", "grown", "backs", "touch", "need_apart", "moved", "_law_begun", "_law_next", "_law_spots", "_law_with", "_law_step", "_law_spoilt", "_law_word", "_law_told"] : List String).map PySem.Str.ofString
def hn1 : List PySem.Str := (["_law_text", "_law_edits", "_law_is_place", "_law_are_edits", "_law_done", "_law_right"] : List String).map PySem.Str.ofString
def hns : List PySem.Str := hn0 ++ hn1
def fos (K : PySem.W.Frag) : List (Option FO) := [fo K "need_text", fo K "is_place", fo K "is_text", fo K "need_edits", fo K "done", fo K "grown", fo K "backs", fo K "touch", fo K "need_apart", fo K "moved", fo K "_law_begun", fo K "_law_next", fo K "_law_spots", fo K "_law_with", fo K "_law_step", fo K "_law_spoilt", fo K "_law_word", fo K "_law_told", fo K "_law_text", fo K "_law_edits", fo K "_law_is_place", fo K "_law_are_edits", fo K "_law_done", fo K "_law_right", fo K "law", fom K "Clash" "__init__" "Clash.__init__"]
def fosV : List (Option FO) := [some (defArgs s_need_text, defBody s_need_text, defScope s_need_text, none), some (defArgs s_is_place, defBody s_is_place, defScope s_is_place, none), some (defArgs s_is_text, defBody s_is_text, defScope s_is_text, none), some (defArgs s_need_edits, defBody s_need_edits, defScope s_need_edits, none), some (defArgs s_done, defBody s_done, defScope s_done, none), some (defArgs s_grown, defBody s_grown, defScope s_grown, none), some (defArgs s_backs, defBody s_backs, defScope s_backs, none), some (defArgs s_touch, defBody s_touch, defScope s_touch, none), some (defArgs s_need_apart, defBody s_need_apart, defScope s_need_apart, none), some (defArgs s_moved, defBody s_moved, defScope s_moved, none), some (defArgs s_law_begun, defBody s_law_begun, defScope s_law_begun, none), some (defArgs s_law_next, defBody s_law_next, defScope s_law_next, none), some (defArgs s_law_spots, defBody s_law_spots, defScope s_law_spots, none), some (defArgs s_law_with, defBody s_law_with, defScope s_law_with, none), some (defArgs s_law_step, defBody s_law_step, defScope s_law_step, none), some (defArgs s_law_spoilt, defBody s_law_spoilt, defScope s_law_spoilt, none), some (defArgs s_law_word, defBody s_law_word, defScope s_law_word, none), some (defArgs s_law_told, defBody s_law_told, defScope s_law_told, none), some (defArgs s_law_text, defBody s_law_text, defScope s_law_text, none), some (defArgs s_law_edits, defBody s_law_edits, defScope s_law_edits, none), some (defArgs s_law_is_place, defBody s_law_is_place, defScope s_law_is_place, none), some (defArgs s_law_are_edits, defBody s_law_are_edits, defScope s_law_are_edits, none), some (defArgs s_law_done, defBody s_law_done, defScope s_law_done, none), some (defArgs s_law_right, defBody s_law_right, defScope s_law_right, none), some (defArgs s_law, defBody s_law, defScope s_law, none), some (defArgs i_Clash, defBody i_Clash, defScope i_Clash, none)]
def tups (K : PySem.W.Frag) : List (Option (List PyData)) := []
def tupsV : List (Option (List PyData)) := []
def flg (K : PySem.W.Frag) : List Bool := [fCls K "TooGreat", fCls K "NoText", fCls K "MenderError", fCls K "NoEdit", fCls K "Clash", fCls K "NoAsk", fCls K "NoMend", fCls K "NotWhole", fCls K "NoName", fCls K "NoPlace", fExc K "TooGreat", fEx K "TooGreat", fDb K "TooGreat", fExc K "NoText", fEx K "NoText", fDb K "NoText", fDb K "MenderError", fExc K "NoEdit", fEx K "NoEdit", fDb K "NoEdit", fEx K "Clash", fDb K "Clash", fDb K "NoAsk", fDb K "NoMend", fDb K "NotWhole", fDb K "NoName", fDb K "NoPlace", fYB K "MenderError", fXC K "Clash", fXS K "Clash", fSp K, isNo (PySem.W.nsIn K mainGlobals "len"), fInt K "MOST_SIGNS_signs" 2000, fStr K "LETTERS" "abcdefghijklmnopqrstuvwxyz", fStr K "FIGURES" "0123456789", fStr K "GREAT" "ABCDEFGHIJKLMNOPQRSTUVWXYZ", fStr K "MARKS" " !\"#$&'()*+,-./:;<=>?\x40[\\]^_`{|}~\n", isNo (PySem.W.nsIn K mainGlobals "isinstance"), isNo (PySem.W.nsIn K mainGlobals "str"), isNo (PySem.W.nsIn K mainGlobals "int"), isNo (PySem.W.nsIn K mainGlobals "bool"), isNo (PySem.W.nsIn K mainGlobals "tuple"), isNo (PySem.W.nsIn K mainGlobals "list"), fInt K "MOST_SIGNS_edits" 2000, fOn K "Clash" "one", fOn K "Clash" "other", isNo (PySem.W.nsIn K mainGlobals "sum"), isNo (PySem.W.nsIn K mainGlobals "enumerate"), isNo (PySem.W.nsIn K mainGlobals "max"), isNo (PySem.W.nsIn K mainGlobals "ValueError"), isNo (PySem.W.nsIn K mainGlobals "range"), isNo (PySem.W.nsIn K mainGlobals "repr"), fM K "TooGreat" "MenderError" true, fM K "TooGreat" "NoAsk" false, fM K "TooGreat" "NoMend" false, fM K "TooGreat" "NotWhole" false, fM K "TooGreat" "NoName" false, fM K "TooGreat" "NoPlace" false, fM K "TooGreat" "Clash" false, fM K "TooGreat" "NoEdit" false, fM K "TooGreat" "TooGreat" true, fM K "TooGreat" "NoText" false, fM K "NoText" "MenderError" true, fM K "NoText" "NoAsk" false, fM K "NoText" "NoMend" false, fM K "NoText" "NotWhole" false, fM K "NoText" "NoName" false, fM K "NoText" "NoPlace" false, fM K "NoText" "Clash" false, fM K "NoText" "NoEdit" false, fM K "NoText" "TooGreat" false, fM K "NoText" "NoText" true, fM K "NoEdit" "MenderError" true, fM K "NoEdit" "NoAsk" false, fM K "NoEdit" "NoMend" false, fM K "NoEdit" "NotWhole" false, fM K "NoEdit" "NoName" false, fM K "NoEdit" "NoPlace" false, fM K "NoEdit" "Clash" false, fM K "NoEdit" "NoEdit" true, fM K "NoEdit" "TooGreat" false, fM K "NoEdit" "NoText" false, fM K "Clash" "MenderError" true, fM K "Clash" "NoAsk" false, fM K "Clash" "NoMend" false, fM K "Clash" "NotWhole" false, fM K "Clash" "NoName" false, fM K "Clash" "NoPlace" false, fM K "Clash" "Clash" true, fM K "Clash" "NoEdit" false, fM K "Clash" "TooGreat" false, fM K "Clash" "NoText" false, fMt K "TooGreat" "ValueError" true, fMt K "NoText" "ValueError" true, fMt K "NoEdit" "ValueError" true, fMt K "Clash" "ValueError" true]
def flgV : List Bool := [true, true, true, true, true, true, true, true, true, true, true, true, true, true, true, true, true, true, true, true, true, true, true, true, true, true, true, true, true, true, true, true, true, true, true, true, true, true, true, true, true, true, true, true, true, true, true, true, true, true, true, true, true, true, true, true, true, true, true, true, true, true, true, true, true, true, true, true, true, true, true, true, true, true, true, true, true, true, true, true, true, true, true, true, true, true, true, true, true, true, true, true, true, true, true, true]
abbrev P_law : Addr := 313
abbrev P_law_right : Addr := 306
def cK (K : PySem.W.Frag) : PySem.W.Frag := cutK [313, 306] K
def tbs (K : PySem.W.Frag) : List Bool := [fT K (cK K) "law" 313, fT K (cK K) "_law_right" 306]
def tbsV : List Bool := [true, true]
def FF (K : PySem.W.Frag) : List (Option FO) × List (Option (List PyData)) × List Bool × List Bool := (fos (cK K), tups (cK K), flg (cK K), tbs K)
def FV (w : PySem.World) : List (Option FO) × List (Option (List PyData)) × List Bool × List Bool := (fosV, tupsV, flgV, tbsV)
abbrev HR : PySem.W.OpenRow := PySem.W.OpenLaw.row PySem.Challenge.rw_mender_k47_edits_spoilt_anywhere
open HDP HandSHeadRun
theorem hb_0 : tG HR.prog (topB HR.prog 0 30) = [] ∧ tH HR.prog (topB HR.prog 0 30) = true := ⟨by kernel_rfl, by kernel_rfl⟩
theorem hb_1 : tG HR.prog (topB HR.prog 30 45) = [] ∧ tH HR.prog (topB HR.prog 30 45) = true := ⟨by kernel_rfl, by kernel_rfl⟩
theorem hb_z : tG HR.prog (HR.prog.main.body.drop 45) = [] ∧ tH HR.prog (HR.prog.main.body.drop 45) = true := ⟨by kernel_rfl, by kernel_rfl⟩
theorem hbare : HR.prog.bare := ⟨rfl, rfl, rfl, rfl, rfl, t_whole (t_cut (a := 0) (b := 30) rfl hb_0 (t_cut (a := 30) (b := 45) rfl hb_1 hb_z)) (by kernel_rfl) rfl rfl rfl⟩
section
open PySem.W PySem.Calls PyProof.Rows
abbrev HD : DefRec := HandSHeadRun.topDef HR.prog 44
theorem he1 : PySem.W.opening HR.prog = PySem.W.plainProg HR.prog.main.scope.names := by kernel_rfl
theorem he2 : ∀ s, fenceModules? HR.prog s = some s := fun s => by kernel_rfl
theorem he3 : defOf (PySem.W.view HR.prog [44]) HR.name = some (HD, []) := by kernel_rfl
theorem he4 : HR.prog.theDef HR.name = some (HD.params, HD.body, HD.scope) := by kernel_rfl
theorem he5 : kwWritten? HD.params.kwonlyargs HD.params.kw_defaults = some ([] : List (PySem.Str × PySem.Expr)) := by kernel_rfl
theorem he6 : (!HR.writes || HR.records.isEmpty) = true := by kernel_rfl
theorem he8 : (chainsOk (PySem.W.view HR.prog [44]) && PySem.W.opensWell HR.prog && (PySem.W.frees HR.toRowW && HR.within.isEmpty)) = true := ok_of (by kernel_rfl) (by kernel_rfl) (by kernel_rfl)
end
theorem hpre (w : PySem.World) : PreOk HR.prog w := by
  intro os
  kernel_rfl
theorem hlay (w : PySem.World) : LaysOk (H47.x2 w) := by
  unfold LaysOk
  kernel_rfl
theorem hz0 (w : PySem.World) (os : PySem.OsState) (pos : PySem.Pos) : phZ HR.prog (w.withFollow "special-get-raises" false) (H47.x2 (w.withFollow "special-get-raises" false)) (resP HR.prog 45) os pos = some ((H47.x2 (w.withFollow "special-get-raises" false)), os) := by
  kernel_rfl
theorem hl0 (w : PySem.World) (os : PySem.OsState) : looW HR (w.withFollow "special-get-raises" false) (layT (H47.x2 (w.withFollow "special-get-raises" false)) os) = true := by
  kernel_rfl
theorem hs0 (w : PySem.World) (os : PySem.OsState) : seeW HR (PySem.W.view HR.prog [44]) hns (layT (H47.x2 (w.withFollow "special-get-raises" false)) os) = PySem.W.openGood (PySem.W.view HR.prog [44]) hns := by
  kernel_rfl
theorem ho0_fos (w : PySem.World) (os : PySem.OsState) : frOb (fun K => fos (cK K)) (layT (H47.x2 (w.withFollow "special-get-raises" false)) os) = fosV := by
  kernel_rfl
theorem ho0_tups (w : PySem.World) (os : PySem.OsState) : frOb (fun K => tups (cK K)) (layT (H47.x2 (w.withFollow "special-get-raises" false)) os) = tupsV := by
  kernel_rfl
theorem ho0_flg (w : PySem.World) (os : PySem.OsState) : frOb (fun K => flg (cK K)) (layT (H47.x2 (w.withFollow "special-get-raises" false)) os) = flgV := by
  kernel_rfl
theorem ho0_tbs (w : PySem.World) (os : PySem.OsState) : frOb tbs (layT (H47.x2 (w.withFollow "special-get-raises" false)) os) = tbsV := by
  kernel_rfl
theorem ho0 (w : PySem.World) (os : PySem.OsState) : frOb FF (layT (H47.x2 (w.withFollow "special-get-raises" false)) os) = FV (w.withFollow "special-get-raises" false) := congr (congrArg Prod.mk (ho0_fos w os)) (congr (congrArg Prod.mk (ho0_tups w os)) (congr (congrArg Prod.mk (ho0_flg w os)) (ho0_tbs w os)))
theorem ha1_0 (w : PySem.World) (os : PySem.OsState) : At HR.prog (w.withFollow "special-get-raises" false) os (12 + (1 + 2567)) (resP HR.prog 30) (Wr.sh (H47.x1 (w.withFollow "special-get-raises" false)) os) := at_first (boot_ok _) (hpre _) (bod_res HR.prog (a := 0) (b := 30) rfl) (H47.p1_false w os)
theorem ha2_0 (w : PySem.World) (os : PySem.OsState) : At HR.prog (w.withFollow "special-get-raises" false) os (12 + (1 + 2567) + 482) (resP HR.prog 45) (Wr.sh (H47.x2 (w.withFollow "special-get-raises" false)) os) := at_more (M := 12 + (1 + 2567)) (m := 482) (a := 30) (b := 45) rfl (ha1_0 w os) (H47.p2_false w os)
theorem hrun0 (w : PySem.World) : RunIn HR (PySem.W.view HR.prog [44]) (frOb FF) FV (12 + (1 + 2567) + 482 + 100) hns (w.withFollow "special-get-raises" false) := run_zero (M := 12 + (1 + 2567) + 482) (fun os => ha2_0 w os) (hlay _) (fun os pos => hz0 w os pos) (hl0 w) (hs0 w) (ho0 w)
theorem hz1 (w : PySem.World) (os : PySem.OsState) (pos : PySem.Pos) : phZ HR.prog (w.withFollow "special-get-raises" true) (H47.x2 (w.withFollow "special-get-raises" true)) (resP HR.prog 45) os pos = some ((H47.x2 (w.withFollow "special-get-raises" true)), os) := by
  kernel_rfl
theorem hl1 (w : PySem.World) (os : PySem.OsState) : looW HR (w.withFollow "special-get-raises" true) (layT (H47.x2 (w.withFollow "special-get-raises" true)) os) = true := by
  kernel_rfl
theorem hs1 (w : PySem.World) (os : PySem.OsState) : seeW HR (PySem.W.view HR.prog [44]) hns (layT (H47.x2 (w.withFollow "special-get-raises" true)) os) = PySem.W.openGood (PySem.W.view HR.prog [44]) hns := by
  kernel_rfl
theorem ho1_fos (w : PySem.World) (os : PySem.OsState) : frOb (fun K => fos (cK K)) (layT (H47.x2 (w.withFollow "special-get-raises" true)) os) = fosV := by
  kernel_rfl
theorem ho1_tups (w : PySem.World) (os : PySem.OsState) : frOb (fun K => tups (cK K)) (layT (H47.x2 (w.withFollow "special-get-raises" true)) os) = tupsV := by
  kernel_rfl
theorem ho1_flg (w : PySem.World) (os : PySem.OsState) : frOb (fun K => flg (cK K)) (layT (H47.x2 (w.withFollow "special-get-raises" true)) os) = flgV := by
  kernel_rfl
theorem ho1_tbs (w : PySem.World) (os : PySem.OsState) : frOb tbs (layT (H47.x2 (w.withFollow "special-get-raises" true)) os) = tbsV := by
  kernel_rfl
theorem ho1 (w : PySem.World) (os : PySem.OsState) : frOb FF (layT (H47.x2 (w.withFollow "special-get-raises" true)) os) = FV (w.withFollow "special-get-raises" true) := congr (congrArg Prod.mk (ho1_fos w os)) (congr (congrArg Prod.mk (ho1_tups w os)) (congr (congrArg Prod.mk (ho1_flg w os)) (ho1_tbs w os)))
theorem ha1_1 (w : PySem.World) (os : PySem.OsState) : At HR.prog (w.withFollow "special-get-raises" true) os (12 + (1 + 2567)) (resP HR.prog 30) (Wr.sh (H47.x1 (w.withFollow "special-get-raises" true)) os) := at_first (boot_ok _) (hpre _) (bod_res HR.prog (a := 0) (b := 30) rfl) (H47.p1_true w os)
theorem ha2_1 (w : PySem.World) (os : PySem.OsState) : At HR.prog (w.withFollow "special-get-raises" true) os (12 + (1 + 2567) + 482) (resP HR.prog 45) (Wr.sh (H47.x2 (w.withFollow "special-get-raises" true)) os) := at_more (M := 12 + (1 + 2567)) (m := 482) (a := 30) (b := 45) rfl (ha1_1 w os) (H47.p2_true w os)
theorem hrun1 (w : PySem.World) : RunIn HR (PySem.W.view HR.prog [44]) (frOb FF) FV (12 + (1 + 2567) + 482 + 100) hns (w.withFollow "special-get-raises" true) := run_zero (M := 12 + (1 + 2567) + 482) (fun os => ha2_1 w os) (hlay _) (fun os pos => hz1 w os pos) (hl1 w) (hs1 w) (ho1 w)
theorem hrun (w : PySem.World) : RunIn HR (PySem.W.view HR.prog [44]) (frOb FF) FV (12 + (1 + 2567) + 482 + 100) hns w := run_rows hrun0 hrun1 w
end K47

namespace PW
open PySem L2
theorem br_p {P A B : Prop} [Decidable P] (a : P → A) (b : ¬ P → B) : (decide P = true → A) ∧ (decide P = false → B) := ⟨fun z => a (of_decide_eq_true z), fun z => b (of_decide_eq_false z)⟩
section
variable {X : Cx} {W : WX} {a : Expr} {wa : EW} {pos : Pos}
end
section
variable {X : Cx} {W : WX} {a : Expr} {wa : EW} {pos p : Pos}
end
section
variable {X : Cx} {W : WX} {pos p : Pos}
end
end PW
namespace PW
open PySem L2 PySem.Spec PyProof.Rows
structure DfdD (K : PySem.W.Frag) (mg : Str → Option Value) (x : Str) (ps : List Str) (st : Stmt) (dvs : List V) : Prop where
  ex : ∃ f fd ds, FunD K x x (defArgs st) (defBody st) (defScope st) dvs [] f fd ∧ mg x = some (.ref f) ∧ Binds K fd ps [] ∧ Binds K fd ps ds ∧ Vals dvs ds
structure CalD (P : Program) (w : World) (K : PySem.W.Frag) (mg : Str → Option Value) (base : Heap) (k : Nat) (x : Str) (ps : List Str) (S : FS) (dvs : List V) : Prop where
  ex : ∃ f fd ds, FnOk P w K mg base (L2.CX P w) k f fd ps (spOf K S) ∧ mg x = some (.ref f) ∧ PySem.W.keepIn K (.ref f) = true ∧ Binds K fd ps [] ∧ Binds K fd ps ds ∧ Vals dvs ds
section
variable {P : Program} {w : World} {K : PySem.W.Frag} {mg : Str → Option Value} {base : Heap}
theorem CalD.cal {k : Nat} {x : Str} {ps : List Str} {S : FS} {dvs : List V} (C : CalD P w K mg base k x ps S dvs) : Cal P w K mg base k x ps S := by
  obtain ⟨f, fd, ds, F, m, kp, b, _⟩ := C.ex
  exact ⟨f, fd, F, m, kp, b⟩
end
end PW

namespace PW
open PySem L2 PySem.Spec PyProof.Rows
section
variable {X : Cx} {W : WX} {k j : Nat} {ps : List Str} {S : FS} {x : Str} {p pos : Pos} {e : Expr} {es : List Expr} {ws : AW} {f : Addr} {fd : FuncData} {dvs : List V} {dss : List Value} {ds : List PyData}
end
end PW
namespace PW
open PySem L2
def wStrI (wa : EW) : EW := fun kx s k => wa kx s fun x s1 => ∃ i : Int, x = .d (.int i) ∧ i.natAbs.log2 < 1920 ∧ k (.d (.str (toString i))) s1
section
variable {X : Cx} {W : WX} {a : Expr} {wa : EW} {pos p : Pos}
theorem e_strI (hm : X.mg "str" = none) (ha : PE X a (tE X.K W wa)) (hg : Gl X "str" := by rfl) (he : starEach [a] X.env = (false, eval a X.env) :: starEach [] X.env := by rfl) (hpl : (backTo pos (starEach [] X.env)).any (·.1) = false := by rfl) :
    PE X (.Call (.Name "str" p) [a] [] pos) (tE X.K W (wStrI wa)) := by
  refine PE.imp (pe_callTy call_str_int hg hm (by decide +kernel) (pa_cons ha pa_nil he) (he := he) (hpl := hpl)) fun σ H Q ⟨H0, F0, A0, s, T, kx, k, w, xl, h, q⟩ => cb1_of w xl h fun x s1 u H1 h1 w1 => ?_
  obtain ⟨F, A, w1⟩ := w1
  have w2 := w1.sub (T' := T) fun t h => List.mem_cons_of_mem _ h
  obtain ⟨i, rfl, hl, hk⟩ := h1
  cases dp_int (dq_dp (w1.tm _ List.mem_cons_self))
  exact ⟨i, rfl, hl, q _ _ hk _ H1 ⟨F, A, w2.push (.str _)⟩⟩
end
theorem str_int (n : Nat) : (.str (toString (n : Int)) : PyData) = dT ((Nat.toDigits 10 n).map Char.toNat) := by
  have h := PySem.W.KIN.signs_num n
  show PyData.str (Str.ofString (toString (n : Int))) = PyData.str (tx _)
  congr 1
  show _ = (⟨((Nat.toDigits 10 n).map Char.toNat).toArray⟩ : Str)
  rw [← h] <;> rfl
end PW

namespace PW
open PySem L2 PySem.Spec PyProof.Rows
section
variable {X : Cx} {W : WX} {a b e f wo_e : Expr} {wa wb we wf wo : EW} {pos p : Pos}
end
abbrev DW := KX → PSt → (List (Key × PyData) → PSt → Prop) → Prop
def AllIn (T : List (PV × V)) : List (Key × PyData) → List (Key × V) → Prop
  | [], [] => True
  | kv :: r, v :: q => kv.1 = v.1 ∧ (PV.d kv.2, v.2) ∈ T ∧ AllIn T r q
  | [], _ :: _ => False
  | _ :: _, [] => False
theorem AllIn.mono {T T' : List (PV × V)} (h : ∀ t ∈ T, t ∈ T') : ∀ {a : List (Key × PyData)} {b : List (Key × V)}, AllIn T a b → AllIn T' a b
  | [], [], _ => trivial
  | _ :: _, _ :: _, ⟨e, m, r⟩ => ⟨e, h _ m, AllIn.mono h r⟩
  | [], _ :: _, h => h.elim
  | _ :: _, [], h => h.elim
def PairsOk (X : Cx) (W : WX) (trs : List (TE × TE)) (w : DW) : Prop := ∀ σ H Q H0 F0 A0 s T kx k, Wd X.K H0 F0 A0 s σ T H → XL X.K H0 F0 A0 T W kx → w kx s k →
  (∀ kvs s', k kvs s' → ∀ (vs : List (Key × V)) T' H', AllIn T' kvs vs → (∀ t ∈ T, t ∈ T') → Wd X.K H0 F0 A0 s' σ T' H' → Q (vs.map fun kv => (kV kv.1, kv.2)) H') → tPairs trs σ H Q
structure PPd (X : Cx) (W : WX) (pos : Pos) (keys : List (Option Expr)) (values : List Expr) (w : DW) : Prop where
  ex : ∃ trs, PPs X pos keys values trs ∧ PairsOk X W trs w
section
variable {X : Cx} {W : WX} {a b e f wo_e : Expr} {wa wb we wf wo : EW} {pos p : Pos} {keys : List (Option Expr)} {values : List Expr} {wd : DW}
end
end PW

namespace PW
open PySem L2 PySem.Spec PyProof.Rows
abbrev FSO := List PV → List OC → (PV → List OC → Prop) → (XV → List OC → Prop) → Prop
def spO (K : PySem.W.Frag) (S : FSO) : Sp := fun vs H Q E => ∃ H0 F0 A0 args o ret exc, Wd K H0 F0 A0 ⟨args.map some, o⟩ (vs.map some) [] H ∧ A0.length = o.length ∧ S args o ret exc ∧
  (∀ r o', ret r o' → ∀ v H', Wd K H0 F0 A0 ⟨[], o'⟩ [] [(r, v)] H' → Q v H') ∧ ∀ x o', exc x o' → ∀ d H', Wd K H0 F0 A0 ⟨[], o'⟩ [] [(.xd x.fs, dV d)] H' → E (.ref x.C) d H'
def bodyO (ret : PV → List OC → Prop) : PEnds := { nx := fun s => ret (.d .none) s.o, rt := fun v s => ret v s.o }
theorem Wd.one {K : PySem.W.Frag} {H0 F0 : Hp} {A0 : List Addr} {s : PSt} {σ : L2.St} {T : List (PV × V)} {H : Hp} {v : PV} {u : V} (w : Wd K H0 F0 A0 s σ ((v, u) :: T) H) : Wd K H0 F0 A0 ⟨[], s.o⟩ [] [(v, u)] H := by
  obtain ⟨F, A, w⟩ := w.sub (T' := [(v, u)]) fun t ht => by
    rw [List.mem_singleton.mp ht]; exact List.mem_cons_self
  exact ⟨F, A, w.rel rfl rfl fun i v e => by simp at e⟩
section
variable {P : Program} {w : World} {K : PySem.W.Frag} {mg : Str → Option Value} {base : Heap}
theorem fn_lenO {ps : List Str} {S : FSO} (len : ∀ args o r e, S args o r e → args.length = ps.length) (vs : List V) (H : Hp) (Q : VK) (E : XK) (h : spO K S vs H Q E) : vs.length = ps.length := by
  obtain ⟨H0, F0, A0, args, o, ret, exc, ⟨F, A, w⟩, _, h, _⟩ := h
  have := w.sl
  rw [List.length_map, List.length_map] at this
  rw [← this]
  exact len _ _ _ _ h
theorem fn_coreO {N : List Str} {S : FSO} {wb : SW} (pure : ∀ args o ret exc, S args o ret exc → wb (fun x s => exc x s.o) (pst0 args o N.length) (bodyO ret)) (vs : List V) (H : Hp) (Q : VK) (E : XK) (h : spO K S vs H Q E) :
    tS K (fun cls d _ H => E cls d H) wb { nx := fun _ H' => Q .non H', rt := Q } (L2.start N vs) H := by
  obtain ⟨H0, F0, A0, args, o, ret, exc, wd, ho, h, q1, q2⟩ := h
  refine ⟨H0, F0, A0, pst0 args o N.length, [], _, _, ?_, fun y s' hy σ' H' d w' => q2 y _ hy d H' w'.one, pure args o ret exc h, fun s' hs σ' H' w' => ?_, fun v s' hv u σ' H' w' => q1 _ _ hv u H' w'.one, fun _ z => z.elim, fun _ z => z.elim⟩
  · obtain ⟨F, A, wd⟩ := wd
    have e := wd.sl
    rw [List.length_map, List.length_map] at e
    refine ⟨F, A, wd.rel rfl ?_ fun i v hv => ?_⟩
    · show (args.map some ++ List.replicate (N.length - args.length) none).length = (vs.map some ++ List.replicate (N.length - vs.length) none).length
      rw [e]
      simp [e]
    · have hv : (args.map some ++ List.replicate (N.length - args.length) none)[i]? = some (some v) := hv
      show (args.map some)[i]? = some (some v) ∧ ∀ u, (vs.map some)[i]? = some (some u) → (vs.map some ++ List.replicate (N.length - vs.length) none)[i]? = some (some u)
      by_cases hi : i < args.length
      · rw [List.getElem?_append_left (by rw [List.length_map]; exact hi)] at hv
        refine ⟨hv, fun u hu => ?_⟩
        rw [List.getElem?_append_left (by rw [List.length_map, ← e]; exact hi)]
        exact hu
      · rw [List.getElem?_append_right (by rw [List.length_map]; omega)] at hv
        have := List.mem_of_getElem? hv
        have := List.eq_of_mem_replicate this
        cases this
  · obtain ⟨F, A, w'⟩ := w'
    exact q1 _ _ hs .non H' (Wd.one (v := .d .none) (u := .non) ⟨F, A, w'.push (v := .d .none) (u := .non) .non⟩)
structure CalO (P : Program) (w : World) (K : PySem.W.Frag) (mg : Str → Option Value) (base : Heap) (k : Nat) (x : Str) (ps : List Str) (S : FSO) : Prop where
  ex : ∃ f fd, FnOk P w K mg base (L2.CX P w) k f fd ps (spO K S) ∧ mg x = some (.ref f) ∧ PySem.W.keepIn K (.ref f) = true ∧ Binds K fd ps []
theorem Dfd.calO {x : Str} {ps N : List Str} {st : Stmt} {k : Nat} {S : FSO} {wb : SW} (D : Dfd K mg x ps st) (Sc : FnScope N ps (defScope st)) (len : ∀ args o r e, S args o r e → args.length = ps.length)
    (body : ∀ (f : Addr) (cdv : Value) (A : Around) (outer : List Env) (s : Shared) (H : Hp) (E : XK), Room k (A.deeper (envOfC x (defScope st) s.heap.objs.size f cdv)) →
      PSs (cxOf (L2.CX P w) P w K mg base N x (defScope st) f cdv A outer s H E) (defBody st) (tS K (fun cls d _ H => E cls d H) wb))
    (pure : ∀ args o ret exc, S args o ret exc → wb (fun x s => exc x s.o) (pst0 args o N.length) (bodyO ret)) : CalO P w K mg base (k + 1) x ps S := by
  obtain ⟨f, fd, F, m, b⟩ := D.ex
  exact ⟨f, fd, F.okX Sc (fn_lenO len) fun cdv A outer s H vs Q E hr h => ⟨_, body f cdv A outer s H E hr, fn_coreO pure vs H Q E h⟩, m, F.kp, b⟩
end
def wCallO (S : FSO) (ws : AW) : EW := fun kx s k => ws kx s fun vs s1 => S vs s1.o (fun r o => k r ⟨s1.r, o⟩) (fun x o => kx x ⟨s1.r, o⟩)
section
variable {X : Cx} {W : WX} {k j : Nat} {ps : List Str} {S : FSO} {x : Str} {p pos : Pos} {e : Expr} {es : List Expr} {ws : AW}
theorem c_callO (C : CalO X.prog X.w X.K X.mg X.base k x ps S) (tk : Takes X W) (hr : Room j X.A) (ha : PA X (e :: es) (tA X.K W ws)) (hk : k ≤ j := by decide) (hg : Gl X x := by rfl)
    (hdb : (x == ("__debug__" : Str)) = false := by decide) (he : starEach (e :: es) X.env = (false, eval e X.env) :: starEach es X.env := by rfl) (hpl : (backTo pos (starEach es X.env)).any (·.1) = false := by rfl) :
    PE X (.Call (.Name x p) (e :: es) [] pos) (tE X.K W (wCallO S ws)) := by
  obtain ⟨f, fd, F, hm, kp, hb⟩ := C.ex
  refine PE.imp (pe_callS F (hr.mono hk) hg hm kp hb (fun σ => passAt tk σ) ha hdb he hpl) fun σ H Q ⟨H0, F0, A0, s, T, kx, kk, w, xl, h, q⟩ => ar_of w xl h fun vs s1 us H1 hS e1 w1 => ?_
  obtain ⟨F1, A, w1⟩ := w1
  have w3 := w1.sub (T' := T) fun t h => List.mem_append_right _ h
  refine ⟨lendA H1 A, F1, A, vs, s1.o, _, _, ⟨F1, A, w1.forH vs us e1 fun t h => List.mem_append_left _ h⟩, w1.len, hS, fun r o hr v H' ret => ?_, fun y o hx d H' w' => ?_⟩
  · obtain ⟨F', A', w'⟩ := ret
    exact q _ _ hr v H' ⟨F', A', (w3.afterH w').push (w'.tm (r, v) List.mem_cons_self)⟩
  · obtain ⟨F', A', w'⟩ := w'
    exact xl y _ hx σ H' d ⟨F', A', (w3.afterH w').push (show PVOk X.K F' A' (.xd y.fs) (dV d) from w'.tm (.xd y.fs, dV d) List.mem_cons_self)⟩
end
section
variable {K : PySem.W.Frag} {F : Hp} {A : List Addr}
end
section
variable {X : Cx} {W : WX} {a b e o i : Expr} {wa wb we wo wi wv : EW} {pos p p2 : Pos}
end
def rPowD : PyData → PyData → (PyData → Prop) → Prop := fun a b q => match a, b with
  | .int i, .int j => CPow i j ∧ q (.int (i ^ j.toNat))
  | _, _ => False
theorem ok_powD {K : PySem.W.Frag} : ROk K (rI CPow fun i j => .int (i ^ j.toNat)) rPowD := by
  intro u v x y H Q P hx hy h q
  cases x <;> cases y <;> try exact h.elim
  cases dp_int hx; cases dp_int hy
  exact ⟨_, _, rfl, rfl, h.1, q _ _ h.2 rfl⟩
abbrev wPow := wOp rPowD
abbrev DWM := KX → PSt → (List (Key × PV) → PSt → Prop) → Prop
def AllInM (T : List (PV × V)) : List (Key × PV) → List (Key × V) → Prop
  | [], [] => True
  | kv :: r, v :: q => kv.1 = v.1 ∧ (kv.2, v.2) ∈ T ∧ AllInM T r q
  | [], _ :: _ => False
  | _ :: _, [] => False
def PairsOkM (X : Cx) (W : WX) (trs : List (TE × TE)) (w : DWM) : Prop := ∀ σ H Q H0 F0 A0 s T kx k, Wd X.K H0 F0 A0 s σ T H → XL X.K H0 F0 A0 T W kx → w kx s k →
  (∀ kvs s', k kvs s' → ∀ (vs : List (Key × V)) T' H', AllInM T' kvs vs → (∀ t ∈ T, t ∈ T') → Wd X.K H0 F0 A0 s' σ T' H' → Q (vs.map fun kv => (kV kv.1, kv.2)) H') → tPairs trs σ H Q
structure PPm (X : Cx) (W : WX) (pos : Pos) (keys : List (Option Expr)) (values : List Expr) (w : DWM) : Prop where
  ex : ∃ trs, PPs X pos keys values trs ∧ PairsOkM X W trs w
section
variable {X : Cx} {W : WX} {a b e o ix : Expr} {wa wb we wo : EW} {pos p p2 : Pos} {keys : List (Option Expr)} {values : List Expr} {wd : DWM}
theorem e_pow (ha : PE X a (tE X.K W wa)) (hb : PE X b (tE X.K W wb)) : PE X (.BinOp a .Pow b pos) (tE X.K W (wPow wa wb)) := e_op op_pow ok_powD ha hb
end
end PW

namespace PW
open PySem L2
end PW

namespace PW
open PySem L2
section
variable {K : PySem.W.Frag} {H0 F0 : Hp} {A0 : List Addr} {s : PSt} {σ : L2.St} {T : List (PV × V)} {H F : Hp} {A : List Addr}
end
section
variable {X : Cx} {W : WX} {k j m : Nat} {ps : List Str} {S : FS} {x : Str} {p pos : Pos} {e : Expr} {es : List Expr} {ws : AW}
end
section
variable {X : Cx} {W : WX} {tg iter : Expr} {iw : IW} {L : List Nat} {g : GW} {wb : SW} {body : List Stmt} {pos : Pos} {r : Nat}
end
end PW

namespace PW
open PySem L2 PySem.Spec PyProof.Rows
theorem PVAll.plain {K : PySem.W.Frag} {F : Hp} {A B : List Addr} : ∀ {fs : List (Str × PyData)} {vs : List V}, PVAll K F A (fs.map fun f => PV.d f.2) vs → PVAll K F B (fs.map fun f => PV.d f.2) vs
  | [], [], _ => trivial
  | [], _ :: _, h => h.elim
  | _ :: _, [], h => h.elim
  | _ :: _, _ :: _, ⟨h, r⟩ => ⟨h, PVAll.plain r⟩
section
variable {K : PySem.W.Frag} {H0 F0 : Hp} {A0 : List Addr} {s : PSt} {σ : L2.St} {T : List (PV × V)} {H : Hp}
end
section
variable {X : Cx} {CX : CXT} {k : Nat} {f C : Addr} {fd : FuncData} {ps : List Str} {sp : Sp} {E : L2.St → XK} {x m : Str} {p pos apos : Pos} {e o : Expr} {es : List Expr} {ta : TE} {t : TA}
end
structure MetC (P : Program) (w : World) (K : PySem.W.Frag) (mg : Str → Option Value) (base : Heap) (k : Nat) (C : Addr) (m : Str) (ps : List Str) (S : FS) : Prop where
  ex : ∃ f fd, FnOk P w K mg base (L2.CX P w) k f fd ps (spOf K S) ∧ Meth K C m f ∧ Binds K fd ps [] ∧ Cls K C
structure IniC (P : Program) (w : World) (K : PySem.W.Frag) (mg : Str → Option Value) (base : Heap) (k : Nat) (x : Str) (C : Addr) (ps : List Str) (S : FS) : Prop where
  ex : ∃ f fd, FnOk P w K mg base (L2.CX P w) k f fd ps (spOf K S) ∧ Mk K C f ∧ Binds K fd ps [] ∧ mg x = some (.ref C)
structure DfdM (K : PySem.W.Frag) (C : Addr) (m qual : Str) (ps : List Str) (st : Stmt) : Prop where
  ex : ∃ f fd, Fun K m qual st f fd ∧ Meth K C m f ∧ Binds K fd ps [] ∧ Cls K C
structure DfdN (K : PySem.W.Frag) (mg : Str → Option Value) (x : Str) (C : Addr) (qual : Str) (ps : List Str) (st : Stmt) : Prop where
  ex : ∃ f fd, Fun K "__init__" qual st f fd ∧ Mk K C f ∧ Binds K fd ps [] ∧ mg x = some (.ref C)
section
variable {P : Program} {w : World} {K : PySem.W.Frag} {mg : Str → Option Value} {base : Heap}
theorem DfdM.cal {C : Addr} {m qual : Str} {ps N : List Str} {st : Stmt} {k : Nat} {S : FS} {wb : SW} (D : DfdM K C m qual ps st) (Sc : FnScope N ps (defScope st)) (len : ∀ args o r e, S args o r e → args.length = ps.length)
    (body : ∀ (f : Addr) (cdv : Value) (A : Around) (outer : List Env) (s : Shared) (H : Hp) (E : XK), Room k (A.deeper (envOfC qual (defScope st) s.heap.objs.size f cdv)) →
      PSs (cxOf (L2.CX P w) P w K mg base N qual (defScope st) f cdv A outer s H E) (defBody st) (tS K (fun cls d _ H => E cls d H) wb))
    (pure : ∀ args o ret exc, S args o ret exc → wb (fun x s => exc x (cutL o.length s.o)) (pst0 args o N.length) (bodyE o.length ret)) : MetC P w K mg base (k + 1) C m ps S := by
  obtain ⟨f, fd, F, m, b, c⟩ := D.ex
  exact ⟨f, fd, fn_ok F Sc len (body f) pure, m, b, c⟩
theorem DfdN.cal {C : Addr} {x qual : Str} {ps N : List Str} {st : Stmt} {k : Nat} {S : FS} {wb : SW} (D : DfdN K mg x C qual ps st) (Sc : FnScope N ps (defScope st)) (len : ∀ args o r e, S args o r e → args.length = ps.length)
    (body : ∀ (f : Addr) (cdv : Value) (A : Around) (outer : List Env) (s : Shared) (H : Hp) (E : XK), Room k (A.deeper (envOfC qual (defScope st) s.heap.objs.size f cdv)) →
      PSs (cxOf (L2.CX P w) P w K mg base N qual (defScope st) f cdv A outer s H E) (defBody st) (tS K (fun cls d _ H => E cls d H) wb))
    (pure : ∀ args o ret exc, S args o ret exc → wb (fun x s => exc x (cutL o.length s.o)) (pst0 args o N.length) (bodyE o.length ret)) : IniC P w K mg base (k + 1) x C ps S := by
  obtain ⟨f, fd, F, m, b, c⟩ := D.ex
  exact ⟨f, fd, fn_ok F Sc len (body f) pure, m, b, c⟩
end
section
variable {X : Cx} {W : WX} {k j : Nat} {C : Addr} {ps : List Str} {S : FS} {x m g : Str} {p pos apos p2 : Pos} {e o : Expr} {es : List Expr} {ws : AW} {wo wv : EW}
end
section
variable {X : Cx} {W : WX} {k j : Nat} {ps : List Str} {S : FSO} {x : Str} {p pos : Pos} {e : Expr} {es : List Expr} {ws : AW}
end
end PW

namespace PW
open PySem L2 PySem.Spec PyProof.Rows
section
variable {X : Cx} {W : WX} {a b : Expr} {wa wb : EW} {pos : Pos}
end
section
variable {X : Cx} {CX : CXT} {k : Nat} {f C : Addr} {fd : FuncData} {ps : List Str} {sp : Sp} {E : L2.St → XK} {x m : Str} {p pos apos : Pos} {e o : Expr} {es : List Expr} {ta : TE} {t : TA}
end
structure MetT (P : Program) (w : World) (K : PySem.W.Frag) (mg : Str → Option Value) (base : Heap) (k : Nat) (C : Addr) (m : Str) (ps : List Str) (S : FS) : Prop where
  ex : ∃ f fd, FnT P w K mg base (L2.CX P w) k f fd ps (spOf K S) ∧ Meth K C m f ∧ Binds K fd ps [] ∧ Cls K C
section
variable {P : Program} {w : World} {K : PySem.W.Frag} {mg : Str → Option Value} {base : Heap}
theorem DfdM.calT {C : Addr} {m qual : Str} {ps N : List Str} {st : Stmt} {k : Nat} {S : FS} {wb : SW} (D : DfdM K C m qual ps st) (Sc : FnScope N ps (defScope st)) (len : ∀ args o r e, S args o r e → args.length = ps.length)
    (body : ∀ (f : Addr) (cdv : Value) (A : Around) (outer : List Env) (s : Shared) (H : Hp) (E : XK), L2H.RoomH k (A.deeper (envOfC qual (defScope st) s.heap.objs.size f cdv)) →
      PSs (cxT (L2.CX P w) P w K mg base N qual (defScope st) f cdv A outer s H E) (defBody st) (tS K (fun cls d _ H => E cls d H) wb))
    (pure : ∀ args o ret exc, S args o ret exc → wb (fun x s => exc x (cutL o.length s.o)) (pst0 args o N.length) (bodyE o.length ret)) : MetT P w K mg base (k + 1) C m ps S := by
  obtain ⟨f, fd, F, m, b, c⟩ := D.ex
  exact ⟨f, fd, fnT_of F Sc (fn_len len) fun cdv A outer s H vs Q E hr h => ⟨_, body f cdv A outer s H E hr, fn_core pure vs H Q E h⟩, m, b, c⟩
end
section
variable {X : Cx} {W : WX} {k j : Nat} {C : Addr} {ps : List Str} {S : FS} {x m g : Str} {p pos apos p2 : Pos} {e o : Expr} {es : List Expr} {ws : AW} {wo wv : EW}
end
end PW

namespace PW
open PySem L2 PySem.Spec PyProof.Rows
structure MetO (P : Program) (w : World) (K : PySem.W.Frag) (mg : Str → Option Value) (base : Heap) (k : Nat) (C : Addr) (m : Str) (ps : List Str) (S : FSO) : Prop where
  ex : ∃ f fd, FnOk P w K mg base (L2.CX P w) k f fd ps (spO K S) ∧ Meth K C m f ∧ Binds K fd ps [] ∧ Cls K C
structure IniO (P : Program) (w : World) (K : PySem.W.Frag) (mg : Str → Option Value) (base : Heap) (k : Nat) (x : Str) (C : Addr) (ps : List Str) (S : FSO) : Prop where
  ex : ∃ f fd, FnOk P w K mg base (L2.CX P w) k f fd ps (spO K S) ∧ Mk K C f ∧ Binds K fd ps [] ∧ mg x = some (.ref C)
section
variable {P : Program} {w : World} {K : PySem.W.Frag} {mg : Str → Option Value} {base : Heap}
theorem DfdM.calO {C : Addr} {m qual : Str} {ps N : List Str} {st : Stmt} {k : Nat} {S : FSO} {wb : SW} (D : DfdM K C m qual ps st) (Sc : FnScope N ps (defScope st)) (len : ∀ args o r e, S args o r e → args.length = ps.length)
    (body : ∀ (f : Addr) (cdv : Value) (A : Around) (outer : List Env) (s : Shared) (H : Hp) (E : XK), Room k (A.deeper (envOfC qual (defScope st) s.heap.objs.size f cdv)) →
      PSs (cxOf (L2.CX P w) P w K mg base N qual (defScope st) f cdv A outer s H E) (defBody st) (tS K (fun cls d _ H => E cls d H) wb))
    (pure : ∀ args o ret exc, S args o ret exc → wb (fun x s => exc x s.o) (pst0 args o N.length) (bodyO ret)) : MetO P w K mg base (k + 1) C m ps S := by
  obtain ⟨f, fd, F, m, b, c⟩ := D.ex
  exact ⟨f, fd, F.okX Sc (fn_lenO len) fun cdv A outer s H vs Q E hr h => ⟨_, body f cdv A outer s H E hr, fn_coreO pure vs H Q E h⟩, m, b, c⟩
theorem DfdN.calO {C : Addr} {x qual : Str} {ps N : List Str} {st : Stmt} {k : Nat} {S : FSO} {wb : SW} (D : DfdN K mg x C qual ps st) (Sc : FnScope N ps (defScope st)) (len : ∀ args o r e, S args o r e → args.length = ps.length)
    (body : ∀ (f : Addr) (cdv : Value) (A : Around) (outer : List Env) (s : Shared) (H : Hp) (E : XK), Room k (A.deeper (envOfC qual (defScope st) s.heap.objs.size f cdv)) →
      PSs (cxOf (L2.CX P w) P w K mg base N qual (defScope st) f cdv A outer s H E) (defBody st) (tS K (fun cls d _ H => E cls d H) wb))
    (pure : ∀ args o ret exc, S args o ret exc → wb (fun x s => exc x s.o) (pst0 args o N.length) (bodyO ret)) : IniO P w K mg base (k + 1) x C ps S := by
  obtain ⟨f, fd, F, m, b, c⟩ := D.ex
  exact ⟨f, fd, F.okX Sc (fn_lenO len) fun cdv A outer s H vs Q E hr h => ⟨_, body f cdv A outer s H E hr, fn_coreO pure vs H Q E h⟩, m, b, c⟩
end
section
variable {X : Cx} {W : WX} {k j : Nat} {C : Addr} {ps : List Str} {S : FSO} {x m g : Str} {p pos apos p2 : Pos} {e o : Expr} {es : List Expr} {ws : AW} {wo wv : EW}
end
end PW

namespace PW
open PySem L2 PySem.Spec PyProof.Rows
structure DfdND (K : PySem.W.Frag) (mg : Str → Option Value) (x : Str) (C : Addr) (qual : Str) (ps : List Str) (st : Stmt) (dvs : List V) : Prop where
  ex : ∃ f fd ds, FunD K "__init__" qual (defArgs st) (defBody st) (defScope st) dvs [] f fd ∧ Mk K C f ∧ Binds K fd ps [] ∧ Binds K fd ps ds ∧ Vals dvs ds ∧ mg x = some (.ref C)
section
variable {P : Program} {w : World} {K : PySem.W.Frag} {mg : Str → Option Value} {base : Heap}
theorem DfdND.calO {C : Addr} {x qual : Str} {ps N : List Str} {st : Stmt} {k : Nat} {S : FSO} {wb : SW} {dvs : List V} (D : DfdND K mg x C qual ps st dvs) (Sc : FnScope N ps (defScope st)) (len : ∀ args o r e, S args o r e → args.length = ps.length)
    (body : ∀ (f : Addr) (cdv : Value) (A : Around) (outer : List Env) (s : Shared) (H : Hp) (E : XK), Room k (A.deeper (envOfC qual (defScope st) s.heap.objs.size f cdv)) →
      PSs (cxOf (L2.CX P w) P w K mg base N qual (defScope st) f cdv A outer s H E) (defBody st) (tS K (fun cls d _ H => E cls d H) wb))
    (pure : ∀ args o ret exc, S args o ret exc → wb (fun x s => exc x s.o) (pst0 args o N.length) (bodyO ret)) : IniO P w K mg base (k + 1) x C ps S := by
  obtain ⟨f, fd, ds, F, m, b, _, _, c⟩ := D.ex
  exact ⟨f, fd, F.ok Sc (fn_lenO len) fun cdv A outer s H vs Q E hr h => ⟨_, body f cdv A outer s H E hr, fn_coreO pure vs H Q E h⟩, m, b, c⟩
end
end PW

namespace PW
open PySem L2 PySem.Spec PyProof.Rows
structure IniOD (P : Program) (w : World) (K : PySem.W.Frag) (mg : Str → Option Value) (base : Heap) (k : Nat) (x : Str) (C : Addr) (ps : List Str) (S : FSO) (dvs : List V) : Prop where
  ex : ∃ f fd ds, FnOk P w K mg base (L2.CX P w) k f fd ps (spO K S) ∧ Mk K C f ∧ Binds K fd ps [] ∧ Binds K fd ps ds ∧ Vals dvs ds ∧ mg x = some (.ref C)
section
variable {P : Program} {w : World} {K : PySem.W.Frag} {mg : Str → Option Value} {base : Heap}
end
section
variable {X : Cx} {CX : CXT} {E : L2.St → XK} {k : Nat} {f C : Addr} {fd : FuncData} {ps : List Str} {sp : Sp} {x : Str} {p pos : Pos} {dvs : List V} {ds : List Value}
end
section
variable {X : Cx} {W : WX} {k j : Nat} {C : Addr} {ps : List Str} {S : FSO} {x : Str} {p pos : Pos} {dvs : List V} {ds : List PyData}
end
theorem WdF.good {K : PySem.W.Frag} {H0 F0 : Hp} {A0 : List Addr} {s : PSt} {σ : L2.St} {T : List (PV × V)} {H F : Hp} {A : List Addr} (w : WdF K H0 F0 A0 s σ T H F A) : cutL s.o.length s.o = s.o := by
  have hl : A.length = s.o.length := w.len
  refine List.ext_getElem? fun n => ?_
  unfold cutL
  rw [List.take_of_length_le (Nat.le_refl _), List.getElem?_map]
  cases ho : s.o[n]? with
  | none => rfl
  | some c =>
    have hn : n < A.length := by rw [hl]; exact (List.getElem?_eq_some_iff.mp ho).1
    have h := w.oc n _ c (List.getElem?_eq_getElem hn) ho
    have hc : PV.ltAll s.o.length c.pvs = true := by
      rw [← hl]
      cases c with
      | ml ps => obtain ⟨_, _, _, r⟩ := h; exact PVAll.lt r
      | ob C fs => obtain ⟨_, _, _, _, _, r⟩ := h; exact PVAll.lt r
      | dm kvs => obtain ⟨_, _, _, _, r⟩ := h; exact PVAll.lt r
      | dt kvs => obtain ⟨_, _, _, _, r⟩ := h; exact PVAll.lt r
      | _ => rfl
    show some (OC.cut _ c) = some c
    rw [ocut_if, if_pos hc]
def wGd (b : SW) : SW := fun kx s k => cutL s.o.length s.o = s.o → b kx s k
theorem s_gd {X : Cx} {W : WX} {st : List Stmt} {b : SW} (h : PSs X st (tS X.K W b)) : PSs X st (tS X.K W (wGd b)) :=
  PSs.imp h fun D σ H ⟨H0, F0, A0, s, T, kx, k, w, xl, h, q⟩ => ⟨H0, F0, A0, s, T, kx, k, w, xl, h (by obtain ⟨F, A, w⟩ := w; exact w.good), q⟩
end PW

namespace PW
open PySem L2 PySem.Spec PyProof.Rows LamX
section
variable {X : Cx} {pins : List (Addr × Obj)} {σ : L2.St} {H : Hp} {s : Shared}
theorem lam_mk {c P : Addr} {prm : Arguments} {bd : Expr} {sc : Scope} {pos : Pos} {E Q : Value → Shared → Prop} {tb : Array Value} (I : Inv X pins σ H s) (TB : TabB X.base X.mg c P) (hcd : X.env.code = .ref c) (hP : H P = some (.tbl tb)) (htr : TriplesOk tb.toList)
    (hal : ∀ (q : Pos) (cv : Value), codeAmong q tb.toList = some cv → ∃ d, cv = .ref d ∧ H d = some (CodeO d (X.env.qual ++ "<lambda>"))) (hde : defaultsOf prm X.env = ([], [])) (hfr : ∀ y ∈ sc.names, y.2 = .free → ∃ d, X.env.cells.lookup y.1 = some d)
    (k : ∀ (f d : Addr) (pm ct : Value) (G : Hp) (z : Shared), Inv X pins σ G z → ((G = H ∧ codeAmong pos tb.toList = some (.ref d)) ∨ (H d = none ∧ d ≠ P ∧ G = upd (upd H P (.tbl (tb ++ #[rawInt pos.line, rawInt pos.col, .ref d]))) d (CodeO d (X.env.qual ++ "<lambda>")))) →
      z.heap.get? f = some (PySem.W.kla_obj "<lambda>" (X.env.qual ++ "<lambda>") prm bd sc (cloFrom X.env.cells sc.names []) pm d ct) → G f = none → f ∉ frs X.stack → G d = some (CodeO d (X.env.qual ++ "<lambda>")) → Q (.ref f) z) :
    wpAny (model X.prog X.w) X.A (eval (.Lambda prm bd sc pos) X.env) Q E s := by
  have bP := TB.bm.keeps I.bk
  have oP := I.hok P _ hP
  have stk : ∀ f, s.heap.objs.size ≤ f → f ∉ frs X.stack := fun f hf z => (List.mem_cons.mp (I.stkSub _ z)).elim
    (fun e => Nat.lt_irrefl _ (Nat.lt_of_lt_of_le (by have := I.lt; rw [← e] at this; exact this) hf)) fun e => I.nofs hf e
  refine PySem.W.kla_eval hde ?_
  cases hc : codeAmong pos tb.toList with
  | some cv =>
    obtain ⟨d, rfl, hd⟩ := hal pos cv hc
    refine PySem.W.kla_makeFunctionHit (mg := X.mg) (c := c) (P := P) (ps := tb) (closure_ok hfr) I.ok.glob (I.mod.glob.keeps I.bk) hcd (TB.code.keeps I.bk) oP htr hc bP fun ct hp t hk hs => ?_
    exact k hp.objs.size d _ ct H _ (I.kept fun b o e => Heap.get?_push_of_some _ (hk b o e)) (.inl ⟨rfl, hc⟩) (Heap.get?_push_size _ rfl) (I.hok.fresh hs) (stk _ hs) hd
  | none =>
    refine PySem.W.kla_makeFunction (mg := X.mg) (c := c) (P := P) (ps := tb) (closure_ok hfr) I.ok.glob (I.mod.glob.keeps I.bk) hcd (TB.code.keeps I.bk) oP htr hc TB.gP bP fun d ct hp t hk hg hl hr ht => ?_
    obtain ⟨d2, od, wd, td, e2, h1, h2, h3⟩ := hr
    cases e2
    have sz := Nat.le_trans hg (Nat.le_of_lt hl)
    have nd := I.hok.fresh hg
    have hne : d ≠ P := fun e => by rw [e, hP] at nd; cases nd
    have J := inv_table (t' := t) (h' := hp.push (PySem.W.kla_obj "<lambda>" (X.env.qual ++ "<lambda>") prm bd sc (cloFrom X.env.cells sc.names []) ((X.mg "__name__").getD .none) d ct)) I hP (fun b o hb e => Heap.get?_push_of_some _ (hk b o hb e)) (Heap.get?_push_of_some _ ht) hg ⟨od, wd, td, Heap.get?_push_of_some _ h1, h2, h3⟩
    refine k hp.objs.size d _ ct _ _ J (.inr ⟨nd, hne, rfl⟩) (Heap.get?_push_size _ rfl) ?_ (stk _ sz) upd_same
    have n1 : hp.objs.size ≠ d := Nat.ne_of_gt hl
    have n2 : hp.objs.size ≠ P := Nat.ne_of_gt (Nat.lt_of_lt_of_le (Heap.lt_size oP) sz)
    rw [upd_ne n1, upd_ne n2]
    exact I.hok.fresh sz
end
section
variable {K : PySem.W.Frag} {H0 F0 : Hp} {A0 : List Addr} {s : PSt} {σ : L2.St} {T : List (PV × V)} {H F : Hp} {A : List Addr}
theorem triples_more {pos : Pos} {d : Addr} : ∀ (l : List Value), TriplesOk l → TriplesOk (l ++ [rawInt pos.line, rawInt pos.col, .ref d]) := fun l h => PySem.TriplesOk_snoc _ _ _ _ h
theorem WdF.tbl {n : Nat} {P d : Addr} {q : Str} {tb : Array Value} {pos : Pos} (w : WdF K H0 F0 A0 s σ T H F A) (hp : A[n]? = some P) (ho : s.o[n]? = some (.tb P q)) (hP : H P = some (.tbl tb)) (hd : H d = none) (hne : d ≠ P) :
    WdF K H0 F0 A0 s σ T (upd (upd H P (.tbl (tb ++ #[rawInt pos.line, rawInt pos.col, .ref d]))) d (CodeO d q)) (upd F d (CodeO d q)) A := by
  have w1 := w.newD (o := CodeO d q) hd
  obtain ⟨_, fp, tb2, h1, h2, h3⟩ := w1.oc n P _ hp ho
  have e2 : upd H d (CodeO d q) P = some (.tbl tb) := by rw [upd_ne (Ne.symm hne)]; exact hP
  rw [e2] at h1
  cases h1
  have w2 := w1.wrO (o := .tbl (tb ++ #[rawInt pos.line, rawInt pos.col, .ref d])) (c := .tb P q) hp fp (List.getElem?_eq_some_iff.mp ho).1 ⟨rfl, fp, _, upd_same, ?_, fun p cv hc => ?_⟩
  · have es : s.o.set n (.tb P q) = s.o := by
      apply List.ext_getElem?
      intro j
      by_cases e : n = j
      · subst e; rw [List.getElem?_set_self (List.getElem?_eq_some_iff.mp ho).1, ho]
      · rw [List.getElem?_set_ne e]
    rw [es] at w2
    have eH : upd (upd H P (.tbl (tb ++ #[rawInt pos.line, rawInt pos.col, .ref d]))) d (CodeO d q) = upd (upd H d (CodeO d q)) P (.tbl (tb ++ #[rawInt pos.line, rawInt pos.col, .ref d])) := by
      funext b
      by_cases hb : b = d
      · rw [hb, upd_same, upd_ne hne, upd_same]
      · by_cases hb2 : b = P
        · rw [hb2, upd_ne (Ne.symm hne), upd_same, upd_same]
        · rw [upd_ne hb, upd_ne hb2, upd_ne hb2, upd_ne hb]
    rw [eH]
    exact w2
  · have eL : (tb ++ #[rawInt pos.line, rawInt pos.col, .ref d]).toList = tb.toList ++ [rawInt pos.line, rawInt pos.col, .ref d] := by simp
    rw [eL]
    exact triples_more _ h2
  · have eL : (tb ++ #[rawInt pos.line, rawInt pos.col, .ref d]).toList = tb.toList ++ [rawInt pos.line, rawInt pos.col, .ref d] := by simp
    rw [eL] at hc
    rcases among_app _ h2 hc with z | z
    · exact h3 p cv z
    · exact ⟨d, z, upd_same⟩
def capP : List (Option PV) → List PV
  | [] => []
  | some v :: r => v :: capP r
  | none :: r => .gl .non :: capP r
def capU : List (Option PV) → List (Option V) → List V
  | [], _ => []
  | some _ :: r, some u :: σ => u :: capU r σ
  | some _ :: r, _ => .non :: capU r []
  | none :: r, _ :: σ => .non :: capU r σ
  | none :: r, [] => .non :: capU r []
theorem cap_ok : ∀ {r : List (Option PV)} {σ : List (Option V)}, r.length = σ.length → (∀ (i : Nat) v, r[i]? = some (some v) → ∃ u, σ[i]? = some (some u) ∧ PVOk K F A v u) → PVAll K F A (capP r) (capU r σ)
  | [], _, _, _ => trivial
  | some v :: r, some u :: σ, e, h => by
    obtain ⟨u', e1, e2⟩ := h 0 v rfl
    cases e1
    exact ⟨e2, cap_ok (Nat.succ.inj e) fun i v hv => h (i + 1) v hv⟩
  | some v :: r, none :: σ, e, h => by
    obtain ⟨u', e1, e2⟩ := h 0 v rfl
    cases e1
  | some v :: r, [], e, h => by cases e
  | none :: r, _ :: σ, e, h => ⟨rfl, cap_ok (Nat.succ.inj e) fun i v hv => h (i + 1) v hv⟩
  | none :: r, [], e, h => by cases e
theorem cap_at : ∀ {r : List (Option PV)} {σ : List (Option V)} {F' : Hp} {A' : List Addr}, r.length = σ.length → (∀ (i : Nat) v, r[i]? = some (some v) → ∃ u, σ[i]? = some (some u) ∧ PVOk K F A v u) → PVAll K F' A' (capP r) (capU r σ) → ∀ (i : Nat) v, r[i]? = some (some v) → ∃ u, σ[i]? = some (some u) ∧ PVOk K F' A' v u
  | [], _, _, _, _, _, _, i, v, e => by cases e
  | some w :: r, some u :: σ, _, _, e, h, ⟨h1, h2⟩, 0, v, hv => by cases hv; exact ⟨u, rfl, h1⟩
  | some w :: r, some u :: σ, _, _, e, h, ⟨h1, h2⟩, i + 1, v, hv => cap_at (Nat.succ.inj e) (fun i v hv => h (i + 1) v hv) h2 i v hv
  | some w :: r, none :: σ, _, _, e, h, _, _, _, _ => by
    obtain ⟨u', e1, e2⟩ := h 0 w rfl
    cases e1
  | some w :: r, [], _, _, e, _, _, _, _, _ => by cases e
  | none :: r, _ :: σ, _, _, e, h, ⟨h1, h2⟩, 0, v, hv => by cases hv
  | none :: r, _ :: σ, _, _, e, h, ⟨h1, h2⟩, i + 1, v, hv => cap_at (Nat.succ.inj e) (fun i v hv => h (i + 1) v hv) h2 i v hv
  | none :: r, [], _, _, e, _, _, _, _, _ => by cases e
end
abbrev LBT := List OC → (PV → List OC → Prop) → (XV → List OC → Prop) → Prop
def wAct (i : Nat) (f c : Addr) (q : Str) (ps : List PV) (us : List V) (B : LBT) : EW := fun kx s k => s.r[i]? = some (some (.fn f c q ps us)) ∧ B s.o (fun v o => k v ⟨s.r, o⟩) (fun x o => kx x ⟨s.r, o⟩)
def wCallB (P : Addr) (q : Str) (S : LBT → LBT) (wl : EW) : EW := fun kx s k => (∃ n : Nat, s.o[n]? = some (.tb P q)) ∧ S (fun o ret exc => wl (fun x s1 => exc x s1.o) ⟨s.r, o⟩ (fun v s1 => ret v s1.o)) s.o (fun r o => k r ⟨s.r, o⟩) (fun x o => kx x ⟨s.r, o⟩)
section
variable {X : Cx} {pins : List (Addr × Obj)} {σ : L2.St} {H HZ : Hp} {s : Shared}
theorem pe_actS {Eg : XK} {Ng : List Str} {qg a : Str} {sg sc : Scope} {g f d : Addr} {cdg pm ct : Value} {prm : Arguments} {bd : Expr} {k i : Nat} {pn : List (Addr × Obj)} {xe : Value → Shared → Prop} {W : WX} {tb : XK → TE} {p1 p2 : Pos} (I : Inv X pins σ H s) (L : LamS X.env.scope sc)
    (of : s.heap.get? f = some (PySem.W.kla_obj "<lambda>" (X.env.qual ++ "<lambda>") prm bd sc (cloFrom X.env.cells sc.names []) pm d ct)) (nf : H f = none) (ff : f ∉ frs X.stack) (bi : bindArgs (PySem.W.kla_fn "<lambda>" (X.env.qual ++ "<lambda>") prm bd sc (cloFrom X.env.cells sc.names []) pm (.ref d) ct) ⟨[], []⟩ = pure [])
    (tk : Takes ((cxOf (L2.CX X.prog X.w) X.prog X.w X.K X.mg X.base Ng qg sg g cdg X.A X.stack s H Eg).tr pn xe) W) (hr : Room (k + 1) (X.A.deeper (envOfC qg sg s.heap.objs.size g cdg)))
    (go : ∀ (A : Around) (outer : List Env) (s : Shared) (H : Hp) (E : XK), Room k (A.deeper (lamEnv X sc s.heap.objs.size f d)) → PE (lamCx X A outer s H E sc f d) bd (tb E)) (hN : Ng[i]? = some a) (hv : Vis sg a) (h1 : (a == ("__debug__" : Str)) = false) (h2 : (a == ("__classdict__" : Str)) = false) :
    PE ((cxOf (L2.CX X.prog X.w) X.prog X.w X.K X.mg X.base Ng qg sg g cdg X.A X.stack s H Eg).tr pn xe) (.Call (.Name a p1) [] [] p2) (fun σZ HZ Q => σZ[i]? = some (some (.ref f)) ∧ HZ d = some (CodeO d (X.env.qual ++ "<lambda>")) ∧ tb (WE W σZ) σ HZ Q) := by
  refine ⟨fun pZ sZ σZ HZ Q IZ h => ?_⟩
  obtain ⟨z1, z2, z3⟩ := h
  refine wpAny_Call_Name_kw (thn ((pe_var (pos := p1) (i := i) hN hv h1 h2).run pZ sZ σZ HZ (fun v G => v = .ref f ∧ G = HZ) IZ ⟨.ref f, z1, rfl, rfl⟩) fun u s1 ⟨v, G, I1, r1, q1⟩ => ?_)
  obtain ⟨rfl, rfl⟩ := q1
  obtain rfl : u = Value.ref f := r1
  have of1 := I1.base.keep f _ of nf ff (fun z => nomatch (show f ∈ ([] : List Addr) from z))
  refine PySem.W.callWith_F0 ⟨_, _, _, _, of1⟩ (wpAny_call (codeAny_mono (R := CR (L2.CX X.prog X.w) (envOfC qg sg s.heap.objs.size g cdg :: X.stack) X.prog X.w G s1 Q (WE W σZ)) ?_ fun r s' hq => ?_))
  · obtain ⟨⟨oc, vs, t, ho, hd, hv⟩, _, _⟩ := I1.hok d _ z2
    refine PySem.W.kla_callFunE hr.depth of1 rfl L.co L.gen rfl ⟨d, oc, vs, t, rfl, ho, hd, hv⟩ ?_
    show wpAny _ _ (bindArgs (PySem.W.kla_fn "<lambda>" (X.env.qual ++ "<lambda>") prm bd sc (cloFrom X.env.cells sc.names []) pm (.ref d) ct) ⟨[], []⟩) _ _ _
    rw [bi]
    refine wpAny_pure (wpAny_newFunctionEnv (fun y hy => (L.own y hy).2) (fun y hy => absurd hy (by simp)) (fun h₁ hns hsb => ⟨I1.nolimit.fresh _ hsb, ?_⟩) L.kind)
    have J := lam_start2 (A := X.A.deeper (envOfC qg sg s.heap.objs.size g cdg)) (outer := envOfC qg sg s.heap.objs.size g cdg :: X.stack) (E := WE W σZ) (f := f) (c' := d) (tk := s1.toks + ([] : List (Str × Value)).length) I L I1.env0 hr.hd I1.base hns fun b o e => hsb.extBut b o (Nat.ne_of_lt (Heap.lt_size e)) (Heap.get?_push_of_some _ e)
    exact PySem.W.kla_codeExpr (wpAny_mono ((go _ _ s1 G (WE W σZ) (hr.deeper _)).run [] _ _ G Q J z3) (fun v s' ⟨w', G', J', rv, q⟩ => ⟨w', G', J'.os, J'.bare, J'.base, J'.hok, rv, q⟩) fun e s' hq => hq)
  · cases r with
    | error e => exact passAt tk σZ pZ G s1 e s' I1 hq
    | ok fl =>
      cases fl with
      | ret u => exact I1.after hq
      | _ => exact False.elim hq
end
section
variable {X : Cx} {pins : List (Addr × Obj)} {σ : L2.St} {H HZ : Hp} {s : Shared}
def lamB (wl : EW) (r : List (Option PV)) : LBT := fun o ret exc => wl (fun x s1 => exc x s1.o) ⟨r, o⟩ (fun v s1 => ret v s1.o)
theorem act_of {Eg : XK} {Ng : List Str} {qg a : Str} {sg sc : Scope} {g f d : Addr} {cdg pm ct : Value} {prm : Arguments} {bd : Expr} {k i : Nat} {pn : List (Addr × Obj)} {xe : Value → Shared → Prop} {W : WX} {wl : EW} {p1 p2 : Pos} {H0 F0 F : Hp} {A0 A : List Addr} {r : List (Option PV)} {o : List OC} {T : List (PV × V)}
    (w0 : WdF X.K H0 F0 A0 ⟨r, o⟩ σ T H F A) (I : Inv X pins σ H s) (L : LamS X.env.scope sc)
    (of : s.heap.get? f = some (PySem.W.kla_obj "<lambda>" (X.env.qual ++ "<lambda>") prm bd sc (cloFrom X.env.cells sc.names []) pm d ct)) (nf : H f = none) (ff : f ∉ frs X.stack) (bi : bindArgs (PySem.W.kla_fn "<lambda>" (X.env.qual ++ "<lambda>") prm bd sc (cloFrom X.env.cells sc.names []) pm (.ref d) ct) ⟨[], []⟩ = pure [])
    (tk : Takes ((cxOf (L2.CX X.prog X.w) X.prog X.w X.K X.mg X.base Ng qg sg g cdg X.A X.stack s H Eg).tr pn xe) W) (hr : Room (k + 1) (X.A.deeper (envOfC qg sg s.heap.objs.size g cdg)))
    (go : ∀ (A : Around) (outer : List Env) (s : Shared) (H : Hp) (E : XK), Room k (A.deeper (lamEnv X sc s.heap.objs.size f d)) → PE (lamCx X A outer s H E sc f d) bd (tE X.K (fun cls d _ H => E cls d H) wl)) (hN : Ng[i]? = some a) (hv : Vis sg a) (h1 : (a == ("__debug__" : Str)) = false) (h2 : (a == ("__classdict__" : Str)) = false) :
    PE ((cxOf (L2.CX X.prog X.w) X.prog X.w X.K X.mg X.base Ng qg sg g cdg X.A X.stack s H Eg).tr pn xe) (.Call (.Name a p1) [] [] p2) (tE X.K W (wAct i f d (X.env.qual ++ "<lambda>") (capP r) (capU r σ) (lamB wl r))) := by
  refine PE.imp (pe_actS (i := i) (p1 := p1) (p2 := p2) (tb := fun E => tE X.K (fun cls d _ H => E cls d H) wl) I L of nf ff bi tk hr go hN hv h1 h2) fun σZ HZ Q ⟨H1, F1, A1, sZ, TZ, kx, kk, ⟨FZ, AZ, wZ⟩, xl, ⟨hr0, hB⟩, q⟩ => ?_
  obtain ⟨u, e1, e2, e3, e4⟩ := wZ.pv i _ hr0
  subst e2
  have z := wZ.forH [] [] rfl (fun _ z => nomatch z)
  refine ⟨e1, wZ.fz.g _ _ e3, lendA HZ AZ, FZ, AZ, ⟨r, sZ.o⟩, [], fun x s1 => kx x ⟨sZ.r, s1.o⟩, fun v s1 => kk v ⟨sZ.r, s1.o⟩, ⟨FZ, AZ, ⟨z.fz, z.pre, z.len, z.nd, z.ad, z.oc, w0.sl, cap_at w0.sl w0.pv e4, fun _ z => nomatch z⟩⟩, fun x s' hx σ' H' d' ⟨F', A', w'⟩ => ?_, hB, fun v s' hv u H' ⟨F', A', w'⟩ => ?_⟩
  · exact xl x ⟨sZ.r, s'.o⟩ hx σZ H' d' ⟨F', A', (wZ.afterH w').push (w'.tm (.xd x.fs, dV d') List.mem_cons_self)⟩
  · exact q v ⟨sZ.r, s'.o⟩ hv u H' ⟨F', A', (wZ.afterH w').push (w'.tm (v, u) List.mem_cons_self)⟩
end
structure CalB (P : Program) (w : World) (K : PySem.W.Frag) (mg : Str → Option Value) (base : Heap) (k : Nat) (x a : Str) (S : LBT → LBT) : Prop where
  ex : ∃ (st : Stmt) (N : List Str) (wb : Addr → Addr → Str → List PV → List V → LBT → SW), Dfd K mg x [a] st ∧ FnScope N [a] (defScope st) ∧ N[0]? = some a ∧ Vis (defScope st) a ∧
    (∀ (f d : Addr) (q : Str) (ps : List PV) (us : List V) (B : LBT) (g : Addr) (cdv : Value) (A : Around) (outer : List Env) (s : Shared) (H : Hp) (E : XK), Room k (A.deeper (envOfC x (defScope st) s.heap.objs.size g cdv)) →
      (∀ (W : WX) (pn : List (Addr × Obj)) (xe : Value → Shared → Prop) (p1 p2 : Pos), Takes ((cxOf (L2.CX P w) P w K mg base N x (defScope st) g cdv A outer s H E).tr pn xe) W →
        PE ((cxOf (L2.CX P w) P w K mg base N x (defScope st) g cdv A outer s H E).tr pn xe) (.Call (.Name a p1) [] [] p2) (tE K W (wAct 0 f d q ps us B))) →
      PSs (cxOf (L2.CX P w) P w K mg base N x (defScope st) g cdv A outer s H E) (defBody st) (tS K (fun cls d _ H => E cls d H) (wb f d q ps us B))) ∧
    ∀ f d q ps us B o ret exc, S B o ret exc → wb f d q ps us B (fun x s => exc x s.o) (pst0 [.fn f d q ps us] o N.length) (bodyO ret)
section
variable {X : Cx} {W : WX}
theorem c_callB {k j : Nat} {x a q : Str} {S : LBT → LBT} {c P : Addr} {prm : Arguments} {bd : Expr} {sc : Scope} {wl : EW} {p lpos pos : Pos} (C : CalB X.prog X.w X.K X.mg X.base (k + 1) x a S) (tk : Takes X W) (hr : Room j X.A) (TB : TabB X.base X.mg c P) (hcd : X.env.code = .ref c) (L : LamS X.env.scope sc) (hde : defaultsOf prm X.env = ([], []))
    (bi : ∀ (q : Str) (cl : List (Str × Addr)) (pm cv ct : Value), bindArgs (PySem.W.kla_fn "<lambda>" q prm bd sc cl pm cv ct) ⟨[], []⟩ = pure [])
    (go : ∀ (A : Around) (outer : List Env) (s : Shared) (H : Hp) (E : XK) (f d : Addr), Room k (A.deeper (lamEnv X sc s.heap.objs.size f d)) → PE (lamCx X A outer s H E sc f d) bd (tE X.K (fun cls d _ H => E cls d H) wl))
    (hq : X.env.qual ++ ("<lambda>" : Str) = q := by first | rfl | decide) (hk : k + 2 ≤ j := by decide) (hg : Gl X x := by rfl) (h0 : (x == ("__debug__" : Str)) = false := by decide) (h1 : (a == ("__debug__" : Str)) = false := by decide) (h2 : (a == ("__classdict__" : Str)) = false := by decide) :
    PE X (.Call (.Name x p) [.Lambda prm bd sc lpos] [] pos) (tE X.K W (wCallB P q S wl)) := by
  subst hq
  obtain ⟨st, N, wb, D, Sc, hN, hv, hb, pure⟩ := C.ex
  obtain ⟨g, fd, F, hm, bn⟩ := D.ex
  have kp := F.kp
  obtain ⟨oc, od, kV, dc, pm0, an, cdv, ct0, osl, rfl, lk, hcg⟩ := F.ex
  refine ⟨fun pins s σ H Q I ⟨H0, F0, A0, sP, T, kx, kk, ⟨F1, A, w⟩, xl, ⟨⟨n, hn⟩, hS⟩, q⟩ => ?_⟩
  have hnA : n < A.length := by rw [w.len]; exact (List.getElem?_eq_some_iff.mp hn).1
  obtain ⟨P', hPn⟩ : ∃ P', A[n]? = some P' := ⟨_, List.getElem?_eq_getElem hnA⟩
  obtain ⟨rfl, fP, tb, hT, ht, ha⟩ := w.oc n P' _ hPn hn
  refine wpAny_Call_Name_kw (ld_glob I hg hm ?_ h0)
  refine PySem.W.callWith_K (h₀ := X.base) I.ok.mod.kin kp ?_ (by rfl) (by rfl)
  show wpAny _ _ (spliced ((false, eval (.Lambda prm bd sc lpos) X.env) :: backTo pos (starEach [] X.env))) _ _ s
  refine Calls.spliced_cons (lam_mk I TB hcd hT ht (fun p cv hc => ?_) hde (L.has I.ok) fun f d pm ct G z I1 hG of nf ff hco => ?_)
  · obtain ⟨d, e1, e2⟩ := ha p cv hc
    exact ⟨d, e1, w.fz.g _ _ e2⟩
  refine Calls.spliced_nil ⟨I1.kIn, ?_⟩
  obtain ⟨F2, w2⟩ : ∃ F2, WdF X.K H0 F0 A0 sP σ T G F2 A ∧ F2 d = some (CodeO d (X.env.qual ++ "<lambda>")) := by
    rcases hG with ⟨rfl, hc⟩ | ⟨nd, hne, rfl⟩
    · obtain ⟨d', e1, e2⟩ := ha _ _ hc
      cases e1
      exact ⟨F1, w, e2⟩
    · exact ⟨_, w.tbl hPn hn hT nd hne, upd_same⟩
  obtain ⟨w2, hd2⟩ := w2
  have cal : PVOk X.K F2 A (.fn f d (X.env.qual ++ "<lambda>") (capP sP.r) (capU sP.r σ)) (.ref f) := ⟨rfl, hd2, cap_ok w2.sl w2.pv⟩
  have w3 := w2.push cal
  have rc : codeAny (model X.prog X.w) X.A (.call (.ref g) ⟨[.ref f], []⟩) (CR (L2.CX X.prog X.w) X.stack X.prog X.w G z Q (WE W σ)) z := by
    refine run_ofS (k := k + 1) (N := N) (ps := [a]) (us := [.ref f]) (vs := [.ref f]) lk hcg Sc (hr.mono hk) I1.env0 (bn z [.ref f] I1.kIn rfl) (.cons rfl .nil) rfl fun hr' => ?_
    refine ⟨_, hb f d (X.env.qual ++ "<lambda>") (capP sP.r) (capU sP.r σ) (lamB wl sP.r) g _ X.A X.stack z G (WE W σ) hr' fun W' pn xe p1 p2 tk' => act_of (i := 0) (r := sP.r) (o := sP.o) w2 I1 L of nf ff (bi _ _ _ _ _) tk' hr' (fun A outer s H E hr2 => go A outer s H E f d hr2) hN hv h1 h2, ?_⟩
    refine fn_coreO (S := fun args o ret exc => args = [.fn f d (X.env.qual ++ "<lambda>") (capP sP.r) (capU sP.r σ)] ∧ S (lamB wl sP.r) o ret exc) (fun args o ret exc ⟨e, h⟩ => by subst e; exact pure _ _ _ _ _ _ _ _ _ h) [.ref f] G Q (WE W σ) ?_
    refine ⟨lendA G A, F2, A, [.fn f d (X.env.qual ++ "<lambda>") (capP sP.r) (capU sP.r σ)], sP.o, _, _, ⟨F2, A, w3.forH [.fn f d (X.env.qual ++ "<lambda>") (capP sP.r) (capU sP.r σ)] [.ref f] rfl fun t ht => ?_⟩, w2.len, ⟨rfl, hS⟩, fun r o hr v H' ⟨F', A', w'⟩ => ?_, fun y o hx d' H' ⟨F', A', w'⟩ => ?_⟩
    · rw [List.mem_singleton.mp ht]
      exact List.mem_cons_self
    · exact q _ _ hr v H' ⟨F', A', (w2.afterH w').push (w'.tm (r, v) List.mem_cons_self)⟩
    · exact xl y _ hx σ H' d' ⟨F', A', (w2.afterH w').push (show PVOk X.K F' A' (.xd y.fs) (dV d') from w'.tm (.xd y.fs, dV d') List.mem_cons_self)⟩
  refine wpAny_call (codeAny_mono rc fun r s2 hq => ?_)
  cases r with
  | error e => exact passAt tk σ pins G z e s2 I1 hq
  | ok fl =>
    cases fl with
    | ret u => exact I1.after hq
    | _ => exact False.elim hq
end
theorem takes_lam {X : Cx} {A : Around} {outer : List Env} {s : Shared} {H : Hp} {E : XK} {sc : Scope} {f d : Addr} : Takes (lamCx X A outer s H E sc f d) (fun cls d _ H => E cls d H) := takes_of rfl rfl rfl rfl
structure DfdC (K : PySem.W.Frag) (mg : Str → Option Value) (x : Str) (ps : List Str) (st : Stmt) (c : Addr) : Prop where
  ex : ∃ (f : Addr) (fd : FuncData), Fun K x x st f fd ∧ fd.code = .ref c ∧ mg x = some (.ref f) ∧ Binds K fd ps []
section
variable {P : Program} {w : World} {K : PySem.W.Frag} {mg : Str → Option Value} {base : Heap}
theorem DfdC.okO {x : Str} {ps N : List Str} {st : Stmt} {c : Addr} {k : Nat} {S : FSO} {wb : SW} (D : DfdC K mg x ps st c) (Sc : FnScope N ps (defScope st)) (len : ∀ args o r e, S args o r e → args.length = ps.length)
    (body : ∀ (f : Addr) (A : Around) (outer : List Env) (s : Shared) (H : Hp) (E : XK), Room k (A.deeper (envOfC x (defScope st) s.heap.objs.size f (.ref c))) →
      PSs (cxOf (L2.CX P w) P w K mg base N x (defScope st) f (.ref c) A outer s H E) (defBody st) (tS K (fun cls d _ H => E cls d H) wb))
    (pure : ∀ args o ret exc, S args o ret exc → wb (fun x s => exc x s.o) (pst0 args o N.length) (bodyO ret)) : ∃ (f : Addr) (fd : FuncData), FnOk P w K mg base (L2.CX P w) (k + 1) f fd ps (spO K S) ∧ mg x = some (.ref f) ∧ PySem.W.keepIn K (.ref f) = true ∧ Binds K fd ps [] := by
  obtain ⟨f, fd, F, hc, m, b⟩ := D.ex
  have kp := F.kp
  obtain ⟨oc, od, kV, dc, pm0, an, cdv, ct0, osl, rfl, lk, hcg⟩ := F.ex
  obtain rfl : cdv = .ref c := hc
  exact ⟨f, _, fn_of lk hcg Sc (fn_lenO len) fun A outer s H vs Q E hr h => ⟨_, body f A outer s H E hr, fn_coreO pure vs H Q E h⟩, m, kp, b⟩
theorem DfdC.calO {x : Str} {ps N : List Str} {st : Stmt} {c : Addr} {k : Nat} {S : FSO} {wb : SW} (D : DfdC K mg x ps st c) (Sc : FnScope N ps (defScope st)) (len : ∀ args o r e, S args o r e → args.length = ps.length)
    (body : ∀ (f : Addr) (A : Around) (outer : List Env) (s : Shared) (H : Hp) (E : XK), Room k (A.deeper (envOfC x (defScope st) s.heap.objs.size f (.ref c))) →
      PSs (cxOf (L2.CX P w) P w K mg base N x (defScope st) f (.ref c) A outer s H E) (defBody st) (tS K (fun cls d _ H => E cls d H) wb))
    (pure : ∀ args o ret exc, S args o ret exc → wb (fun x s => exc x s.o) (pst0 args o N.length) (bodyO ret)) : CalO P w K mg base (k + 1) x ps S := ⟨D.okO Sc len body pure⟩
end
theorem dfdC_mk {K : PySem.W.Frag} {mg : Str → Option Value} {x : Str} {ps : List Str} {st : Stmt} {f cc : Addr} {h : Heap} {oc : Value} {od an : Option Addr} {osl : Array (Option Value)} {kV doc pm cdv ct : Value} (X : K.In h) (G : h.Ns mainGlobals mg)
    (a : PySem.W.nsIn K mainGlobals x = some (some (.ref f))) (l : K.lookup f = some ⟨oc, od, .func (PySem.W.fnOf x x (defArgs st) (defBody st) (defScope st) .none kV doc pm an cdv ct), osl⟩) (c : PySem.W.codeIn K cdv x = true) (k : PySem.W.keepIn K (.ref f) = true) (e : cdv = .ref cc)
    (hb : ∀ (kV doc pm : Value) (an : Option Addr) (cdv ct : Value) (us : List Value), us.length = ps.length → bindArgs (PySem.W.fnOf x x (defArgs st) (defBody st) (defScope st) .none kV doc pm an cdv ct) ⟨us, []⟩ = pure (ps.zip us)) : DfdC K mg x ps st cc := by
  have F := fun_mk (st := st) l c k
  exact ⟨f, _, F, e, PySem.W.mg_of X G a, F.binds hb⟩
def lawT (ts : List (Addr × Str)) : FSO := fun args o ret _ => ∃ ns : List Int, args = [.scr ns] ∧ o = ts.map (fun t => OC.tb t.1 t.2) ∧ ns.length ≤ 63 ∧ ∀ o', ret (.d (.bool true)) o'
theorem lawT_start {K : PySem.W.Frag} {H : Hp} {a : Addr} {ns : List Int} {ts : List (Addr × Str)} (hT : ∀ t ∈ ts, H t.1 = some (.tbl #[])) (hnd : (ts.map (·.1)).Nodup) (hS : SqL K H a (ns.map V.int)) (hl : ns.length ≤ 63) :
    spO K (lawT ts) [.ref a] H (fun v _ => v = .bl true) fun _ _ _ => False := by
  have hA : ∀ p ∈ ts.map (·.1), H p = some (.tbl #[]) := fun p hp => by
    obtain ⟨t, ht, rfl⟩ := List.mem_map.mp hp
    exact hT t ht
  refine ⟨lendA H (ts.map (·.1)), lendA H (ts.map (·.1)), ts.map (·.1), [.scr ns], ts.map (fun t => OC.tb t.1 t.2), fun r _ => r = .d (.bool true), fun _ _ => False, ⟨lendA H (ts.map (·.1)), ts.map (·.1), ?_⟩, by rw [List.length_map, List.length_map], ⟨ns, rfl, rfl, hl, fun _ => rfl⟩, fun r o' hr v H' hret => ?_, fun _ _ z => z.elim⟩
  · have sm : Same (lendA H (ts.map (·.1))) H := fun b u e => by
      by_cases hb : b ∈ ts.map (·.1)
      · rw [lendA_in hb] at e; cases e
      · rw [lendA_out hb] at e; exact e
    refine ⟨⟨Same.refl _, sm, sm, fun _ _ h => h⟩, List.prefix_refl _, by show (ts.map (·.1)).length = (ts.map (fun t => OC.tb t.1 t.2)).length; rw [List.length_map, List.length_map], hnd, fun p hp => ⟨lendA_in hp, by rw [hA p hp]; exact fun z => nomatch z⟩, fun n p c h1 h2 => ?_, rfl, fun i v hv => ?_, (fun _ z => nomatch z)⟩
    · have h2 : (ts.map (fun t => OC.tb t.1 t.2))[n]? = some c := h2
      rw [List.getElem?_map] at h1 h2
      obtain ⟨t, e1, e2⟩ := Option.map_eq_some_iff.mp h1
      rw [e1] at h2
      cases h2
      subst e2
      have hm : t.1 ∈ ts.map (·.1) := List.mem_map.mpr ⟨t, List.mem_of_getElem? e1, rfl⟩
      exact ⟨rfl, lendA_in hm, #[], hA _ hm, True.intro, fun pos cv hc => by
        have z : codeAmong pos [] = some cv := hc
        simp [codeAmong] at z⟩
    · cases i with
      | zero =>
        cases hv
        refine ⟨.ref a, rfl, a, rfl, ?_⟩
        rcases hS with hS | hS
        · refine .inl ?_
          have na : a ∉ ts.map (·.1) := fun z => by
            have e := hA a z
            rcases hS with h | ⟨o, h⟩ <;> rw [e] at h <;> cases h
          rcases hS with h | ⟨o, h⟩
          · exact .inl (by rw [lendA_out na]; exact h)
          · exact .inr ⟨o, by rw [lendA_out na]; exact h⟩
        · exact .inr hS
      | succ i => simp at hv
  · subst hr
    obtain ⟨F', A', w'⟩ := hret
    exact dp_bl (dq_dp (show Dq K F' v (.bool true) from w'.tm (.d (.bool true), v) List.mem_cons_self))
end PW

namespace PW
open PySem L2 PySem.Spec PyProof.Rows
section
variable {K : PySem.W.Frag} {H0 F0 : Hp} {A0 : List Addr} {s : PSt} {σ : L2.St} {T : List (PV × V)} {H F : Hp} {A : List Addr}
end
section
variable {X : Cx} {W : WX} {a b : Expr} {wa wb wo : EW} {wo_e : Expr} {pos : Pos}
def wIndex (wo we : EW) : EW := fun kx s k => wo kx s fun x s1 => (∃ xs, dat s1 x = some (.list xs)) ∧ we kx s1 fun y s2 => ∃ xs b j z, dat s2 x = some (.list xs) ∧ dat s2 y = some b ∧ SeqAt.shaped (.list xs) = true ∧ SeqAt.shaped b = true ∧ xs[j]? = some z ∧ PyData.eqv z b = true ∧ (∀ (m : Nat) (z' : PyData), m < j → xs[m]? = some z' → PyData.eqv z' b = false) ∧ k (.d (.int (j : Nat))) s2
theorem e_index {apos : Pos} (hu : X.A.units + 65 < cLine) (ho : PE X wo_e (tE X.K W wo)) (ha : PE X a (tE X.K W wa))
    (hbase : attributeBase wo_e "index" X.env (eval wo_e X.env) = eval wo_e X.env := by rfl)
    (hfew : ((backTo pos (starEach [a] X.env)).all (fun x => !x.1) && (backToKw pos (keywordEach [] X.env)).all (fun x => x.1.isSome)
      && decide ([a].length + ([] : List Keyword).length + (if ([] : List Keyword).isEmpty then 0 else 1) < 30)) = true := by rfl)
    (hline : (apos.endLine == pos.line) = true := by rfl) (hs : starEach [a] X.env = (false, eval a X.env) :: starEach [] X.env := by rfl) (hplain : (backTo pos (starEach [] X.env)).any (·.1) = false := by rfl) :
    PE X (.Call (.Attribute wo_e "index" apos) [a] [] pos) (tE X.K W (wIndex wo wa)) := by
  refine PE.imp (pe_bm PySem.F.plainAttrs_list PySem.F.slot_list_index PySem.F.type_list_index (mt_indexD hu) ho (pa_cons ha pa_nil hs) hbase hfew hline hs hplain) fun σ H Q ⟨H0, F0, A0, s, T, kx, k, w, xl, h, q⟩ => ?_
  refine ⟨H0, F0, A0, s, T, kx, _, w, xl, h, fun x s1 h1 u H1 w1 => ?_⟩
  obtain ⟨⟨ws, ow⟩, h1⟩ := h1
  have ty : tyV X.K "list" u H1 := by
    obtain ⟨F, A, w1⟩ := w1
    obtain ⟨p, vs, rfl, hv, _⟩ := items_ok w1 (w1.tm _ List.mem_cons_self) ow
    exact .inl ⟨rfl, vs, hv⟩
  refine ⟨ty, H0, F0, A0, s1, _, kx, _, w1, xl.push, h1, fun y s2 h2 v H2 w2 => ?_⟩
  obtain ⟨xs, b, j, z, ox, oy, sh1, sh2, hj, hz, hno, hk⟩ := h2
  obtain ⟨F, A, w3⟩ := w2
  obtain ⟨p, vs, rfl, hv, hd⟩ := items_ok w3 (w3.tm _ (List.mem_cons_of_mem _ List.mem_cons_self)) ox
  have e1 := dat_ok w3 (w3.tm _ (List.mem_cons_of_mem _ List.mem_cons_self)) ox
  have e2 := dat_ok w3 (w3.tm _ List.mem_cons_self) oy
  exact ⟨p, v, b, xs, j, z, rfl, rfl, e1, e2, sh1, sh2, hj, hz, hno, q _ _ hk _ _ ⟨F, A, (w3.sub (T' := T) fun t h => List.mem_cons_of_mem _ (List.mem_cons_of_mem _ h)).push (.int _)⟩⟩
end
section
variable {X : Cx} {W : WX} {a : Expr} {wa wo : EW} {wo_e : Expr} {pos : Pos}
end
theorem dqAll_rev {K : PySem.W.Frag} {H : Hp} {vs : List V} {ds : List PyData} (h : DqAll K H vs ds) : DqAll K H vs.reverse ds.reverse := by
  have ap : ∀ {a : List V} {b : List PyData} {c : List V} {d : List PyData}, DqAll K H a b → DqAll K H c d → DqAll K H (a ++ c) (b ++ d) := by
    intro a b c d h1 h2
    induction a generalizing b with
    | nil => cases h1; exact h2
    | cons x a ih => cases h1 with | cons p q => exact .cons p (ih q)
  induction vs generalizing ds with
  | nil => cases h; exact .nil
  | cons v vs ih =>
    cases h with
    | cons p q =>
      rw [List.reverse_cons, List.reverse_cons]
      exact ap (ih q) (.cons p .nil)
section
variable {X : Cx} {W : WX} {e : Expr} {te : TE} {we : EW} {k kk : Nat} {p1 p2 p3 q1 q2 pos : Pos}
end
section
variable {X : Cx} {W : WX} {e : Expr} {st : Stmt}
end
end PW

namespace PW
open PySem L2 PySem.Spec PyProof.Rows LamX
section
variable {X : Cx} {W : WX} {a e o : Expr} {wa we : EW} {te : TE} {p p1 p2 pos : Pos}
def wFrzE (we : EW) : EW := fun kx s k => we kx s fun v s1 => frz v s1 fun d s2 => k (.d d) s2
theorem e_frzE (he : PE X e (tE X.K W we)) : PE X e (tE X.K W (wFrzE we)) := by
  refine PE.imp he fun σ H Q ⟨H0, F0, A0, s, T, kx, k, w, xl, h, q⟩ => ?_
  refine ⟨H0, F0, A0, s, T, kx, _, w, xl, h, fun v s1 h1 u H1 w1 => ?_⟩
  obtain ⟨d, s2, h2, w2⟩ := frz_ok w1 h1
  exact q _ _ h2 _ _ w2
def rUpper : V → Hp → VK → Prop := fun v H Q => ∃ z, v = .str z ∧ z.length ≤ 5592405 ∧ Q (.str (Txt.upper z)) H
theorem pe_upper (ho : PE X o te) (hbase : attributeBase o "upper" X.env (eval o X.env) = eval o X.env := by rfl) (hline : (p1.endLine == p2.line) = true := by rfl) : PE X (.Call (.Attribute o "upper" p1) [] [] p2) (tUn rUpper te) := by
  refine ⟨fun pins s σ H Q I h => ?_⟩
  refine wpAny_Call_method0_late hbase hline (thn (ho.run pins s σ H _ I h) fun v s1 ⟨x, H1, I1, r1, z, e1, hz, q⟩ => ?_)
  subst e1
  obtain ⟨tz, rfl⟩ := r1
  exact ⟨"str", _, PySem.F.plainAttrs_str, PySem.F.slot_str_upper, PySem.F.type_str_upper, typeIs_str _ _ _, (fun _ e => nomatch e), Calls.callWith_builtin rfl (PySem.evalArgs_none (PySem.SC.upper (PyProof.Rows.short24 (by have := PyProof.Rows.len_upper z; omega)) ⟨.str _, H1, I1.tok _, ⟨_, rfl⟩, q⟩))⟩
def wUpper (wo : EW) : EW := fun kx s k => wo kx s fun x s1 => ∃ z, x = .d (.str z) ∧ z.length ≤ 5592405 ∧ k (.d (.str (Txt.upper z))) s1
theorem e_upper {wo : EW} (ho : PE X o (tE X.K W wo)) (hbase : attributeBase o "upper" X.env (eval o X.env) = eval o X.env := by rfl) (hline : (p1.endLine == p2.line) = true := by rfl) : PE X (.Call (.Attribute o "upper" p1) [] [] p2) (tE X.K W (wUpper wo)) := by
  refine PE.imp (pe_upper ho hbase hline) fun σ H Q ⟨H0, F0, A0, s, T, kx, k, w, xl, h, q⟩ => un_of w xl h fun x s1 u H1 h1 w1 => ?_
  obtain ⟨z, rfl, hz, hk⟩ := h1
  obtain ⟨F, A, w1⟩ := w1
  cases dq_dp (w1.tm _ List.mem_cons_self)
  exact ⟨z, rfl, hz, q _ _ hk _ H1 ⟨F, A, (w1.sub fun t h => List.mem_cons_of_mem _ h).push (.str _)⟩⟩
theorem call_repr (hgd : X.A.guards = some []) (hu : X.A.units + 100 < cLine) : CallR X (.builtin "repr") (fun xs H Q => ∃ (v : V) (d : PyData), xs = [v] ∧ Dp X.K H v d ∧ d.showable = true ∧ d.hasDict = false ∧ d.depth ≤ 90 ∧ d.shown.length ≤ sizeLine ∧ Q (.str d.shown) H) := by
  intro pins s σ H xs us Q I rv h
  obtain ⟨v, d, rfl, hd, hs, hn, hdp, hz, q⟩ := h
  cases rv with
  | cons r rn =>
    cases rn
    obtain ⟨as, R⟩ := Dp.reads I d v _ hd r
    have fin : ∀ h' t', (∀ b o, s.heap.get? b = some o → h'.get? b = some o) → EP X pins σ Q (.str d.shown t') { s with heap := h', toks := s.toks + 1 } := fun h' t' k => ⟨.str _, H, I.kept (t' := s.toks + 1) k, ⟨_, rfl⟩, q⟩
    have same : ∀ t', EP X pins σ Q (.str d.shown t') { s with toks := s.toks + 1 } := fun t' => fin s.heap t' fun _ _ e => e
    cases hd with
    | non => cases r; exact PySem.P.repr_of_none (by have := same s.toks; simpa only [PyData.shown] using this)
    | bl b => cases r; exact PySem.P.repr_of_bool (by have := same s.toks; simpa only [PyData.shown] using this)
    | int i =>
      obtain ⟨t, rfl⟩ := r
      exact PySem.P.repr_of_int (by simpa only [PyData.showable, decide_eq_true_eq] using hs) (by have := same s.toks; simpa only [PyData.shown] using this)
    | str x =>
      obtain ⟨t, rfl⟩ := r
      exact PySem.P.repr_of_str (by have := same s.toks; simpa only [PyData.shown] using this) (by simpa only [PyData.shown] using hz)
    | lst h1 h2 =>
      cases r
      exact repr_of_reads' R hs (fun z => by rw [hn] at z; cases z) hgd (by omega) (fun _ _ e => e) (fun h' u tk k => ⟨.str _, H, I.kept (t' := tk) k, ⟨_, rfl⟩, q⟩) hz
    | tup h1 h2 =>
      cases r
      exact repr_of_reads' R hs (fun z => by rw [hn] at z; cases z) hgd (by omega) (fun _ _ e => e) (fun h' u tk k => ⟨.str _, H, I.kept (t' := tk) k, ⟨_, rfl⟩, q⟩) hz
def wRepr (wa : EW) : EW := fun kx s k => wa kx s fun x s1 => ∃ d, dat s1 x = some d ∧ d.showable = true ∧ d.hasDict = false ∧ d.depth ≤ 90 ∧ d.shown.length ≤ sizeLine ∧ k (.d (.str d.shown)) s1
theorem e_repr (hgd : X.A.guards = some []) (hu : X.A.units + 100 < cLine) (hm : X.mg "repr" = none) (ha : PE X a (tE X.K W wa)) (hg : Gl X "repr" := by rfl) (he : starEach [a] X.env = (false, eval a X.env) :: starEach [] X.env := by rfl) (hpl : (backTo pos (starEach [] X.env)).any (·.1) = false := by rfl) :
    PE X (.Call (.Name "repr" p) [a] [] pos) (tE X.K W (wRepr wa)) := by
  refine PE.imp (pe_callB (call_repr hgd hu) hg hm (by decide +kernel) (pa_cons ha pa_nil he) (he := he) (hpl := hpl)) fun σ H Q ⟨H0, F0, A0, s, T, kx, k, w, xl, h, q⟩ => cb1_of w xl h fun x s1 u H1 h1 w1 => ?_
  obtain ⟨d, hd, hs, hn, hdp, hz, hk⟩ := h1
  obtain ⟨F, A, w1⟩ := w1
  have hD := dat_ok w1 (w1.tm _ List.mem_cons_self) hd
  exact ⟨u, d, rfl, hD, hs, hn, hdp, hz, q _ _ hk _ H1 ⟨F, A, (w1.sub fun t h => List.mem_cons_of_mem _ h).push (.str _)⟩⟩
end
section
variable {prog : Program} {w : World} {A : Around} {E : Value → Shared → Prop} {s : Shared}
theorem rev_pick (xs : Array Value) : ((List.range xs.size).filterMap fun (m : Nat) => xs[(((xs.size : Int) - 1) + (m : Int) * -1).toNat]?).toArray = xs.toList.reverse.toArray := by
  have h := PySem.W.krv_pick xs
  unfold slicePick at h
  rw [PySem.W.krv_bounds] at h
  have h : ((sliceRange ((xs.size : Int) - 1) (-1) (-1)).filterMap (xs[·]?)).toArray = _ := h
  rw [PySem.W.krv_sliceRange, List.filterMap_map] at h
  rw [← h]
  congr 1
  have aux : ∀ (l : List Nat), (∀ m ∈ l, m < xs.size) → (l.filterMap fun (m : Nat) => xs[(((xs.size : Int) - 1) + (m : Int) * -1).toNat]?) = l.filterMap ((xs[·]?) ∘ fun k => xs.size - 1 - k) := by
    intro l
    induction l with
    | nil => intro _; rfl
    | cons m l ih =>
      intro hm
      have h1 := hm m List.mem_cons_self
      have e : (((xs.size : Int) - 1) + (m : Int) * -1).toNat = xs.size - 1 - m := by omega
      rw [List.filterMap_cons, List.filterMap_cons, ih fun q hq => hm q (List.mem_cons_of_mem _ hq), e]
      rfl
  exact aux _ fun m hm => List.mem_range.mp hm
theorem getItem_tuple_rev {t sl : Addr} {items : Array Value} {vs : Value} {Q : Value → Shared → Prop} (ht : IsTup s.heap t items) (hs : s.heap.IsSliceOf sl .none .none vs) (ps : IsPart vs (some (-1)))
    (h : Q (.ref s.heap.objs.size) { s with heap := s.heap.push { cls := .type "tuple", data := .seq items.toList.reverse.toArray } }) (hsz : items.size ≤ sizeLine) : wpAny (model prog w) A (getItem (.ref t) (.ref sl)) Q E s := by
  have htake : sizeOk (.seq items.toList.reverse.toArray) := by
    show items.toList.reverse.toArray.size ≤ sizeLine
    rw [List.size_toArray, List.length_reverse, Array.length_toList]
    exact hsz
  obtain ⟨os, hos, hcs, hds⟩ := id hs
  have hTs : s.TypeIs (.ref sl) "slice" := ⟨os, hos, hcs⟩
  unfold getItem
  try with_reducible refine wpAny_holding ?_
  first | refine wpAny_bind (wpAny_pure ?_) | skip
  refine wpAny_bind (wpAny_sequenceKey ht.typeIs (by decide) ?_)
  refine wpAny_bind (wpAny_callSpecial?_slot (name := Str.ofString "__getitem__") ht.typeIs PyProof.Rows.slot_tuple_getitem
    (wpAny_call_entry PyProof.Rows.slot_tuple_getitem ht.typeIs entry_tuple_getitem ?_ (args_tuple_getitem _ _)))
  show wpAny _ _ (Builtin.Tuple.tupleItemsOf (.ref t) >>= _) _ _ s
  refine wpAny_bind (PyProof.Rows.tupleItemsOf_ ht ?_)
  refine wpAny_bind (wpAny_typeOf hTs ?_)
  rw [if_pos (by decide)]
  have app : ∀ {A : Around} {E : Value → Shared → Prop} {R : Int × Int × Nat → Shared → Prop}, R ((items.size : Int) - 1, -1, items.size) s → wpAny (model prog w) A (Builtin.Slice.sliceApplied (.ref sl) (pure (items.size : Int))) R E s := fun {A E R} hR => by
    unfold Builtin.Slice.sliceApplied Builtin.Slice.sliceFields
    refine wpAny_bind (wpAny_bind (wpAny_field hos hds (x := .none) rfl (wpAny_bind (wpAny_field hos hds (x := .none) rfl (wpAny_bind (wpAny_field hos hds (x := vs) rfl (wpAny_pure ?_)))))))
    refine wpAny_bind (HT.slicePart_ ps ?_)
    show wpAny _ _ (if ((-1 : Int) == 0) = true then _ else _) _ _ s
    rw [if_neg (by decide)]
    refine wpAny_bind (HT.slicePart_ .none (wpAny_bind (HT.slicePart_ .none (wpAny_bind (wpAny_pure ?_)))))
    have ea : Builtin.Slice.sliceAdjust none none (-1) (items.size : Int) = ((items.size : Int) - 1, -1) := by
      unfold Builtin.Slice.sliceAdjust
      rfl
    have ep : Builtin.Slice.slicePlaces ((items.size : Int) - 1) (-1) (-1) = items.size := by
      unfold Builtin.Slice.slicePlaces
      have h1 : ¬ ((-1 : Int) > 0) := by decide
      simp only [h1, if_false]
      rw [show (- -1 : Int) = 1 by decide, Int.ediv_one]
      split <;> omega
    show wpAny _ _ (match Builtin.Slice.sliceAdjust none none (-1) (items.size : Int) with | (lo, hi) => pure (lo, (-1 : Int), Builtin.Slice.slicePlaces lo hi (-1))) _ _ s
    rw [ea]
    show wpAny _ _ (pure ((items.size : Int) - 1, (-1 : Int), Builtin.Slice.slicePlaces ((items.size : Int) - 1) (-1) (-1))) _ _ s
    rw [ep]
    exact wpAny_pure hR
  refine wpAny_bind (app ?_)
  show wpAny _ _ (if (((items.size : Int) - 1) == 0 && (-1 : Int) == 1 && items.size == items.size) = true then _ else _) _ _ s
  rw [if_neg (by simp), rev_pick]
  first
    | exact wpAny_bind (m := Builtin.Tuple.tupleExact _) (wpAny_newObj_type (wpAny_pure ⟨_, rfl, wpAny_pure h⟩) htake)
    | exact wpAny_bind (m := Builtin.Tuple.tupleExact _) (wpAny_newObj_type (wpAny_bind (wpAny_pure (wpAny_pure ⟨_, rfl, wpAny_pure h⟩))) htake)
    | exact wpAny_bind (wpAny_bind (m := Builtin.Tuple.tupleExact _) (wpAny_newObj_type (wpAny_pure (wpAny_pure ⟨_, rfl, wpAny_pure h⟩)) htake))
    | exact wpAny_bind (wpAny_bind (m := Builtin.Tuple.tupleExact _) (wpAny_newObj_type (wpAny_pure ⟨_, rfl, wpAny_pure h⟩) htake))
end
section
variable {X : Cx} {W : WX} {e : Expr} {te : TE} {we : EW} {k : Nat} {p1 p2 p3 pos : Pos}
def tRevT (K : PySem.W.Frag) (te : TE) : TE := fun σ H Q => te σ H fun x H1 => ∃ a xs, x = .ref a ∧ SqT K H1 a xs ∧ ∀ p, H1 p = none → Q (.ref p) (upd H1 p (.tup xs.reverse))
theorem pe_revT (he : PE X e te) : PE X (.Subscript e (.Slice none none (some (.UnaryOp .USub (.Constant (.int 1) k p1) p2)) p3) pos) (tRevT X.K te) := by
  refine ⟨fun pins s σ H Q I h => ?_⟩
  refine Subscript_ (thn (he.run pins s σ H _ I h) fun v s1 ⟨x, H1, I1, r1, q1⟩ => ?_)
  obtain ⟨a, xs, ex, hx, q⟩ := q1
  subst ex
  cases r1
  have hst : PO X (some (.UnaryOp .USub (.Constant (.int 1) k p1) p2)) (tPart (tUn (rU fun i => .int (-i)) (tC (.int 1)))) := po_some (pe_un un_neg pe_int)
  refine wpAny_Slice (thn (po_none.run pins s1 σ H1 (fun o H2 => o = none ∧ H2 = H1) I1 ⟨rfl, rfl⟩) fun vl s2 ⟨l, H2, I2, pl, el, e2⟩ => ?_)
  subst el e2
  refine thn (po_none.run pins s2 σ H2 (fun o H3 => o = none ∧ H3 = H2) I2 ⟨rfl, rfl⟩) fun vu s3 ⟨u, H3, I3, pu, eu, e3⟩ => ?_
  subst eu e3
  refine thn (hst.run pins s3 σ H3 (fun o H4 => o = some (-1) ∧ H4 = H3) I3 ⟨1, rfl, -1, rfl, rfl, rfl⟩) fun vs s4 ⟨o, H4, I4, ps, eo, e4⟩ => ?_
  subst eo e4
  cases pl
  cases pu
  have I5 : Inv X pins σ H4 { s4 with heap := s4.heap.push { cls := .type "slice", data := .fields #[.none, .none, vs] } } := I4.kept (t' := s4.toks) fun b ob q => Heap.get?_push_of_some _ q
  obtain ⟨its, r, ht, hz⟩ := I5.tuple hx
  have hlen := r.length
  show wpAny (model X.prog X.w) X.A (subscriptTail e (.Slice none none (some (.UnaryOp .USub (.Constant (.int 1) k p1) p2)) p3) (.ref a) (.ref s4.heap.objs.size)) (EP X pins σ Q) X.xe { s4 with heap := s4.heap.push { cls := .type "slice", data := .fields #[.none, .none, vs] } }
  refine tail_any (ops := [.ref a, .ref s4.heap.objs.size]) ht.typeIs (PyProof.Rows.slot_tuple_getitem.lookup) ?_ (by with_unfolding_all rfl)
  refine getItem_tuple_rev ht (Heap.IsSliceOf.new _ .none .none vs) ps ?_ (by rw [List.size_toArray]; omega)
  refine ⟨.ref _, _, I5.laid (t' := s4.toks) (o := .tup xs.reverse) (fun b ob q => Heap.get?_push_of_some _ q) (Nat.le_refl _) ?_, rfl, q _ (I5.hok.fresh (Nat.le_refl _))⟩
  exact ⟨by rw [List.length_reverse]; exact hz, _, r.reverse, IsTup.new _ _⟩
def wRevT (wa : EW) : EW := fun kx s k => wa kx s fun x s1 => ∃ xs, x = .d (.tuple xs) ∧ k (.d (.tuple xs.reverse)) s1
theorem e_revT (he : PE X e (tE X.K W we)) : PE X (.Subscript e (.Slice none none (some (.UnaryOp .USub (.Constant (.int 1) k p1) p2)) p3) pos) (tE X.K W (wRevT we)) := by
  refine PE.imp (pe_revT he) fun σ H Q ⟨H0, F0, A0, s, T, kx, kk, w, xl, h, q⟩ => ?_
  refine ⟨H0, F0, A0, s, T, kx, _, w, xl, h, fun x s1 h1 u H1 w1 => ?_⟩
  obtain ⟨xs, rfl, hk⟩ := h1
  obtain ⟨F, A, w1⟩ := w1
  cases (show Dq X.K F u (.tuple xs) from w1.tm (.d (.tuple xs), u) List.mem_cons_self) with
  | @tup a vs ds hs hd =>
    have w4 := w1.sub (T' := T) fun t h => List.mem_cons_of_mem _ h
    refine ⟨_, _, rfl, same_t w1.fz.g hs, fun p hp => ?_⟩
    have w5 := w4.newD (o := .tup vs.reverse) hp
    exact q _ _ hk _ _ ⟨_, A, w5.push (.tup (SqT.of upd_same) (dqAll_same (same_new (w4.fz.g.free hp)) (dqAll_rev hd)))⟩
end
theorem hu100 {k : Nat} {A : Around} (hr : Room k A) : A.units + 100 < cLine := by have := hr.un; omega
structure FnG (P : Program) (w : World) (K : PySem.W.Frag) (mg : Str → Option Value) (base : Heap) (k : Nat) (f : Addr) (fd : FuncData) (ps : List Str) (sp : Sp) : Prop where
  len : ∀ vs H Q E, sp vs H Q E → vs.length = ps.length
  run : ∀ (A : Around) (outer : List Env) (s : Shared) (H : Hp) (args : Args) (us : List Value) (vs : List V) (Q : VK) (E : XK), Room k A → A.guards = some [] → Env0 P w K mg base A outer s H → BindsTo s fd args (ps.zip us) → Vals vs us → sp vs H Q E →
    codeAny (model P w) A (.call (.ref f) args) (CR (L2.CX P w) outer P w H s Q E) s
structure CalG (P : Program) (w : World) (K : PySem.W.Frag) (mg : Str → Option Value) (base : Heap) (k : Nat) (x : Str) (ps : List Str) (S : FSO) : Prop where
  ex : ∃ f fd, FnG P w K mg base k f fd ps (spO K S) ∧ mg x = some (.ref f) ∧ PySem.W.keepIn K (.ref f) = true ∧ Binds K fd ps []
theorem fn_okG {P : Program} {w : World} {K : PySem.W.Frag} {mg : Str → Option Value} {base : Heap} {x : Str} {ps N : List Str} {st : Stmt} {f c : Addr} {fd : FuncData} {k : Nat} {S : FSO} {wb : SW} (F : Fun K x x st f fd) (hc : fd.code = .ref c) (Sc : FnScope N ps (defScope st)) (len : ∀ args o r e, S args o r e → args.length = ps.length)
    (body : ∀ (A : Around) (outer : List Env) (s : Shared) (H : Hp) (E : XK), Room k (A.deeper (envOfC x (defScope st) s.heap.objs.size f (.ref c))) → (A.deeper (envOfC x (defScope st) s.heap.objs.size f (.ref c))).guards = some [] →
      PSs (cxOf (L2.CX P w) P w K mg base N x (defScope st) f (.ref c) A outer s H E) (defBody st) (tS K (fun cls d _ H => E cls d H) wb))
    (pure : ∀ args o ret exc, S args o ret exc → wb (fun x s => exc x s.o) (pst0 args o N.length) (bodyO ret)) : FnG P w K mg base (k + 1) f fd ps (spO K S) := by
  obtain ⟨oc, od, kV, dc, pm0, an, cdv, ct0, osl, rfl, lk, hcg⟩ := F.ex
  obtain rfl : cdv = .ref c := hc
  exact ⟨fn_lenO len, fun A outer s H args us vs Q E hr hgd e0 hb r h => run_ofS lk hcg Sc hr e0 hb r (fn_lenO len vs H Q E h) fun hr' => ⟨_, body A outer s H E hr' hgd, fn_coreO pure vs H Q E h⟩⟩
theorem DfdC.calG {P : Program} {w : World} {K : PySem.W.Frag} {mg : Str → Option Value} {base : Heap} {x : Str} {ps N : List Str} {st : Stmt} {c : Addr} {k : Nat} {S : FSO} {wb : SW} (D : DfdC K mg x ps st c) (Sc : FnScope N ps (defScope st)) (len : ∀ args o r e, S args o r e → args.length = ps.length)
    (body : ∀ (f : Addr) (A : Around) (outer : List Env) (s : Shared) (H : Hp) (E : XK), Room k (A.deeper (envOfC x (defScope st) s.heap.objs.size f (.ref c))) → (A.deeper (envOfC x (defScope st) s.heap.objs.size f (.ref c))).guards = some [] →
      PSs (cxOf (L2.CX P w) P w K mg base N x (defScope st) f (.ref c) A outer s H E) (defBody st) (tS K (fun cls d _ H => E cls d H) wb))
    (pure : ∀ args o ret exc, S args o ret exc → wb (fun x s => exc x s.o) (pst0 args o N.length) (bodyO ret)) : CalG P w K mg base (k + 1) x ps S := by
  obtain ⟨f, fd, F, hc, m, b⟩ := D
  exact ⟨f, fd, fn_okG F hc Sc len (body f) pure, m, F.kp, b⟩
section
variable {X : Cx} {W : WX} {k j : Nat} {ps : List Str} {S : FSO} {x : Str} {p pos : Pos} {e : Expr} {es : List Expr} {ws : AW}
theorem c_callG (C : CalG X.prog X.w X.K X.mg X.base k x ps S) (tk : Takes X W) (hr : Room j X.A) (hgd : X.A.guards = some []) (ha : PA X (e :: es) (tA X.K W ws)) (hk : k ≤ j := by decide) (hg : Gl X x := by rfl)
    (hdb : (x == ("__debug__" : Str)) = false := by decide) (he : starEach (e :: es) X.env = (false, eval e X.env) :: starEach es X.env := by rfl) (hpl : (backTo pos (starEach es X.env)).any (·.1) = false := by rfl) :
    PE X (.Call (.Name x p) (e :: es) [] pos) (tE X.K W (wCallO S ws)) := by
  obtain ⟨f, fd, F, hm, kp, hb⟩ := C.ex
  refine ⟨fun pins s0 σ H Q I ⟨H0, F0, A0, s, T, kx, kk, w, xl, h, q⟩ => ?_⟩
  refine wpAny_Call_Name_kw (ld_glob I hg hm ?_ hdb)
  have hA : tA X.K W ws σ H fun us H1 => ∃ (vs : List PV) (s1 : PSt) (F1 : Hp) (A : List Addr), S vs s1.o (fun r o => kk r ⟨s1.r, o⟩) (fun x o => kx x ⟨s1.r, o⟩) ∧ us.length = vs.length ∧ WdF X.K H0 F0 A0 s1 σ (vs.zip us ++ T) H1 F1 A := by
    refine ar_of w xl h fun vs s1 us H1 hS e1 w1 => ?_
    obtain ⟨F1, A, w1⟩ := w1
    exact ⟨vs, s1, F1, A, hS, e1, w1⟩
  refine PySem.W.callWith_K (h₀ := X.base) I.ok.mod.kin kp (thn (ha.run pos pins s0 σ H _ I hA) fun us s2 ⟨us', H1, I1, r, vs, s1, F1, A, hS, e1, w1⟩ => ⟨I1.kIn, ?_⟩) he hpl
  have w3 := w1.sub (T' := T) fun t h => List.mem_append_right _ h
  have hsp : spO X.K S us' H1 Q (WE W σ) := by
    refine ⟨lendA H1 A, F1, A, vs, s1.o, _, _, ⟨F1, A, w1.forH vs us' e1 fun t h => List.mem_append_left _ h⟩, w1.len, hS, fun r o hr v H' ret => ?_, fun y o hx d H' w' => ?_⟩
    · obtain ⟨F', A', w'⟩ := ret
      exact q _ _ hr v H' ⟨F', A', (w3.afterH w').push (w'.tm (r, v) List.mem_cons_self)⟩
    · obtain ⟨F', A', w'⟩ := w'
      exact xl y _ hx σ H' d ⟨F', A', (w3.afterH w').push (show PVOk X.K F' A' (.xd y.fs) (dV d) from w'.tm (.xd y.fs, dV d) List.mem_cons_self)⟩
  have hl : us.length = ps.length := by rw [← r.length]; exact F.len _ _ _ _ hsp
  refine wpAny_call (codeAny_mono (F.run X.A X.stack s2 H1 ⟨us, []⟩ us us' Q (WE W σ) (hr.mono hk) hgd I1.env0 (by have := hb s2 us I1.kIn (by rw [List.append_nil]; exact hl); rw [List.append_nil] at this; exact this) r hsp) fun r' s' hq => ?_)
  cases r' with
  | error e => exact passAt tk σ pins H1 _ e s' I1 hq
  | ok fl =>
    cases fl with
    | ret u => exact I1.after hq
    | next => exact False.elim hq
    | brk => exact False.elim hq
    | cont => exact False.elim hq
end
section
variable {P : Program} {w : World} {K : PySem.W.Frag} {mg mb : Str → Option Value} {k : Nat} {fa a : Addr} {cs : List (Addr × Addr)} {fd : FuncData} {x : Str} {sp : Sp} {s₁ : Shared} {vs : List Value} {ns : List Int}
structure Lent (K : PySem.W.Frag) (cs : List (Addr × Addr)) (a : Addr) (H : Hp) : Prop where
  tab : ∀ p ∈ cs, H p.2 = some (.tbl #[])
  all : ∀ b u, H b = some u → (b ∈ cs.map (·.2) ∧ u = .tbl #[]) ∨ (b = a ∧ K.lookup a = none ∧ ∃ o xs, u = .frz o (.lst xs))
theorem law_lent {H : Hp} (L : Lent K cs a H) (KX : K.In s₁.heap) (hns : s₁.heap.Ns mainGlobals mg) (hb : s₁.heap.Ns builtinsNs mb) (hbb : ∀ x : Str, x ≠ "__name__" → mb x = bootBuiltins x) (hlim : s₁.heap.NoLimit) (hg : s₁.gens = #[])
    (hT : ∀ p ∈ cs, s₁.heap.get? p.2 = some { cls := .none, data := .fields #[] }) (nT : ∀ p ∈ cs, K.lookup p.2 = none) (C : ∀ p ∈ cs, PySem.W.CodeHd s₁.heap p.1 p.2)
    (hbm : ∃ (bm : Addr) (ob : Obj), mg "__builtins__" = some (.ref bm) ∧ bm ≠ builtinsNs ∧ s₁.heap.get? bm = some ob ∧ ob.cls = .type "module" ∧ ob.dict = some builtinsNs ∧ ob.data = .plain)
    (ha : s₁.heap.get? a = some { cls := .type "list", data := .seq vs.toArray }) (hr : Room k callerA) (hok : HOk P w H s₁.heap)
    (F : ∀ base : Heap, K.In base → base.Ns mainGlobals mg → (∀ p ∈ cs, TabB base mg p.1 p.2) → FnG P w K mg base k fa fd [x] sp) (hbind : ∀ (s : Shared) (u : Value), BindsTo s fd ⟨[u], []⟩ [(x, u)])
    (hsp : sp [.ref a] H (fun v _ => v = .bl true) fun _ _ _ => False) :
    codeAny (model P w) callerA (.call (.ref fa) ⟨[.ref a], []⟩) (fun r s' => r = .ok (.ret (.bool true)) ∧ OldK s₁.heap s'.heap ∧ s'.os = s₁.os ∧ AllBare s'.gens) s₁ := by
  have atT : ∀ b, b ∈ cs.map (·.2) → s₁.heap.get? b = some { cls := .none, data := .fields #[] } := fun b hb => by
    obtain ⟨p, hp, rfl⟩ := List.mem_map.mp hb
    exact hT p hp
  have out : ∀ {b : Addr} {o : Obj}, s₁.heap.get? b = some o → (∀ us n, o.data ≠ .seq us n) → o.data ≠ .fields #[] → H b = none := fun {b o} e h1 h2 => by
    cases q : H b with
    | none => rfl
    | some u =>
      rcases L.all b u q with ⟨hm, _⟩ | ⟨rfl, _⟩
      · rw [atT b hm] at e
        exact absurd (congrArg Obj.data (Option.some.inj e)).symm h2
      · rw [ha] at e
        exact absurd (congrArg Obj.data (Option.some.inj e)).symm (h1 _ _)
  have inK : K.In (hidT s₁.heap H) := fun b o e => hidT_get (KX b o e) (by
    cases q : H b with
    | none => rfl
    | some u =>
      rcases L.all b u q with ⟨hm, _⟩ | ⟨rfl, hk, _⟩
      · obtain ⟨p, hp, rfl⟩ := List.mem_map.mp hm
        rw [nT p hp] at e; cases e
      · rw [hk] at e; cases e)
  have ns : ∀ {b : Addr} {m : Str → Option Value}, s₁.heap.Ns b m → (hidT s₁.heap H).Ns b m := fun {b m} ⟨o, es, ep, e, d, r⟩ =>
    ⟨o, es, ep, hidT_get e (out e (fun us n z => by rw [d] at z; cases z) fun z => by rw [d] at z; cases z), d, r⟩
  have md : L2.Mod K mg (hidT s₁.heap H) := ⟨inK, ns hns, ⟨mb, ns hb, hbb⟩, let ⟨mc, h1, h2⟩ := hlim; ⟨mc, ns h1, h2⟩⟩
  have tb : ∀ p ∈ cs, TabB (hidT s₁.heap H) mg p.1 p.2 := fun p hp => by
    obtain ⟨o, us, file, tf, flags, tg, inF, text, tt, e1, r1, r2, r3, r4, r5, r6, r7, r8, hne⟩ := C p hp
    obtain ⟨bm, ob, b1, b2, b3, b4, b5, b6⟩ := hbm
    obtain ⟨og, es, ep, eg, dg, _⟩ := id hns
    have d1 : ∀ {b : Addr}, b = p.2 → ∀ {o : Obj}, s₁.heap.get? b = some o → o.data = .fields #[] := fun {b} e {o} ho => by
      rw [e, hT p hp] at ho
      exact (congrArg Obj.data (Option.some.inj ho)).symm
    refine ⟨⟨o, us, file, tf, flags, tg, inF, text, tt, hidT_get e1 (out e1 (fun us n z => by rw [r2] at z; cases z) fun z => ?_), r1, r2, r3, r4, r5, r6, r7, r8, hne⟩,
      ⟨bm, ob, b1, b2, fun q => ?_, fun q => ?_, hidT_get b3 (out b3 (fun us n z => by rw [b6] at z; cases z) fun z => by rw [b6] at z; cases z), b4, b5, b6⟩, fun q => ?_⟩
    · rw [r2] at z
      cases z
      simp at r3
    · rw [q, eg] at b3
      cases b3
      rw [b6] at dg; cases dg
    · have := d1 q b3
      rw [b6] at this; cases this
    · have := d1 q eg
      rw [dg] at this; cases this
  have e0 : Env0 P w K mg (hidT s₁.heap H) callerA [] s₁ H := ⟨rfl, md, fun b o e => of_hidT e, Nat.le_of_eq (hidT_size _ _), trivial, fun b hb => absurd hb List.not_mem_nil, hok, .of_eq hg⟩
  refine codeAny_mono ((F _ inK (ns hns) tb).run callerA [] s₁ H ⟨[.ref a], []⟩ [.ref a] [.ref a] _ _ hr rfl e0 (hbind s₁ (.ref a)) (.cons rfl .nil) hsp) fun r s' h => ?_
  cases r with
  | error e =>
    obtain ⟨_, _, _, _, _, _, _, _, _, _, _, _, z⟩ := h
    exact z.elim
  | ok fl =>
    cases fl with
    | next => exact False.elim h
    | brk => exact False.elim h
    | cont => exact False.elim h
    | ret u =>
      obtain ⟨v, H', os, bare, un, hok', r', q⟩ := h
      obtain rfl : v = .bl true := q
      obtain rfl : u = Value.bool true := r'
      have stay : ∀ b o, b ∉ cs.map (·.2) → s₁.heap.get? b = some o → s'.heap.get? b = some o := fun b o nb e => by
        cases q : H b with
        | none => exact un.keep b o e q List.not_mem_nil List.not_mem_nil
        | some u =>
          rcases L.all b u q with ⟨hm, _⟩ | ⟨_, _, ob, xs, rfl⟩
          · exact absurd hm nb
          · obtain ⟨e1, _⟩ := hok b _ q
            obtain ⟨e2, _⟩ := hok' b _ (un.frzs b ob _ q)
            rw [e] at e1; cases e1
            exact e2
      have more : ∀ p ∈ cs, ∃ us : Array Value, s'.heap.get? p.2 = some { cls := .none, data := .fields us } := fun p hp => by
        obtain ⟨us, z⟩ := un.tbls p.2 #[] (L.tab p hp)
        exact ⟨_, hok' p.2 _ z⟩
      refine ⟨rfl, ⟨fun b o e => ?_, fun b o e => ?_⟩, os, bare⟩ <;> by_cases hm : b ∈ cs.map (·.2)
      · obtain ⟨p, hp, rfl⟩ := List.mem_map.mp hm
        obtain ⟨us, z⟩ := more p hp
        rw [hT p hp] at e
        cases e
        exact .inr (.inl ⟨((C p hp).tab (hT p hp)).isCodeTable, rfl, #[], us, rfl, by rw [Array.empty_append]; exact z⟩)
      · exact .inl (stay b o hm e)
      · obtain ⟨p, hp, rfl⟩ := List.mem_map.mp hm
        obtain ⟨us, z⟩ := more p hp
        exact ⟨_, z⟩
      · exact ⟨o, stay b o hm e⟩
end
theorem law_ofTG {l : PySem.W.OpenLaw} {k : Nat} {q : Program} {loose : List Str} {XP : (Str → Option Value) → Heap → Prop} {YP : World → Heap → Prop} {d : DefRec} {x : Str} (hn : l.most = some 63) (hdf : d.params.defaults = []) (hr : Room k callerA)
    (F : ∀ (w : World) (mg : Str → Option Value) (fa : Addr) (h : Heap), YP w h → h.Ns mainGlobals mg → mg d.name = some (.ref fa) →
      ∃ (K : PySem.W.Frag) (cs : List (Addr × Addr)) (ts : List (Addr × Str)), K.In h ∧ cs.map (·.2) = ts.map (·.1) ∧ (ts.map (·.1)).Nodup ∧ (∀ p ∈ cs, h.get? p.2 = some { cls := .none, data := .fields #[] } ∧ K.lookup p.2 = none ∧ PySem.W.CodeHd h p.1 p.2) ∧ ∃ fd : FuncData, (∀ (s : Shared) (u : Value), BindsTo s fd ⟨[u], []⟩ [(x, u)]) ∧
        ∀ base : Heap, K.In base → base.Ns mainGlobals mg → (∀ p ∈ cs, TabB base mg p.1 p.2) → FnG l.prog w K mg base k fa fd [x] (spO K (lawT ts))) :
    PySem.W.WalkO q loose XP YP l.row.toRowW d [] (fun f vs => PySem.call f vs) := by
  refine Att.attach_callB hn hdf fun w s₀ s₁ mg mb fa o pm cd doc a vs ns G Y ho hd hcd hmg hobj hints hlen hbits hg => ?_
  obtain ⟨K, cs, ts, KX, ecs, hnd, hcs, fd, hb, hF⟩ := F w mg fa _ Y G.T.g hmg
  have rv := vals_ints hints
  have lenV := hints.length
  have sz : ns.length ≤ sizeLine := Nat.le_trans hlen (by decide)
  have aT : a ∉ cs.map (·.2) := fun z => by
    obtain ⟨p, hp, e⟩ := List.mem_map.mp z
    have h1 := (hcs p hp).1
    rw [e, hobj] at h1
    have h2 : Data.seq vs.toArray _ = Data.fields #[] := congrArg Obj.data (Option.some.inj h1)
    cases h2
  have atT : ∀ b, b ∈ cs.map (·.2) → s₁.heap.get? b = some { cls := .none, data := .fields #[] } := fun b hb => by
    obtain ⟨p, hp, rfl⟩ := List.mem_map.mp hb
    exact (hcs p hp).1
  have start : ∀ H : Hp, (∀ p ∈ cs, H p.2 = some (.tbl #[])) → SqL K H a (ns.map V.int) → spO K (lawT ts) [.ref a] H (fun v _ => v = .bl true) fun _ _ _ => False := fun H hH hS => lawT_start (fun t ht => by
    have : t.1 ∈ cs.map (·.2) := by rw [ecs]; exact List.mem_map.mpr ⟨t, ht, rfl⟩
    obtain ⟨p, hp, e⟩ := List.mem_map.mp this
    rw [← e]
    exact hH p hp) hnd hS hlen
  have go : ∀ H : Hp, Lent K cs a H → SqL K H a (ns.map V.int) → HOk l.prog w H s₁.heap → _ := fun H L hS hok =>
    law_lent (vs := vs) (k := k) (x := x) (sp := spO K (lawT ts)) L KX G.T.g G.T.b G.T.builtins G.T.nolimit hg (fun p hp => (hcs p hp).1) (fun p hp => (hcs p hp).2.1) (fun p hp => (hcs p hp).2.2) G.T.bmain hobj hr hok hF hb (start H L.tab hS)
  have memT : ∀ p ∈ cs, p.2 ∈ cs.map (·.2) := fun p hp => List.mem_map.mpr ⟨p, hp, rfl⟩
  cases hk : K.lookup a with
  | some o =>
    have e := KX a o hk
    rw [hobj] at e
    cases e
    refine go (fun b => if b ∈ cs.map (·.2) then some (.tbl #[]) else none) ⟨fun p hp => if_pos (memT p hp), fun b u z => ?_⟩ (.inr ⟨_, vs.toArray, _, hk, rfl, rfl, rfl, by rw [List.size_toArray, lenV]; exact sz, by simpa using rv⟩) fun b u z => ?_
    all_goals
      by_cases hm : b ∈ cs.map (·.2)
      · have z' := (if_pos hm).symm.trans z
        cases z'
        first
          | exact .inl ⟨hm, rfl⟩
          | exact atT b hm
      · have z' := (if_neg hm).symm.trans z
        cases z'
  | none =>
    refine go (fun b => if b = a then some (.frz { cls := .type "list", data := .seq vs.toArray } (.lst (ns.map V.int))) else if b ∈ cs.map (·.2) then some (.tbl #[]) else none)
      ⟨fun p hp => (if_neg fun z => aT (by rw [← z]; exact memT p hp)).trans (if_pos (memT p hp)), fun b u z => ?_⟩ (.inl (.inr ⟨{ cls := .type "list", data := .seq vs.toArray }, if_pos rfl⟩)) fun b u z => ?_
    all_goals
      by_cases h1 : b = a
      · have z' := (if_pos h1).symm.trans z
        cases z'
        first
          | exact .inr ⟨h1, hk, _, _, rfl⟩
          | (rw [h1]; exact ⟨hobj, by rw [List.length_map]; exact sz, vs, _, rv, hobj⟩)
      · have z1 := (if_neg h1).symm.trans z
        by_cases hm : b ∈ cs.map (·.2)
        · have z' := (if_pos hm).symm.trans z1
          cases z'
          first
            | exact .inl ⟨hm, rfl⟩
            | exact atT b hm
        · have z' := (if_neg hm).symm.trans z1
          cases z'
end PW

namespace PW
open PySem L2 PySem.Spec PyProof.Rows
def wOrL (wa wb : EW) : EW := fun kx s k => wa kx s fun x s1 => ∃ d, dat s1 x = some d ∧ truD d fun c => (c = true → k x s1) ∧ (c = false → wb kx s1 k)
section
variable {X : Cx} {W : WX} {a b c tg : Expr} {wa wb wc : EW} {p pos : Pos} {rest : List Expr}
theorem e_orL (ha : PE X a (tE X.K W wa)) (hb : PE X (.BoolOp .Or (b :: rest) pos) (tE X.K W wb)) : PE X (.BoolOp .Or (a :: b :: rest) pos) (tE X.K W (wOrL wa wb)) := by
  refine PE.imp (pe_orT ha hb) fun σ H Q ⟨H0, F0, A0, s, T, kx, k, w, xl, h, q⟩ => un_of w xl h fun x s1 u H1 h1 w1 => ?_
  obtain ⟨d, hd, t⟩ := h1
  obtain ⟨F, A, w1⟩ := w1
  obtain ⟨c, h1, h2, h3⟩ := tru_dp (dat_ok w1 (w1.tm _ List.mem_cons_self) hd) t
  refine ⟨c, h1, ?_⟩
  cases c with
  | true => exact iteT (q _ _ (h2 rfl) _ H1 ⟨F, A, w1⟩)
  | false => exact iteF ⟨H0, F0, A0, s1, T, kx, k, ⟨F, A, w1.sub fun t h => List.mem_cons_of_mem _ h⟩, xl, h3 rfl, q⟩
end
end PW

namespace PW
open PySem L2 PySem.Spec PyProof.Rows
set_option maxHeartbeats 1000000 in
theorem meets_enum_tup (t : Addr) (items : Array Value) :
    Meets (Builtin.«enumerate.__new__» ⟨[.type "enumerate", .ref t], []⟩) (fun _ R s => s.heap.IsTuple t items ∧
      R (.ok (.ret (.ref (s.heap.push { cls := .type "tuple_iterator", data := .fields #[.ref t, .int 0 0] }).objs.size)))
        { s with heap := (s.heap.push { cls := .type "tuple_iterator", data := .fields #[.ref t, .int 0 0] }).push { cls := .type "enumerate", data := .fields #[.none, .bool false, .ref s.heap.objs.size, rawInt 0, .none, .none] } }) :=
  .of_wp fun prog w A R s h => by
    obtain ⟨hp, g, d, tk, os⟩ := s
    obtain ⟨h1, h⟩ := h
    have hsub := sub_enumerate
    have q1 : ∀ {A' : Around} {E : Value → Shared → Prop} {Q : Value → Shared → Prop}, Q (.ref hp.objs.size) ⟨hp.push { cls := .type "tuple_iterator", data := .fields #[.ref t, .int 0 0] }, g, d, tk, os⟩ → wpAny (model prog w) A' (pyIter (.ref t)) Q E ⟨hp, g, d, tk, os⟩ :=
      fun q => wpAny_pyIter_tuple (s := ⟨hp, g, d, tk, os⟩) h1 q
    wp_walk using q1
    refine wpAny_stack_any fun st => wpAny_pure ?_
    split
    · rename_i c _ _ _ _ _
      cases (c == Value.type "enumerate")
      · wp_walk using q1
        exact ⟨_, rfl, h⟩
      · wp_walk using q1
        exact ⟨_, rfl, h⟩
    · wp_walk using q1
      exact ⟨_, rfl, h⟩
section
variable {prog : Program} {w : World} {A : Around} {E : Value → Shared → Prop} {s : Shared}
theorem call_enum_tup {t : Addr} {items : Array Value} {Q : Value → Shared → Prop} (ht : s.heap.IsTuple t items)
    (h : ∀ h', IsEnum h' (s.heap.objs.size + 1) s.heap.objs.size 0 .none → h'.IsTupleIter s.heap.objs.size t 0 → h'.objs.size = s.heap.objs.size + 2 →
      (∀ b o, s.heap.get? b = some o → h'.get? b = some o) → Q (.ref (s.heap.objs.size + 1)) { s with heap := h' }) :
    wpAny (model prog w) A (call (.type "enumerate") [.ref t]) Q E s := by
  refine callType_new F.called_enumerate (by decide) (F.typeCall_enumerate_1 _) (F.newCall_enumerate_1 _) (fun obj => F.args_object_init_2 obj _) F.entry_enumerate_new (meets_enum_tup t items) ⟨ht, ?_⟩
  have hz : (s.heap.push { cls := .type "tuple_iterator", data := .fields #[.ref t, .int 0 0] }).objs.size = s.heap.objs.size + 1 := Heap.size_push ..
  show _ ∧ _
  rw [hz]
  have he : IsEnum ((s.heap.push { cls := .type "tuple_iterator", data := .fields #[.ref t, .int 0 0] }).push { cls := .type "enumerate", data := .fields #[.none, .bool false, .ref s.heap.objs.size, rawInt 0, .none, .none] }) (s.heap.objs.size + 1) s.heap.objs.size 0 .none := by
    have := Heap.get?_push_size (s.heap.push { cls := .type "tuple_iterator", data := .fields #[.ref t, .int 0 0] }) (o := { cls := .type "enumerate", data := .fields #[.none, .bool false, .ref s.heap.objs.size, rawInt 0, .none, .none] }) rfl
    rw [hz] at this
    exact this
  refine ⟨⟨_, he, rfl⟩, h _ he ⟨_, Heap.get?_push_of_some _ (Heap.get?_push_size _ rfl), rfl, rfl⟩ (by rw [Heap.size_push, hz]) fun b o x => Heap.get?_push_of_some _ (Heap.get?_push_of_some _ x)⟩
theorem next_enum_end {e it t : Addr} {items : Array Value} {i : Nat} {j : Int} {old : Value} {Q : Option Value → Shared → Prop} (hh : A.handled = none) (he : IsEnum s.heap e it j old) (hit : s.heap.IsTupleIter it t i) (ht : s.heap.IsTuple t items) (hx : items[i]? = none)
    (hQ : ∀ h', Heap.ExtBut it s.heap h' → Q none { s with heap := h' }) : wpAny (model prog w) A (pyNext (.ref e)) Q E s := by
  have hT : s.TypeIs (.ref e) "enumerate" := ⟨_, he, rfl⟩
  unfold pyNext
  refine wpAny_bind (wpAny_attempt (wpAny_callSpecial?_slot (name := Str.ofString "__next__") hT F.slot_enumerate_next
    (wpAny_call_entry F.slot_enumerate_next hT F.entry_enumerate_next ?_ (F.args_enumerate_next_1 _))))
  show wpAny _ _ (field (.ref e) 2 >>= _) _ _ _
  refine wpAny_bind (wpAny_field he rfl (x := .ref it) rfl ?_)
  refine wpAny_bind (wpAny_nextOf_tuple_end (show A.in1.handled = none from hh) hit ht hx fun h' x he' hx' => ?_)
  obtain ⟨o, ho, hc⟩ := hx'
  refine wpAny_bind (wpAny_isInstance (T := "StopIteration") (b := true) ⟨o, ho, hc⟩ isSubtype_stop ?_)
  exact wpAny_pure (hQ _ he')
end
def IteT (K : PySem.W.Frag) (a : Addr) : It :=
  ⟨fun i H => ∃ (xs : List V) (x : V), SqT K H a xs ∧ xs[i]? = some x, fun i H v H' => ∃ T x, v = .ref T ∧ H T = none ∧ H' = upd H T (.tup [.int (i : Nat), x]) ∧ ∀ xs, SqT K H a xs → xs[i]? = some x, fun i H => ∃ xs : List V, SqT K H a xs ∧ xs.length ≤ i⟩
theorem turn_enumT {P : Program} {w : World} {K : PySem.W.Frag} {elts : List Expr} {kk : Nat} {tpos : Pos} (a e it : Addr) :
    Turn P w K (.Tuple elts kk tpos) (IteT K a) [e, it] e (fun i h => (∃ old, IsEnum h e it ((i : Nat) : Int) old) ∧ h.IsTupleIter it a i ∧ e ≠ it) where
  mem := by simp
  obj := fun i h st b hb => by
    obtain ⟨⟨old, he⟩, ⟨o, ho, hc, hd⟩, _⟩ := st
    have e' : b = e ∨ b = it := by simpa using hb
    rcases e' with z | z
    · rw [z]; exact ⟨_, he, fun v q => nomatch q⟩
    · rw [z]; exact ⟨o, ho, fun v q => by rw [hd] at q; cases q⟩
  keep := fun i h h' st k => let ⟨⟨old, he⟩, hi, hne⟩ := st; ⟨⟨old, k e (by simp) _ he⟩, hi.at fun o q => k it (by simp) o q, hne⟩
  item := by
    intro X hP hw hK hc i pins s σ H E I hf st hg
    subst hP hw hK
    obtain ⟨⟨old, he⟩, hit, hne⟩ := st
    obtain ⟨xs, x, hq, hx⟩ := hg
    obtain ⟨its, rv, p, hz⟩ := I.tuple hq
    obtain ⟨u, hu, ru⟩ := rv.get hx
    have hel : e < s.heap.objs.size := Heap.lt_size he
    have hil : it < s.heap.objs.size := by obtain ⟨_, q, _⟩ := hit; exact Heap.lt_size q
    have hae : a ≠ e := fun z => by
      obtain ⟨o, ho, hcl, _⟩ := p
      rw [z] at ho
      have h1 := he
      unfold IsEnum at h1
      rw [ho] at h1
      cases h1
      injection hcl with h
      exact absurd h (by decide)
    have hai : a ≠ it := fun z => by
      obtain ⟨o, ho, hcl, _⟩ := p
      obtain ⟨o2, ho2, hc2, _⟩ := hit
      rw [z, ho2] at ho
      cases ho
      rw [hc2] at hcl
      injection hcl with h
      exact absurd h (by decide)
    have hul : i < its.toArray.size := by rw [List.size_toArray]; exact (List.getElem?_eq_some_iff.mp hu).1
    refine wpAny_pyNext_enum_itemD (Draws.tuple (show X.A.in1.handled = none from I.ok.hd hc) it a hai its.toArray) he ⟨hit, p⟩ hul hne (by simp [hne, Ne.symm hae]) fun y h' tk hy ho hst hT hsz hk => ?_
    have ey : y = u := by
      have h1 : its[i]? = some y := by simpa using hy
      rw [hu] at h1
      exact (Option.some.inj h1).symm
    subst ey
    refine ⟨_, rfl, wpAny_letOwnedTupleGo_enum (s := { s with heap := h', toks := tk + 1 }) ho fun h'' he' sb => ?_⟩
    have hT2 : h''.get? s.heap.objs.size = some { cls := .type "tuple", data := .seq #[.int i tk, y] } := (sb.2 _ (Nat.ne_of_gt hel)).trans hT
    have new : ObjOk X.prog X.w (upd H s.heap.objs.size (.tup [.int (i : Nat), x])) h'' s.heap.objs.size (.tup [.int (i : Nat), x]) :=
      ⟨by show 2 ≤ sizeLine; decide, [.int i tk, y], .cons ⟨_, rfl⟩ (.cons ru .nil), ⟨_, hT2, rfl, _, rfl⟩⟩
    have I1 : Inv X pins σ (upd H s.heap.objs.size (.tup [.int (i : Nat), x])) { s with heap := h'', toks := tk + 1 } :=
      I.turnedNew (ch := [e, it]) (fun b ob hb q => (sb.2 b (fun z => hb (by simp [z]))).trans (hk b ob (fun z => hb (by simp [z])) (fun z => hb (by simp [z])) q)) hf (Nat.le_refl _) new
    refine ⟨.ref s.heap.objs.size, _, I1, rfl, ⟨_, x, rfl, I.hok.fresh (Nat.le_refl _), rfl, fun ys hy => by rw [I.tuple_inj hy hq]; exact hx⟩, ⟨⟨y, ?_⟩, hst.1.at fun o q => (sb.2 it (Ne.symm hne)).trans q, hne⟩, fun b hb => ?_⟩
    · have e1 : ((i + 1 : Nat) : Int) = (i : Int) + 1 := by omega
      rw [e1]; exact he'
    · have hb' : b < s.heap.objs.size := by
        have e' : b = e ∨ b = it := by simpa using hb
        rcases e' with z | z
        · rw [z]; exact hel
        · rw [z]; exact hil
      rw [upd_ne (Nat.ne_of_lt hb')]
      exact (hf b hb).1
  done := by
    intro X hP hw hK hc i pins s σ H E I hf st hg
    subst hP hw hK
    obtain ⟨⟨old, he⟩, hit, hne⟩ := st
    obtain ⟨xs, hq, hx⟩ := hg
    obtain ⟨its, rv, p, hz⟩ := I.tuple hq
    obtain ⟨f0, f1, f2, f3, f4, f5⟩ := hf it (by simp)
    have hl := rv.length
    exact next_enum_end (I.ok.hd hc) he hit p (by simp; omega) fun h' eb => ⟨rfl, I.turned (t' := s.toks) (fun b o hb q => eb b o hb q) f0 f1 f3 f4 f5⟩
  self := fun A i s Q E st h => let ⟨⟨_, he⟩, _⟩ := st; wpAny_pyIter_enum he h
def iEnumT (K : PySem.W.Frag) (ta : TA) : TI := fun σ H R => ta σ H fun vs H1 => ∃ a xs, vs = [.ref a] ∧ SqT K H1 a xs ∧ R (IteT K a) H1
theorem pi_enumT {X : Cx} {e : Expr} {ta : TA} {p pos tpos : Pos} {elts : List Expr} {kk : Nat} (hg : Gl X "enumerate") (hm : X.mg "enumerate" = none) (ha : PA X [e] ta) (hs : starEach [e] X.env = [(false, eval e X.env)] := by rfl) :
    PI X (.Tuple elts kk tpos) (.Call (.Name "enumerate" p) [e] [] pos) (iEnumT X.K ta) := by
  refine ⟨fun pins s σ H R I h => ?_⟩
  refine Call_ (ld_blt I hg hm boot_enumerate (PyProof.Rows.callWith_type1 (thn (ha.run pos pins s σ H _ I h) fun us s1 ⟨vs, H1, I1, r1, q1⟩ => ?_) hs rfl))
  obtain ⟨a, xs, ex, hq, q⟩ := q1
  subst ex
  cases r1 with
  | cons r rr =>
    cases rr
    cases r
    obtain ⟨its, rv, p', hz⟩ := I1.tuple hq
    refine call_enum_tup p' fun h' he hit hsz hk => wpAny_pyIter_enum he ?_
    have I2 : Inv X pins σ H1 { s1 with heap := h' } := I1.kept (t' := s1.toks) hk
    refine ⟨s1.heap.objs.size + 1, [s1.heap.objs.size + 1, s1.heap.objs.size], _, _, H1, rfl, I2, turn_enumT a (s1.heap.objs.size + 1) s1.heap.objs.size, ⟨⟨.none, he⟩, hit, Nat.succ_ne_self _⟩, fun b hb => ?_, q⟩
    have e' : b = s1.heap.objs.size + 1 ∨ b = s1.heap.objs.size := by simpa using hb
    have hle : s1.heap.objs.size ≤ b := by
      rcases e' with z | z
      · rw [z]; exact Nat.le_add_right _ _
      · rw [z]; exact Nat.le_refl _
    exact I1.fpOk hle (I1.hok.fresh hle)
def wEnT (we : EW) : IW := fun kx s k => we kx s fun v s1 => ∃ xs, v = .d (.tuple xs) ∧ k (enumD 0 xs) none s1
theorem it_enumT {K : PySem.W.Frag} {a : Addr} {xs : List PyData} : ItOk K (IteT K a) [(.d (.tuple xs), .ref a)] none (enumD 0 xs) := by
  intro H0 F0 A0 s σ T H F A w ht _ i
  have p : PVOk K F A (.d (.tuple xs)) (.ref a) := w.tm _ (ht _ List.mem_cons_self)
  obtain ⟨a', vs, e, h1, h2⟩ := itemsT_ok w p rfl
  cases e
  have hl := h2.len
  rw [enumD_len]
  refine ⟨fun hi => ⟨vs, vs[i]'(by omega), h1, List.getElem?_eq_getElem (by omega)⟩, fun hi => ⟨vs, h1, by omega⟩, fun _ x H' hy => ?_⟩
  obtain ⟨t, y, rfl, ht, rfl, hx⟩ := hy
  obtain ⟨d, hd, dq⟩ := h2.get i y (hx vs h1)
  refine ⟨.tuple [.int (i : Nat), d], by rw [enumD_get, hd, Nat.zero_add]; rfl, _, (w.newD (o := .tup [.int (i : Nat), y]) ht).push (.tup (SqT.of upd_same) (.cons (.int _) (.cons (dq_same (same_new (w.fz.g.free ht)) dq) .nil)))⟩
section
variable {X : Cx} {W : WX} {e : Expr} {we : EW} {pos p : Pos}
theorem i_enumT {elts : List Expr} {kk : Nat} {tpos : Pos} (hm : X.mg "enumerate" = none) (he : PE X e (tE X.K W we)) (hg : Gl X "enumerate" := by rfl) (hs : starEach [e] X.env = [(false, eval e X.env)] := by rfl) : PI X (.Tuple elts kk tpos) (.Call (.Name "enumerate" p) [e] [] pos) (tI X.K W (wEnT we)) := by
  refine PI.imp (pi_enumT hg hm (pa_cons he pa_nil hs) hs) fun σ H R ⟨H0, F0, A0, s, T, kx, k, w, xl, h, q⟩ => un_of w xl h fun v s1 u H1 h1 w1 => ?_
  obtain ⟨xs, rfl, h2⟩ := h1
  obtain ⟨F, A, w3⟩ := id w1
  have pv : PVOk X.K F A (.d (.tuple xs)) u := w3.tm _ List.mem_cons_self
  obtain ⟨a, vs, rfl, h3, h4⟩ := itemsT_ok w3 pv rfl
  exact ⟨a, vs, rfl, h3, q _ _ _ h2 _ [(.d (.tuple xs), .ref a)] H1 w1 it_enumT⟩
end
end PW

namespace PW
open PySem L2 PyProof.Rows
def tPar3 (i j l : Nat) (ta : TA) : TS := fun D σ H => ta σ H fun vs H1 => ∃ u v w, vs = [u, v, w] ∧ D.nx (((σ.set i (some u)).set j (some v)).set l (some w)) H1
theorem ps_par3 {X : Cx} {pos : Pos} {i j l : Nat} {x y z : Str} {a b c : Expr} {ta : TA} {px py pz pt : Pos} {kt k2 pt2} (hc : X.calm = true) (hN : X.N.Nodup) (hi : X.N[i]? = some x) (hj : X.N[j]? = some y) (hl : X.N[l]? = some z) (hij : i ≠ j) (hil : i ≠ l) (hjl : j ≠ l)
    (hx : X.env.scope.names.lookup x = some .local) (hy : X.env.scope.names.lookup y = some .local) (hz : X.env.scope.names.lookup z = some .local) (ha : PA X [a, b, c] ta)
    (hw : swappedStores [.Tuple [.Name x px, .Name y py, .Name z pz] kt pt] (.Tuple [a, b, c] k2 pt2) X.env = pure (some [x, y, z]))
    (hs : swapsWithSole [.Tuple [.Name x px, .Name y py, .Name z pz] kt pt] (.Tuple [a, b, c] k2 pt2) pos.line X.env = pure false := by rfl) :
    PS X (.Assign [.Tuple [.Name x px, .Name y py, .Name z pz] kt pt] (.Tuple [a, b, c] k2 pt2) pos) (tPar3 i j l ta) := by
  refine ⟨fun pins s σ H D I h => ?_⟩
  rw [exec_Assign_arm]
  refine wpAny_bind (wpAny_standAt ?_)
  rw [hs]
  refine wpAny_bind (wpAny_pure ?_)
  rw [if_neg (by decide)]
  refine wpAny_bind (Tuple_ (thn (ha.run _ pins s σ H _ I h) fun us s1 ⟨vs, H1, I1, r1, q1⟩ => ?_))
  obtain ⟨t, v, w, e1, q1⟩ := q1
  subst e1
  obtain ⟨u1, u2, u3, rfl, rt, rv, rw'⟩ : ∃ u1 u2 u3, us = [u1, u2, u3] ∧ RelV t u1 ∧ RelV v u2 ∧ RelV w u3 := by
    cases r1 with
    | cons p q =>
      cases q with
      | cons p' q' =>
        cases q' with
        | cons p2 q2 =>
          cases q2
          exact ⟨_, _, _, rfl, p, p', p2⟩
  refine wpAny_newObj_type ?_ (by show 3 ≤ sizeLine; decide)
  have I2 : Inv X pins σ H1 { s1 with heap := s1.heap.push { cls := .type "tuple", data := .seq [u1, u2, u3].toArray } } := I1.kept (t' := s1.toks) fun b o e => Heap.get?_push_of_some _ e
  rw [hw]
  refine wpAny_bind (wpAny_pure ?_)
  show wpAny (model X.prog X.w) X.A (do rule "assign.swapped-stores"; let items ← unpackItems (.ref s1.heap.objs.size) 3 none; assignInOrder [fun v => bindName X.env z v, fun v => bindName X.env y v, fun v => bindName X.env x v] items.reverse; pure Flow.next) _ _ _
  refine wpAny_bind (wpAny_rule (wpAny_bind (unpackItems_tuple (items := #[u1, u2, u3]) (I.ok.hd hc) (IsTup.new s1.heap _) fun h' hx' => ?_)))
  have I3 := I2.kept (h' := h') (t' := s1.toks) fun b o e => hx' b o (Nat.ne_of_lt (Heap.lt_size e)) e
  show wpAny _ _ (assignInOrder [fun v => bindName X.env z v, fun v => bindName X.env y v, fun v => bindName X.env x v] [u3, u2, u1] >>= fun _ => pure Flow.next) _ _ _
  refine wpAny_bind (assignInOrder_cons (wpAny_bindName (store_ok I3 hN hl (.inl hz) rw' (fun s2 I4 => ?_) (.inr hz))))
  refine assignInOrder_cons (wpAny_bindName (store_ok I4 hN hj (.inl hy) rv (fun s3 I5 => ?_) (.inr hy)))
  refine assignInOrder_cons (wpAny_bindName (store_ok I5 hN hi (.inl hx) rt (fun s4 I6 => assignInOrder_nil (wpAny_pure ?_)) (.inr hx)))
  rw [List.set_comm _ _ hij.symm, List.set_comm _ _ hil.symm, List.set_comm _ _ hjl.symm] at I6
  exact ⟨_, H1, I6, q1⟩
theorem s_unpM3 {X : Cx} {W : WX} {i j l : Nat} {x y z : Str} {a b c : Expr} {ws : AW} {px py pz pt pos : Pos} {kt k2 : Nat} {pt2 : Pos} (hc : X.calm = true) (hN : X.N.Nodup) (hi : X.N[i]? = some x) (hj : X.N[j]? = some y) (hl : X.N[l]? = some z) (hij : i ≠ j) (hil : i ≠ l) (hjl : j ≠ l)
    (hx : X.env.scope.names.lookup x = some .local) (hy : X.env.scope.names.lookup y = some .local) (hz : X.env.scope.names.lookup z = some .local) (ha : PA X [a, b, c] (tA X.K W ws))
    (hw : swappedStores [.Tuple [.Name x px, .Name y py, .Name z pz] kt pt] (.Tuple [a, b, c] k2 pt2) X.env = pure (some [x, y, z]) := by rfl)
    (hs : swapsWithSole [.Tuple [.Name x px, .Name y py, .Name z pz] kt pt] (.Tuple [a, b, c] k2 pt2) pos.line X.env = pure false := by rfl) :
    PS X (.Assign [.Tuple [.Name x px, .Name y py, .Name z pz] kt pt] (.Tuple [a, b, c] k2 pt2) pos) (tS X.K W (wUnpM (wTupM ws) (gTM 3 (gsConsM (gNM i) (gsConsM (gNM j) (gsConsM (gNM l) gsNilM)))))) := by
  refine PS.imp (ps_par3 hc hN hi hj hl hij hil hjl hx hy hz ha hw hs) fun D σ H ⟨H0, F0, A0, s, T, kx, k, w, xl, h, q1, q2, q3, q4⟩ => ar_of w xl h fun vs s1 us H1 h1 e w1 => ?_
  obtain ⟨hz, ps, hps, hlen, v0, r0, e0, v1, r1, e1, v2, r2, e2, e3, hk⟩ := h1
  cases hps
  subst e3
  subst e2
  subst e1
  subst e0
  match us, e with
  | [u0, u1, u2], _ =>
    refine ⟨u0, u1, u2, rfl, ?_⟩
    obtain ⟨F, A, w1⟩ := w1
    have w3 := w1.st (i := i) (w1.tm (v0, u0) (by simp))
    have w4 := w3.st (i := j) (w3.tm (v1, u1) (by simp))
    have w5 := w4.st (i := l) (w4.tm (v2, u2) (by simp))
    exact q1 _ hk _ _ ⟨F, A, w5.sub fun t h => List.mem_append_right _ h⟩
end PW

namespace PW
open PySem L2
def isLet (c : Nat) : Bool := decide (97 ≤ c) && decide (c ≤ 122)
def isFig (c : Nat) : Bool := decide (48 ≤ c) && decide (c ≤ 57)
def gd (c : Nat) : Bool := decide (c = 10) || (decide (32 ≤ c) && decide (c ≤ 126) && !decide (c = 37))
theorem let_mem (c : Nat) : decide (c ∈ ("abcdefghijklmnopqrstuvwxyz" : Str).cps.toList) = isLet c := by
  have e : ("abcdefghijklmnopqrstuvwxyz" : Str).cps.toList = [97, 98, 99, 100, 101, 102, 103, 104, 105, 106, 107, 108, 109, 110, 111, 112, 113, 114, 115, 116, 117, 118, 119, 120, 121, 122] := by decide +kernel
  rw [e, Bool.eq_iff_iff]
  simp only [isLet, decide_eq_true_eq, Bool.and_eq_true, List.mem_cons, List.not_mem_nil, or_false]
  omega
theorem fig_mem (c : Nat) : decide (c ∈ ("0123456789" : Str).cps.toList) = isFig c := by
  have e : ("0123456789" : Str).cps.toList = [48, 49, 50, 51, 52, 53, 54, 55, 56, 57] := by decide +kernel
  rw [e, Bool.eq_iff_iff]
  simp only [isFig, decide_eq_true_eq, Bool.and_eq_true, List.mem_cons, List.not_mem_nil, or_false]
  omega
theorem gd_in {c : Nat} (h : gd c = true) : (isLet c || (isFig c || (decide (c ∈ ("ABCDEFGHIJKLMNOPQRSTUVWXYZ" : Str).cps.toList) || decide (c ∈ (" !\"#$&'()*+,-./:;<=>?\x40[\\]^_`{|}~\n" : Str).cps.toList)))) = true := by
  have key : ∀ c, c < 127 → gd c = true → (isLet c || (isFig c || (decide (c ∈ ("ABCDEFGHIJKLMNOPQRSTUVWXYZ" : Str).cps.toList) || decide (c ∈ (" !\"#$&'()*+,-./:;<=>?\x40[\\]^_`{|}~\n" : Str).cps.toList)))) = true := by decide +kernel
  refine key c ?_ h
  unfold gd at h
  simp only [Bool.or_eq_true, Bool.and_eq_true, decide_eq_true_eq] at h
  omega
def gdT (l : List Nat) : Prop := ∀ c ∈ l, gd c = true
theorem gdT.app {a b : List Nat} (h : gdT a) (g : gdT b) : gdT (a ++ b) := fun c m => (List.mem_append.mp m).elim (h c) (g c)
theorem gdT.take {a : List Nat} (n : Nat) (h : gdT a) : gdT (a.take n) := fun c m => h c (List.mem_of_mem_take m)
theorem gdT.drop {a : List Nat} (n : Nat) (h : gdT a) : gdT (a.drop n) := fun c m => h c (List.mem_of_mem_drop m)
theorem gdT.ok {a : List Nat} (h : gdT a) : (dT a).canLay0 = true := by
  show (tx a).cps.all (· < 0x110000) = true
  rw [← Array.all_toList]
  rw [List.all_eq_true]
  intro c m
  have := h c m
  unfold gd at this
  simp only [Bool.or_eq_true, Bool.and_eq_true, decide_eq_true_eq] at this
  rw [decide_eq_true_eq]
  omega
abbrev Lf := List Nat × Nat
def grp (c : Nat) : Nat := if isLet c then 1 else if isFig c then 2 else 0
def Ok (F : List Lf) (p : Nat) : Prop := ∀ w q, (w, q) ∈ F → w ≠ [] ∧ q + w.length ≤ p ∧ gdT w ∧ (grp (w.headD 0) = 0 → w.length = 1)
theorem Ok.mono {F : List Lf} {p q : Nat} (h : Ok F p) (e : p ≤ q) : Ok F q := fun w a m => by
  obtain ⟨x, y, z⟩ := h w a m
  exact ⟨x, by omega, z⟩
end PW

namespace PW
open PySem L2
theorem Ok.app {F G : List Lf} {p : Nat} (h : Ok F p) (g : Ok G p) : Ok (F ++ G) p := fun w q m => (List.mem_append.mp m).elim (h w q) (g w q)
end PW
namespace PW
open PySem L2
end PW
namespace PW
end PW

namespace PW
open PySem L2
def NeedT (N G : Addr) (v : PV) (q : List Nat → Prop) (e : Addr → Prop) : Prop :=
  (∃ l, v = .d (dT l) ∧ l.length ≤ 1000000 ∧ (gdT l → l.length ≤ 2000 → q l) ∧ (gdT l → 2000 < l.length → e G) ∧ (¬ gdT l → e N)) ∨ (∃ x, v = .d x ∧ kitB (tyD x) "str" = some false ∧ e N) ∨ (∃ kvs, v = .dk kvs ∧ e N)
theorem NeedT.imp {N G : Addr} {v : PV} {q q' : List Nat → Prop} {e e' : Addr → Prop} (h : NeedT N G v q e) (f : ∀ l, v = .d (dT l) → gdT l → l.length ≤ 2000 → q l → q' l) (g : ∀ C, e C → e' C) : NeedT N G v q' e' := by
  rcases h with ⟨l, rfl, hl, a, b, c⟩ | ⟨x, rfl, hx, c⟩ | ⟨kvs, rfl, c⟩
  · exact .inl ⟨l, rfl, hl, fun x y => f l rfl x y (a x y), fun x y => g _ (b x y), fun x => g _ (c x)⟩
  · exact .inr (.inl ⟨x, rfl, hx, g _ c⟩)
  · exact .inr (.inr ⟨kvs, rfl, g _ c⟩)
theorem NeedT.ok {N G : Addr} {l : List Nat} {q : List Nat → Prop} {e : Addr → Prop} (hg : gdT l) (hl : l.length ≤ 2000) (h : q l) : NeedT N G (.d (dT l)) q e :=
  .inl ⟨l, rfl, by omega, fun _ _ => h, fun _ z => by omega, fun z => absurd hg z⟩
theorem NeedT.arg {N G : Addr} {v : PV} {q : List Nat → Prop} {e : Addr → Prop} (h : NeedT N G v q e) : (∃ x, v = .d x) ∨ ∃ kvs, v = .dk kvs := by
  rcases h with ⟨l, rfl, _⟩ | ⟨x, rfl, _⟩ | ⟨kvs, rfl, _⟩
  · exact .inl ⟨_, rfl⟩
  · exact .inl ⟨_, rfl⟩
  · exact .inr ⟨_, rfl⟩
theorem in_gd {c : Nat} (h : (isLet c || (isFig c || (decide (c ∈ ("ABCDEFGHIJKLMNOPQRSTUVWXYZ" : Str).cps.toList) || decide (c ∈ (" !\"#$&'()*+,-./:;<=>?\x40[\\]^_`{|}~\n" : Str).cps.toList)))) = true) : gd c = true := by
  have k1 : ∀ c ∈ ("ABCDEFGHIJKLMNOPQRSTUVWXYZ" : Str).cps.toList, gd c = true := by decide +kernel
  have k2 : ∀ c ∈ (" !\"#$&'()*+,-./:;<=>?\x40[\\]^_`{|}~\n" : Str).cps.toList, gd c = true := by decide +kernel
  simp only [Bool.or_eq_true, decide_eq_true_eq] at h
  rcases h with h | h | h | h
  · unfold isLet at h
    unfold gd
    simp only [Bool.or_eq_true, Bool.and_eq_true, decide_eq_true_eq, Bool.not_eq_true', decide_eq_false_iff_not] at h ⊢
    omega
  · unfold isFig at h
    unfold gd
    simp only [Bool.or_eq_true, Bool.and_eq_true, decide_eq_true_eq, Bool.not_eq_true', decide_eq_false_iff_not] at h ⊢
    omega
  · exact k1 c h
  · exact k2 c h
def S_need_text (N G : Addr) : FS := fun args o ret exc => ∃ v, args = [v] ∧ o = [] ∧ NeedT N G v (fun _ => ret (.d .none) []) (fun C => exc ⟨C, none⟩ [])
theorem lit_e : ("" : Str) = tx [] := rfl
theorem lit_nl : ("\n" : Str) = tx [10] := by decide +kernel
local macro_rules
  | `(tactic| walk_at "sz") => `(tactic| first | omega | (simp only [lit_nl, tx_len, List.length_append, List.length_map, List.length_cons, List.length_nil, List.length_take, List.length_drop] <;> omega))
  | `(tactic| walk_at "go") => `(tactic| repeat (first | refine ⟨_, rfl, ?_⟩ | refine ⟨_, rfl, rfl, ?_⟩ | refine ⟨_, _, rfl, rfl, ?_⟩ | refine ⟨rfl, ?_⟩ | refine ⟨trivial, ?_⟩ | refine ⟨_, ix_hd, ?_⟩ | refine br_t rfl ?_ | refine br_f rfl ?_ | (refine ⟨le_sz ?_, ?_⟩; focus walk_at "sz") | (refine ⟨lt_sz ?_, ?_⟩; focus walk_at "sz") | (refine ⟨strLe_tx ?_, ?_⟩; focus walk_at "sz") | refine ⟨cmul_r rfl, ?_⟩ | refine ⟨cmul_l rfl, ?_⟩ | refine ⟨pos_ok rfl, ?_⟩ | refine ⟨cdiv_ok rfl, ?_⟩ | refine ⟨_, _, _, _, rfl, rfl, rfl, rfl, ?_⟩ | refine ⟨_, _, rfl, ?_⟩))
def w_need_text (C_TooGreat : Addr) (C_NoText : Addr) : SW :=
 (wSeq (wIfS (wNot (wB (wIsi "str" (wVar 0))))
  (wRaise C_NoText)
  wNext)
 (wSeq (wFor (wSt (wVar 0)) (gN 1)
  (wIfS (wAnd (wB (wNotIn (wVar 1) (wC (.str "abcdefghijklmnopqrstuvwxyz")))) (wAnd (wB (wNotIn (wVar 1) (wC (.str "0123456789")))) (wAnd (wB (wNotIn (wVar 1) (wC (.str "ABCDEFGHIJKLMNOPQRSTUVWXYZ")))) (wB (wNotIn (wVar 1) (wC (.str " !\"#$&'()*+,-./:;<=>?\x40[\\]^_`{|}~\n")))))))
  (wRaise C_NoText)
  wNext))
 (wIfS (wB (wGt (wLen (wVar 0)) (wC (.int 2000))))
  (wRaise C_TooGreat)
  wNext)))
theorem gds (c : Nat) : (isLet c || (isFig c || (decide (c ∈ ("ABCDEFGHIJKLMNOPQRSTUVWXYZ" : Str).cps.toList) || decide (c ∈ (" !\"#$&'()*+,-./:;<=>?\x40[\\]^_`{|}~\n" : Str).cps.toList)))) = gd c := by
  rw [Bool.eq_iff_iff]
  exact ⟨in_gd, gd_in⟩
theorem pure_need_text (G N : Addr) : ∀ args o ret exc, S_need_text N G args o ret exc → w_need_text G N (fun x s => exc x (cutL o.length s.o)) (pst0 args o 2) (bodyE o.length ret) := by
  rintro _ _ ret exc ⟨v, rfl, rfl, h⟩
  rcases h with ⟨l, rfl, hl, h1, h2, h3⟩ | ⟨x, rfl, hx, h⟩ | ⟨kvs, rfl, h⟩
  · walk_at "go"
    refine ⟨fun j s => ∃ x, s = ⟨[some (.d (dT l)), x], []⟩ ∧ ∀ i, i < j → ∀ c, l[i]? = some c → gd c = true, ⟨_, rfl, fun i z => by omega⟩, fun _ _ _ _ => trivial, ?_, ?_⟩
    · rintro j _ _ hx ⟨x, rfl, hgd⟩
      obtain ⟨hj0, rfl⟩ := map_get hx
      have hj : j < l.length := hj0
      have hc := gds l[j]
      have nx : gd l[j] = true → ∃ x, (⟨[some (.d (dT l)), some (.d (dT [l[j]]))], []⟩ : PSt) = ⟨[some (.d (dT l)), x], []⟩ ∧ ∀ i, i < j + 1 → ∀ c, l[i]? = some c → gd c = true := fun z => ⟨_, rfl, fun i hi c e => by
        rcases Nat.lt_or_ge i j with q | q
        · exact hgd i q c e
        · have : i = j := by omega
          subst this
          rw [List.getElem?_eq_getElem (show i < l.length from hj)] at e
          cases e
          exact z⟩
      walk_at "go"
      refine br_s (!isLet l[j]) (congrArg Bool.not (let_mem _)) (fun h1 => ?_) (fun h1 => ?_)
      · walk_at "go"
        refine br_s (!isFig l[j]) (congrArg Bool.not (fig_mem _)) (fun h2 => ?_) (fun h2 => ?_)
        · walk_at "go"
          refine br_s _ rfl (fun h3' => ?_) (fun h3' => ?_)
          · walk_at "go"
            refine br_s _ rfl (fun h4' => ?_) (fun h4' => ?_)
            · walk_at "go"
              refine h3 fun hg => ?_
              have h3' : (!decide (l[j] ∈ ("ABCDEFGHIJKLMNOPQRSTUVWXYZ" : Str).cps.toList)) = true := h3'
              have h4' : (!decide (l[j] ∈ (" !\"#$&'()*+,-./:;<=>?\x40[\\]^_`{|}~\n" : Str).cps.toList)) = true := h4'
              rw [Bool.not_eq_true'] at h1 h2 h3' h4'
              rw [h1, h2, h3', h4'] at hc
              exact absurd (hc.trans (hg _ (List.getElem_mem hj))) (by decide)
            · walk_at "go"
              refine .inl (nx ?_)
              have h4' : (!decide (l[j] ∈ (" !\"#$&'()*+,-./:;<=>?\x40[\\]^_`{|}~\n" : Str).cps.toList)) = false := h4'
              rw [Bool.not_eq_false'] at h4'
              rw [← hc, h4']
              simp
          · walk_at "go"
            refine .inl (nx ?_)
            have h3' : (!decide (l[j] ∈ ("ABCDEFGHIJKLMNOPQRSTUVWXYZ" : Str).cps.toList)) = false := h3'
            rw [Bool.not_eq_false'] at h3'
            rw [← hc, h3']
            simp
        · walk_at "go"
          refine .inl (nx ?_)
          rw [Bool.not_eq_false'] at h2
          rw [← hc, h2]
          simp
      · walk_at "go"
        refine .inl (nx ?_)
        rw [Bool.not_eq_false'] at h1
        rw [← hc, h1]
        simp
    · rintro _ ⟨x, rfl, hgd⟩
      have hg : gdT l := fun c m => by
        obtain ⟨i, hi, e⟩ := List.getElem_of_mem m
        exact hgd i (by rw [chars_len]; exact hi) c (by rw [List.getElem?_eq_getElem hi, e])
      walk_at "go"
      rw [tx_len]
      refine br_d (2000 < l.length) (by rw [decide_eq_true_eq]; omega) (fun h => ?_) (fun h => ?_)
      · walk_at "go"
        exact h2 hg h
      · exact h1 hg (by omega)
  · walk_at "go"
    refine ⟨_, _, rfl, hx, ?_⟩
    walk_at "go"
    exact h
  · walk_at "go"
    exact h
end PW

namespace K41
open PySem L2 PW
local macro_rules
  | `(tactic| walk_at "sz") => `(tactic| first | omega | (simp only [tx_len, List.length_append, List.length_map, List.length_cons, List.length_nil, List.length_take, List.length_drop] <;> omega))
  | `(tactic| walk_at "go") => `(tactic| repeat (first | refine ⟨rfl, ?_⟩ | refine ⟨trivial, ?_⟩ | refine ⟨_, rfl, ?_⟩ | refine ⟨_, rfl, rfl, ?_⟩ | refine ⟨_, _, rfl, rfl, ?_⟩ | refine ⟨_, ix_hd, ?_⟩ | refine br_t rfl ?_ | refine br_f rfl ?_ | (refine ⟨le_sz ?_, ?_⟩; focus walk_at "sz") | (refine ⟨lt_sz ?_, ?_⟩; focus walk_at "sz") | (refine ⟨strLe_tx ?_, ?_⟩; focus walk_at "sz") | refine ⟨cmul_r rfl, ?_⟩ | refine ⟨cmul_l rfl, ?_⟩ | refine ⟨pos_ok rfl, ?_⟩ | refine ⟨cdiv_ok rfl, ?_⟩ | refine ⟨_, _, _, _, rfl, rfl, rfl, rfl, ?_⟩ | refine ⟨_, _, rfl, ?_⟩ | refine ⟨_, _, _, rfl, rfl, rfl, ?_⟩ | refine ⟨_, _, _, rfl, rfl, ?_⟩ | rw [tx_app]))
abbrev Ed := Nat × Nat × List Nat
def edD (x : Ed) : PyData := .tuple [.int (x.1 : Nat), .int (x.2.1 : Nat), dT x.2.2]
def Wel (n : Nat) : Int → List Ed → Prop
  | _, [] => True
  | p, (b, e, w) :: r => p < b ∧ b ≤ e ∧ e ≤ n ∧ gdT w ∧ w.length ≤ 2000 ∧ Wel n e r
def doneA (t : List Nat) : Nat → List Ed → List Nat
  | a, [] => t.drop a
  | a, (b, e, w) :: r => (t.take b).drop a ++ (w ++ doneA t e r)
def backsA (t : List Nat) : Nat → Nat → List Ed → List Ed
  | _, _, [] => []
  | a, k, (b, e, w) :: r => (k + (b - a), k + (b - a) + w.length, (t.take e).drop b) :: backsA t e (k + (b - a) + w.length) r
theorem mid_len {t : List Nat} {a b : Nat} (h2 : b ≤ t.length) : ((t.take b).drop a).length = b - a := by
  rw [List.length_drop, List.length_take]; omega
theorem wel_backs {t : List Nat} (ht : gdT t) (hl : t.length ≤ 2000) : ∀ (L : List Ed) (a k : Nat) (q p : Int), (a : Int) ≤ q + 1 → p - q ≤ k - a → Wel t.length q L → Wel (k + (doneA t a L).length) p (backsA t a k L)
  | [], _, _, _, _, _, _, _ => trivial
  | (b, e, w) :: r, a, k, q, p, ha, hq, ⟨h1, h2, h3, h4, h5, h6⟩ => by
    have hm := mid_len (t := t) (a := a) (b := b) (by omega)
    have ih := wel_backs ht hl r e (k + (b - a) + w.length) e (k + (b - a) + w.length : Nat) (by omega) (by omega) h6
    have hN : k + (doneA t a ((b, e, w) :: r)).length = k + (b - a) + w.length + (doneA t e r).length := by
      show k + ((t.take b).drop a ++ (w ++ doneA t e r)).length = _
      rw [List.length_append, List.length_append, hm]; omega
    rw [hN]
    refine ⟨by omega, by omega, by omega, fun c m => ht c (List.mem_of_mem_take (List.mem_of_mem_drop m)), by rw [mid_len (by omega)]; omega, ih⟩
theorem backs_len {t : List Nat} : ∀ (L : List Ed) (a k : Nat), (backsA t a k L).length = L.length
  | [], _, _ => rfl
  | (b, e, w) :: r, a, k => by rw [backsA, List.length_cons, backs_len r, List.length_cons]
theorem done_gd {t : List Nat} (ht : gdT t) : ∀ (L : List Ed) (a : Nat) (q : Int), Wel t.length q L → gdT (doneA t a L)
  | [], a, _, _ => fun c m => ht c (List.mem_of_mem_drop m)
  | (b, e, w) :: r, a, q, ⟨_, _, _, h4, _, h6⟩ => (show gdT ((t.take b).drop a) from fun c m => ht c (List.mem_of_mem_take (List.mem_of_mem_drop m))).app (h4.app (done_gd ht r e e h6))
def smW : List Ed → Nat
  | [] => 0
  | (_, _, w) :: r => w.length + smW r
theorem done_len {t : List Nat} : ∀ (L : List Ed) (a : Nat) (q : Int), (a : Int) ≤ q + 1 → a ≤ t.length → Wel t.length q L → (doneA t a L).length ≤ t.length - a + smW L
  | [], a, _, _, _, _ => by rw [doneA, List.length_drop]; exact Nat.le_add_right _ _
  | (b, e, w) :: r, a, q, ha, hl, ⟨h1, h2, h3, h4, _, h6⟩ => by
    have ih := done_len r e e (by omega) h3 h6
    have hm := mid_len (t := t) (a := a) (b := b) (by omega)
    show ((t.take b).drop a ++ (w ++ doneA t e r)).length ≤ _
    rw [List.length_append, List.length_append, hm, smW]
    omega
end K41

namespace K41
open PySem L2 PW
local macro_rules
  | `(tactic| walk_at "sz") => `(tactic| first | omega | (simp only [tx_len, List.length_append, List.length_map, List.length_cons, List.length_nil, List.length_take, List.length_drop] <;> omega))
  | `(tactic| walk_at "go") => `(tactic| repeat (first | refine ⟨rfl, ?_⟩ | refine ⟨trivial, ?_⟩ | refine ⟨_, rfl, ?_⟩ | refine ⟨_, rfl, rfl, ?_⟩ | refine ⟨_, _, rfl, rfl, ?_⟩ | refine ⟨_, ix_hd, ?_⟩ | refine br_t rfl ?_ | refine br_f rfl ?_ | (refine ⟨le_sz ?_, ?_⟩; focus walk_at "sz") | (refine ⟨lt_sz ?_, ?_⟩; focus walk_at "sz") | (refine ⟨strLe_tx ?_, ?_⟩; focus walk_at "sz") | refine ⟨cmul_r rfl, ?_⟩ | refine ⟨cmul_l rfl, ?_⟩ | refine ⟨pos_ok rfl, ?_⟩ | refine ⟨cdiv_ok rfl, ?_⟩ | refine ⟨_, _, _, _, rfl, rfl, rfl, rfl, ?_⟩ | refine ⟨_, _, rfl, ?_⟩ | refine ⟨_, _, _, rfl, rfl, rfl, ?_⟩ | refine ⟨_, _, _, rfl, rfl, ?_⟩ | rw [tx_app]))
theorem lit_e : ("" : Str) = tx [] := rfl
def S_is_place : FS := fun args o ret exc => ∃ (i n : Int), args = [.d (.int i), .d (.int n)] ∧ o = [] ∧ 0 ≤ i ∧ i ≤ n ∧ ret (.d (.bool true)) []
def S_is_text : FS := fun args o ret exc => ∃ l, args = [.d (dT l)] ∧ o = [] ∧ gdT l ∧ l.length ≤ 2000 ∧ ret (.d (.bool true)) []
def S_need_edits (N G E : Addr) : FS := fun args o ret exc => ∃ (t : List Nat) (L : List Ed) (e : PV), args = [.d (dT t), e] ∧ Ld o e (L.map edD) ∧ gdT t ∧ t.length ≤ 2000 ∧ Wel t.length (-1) L ∧ L.length ≤ 30 ∧ cutL o.length o = o ∧ ret (.d .none) o
def S_done (N G E : Addr) : FS := fun args o ret exc => ∃ (t : List Nat) (L : List Ed) (e : PV), args = [.d (dT t), e] ∧ Ld o e (L.map edD) ∧ gdT t ∧ t.length ≤ 2000 ∧ Wel t.length (-1) L ∧ L.length ≤ 30 ∧ cutL o.length o = o ∧ smW L ≤ 100000 ∧
  ((doneA t 0 L).length ≤ 2000 → ret (.d (dT (doneA t 0 L))) o) ∧ (2000 < (doneA t 0 L).length → exc ⟨G, none⟩ o)
def S_backs (N G E : Addr) : FS := fun args o ret exc => ∃ (t : List Nat) (L : List Ed) (e : PV), args = [.d (dT t), e] ∧ Ld o e (L.map edD) ∧ gdT t ∧ t.length ≤ 2000 ∧ Wel t.length (-1) L ∧ L.length ≤ 30 ∧ cutL o.length o = o ∧ smW L ≤ 100000 ∧
  ((doneA t 0 L).length ≤ 2000 → ret (.new ((backsA t 0 0 L).map edD)) o) ∧ (2000 < (doneA t 0 L).length → exc ⟨G, none⟩ o)
def S_grown : FS := fun args o ret exc => ∃ x : Ed, args = [.d (edD x)] ∧ o = [] ∧ x.2.2.length ≤ 2000 ∧ ret (.d (.int ((x.2.2.length : Nat) - ((x.2.1 : Nat) - (x.1 : Nat))))) []
def w_is_place : SW :=
 (wRet (wAndV (wIsi "int" (wVar 0)) (wAndV (wNotV (wIsi "bool" (wVar 0))) (wChain (rCmpD fun i j => decide (i ≤ j)) (rCmpD fun i j => decide (i ≤ j)) (wC (.int 0)) (wVar 0) (wVar 1)))))
theorem pure_is_place : ∀ args o ret exc, S_is_place args o ret exc → w_is_place (fun x s => exc x (cutL o.length s.o)) (pst0 args o 2) (bodyE o.length ret) := by
  rintro _ _ ret exc ⟨i, n, rfl, rfl, h0, h1, h⟩
  unfold w_is_place
  walk_at "go"
  refine br_t (decide_eq_true h0) ?_
  walk_at "go"
  show ret (.d (.bool (decide (i ≤ n)))) _
  rw [decide_eq_true h1]
  exact h
def w_is_text (M : MX) (C_TooGreat : Addr) (C_NoText : Addr) (C_MenderError : Addr) : SW :=
 (wSeq (wTry M (wDrop (wCall (S_need_text C_NoText C_TooGreat) (wCons (wVar 0) wNil)))
  ((C_MenderError, none, (wRet (wC (.bool false)))) :: []))
 (wRet (wC (.bool true))))
theorem pure_is_text0 {M : MX} {C1 C2 C3 : Addr} : ∀ args o ret exc, S_is_text args o ret exc → w_is_text M C1 C2 C3 (fun x s => exc x (cutL o.length s.o)) (pst0 args o 1) (bodyE o.length ret) := by
  rintro _ _ ret exc ⟨l, rfl, rfl, hg, hl, h⟩
  unfold w_is_text
  walk_at "go"
  refine NeedT.ok hg hl ?_
  walk_at "go"
  exact h
def w_grown : SW :=
 (wRet (wSub (wLen (wIx (wVar 0) (wC (.int 2)))) (wSub (wIx (wVar 0) (wC (.int 1))) (wIx (wVar 0) (wC (.int 0))))))
theorem pure_grown : ∀ args o ret exc, S_grown args o ret exc → w_grown (fun x s => exc x (cutL o.length s.o)) (pst0 args o 1) (bodyE o.length ret) := by
  rintro _ _ ret exc ⟨⟨b, e, w⟩, rfl, rfl, hl, h⟩
  have hl : w.length ≤ 2000 := hl
  unfold w_grown
  walk_at "go"
  show ret (.d (.int (((tx w).length : Nat) - ((e : Int) - (b : Int))))) _
  rw [tx_len]
  exact h
def w_need_edits (C_TooGreat : Addr) (C_NoText : Addr) (C_NoEdit : Addr) : SW :=
 (wSeq (wDrop (wCall (S_need_text C_NoText C_TooGreat) (wCons (wVar 0) wNil)))
 (wSeq (wIfS (wNot (wB (wIsi "list" (wVar 1))))
  (wRaise C_NoEdit)
  wNext)
 (wSeq (wAsg (wNeg (wC (.int 1))) 2)
 (wFor (wLX (wVar 1)) (gN 3)
  (wSeq (wIfS (wOr (wNot (wB (wIsi "tuple" (wVar 3)))) (wOr (wB (wNe (wLen (wVar 3)) (wC (.int 3)))) (wNot (wB (wCall S_is_text (wCons (wIx (wVar 3) (wC (.int 2))) wNil))))))
  (wRaise C_NoEdit)
  wNext)
 (wSeq (wIfS (wOr (wNot (wB (wCall S_is_place (wCons (wIx (wVar 3) (wC (.int 0))) (wCons (wLen (wVar 0)) wNil))))) (wNot (wB (wCall S_is_place (wCons (wIx (wVar 3) (wC (.int 1))) (wCons (wLen (wVar 0)) wNil))))))
  (wRaise C_NoEdit)
  wNext)
 (wSeq (wIfS (wNot (wB (wChain (rCmpD fun i j => decide (i < j)) (rCmpD fun i j => decide (i ≤ j)) (wVar 2) (wIx (wVar 3) (wC (.int 0))) (wIx (wVar 3) (wC (.int 1))))))
  (wRaise C_NoEdit)
  wNext)
 (wAsg (wIx (wVar 3) (wC (.int 1))) 2))))))))
theorem pure_need_edits (G N E : Addr) : ∀ args o ret exc, S_need_edits N G E args o ret exc → w_need_edits G N E (fun x s => exc x (cutL o.length s.o)) (pst0 args o 4) (bodyE o.length ret) := by
  rintro _ o ret exc ⟨t, L, e, rfl, hL, hg, hl, hW, hn, hO, h⟩
  unfold w_need_edits
  walk_at "go"
  refine NeedT.ok hg hl ?_
  walk_at "go"
  refine ⟨_, _, hL.ty, rfl, ?_⟩
  walk_at "go"
  refine ⟨_, hL, ?_⟩
  refine ⟨fun j s => ∃ (p : Int) (x3 : Option PV), s = (⟨[some (.d (dT t)), some e, some (.d (.int p)), x3], o⟩ : PSt) ∧ Wel t.length p (L.drop j), ⟨-1, none, rfl, hW⟩, ?_, ?_, ?_⟩
  · rintro j s _ ⟨p, x3, rfl, _⟩
    exact hL.src
  · rintro j x _ hx ⟨p, x3, rfl, hw⟩
    obtain ⟨hj, rfl⟩ := map_get hx
    clear hx
    rw [List.drop_eq_getElem_cons hj] at hw
    generalize hE : L[j] = ed at *
    obtain ⟨b, en, w⟩ := ed
    obtain ⟨h1, h2, h3, h4, h5, h6⟩ := hw
    walk_at "go"
    refine ⟨h4, h5, ?_⟩
    walk_at "go"
    rw [tx_len]
    refine ⟨Int.natCast_nonneg _, by show (b : Int) ≤ _; omega, ?_⟩
    walk_at "go"
    rw [tx_len]
    refine ⟨Int.natCast_nonneg _, by show (en : Int) ≤ _; omega, ?_⟩
    walk_at "go"
    refine br_t (decide_eq_true h1) ?_
    walk_at "go"
    refine br_f (show (!decide ((b : Int) ≤ (en : Int))) = false by rw [decide_eq_true (show (b : Int) ≤ (en : Int) by omega)]; rfl) ?_
    walk_at "go"
    exact .inl ⟨(en : Nat), _, rfl, h6⟩
  · rintro _ ⟨p, x3, rfl, hw⟩
    show ret _ (cutL o.length o)
    rw [hO]
    exact h
def w_done (C_TooGreat : Addr) (C_NoText : Addr) (C_NoEdit : Addr) : SW :=
 (wSeq (wDrop (wCallH (S_need_edits C_NoText C_TooGreat C_NoEdit) (wCons (wVar 0) (wCons (wVar 1) wNil))))
 (wSeq (wAsg (wC (.str "")) 2)
 (wSeq (wAsg (wC (.int 0)) 3)
 (wSeq (wFor (wLX (wVar 1)) (gT 3 (gsCons (gN 4) (gsCons (gN 5) (gsCons (gN 6) gsNil))))
  (wSeq (wAug rAddD 2 (wAdd (wSl (wVar 0) (wPart (wVar 3)) (wPart (wVar 4))) (wVar 6)))
 (wAsg (wVar 5) 3)))
 (wSeq (wAug rAddD 2 (wSl (wVar 0) (wPart (wVar 3)) wNoPart))
 (wSeq (wIfS (wB (wGt (wLen (wVar 2)) (wC (.int 2000))))
  (wRaise C_TooGreat)
  wNext)
 (wRet (wVar 2))))))))
theorem pure_done (G N E : Addr) : ∀ args o ret exc, S_done N G E args o ret exc → w_done G N E (fun x s => exc x (cutL o.length s.o)) (pst0 args o 7) (bodyE o.length ret) := by
  rintro _ o ret exc ⟨t, L, e, rfl, hL, hg, hl, hW, hn, hO, hs, h1, h2⟩
  have hD := done_len (t := t) L 0 (-1) (by omega) (Nat.zero_le _) hW
  unfold w_done
  rw [K41.lit_e]
  walk_at "go"
  refine ⟨t, L, e, rfl, hL, hg, hl, hW, hn, hO, ?_⟩
  walk_at "go"
  refine ⟨_, hL, ?_⟩
  refine ⟨fun j s => ∃ (a : Nat) (q : Int) (f : List Nat) (x4 x5 x6 : Option PV), s = (⟨[some (.d (dT t)), some e, some (.d (dT f)), some (.d (.int a)), x4, x5, x6], o⟩ : PSt) ∧ (a : Int) ≤ q + 1 ∧ Wel t.length q (L.drop j) ∧ f ++ doneA t a (L.drop j) = doneA t 0 L,
    ⟨0, -1, [], none, none, none, rfl, by omega, hW, rfl⟩, ?_, ?_, ?_⟩
  · rintro j s _ ⟨a, q, f, x4, x5, x6, rfl, _⟩
    exact hL.src
  · rintro j x _ hx ⟨a, q, f, x4, x5, x6, rfl, ha, hw, hf⟩
    obtain ⟨hj, rfl⟩ := map_get hx
    clear hx
    rw [List.drop_eq_getElem_cons hj] at hw hf
    generalize hE : L[j] = ed at *
    obtain ⟨b, en, w⟩ := ed
    obtain ⟨w1, w2, w3, w4, w5, w6⟩ := hw
    have hf : f ++ ((t.take b).drop a ++ (w ++ doneA t en (L.drop (j + 1)))) = doneA t 0 L := hf
    have hfl := congrArg List.length hf
    rw [List.length_append] at hfl
    have hm := mid_len (t := t) (a := a) (b := b) (by omega)
    have w5 : w.length ≤ 2000 := w5
    walk_at "go"
    rw [show cutS (tx t) (some ((a : Nat) : Int)) (some (((b, en, w).1 : Nat) : Int)) = tx ((t.take b).drop a) from cut_tx t a b]
    show rAddD (.str (tx ((t.take b).drop a))) (dT w) _
    generalize hM : (t.take b).drop a = md at *
    walk_at "go"
    refine .inl ⟨en, (en : Nat), f ++ (md ++ w), _, _, _, rfl, by omega, w6, ?_⟩
    rw [← hf, List.append_assoc, List.append_assoc]
  · rintro _ ⟨a, q, f, x4, x5, x6, rfl, ha, hw, hf⟩
    rw [List.length_map, List.drop_length] at hf
    have hf : f ++ t.drop a = doneA t 0 L := hf
    have hfl := congrArg List.length hf
    rw [List.length_append] at hfl
    walk_at "go"
    rw [show cutS (tx t) (some ((a : Nat) : Int)) none = tx (t.drop a) from cut_tx_from t a]
    generalize hM : t.drop a = md at *
    walk_at "go"
    rw [hf]
    refine br_p (fun z => ?_) (fun z => ?_)
    · have z2 : (2000 : Int) < ((tx (doneA t 0 L)).length : Nat) := z
      rw [tx_len] at z2
      show exc ⟨G, none⟩ (cutL o.length o)
      rw [hO]
      exact h2 (by omega)
    · have z2 : ¬ (2000 : Int) < ((tx (doneA t 0 L)).length : Nat) := z
      rw [tx_len] at z2
      walk_at "go"
      show ret _ (cutL o.length o)
      rw [hO]
      exact h1 (by omega)
def w_backs (C_TooGreat : Addr) (C_NoText : Addr) (C_NoEdit : Addr) : SW :=
 (wSeq (wDrop (wCallH (S_done C_NoText C_TooGreat C_NoEdit) (wCons (wVar 0) (wCons (wVar 1) wNil))))
 (wSeq (wAsg (wLst wNil) 2)
 (wSeq (wAsg (wC (.int 0)) 3)
 (wSeq (wFor (wLX (wVar 1)) (gN 4)
  (wSeq (wAsg (wAdd (wIx (wVar 4) (wC (.int 0))) (wVar 3)) 5)
 (wSeq (wDrop (wApp (wVar 2) (wTup (wCons (wVar 5) (wCons (wAdd (wVar 5) (wLen (wIx (wVar 4) (wC (.int 2))))) (wCons (wSl (wVar 0) (wPart (wIx (wVar 4) (wC (.int 0)))) (wPart (wIx (wVar 4) (wC (.int 1))))) wNil))))))
 (wAug rAddD 3 (wCall S_grown (wCons (wVar 4) wNil))))))
 (wRet (wVar 2))))))
theorem cut_app (o q : List OC) : cutL o.length (o ++ q) = cutL o.length o := by
  unfold cutL
  rw [List.take_append_of_le_length (Nat.le_refl _)]
theorem set_last (o : List OC) (x y : OC) : (o ++ [x]).set o.length y = o ++ [y] := by
  rw [List.set_append_right _ _ (Nat.le_refl _), Nat.sub_self]
  rfl
theorem sh_at {k a b : Nat} (h : a ≤ b) : (b : Int) + ((k : Int) - (a : Int)) = ((k + (b - a) : Nat) : Int) := by omega
theorem pure_backs (G N E : Addr) : ∀ args o ret exc, S_backs N G E args o ret exc → w_backs G N E (fun x s => exc x (cutL o.length s.o)) (pst0 args o 6) (bodyE o.length ret) := by
  rintro _ o ret exc ⟨t, L, e, rfl, hL, hg, hl, hW, hn, hO, hs, h1, h2⟩
  unfold w_backs
  walk_at "go"
  refine ⟨t, L, e, rfl, hL, hg, hl, hW, hn, hO, hs, fun hd => ?_, fun hd => ?_⟩
  rotate_left
  · show exc ⟨G, none⟩ (cutL o.length o)
    rw [hO]
    exact h2 hd
  walk_at "go"
  refine ⟨_, hL.app, ?_⟩
  refine ⟨fun j s => ∃ (a k : Nat) (q : Int) (B : List Ed) (x4 x5 : Option PV), s = (⟨[some (.d (dT t)), some e, some (.own o.length), some (.d (.int ((k : Int) - (a : Int)))), x4, x5], o ++ [.dl (B.map edD)]⟩ : PSt) ∧ (a : Int) ≤ q + 1 ∧ Wel t.length q (L.drop j) ∧ B ++ backsA t a k (L.drop j) = backsA t 0 0 L ∧ B.length = j,
    ⟨0, 0, -1, [], none, none, rfl, by omega, hW, rfl, rfl⟩, ?_, ?_, ?_⟩
  · rintro j s _ ⟨a, k, q, B, x4, x5, rfl, _⟩
    exact hL.app.src
  · rintro j x _ hx ⟨a, k, q, B, x4, x5, rfl, ha, hw, hf, hBl⟩
    obtain ⟨hj, rfl⟩ := map_get hx
    clear hx
    rw [List.drop_eq_getElem_cons hj] at hw hf
    generalize hE : L[j] = ed at *
    obtain ⟨b, en, w⟩ := ed
    obtain ⟨w1, w2, w3, w4, w5, w6⟩ := hw
    have hBm : (B.map edD).length ≤ 30 := by rw [List.length_map]; omega
    have hown : (o ++ [OC.dl (B.map edD)])[o.length]? = some (.dl (B.map edD)) := by simp
    have w5 : w.length ≤ 2000 := w5
    have hcut : cutS (tx t) (some ((b : Nat) : Int)) (some ((en : Nat) : Int)) = tx ((t.take en).drop b) := cut_tx t b en
    walk_at "go"
    refine ⟨o.length, B.map edD, rfl, hown, ?_⟩
    walk_at "go"
    refine ⟨B.map edD, hown, ?_⟩
    walk_at "go"
    refine ⟨w5, ?_⟩
    walk_at "go"
    have hsh : (b : Int) + ((k : Int) - (a : Int)) = ((k + (b - a) : Nat) : Int) := by omega
    have hsh2 : ((k : Int) - (a : Int)) + ((w.length : Nat) - ((en : Int) - (b : Int))) = ((k + (b - a) + w.length : Nat) : Int) - (en : Int) := by omega
    refine .inl ⟨en, k + (b - a) + w.length, (en : Nat), B ++ [(k + (b - a), k + (b - a) + w.length, (t.take en).drop b)], some (.d (edD (b, en, w))), some (.d (.int ((k + (b - a) : Nat)))), ?_, by omega, w6, ?_, by simp [hBl]⟩
    · show (⟨[some (.d (dT t)), some e, some (.own o.length), some (.d (.int (((k : Int) - (a : Int)) + ((w.length : Nat) - ((en : Int) - (b : Int)))))), some (.d (edD (b, en, w))), some (.d (.int ((b : Int) + ((k : Int) - (a : Int)))))], (o ++ [OC.dl (B.map edD)]).set o.length (.dl (B.map edD ++ [.tuple [.int ((b : Int) + ((k : Int) - (a : Int))), .int (((b : Int) + ((k : Int) - (a : Int))) + ((tx w).length : Nat)), .str (cutS (tx t) (some ((b : Nat) : Int)) (some ((en : Nat) : Int)))]]))⟩ : PSt) = _
      rw [set_last, hsh2, hcut, tx_len, hsh, List.map_append]
      rfl
    · rw [← hf, List.append_assoc]
      rfl
  · rintro _ ⟨a, k, q, B, x4, x5, rfl, ha, hw, hf, hBl⟩
    rw [List.length_map, List.drop_length] at hf
    have hf : B ++ [] = backsA t 0 0 L := hf
    rw [List.append_nil] at hf
    walk_at "go"
    refine ⟨Nat.le_refl _, B.map edD, by simp, ?_⟩
    show ret _ (cutL o.length (o ++ [OC.dl (B.map edD)]))
    rw [cut_app, hO, hf]
    exact h1 hd
end K41

namespace K42
open PySem L2 PW
open K41 hiding S_is_place w_is_place pure_is_place S_is_text w_is_text pure_is_text0 S_need_edits w_need_edits pure_need_edits S_done w_done pure_done S_backs w_backs pure_backs
local macro_rules
  | `(tactic| walk_at "sz") => `(tactic| first | omega | (simp only [tx_len, List.length_append, List.length_map, List.length_cons, List.length_nil, List.length_take, List.length_drop] <;> omega))
  | `(tactic| walk_at "go") => `(tactic| repeat (first | refine ⟨rfl, ?_⟩ | refine ⟨trivial, ?_⟩ | refine ⟨_, rfl, ?_⟩ | refine ⟨_, rfl, rfl, ?_⟩ | refine ⟨_, _, rfl, rfl, ?_⟩ | refine ⟨_, ix_hd, ?_⟩ | refine br_t rfl ?_ | refine br_f rfl ?_ | (refine ⟨le_sz ?_, ?_⟩; focus walk_at "sz") | (refine ⟨lt_sz ?_, ?_⟩; focus walk_at "sz") | (refine ⟨strLe_tx ?_, ?_⟩; focus walk_at "sz") | refine ⟨cmul_r rfl, ?_⟩ | refine ⟨cmul_l rfl, ?_⟩ | refine ⟨pos_ok rfl, ?_⟩ | refine ⟨cdiv_ok rfl, ?_⟩ | refine ⟨_, _, _, _, rfl, rfl, rfl, rfl, ?_⟩ | refine ⟨_, _, rfl, ?_⟩ | refine ⟨_, _, _, rfl, rfl, rfl, ?_⟩ | refine ⟨_, _, _, rfl, rfl, ?_⟩ | rw [tx_app]))
def gTx (l : List Nat) : Prop := gdT l ∧ l.length ≤ 2000
def NoTx (c : PyData) : Prop := (∃ l, c = dT l ∧ l.length ≤ 1000000 ∧ ¬ gTx l) ∨ kitB (tyD c) "str" = some false
def plB (v : PyData) (n : Int) : Bool := match v with
  | .int i => decide (0 ≤ i) && decide (i ≤ n)
  | _ => false
inductive BadX (n : Int) (p : Int) : PyData → Prop
  | noTup {x : PyData} (h : kitB (tyD x) "tuple" = some false) : BadX n p x
  | len {ys : List PyData} (h : ys.length ≠ 3) : BadX n p (.tuple ys)
  | txt {a b c : PyData} (h : NoTx c) : BadX n p (.tuple [a, b, c])
  | pl0 {a b : PyData} {l : List Nat} (g : gTx l) (h : plB a n = false) : BadX n p (.tuple [a, b, dT l])
  | pl1 {a b : PyData} {l : List Nat} (g : gTx l) (h : plB a n = true) (h2 : plB b n = false) : BadX n p (.tuple [a, b, dT l])
  | apart {i j : Int} {l : List Nat} (g : gTx l) (h : 0 ≤ i ∧ i ≤ n) (h2 : 0 ≤ j ∧ j ≤ n) (h3 : ¬ (p < i ∧ i ≤ j)) : BadX n p (.tuple [.int i, .int j, dT l])
inductive BadL (n : Int) : Int → List PyData → Prop
  | here {p : Int} {x : PyData} {r : List PyData} (h : BadX n p x) : BadL n p (x :: r)
  | later {p i j : Int} {l : List Nat} {r : List PyData} (g : gTx l) (h : 0 ≤ i ∧ i ≤ n) (h2 : 0 ≤ j ∧ j ≤ n) (h3 : p < i) (h4 : i ≤ j) (h5 : BadL n j r) : BadL n p (.tuple [.int i, .int j, dT l] :: r)
def NotE (n : Int) (e : PV) : Prop := (∃ xs, e = .d (.list xs) ∧ BadL n (-1) xs) ∨ (∃ d, e = .d d ∧ kitB (tyD d) "list" = some false) ∨ ∃ kvs, e = .dk kvs
def S_is_place : FS := fun args o ret exc => ∃ (v : PyData) (n : Int), args = [.d v, .d (.int n)] ∧ o = [] ∧ ret (.d (.bool (plB v n))) []
def S_is_text (N G : Addr) : FS := fun args o ret exc => ∃ v, args = [v] ∧ o = [] ∧ NeedT N G v (fun _ => ret (.d (.bool true)) []) (fun _ => ret (.d (.bool false)) [])
def BadV (N G : Addr) (v : PV) (e : Addr → Prop) : Prop := NeedT N G v (fun _ => False) e
def S_need_edits (N G E : Addr) : FS := fun args o ret exc => ∃ (v e : PV), args = [v, e] ∧ cutL o.length o = o ∧
  (BadV N G v (fun C => exc ⟨C, none⟩ o) ∨ ∃ t, v = .d (dT t) ∧ gdT t ∧ t.length ≤ 2000 ∧ ((NotE t.length e ∧ exc ⟨E, none⟩ o) ∨ ∃ L : List Ed, Ld o e (L.map edD) ∧ Wel t.length (-1) L ∧ L.length ≤ 60 ∧ ret (.d .none) o))
def w_is_place : SW :=
 (wRet (wAndV (wIsi "int" (wVar 0)) (wAndV (wNotV (wIsi "bool" (wVar 0))) (wChain (rCmpD fun i j => decide (i ≤ j)) (rCmpD fun i j => decide (i ≤ j)) (wC (.int 0)) (wVar 0) (wVar 1)))))
def w_is_text (M : MX) (C_TooGreat : Addr) (C_NoText : Addr) (C_MenderError : Addr) : SW :=
 (wSeq (wTry M (wDrop (wCall (S_need_text C_NoText C_TooGreat) (wCons (wVar 0) wNil)))
  ((C_MenderError, none, (wRet (wC (.bool false)))) :: []))
 (wRet (wC (.bool true))))
def w_need_edits (C_TooGreat : Addr) (C_NoText : Addr) (C_NoEdit : Addr) : SW :=
 (wSeq (wDrop (wCall (S_need_text C_NoText C_TooGreat) (wCons (wVar 0) wNil)))
 (wSeq (wIfS (wNot (wB (wIsi "list" (wVar 1))))
  (wRaise C_NoEdit)
  wNext)
 (wSeq (wAsg (wNeg (wC (.int 1))) 2)
 (wFor (wLX (wVar 1)) (gN 3)
  (wSeq (wIfS (wOr (wNot (wB (wIsi "tuple" (wVar 3)))) (wOr (wB (wNe (wLen (wVar 3)) (wC (.int 3)))) (wNot (wB (wCall (S_is_text C_NoText C_TooGreat) (wCons (wIx (wVar 3) (wC (.int 2))) wNil))))))
  (wRaise C_NoEdit)
  wNext)
 (wSeq (wIfS (wOr (wNot (wB (wCall S_is_place (wCons (wIx (wVar 3) (wC (.int 0))) (wCons (wLen (wVar 0)) wNil))))) (wNot (wB (wCall S_is_place (wCons (wIx (wVar 3) (wC (.int 1))) (wCons (wLen (wVar 0)) wNil))))))
  (wRaise C_NoEdit)
  wNext)
 (wSeq (wIfS (wNot (wB (wChain (rCmpD fun i j => decide (i < j)) (rCmpD fun i j => decide (i ≤ j)) (wVar 2) (wIx (wVar 3) (wC (.int 0))) (wIx (wVar 3) (wC (.int 1))))))
  (wRaise C_NoEdit)
  wNext)
 (wAsg (wIx (wVar 3) (wC (.int 1))) 2))))))))
theorem pure_is_place : ∀ args o ret exc, S_is_place args o ret exc → w_is_place (fun x s => exc x (cutL o.length s.o)) (pst0 args o 2) (bodyE o.length ret) := by
  rintro _ _ ret exc ⟨v, n, rfl, rfl, h⟩
  unfold w_is_place
  cases v with
  | int i =>
    walk_at "go"
    refine br_d (0 ≤ i) (by show decide (0 ≤ i) = true ↔ _; rw [decide_eq_true_eq]) (fun h1 => ?_) (fun h1 => ?_)
    · walk_at "go"
      have e : plB (.int i) n = decide (i ≤ n) := by
        show (decide (0 ≤ i) && decide (i ≤ n)) = _
        rw [decide_eq_true h1, Bool.true_and]
      rw [e] at h
      exact h
    · walk_at "go"
      have e : plB (.int i) n = false := by
        show (decide (0 ≤ i) && decide (i ≤ n)) = _
        rw [decide_eq_false h1, Bool.false_and]
      rw [e] at h
      exact h
  | none => walk_at "go"; exact h
  | bool b => walk_at "go"; exact h
  | str s => walk_at "go"; exact h
  | list xs => walk_at "go"; exact h
  | tuple xs => walk_at "go"; exact h
  | dict xs => walk_at "go"; exact h
theorem needT_no {N G : Addr} {c : PyData} {q : List Nat → Prop} {e : Addr → Prop} (h : NoTx c) (g : ∀ C, e C) : NeedT N G (.d c) q e := by
  rcases h with ⟨l, rfl, hl, hn⟩ | h
  · exact .inl ⟨l, rfl, hl, fun a b => absurd ⟨a, b⟩ hn, fun _ _ => g _, fun _ => g _⟩
  · exact .inr (.inl ⟨_, rfl, h, g _⟩)
theorem needT_imp2 {N G : Addr} {v : PV} {q q' : List Nat → Prop} {e e' : Addr → Prop} (h : NeedT N G v q e) (f : ∀ l, v = .d (dT l) → gdT l → l.length ≤ 2000 → q l → q' l) (g : ∀ C, (C = N ∨ C = G) → e C → e' C) : NeedT N G v q' e' := by
  rcases h with ⟨l, rfl, hl, a, b, c⟩ | ⟨x, rfl, hx, c⟩ | ⟨kvs, rfl, c⟩
  · exact .inl ⟨l, rfl, hl, fun x y => f l rfl x y (a x y), fun x y => g _ (.inr rfl) (b x y), fun x => g _ (.inl rfl) (c x)⟩
  · exact .inr (.inl ⟨x, rfl, hx, g _ (.inl rfl) c⟩)
  · exact .inr (.inr ⟨kvs, rfl, g _ (.inl rfl) c⟩)
theorem pure_is_text0 {M : MX} {G N Me : Addr} (h1 : M N (.ref Me) = some true) (h2 : M G (.ref Me) = some true) : ∀ args o ret exc, S_is_text N G args o ret exc → w_is_text M G N Me (fun x s => exc x (cutL o.length s.o)) (pst0 args o 1) (bodyE o.length ret) := by
  rintro _ _ ret exc ⟨v, rfl, rfl, h⟩
  unfold w_is_text
  rcases h.arg with ⟨x, rfl⟩ | ⟨kvs, rfl⟩
  all_goals
    walk_at "go"
    refine needT_imp2 h (fun l e g hl hq => ?_) (fun C hC hq => ?_)
    · walk_at "go"
      exact hq
    · have hM : M C (.ref Me) = some true := by
        rcases hC with rfl | rfl
        · exact h1
        · exact h2
      walk_at "go"
      refine ⟨true, hM, fun _ => ?_, fun z => nomatch z⟩
      exact hq
theorem pure_need_edits (G N E : Addr) : ∀ args o ret exc, S_need_edits N G E args o ret exc → w_need_edits G N E (fun x s => exc x (cutL o.length s.o)) (pst0 args o 4) (bodyE o.length ret) := by
  rintro _ o ret exc ⟨v, e, rfl, hO, h⟩
  unfold w_need_edits
  rcases h with hb | ⟨t, rfl, hg, hl, h⟩
  · rcases hb.arg with ⟨x, rfl⟩ | ⟨kvs, rfl⟩
    all_goals
      walk_at "go"
      refine needT_imp2 hb (fun l e g hl hq => hq.elim) (fun C hC hq => ?_)
      show exc ⟨C, none⟩ (cutL o.length o)
      rw [hO]
      exact hq
  walk_at "go"
  refine NeedT.ok hg hl ?_
  walk_at "go"
  rcases h with ⟨hbad, hE⟩ | ⟨L, hL, hW, hn, hR⟩
  · have raise : ∀ (s : PSt), s.o = o → exc ⟨E, none⟩ (cutL o.length s.o) := fun s e => by
      rw [e, hO]
      exact hE
    rcases hbad with ⟨xs, rfl, hB⟩ | ⟨d, rfl, hk⟩ | ⟨kvs, rfl⟩
    · refine ⟨_, true, rfl, rfl, ?_⟩
      walk_at "go"
      refine ⟨fun j s => ∃ (p : Int) (x3 : Option PV), s = (⟨[some (.d (dT t)), some (.d (.list xs)), some (.d (.int p)), x3], o⟩ : PSt) ∧ BadL t.length p (xs.drop j), ⟨-1, none, rfl, hB⟩, fun _ _ _ _ => trivial, ?_, ?_⟩
      · rintro j x s hx ⟨p, x3, rfl, hw⟩
        obtain ⟨hj, rfl⟩ := List.getElem?_eq_some_iff.mp hx
        clear hx
        rw [List.drop_eq_getElem_cons hj] at hw
        generalize xs[j] = x at *
        have tl : (tx t).length = t.length := tx_len t
        cases hw with
        | here h =>
          cases h with
          | noTup h =>
            walk_at "go"
            refine ⟨_, false, rfl, h, ?_⟩
            walk_at "go"
            (show exc ⟨E, none⟩ (cutL o.length o); rw [hO]; exact hE)
          | len h =>
            rename_i ys
            walk_at "go"
            refine br_t (by show (!decide ((ys.length : Int) = 3)) = true; rw [decide_eq_false (by omega)]; rfl) ?_
            walk_at "go"
            (show exc ⟨E, none⟩ (cutL o.length o); rw [hO]; exact hE)
          | txt h =>
            walk_at "go"
            refine needT_no h fun C => ?_
            walk_at "go"
            (show exc ⟨E, none⟩ (cutL o.length o); rw [hO]; exact hE)
          | pl0 g h =>
            walk_at "go"
            refine NeedT.ok g.1 g.2 ?_
            walk_at "go"
            rw [tl, h]
            walk_at "go"
            (show exc ⟨E, none⟩ (cutL o.length o); rw [hO]; exact hE)
          | pl1 g h h2 =>
            walk_at "go"
            refine NeedT.ok g.1 g.2 ?_
            walk_at "go"
            rw [tl, h]
            walk_at "go"
            rw [tl, h2]
            walk_at "go"
            (show exc ⟨E, none⟩ (cutL o.length o); rw [hO]; exact hE)
          | apart g h h2 h3 =>
            rename_i i j2 l
            have e1 : plB (.int i) (t.length : Nat) = true := by
              show (decide (0 ≤ i) && decide (i ≤ _)) = true
              rw [decide_eq_true h.1, decide_eq_true h.2]
              rfl
            have e2 : plB (.int j2) (t.length : Nat) = true := by
              show (decide (0 ≤ j2) && decide (j2 ≤ _)) = true
              rw [decide_eq_true h2.1, decide_eq_true h2.2]
              rfl
            walk_at "go"
            refine NeedT.ok g.1 g.2 ?_
            walk_at "go"
            rw [tl, e1]
            walk_at "go"
            rw [tl, e2]
            walk_at "go"
            refine br_d (p < i) (by show decide (p < i) = true ↔ _; rw [decide_eq_true_eq]) (fun k1 => ?_) (fun k1 => ?_)
            rotate_left
            · walk_at "go"
              (show exc ⟨E, none⟩ (cutL o.length o); rw [hO]; exact hE)
            walk_at "go"
            refine br_d (¬ i ≤ j2) (by show (!decide (i ≤ j2)) = true ↔ _; rw [Bool.not_eq_true', decide_eq_false_iff_not]) (fun k2 => ?_) (fun k2 => ?_)
            · (show exc ⟨E, none⟩ (cutL o.length o); rw [hO]; exact hE)
            · exact absurd ⟨k1, Decidable.not_not.mp k2⟩ h3
        | later g h h2 h3 h4 h5 =>
          rename_i i j2 l
          have e1 : plB (.int i) (t.length : Nat) = true := by
            show (decide (0 ≤ i) && decide (i ≤ _)) = true
            rw [decide_eq_true h.1, decide_eq_true h.2]
            rfl
          have e2 : plB (.int j2) (t.length : Nat) = true := by
            show (decide (0 ≤ j2) && decide (j2 ≤ _)) = true
            rw [decide_eq_true h2.1, decide_eq_true h2.2]
            rfl
          walk_at "go"
          refine NeedT.ok g.1 g.2 ?_
          walk_at "go"
          rw [tl, e1]
          walk_at "go"
          rw [tl, e2]
          walk_at "go"
          refine br_t (decide_eq_true h3) ?_
          walk_at "go"
          refine br_f (by show (!decide (i ≤ j2)) = false; rw [decide_eq_true h4]; rfl) ?_
          walk_at "go"
          exact .inl ⟨j2, _, rfl, h5⟩
      · rintro s ⟨p, x3, rfl, hw⟩
        rw [List.drop_length] at hw
        cases hw
    · refine ⟨_, false, rfl, hk, ?_⟩
      walk_at "go"
      (show exc ⟨E, none⟩ (cutL o.length o); rw [hO]; exact hE)
    · refine ⟨_, false, rfl, rfl, ?_⟩
      walk_at "go"
      (show exc ⟨E, none⟩ (cutL o.length o); rw [hO]; exact hE)
  walk_at "go"
  refine ⟨_, _, hL.ty, rfl, ?_⟩
  walk_at "go"
  refine ⟨_, hL, ?_⟩
  refine ⟨fun j s => ∃ (p : Int) (x3 : Option PV), s = (⟨[some (.d (dT t)), some e, some (.d (.int p)), x3], o⟩ : PSt) ∧ Wel t.length p (L.drop j), ⟨-1, none, rfl, hW⟩, ?_, ?_, ?_⟩
  · rintro j s _ ⟨p, x3, rfl, _⟩
    exact hL.src
  · rintro j x _ hx ⟨p, x3, rfl, hw⟩
    obtain ⟨hj, rfl⟩ := map_get hx
    clear hx
    rw [List.drop_eq_getElem_cons hj] at hw
    generalize hE : L[j] = ed at *
    obtain ⟨b, en, w⟩ := ed
    obtain ⟨w1, w2, w3, w4, w5, w6⟩ := hw
    have tl : (tx t).length = t.length := tx_len t
    have e1 : plB (.int (b : Nat)) (t.length : Nat) = true := by
      show (decide (0 ≤ (b : Int)) && decide ((b : Int) ≤ _)) = true
      rw [decide_eq_true (by omega), decide_eq_true (by omega)]
      rfl
    have e2 : plB (.int (en : Nat)) (t.length : Nat) = true := by
      show (decide (0 ≤ (en : Int)) && decide ((en : Int) ≤ _)) = true
      rw [decide_eq_true (by omega), decide_eq_true (by omega)]
      rfl
    walk_at "go"
    refine NeedT.ok w4 w5 ?_
    walk_at "go"
    rw [tl]
    rw [show plB (.int ((b, en, w) : Ed).1) (t.length : Nat) = true from e1]
    walk_at "go"
    rw [tl]
    rw [show plB (.int ((b, en, w) : Ed).2.1) (t.length : Nat) = true from e2]
    walk_at "go"
    refine br_t (decide_eq_true w1) ?_
    walk_at "go"
    refine br_f (by show (!decide ((b : Int) ≤ (en : Int))) = false; rw [decide_eq_true (by omega)]; rfl) ?_
    walk_at "go"
    exact .inl ⟨(en : Nat), _, rfl, w6⟩
  · rintro _ ⟨p, x3, rfl, hw⟩
    show ret _ (cutL o.length o)
    rw [hO]
    exact hR
end K42

namespace K47
open PySem L2 PW
open K41 hiding S_backs S_done S_is_place S_is_text S_need_edits cut_app pure_backs pure_done pure_is_place pure_is_text0 pure_need_edits set_last sh_at w_backs w_done w_is_place w_is_text w_need_edits
open K42
local macro_rules
  | `(tactic| walk_at "sz") => `(tactic| first | omega | (simp only [tx_len, List.length_append, List.length_map, List.length_cons, List.length_nil, List.length_take, List.length_drop] <;> omega))
  | `(tactic| walk_at "go") => `(tactic| repeat (first | refine ⟨rfl, ?_⟩ | refine ⟨trivial, ?_⟩ | refine ⟨_, rfl, ?_⟩ | refine ⟨_, rfl, rfl, ?_⟩ | refine ⟨_, _, rfl, rfl, ?_⟩ | refine ⟨_, ix_hd, ?_⟩ | refine br_t rfl ?_ | refine br_f rfl ?_ | (refine ⟨le_sz ?_, ?_⟩; focus walk_at "sz") | (refine ⟨lt_sz ?_, ?_⟩; focus walk_at "sz") | (refine ⟨strLe_tx ?_, ?_⟩; focus walk_at "sz") | refine ⟨cmul_r rfl, ?_⟩ | refine ⟨cmul_l rfl, ?_⟩ | refine ⟨pos_ok rfl, ?_⟩ | refine ⟨cdiv_ok rfl, ?_⟩ | refine ⟨_, _, _, _, rfl, rfl, rfl, rfl, ?_⟩ | refine ⟨_, _, rfl, ?_⟩ | refine ⟨_, _, _, rfl, rfl, rfl, ?_⟩ | refine ⟨_, _, _, rfl, rfl, ?_⟩ | rw [tx_app]))
def NotD (n : Int) (e : PyData) : Prop := (∃ xs, e = .list xs ∧ BadL n (-1) xs) ∨ kitB (tyD e) "list" = some false
theorem NotD.e {n : Int} {e : PyData} (h : NotD n e) : NotE n (.d e) := by
  rcases h with ⟨xs, rfl, h⟩ | h
  · exact .inl ⟨xs, rfl, h⟩
  · exact .inr (.inl ⟨e, rfl, h⟩)
def IsE (n : Nat) (e : PyData) (L : List Ed) : Prop := e = .list (L.map edD) ∧ Wel n (-1) L ∧ L.length ≤ 60
abbrev NoT (N G : Addr) (v : PyData) (e : Addr → Prop) : Prop := NeedT N G (.d v) (fun _ => False) e
def S_done (N G E : Addr) : FS := fun args o ret exc => ∃ (v e : PyData), args = [.d v, .d e] ∧ o = [] ∧
  (NoT N G v (fun C => exc ⟨C, none⟩ []) ∨ ∃ t, v = dT t ∧ gdT t ∧ t.length ≤ 2000 ∧ ((NotD t.length e ∧ exc ⟨E, none⟩ []) ∨ ∃ L : List Ed, IsE t.length e L ∧ smW L ≤ 100000 ∧ (doneA t 0 L).length ≤ 2000 ∧ ret (.d (dT (doneA t 0 L))) []))
def S_backs (N G E : Addr) : FS := fun args o ret exc => ∃ (v e : PyData), args = [.d v, .d e] ∧ o = [] ∧
  (NoT N G v (fun C => exc ⟨C, none⟩ []) ∨ ∃ t, v = dT t ∧ gdT t ∧ t.length ≤ 2000 ∧ ((NotD t.length e ∧ exc ⟨E, none⟩ []) ∨ ∃ L : List Ed, IsE t.length e L ∧ smW L ≤ 100000 ∧ (doneA t 0 L).length ≤ 2000 ∧ ret (.new ((backsA t 0 0 L).map edD)) []))
def S_touch : FS := fun args o ret exc => False ∧ args.length = 2
def S_need_apart : FS := fun args o ret exc => ∃ A B : List Ed, args = [.d (.list (A.map edD)), .d (.list (B.map edD))] ∧ o = [] ∧ (A = [] ∨ B = []) ∧ ret (.d .none) []
def S_moved (N G E : Addr) : FS := fun args o ret exc => ∃ (a b : PyData) (t : List Nat), args = [.d (dT t), .d a, .d b] ∧ o = [] ∧ gdT t ∧ t.length ≤ 2000 ∧
  ((NotD t.length a ∧ exc ⟨E, none⟩ []) ∨ (a = .list [] ∧ NotD t.length b ∧ exc ⟨E, none⟩ []) ∨ (∃ L : List Ed, IsE t.length a L ∧ b = .list [] ∧ ret (.new (L.map edD)) []) ∨
    ∃ L : List Ed, a = .list [] ∧ IsE t.length b L ∧ smW L ≤ 100000 ∧ (doneA t 0 L).length ≤ 2000 ∧ ret (.new []) [])
def w_done (C_TooGreat : Addr) (C_NoText : Addr) (C_NoEdit : Addr) : SW :=
 (wSeq (wDrop (wCall (S_need_edits C_NoText C_TooGreat C_NoEdit) (wCons (wVar 0) (wCons (wVar 1) wNil))))
 (wSeq (wAsg (wC (.str "")) 2)
 (wSeq (wAsg (wC (.int 0)) 3)
 (wSeq (wFor (wLX (wVar 1)) (gT 3 (gsCons (gN 4) (gsCons (gN 5) (gsCons (gN 6) gsNil))))
  (wSeq (wAug rAddD 2 (wAdd (wSl (wVar 0) (wPart (wVar 3)) (wPart (wVar 4))) (wVar 6)))
 (wAsg (wVar 5) 3)))
 (wSeq (wAug rAddD 2 (wSl (wVar 0) (wPart (wVar 3)) wNoPart))
 (wSeq (wIfS (wB (wGt (wLen (wVar 2)) (wC (.int 2000))))
  (wRaise C_TooGreat)
  wNext)
 (wRet (wVar 2))))))))
def w_backs (C_TooGreat : Addr) (C_NoText : Addr) (C_NoEdit : Addr) : SW :=
 (wSeq (wDrop (wCall (S_done C_NoText C_TooGreat C_NoEdit) (wCons (wVar 0) (wCons (wVar 1) wNil))))
 (wSeq (wAsg (wLst wNil) 2)
 (wSeq (wAsg (wC (.int 0)) 3)
 (wSeq (wFor (wLX (wVar 1)) (gN 4)
  (wSeq (wAsg (wAdd (wIx (wVar 4) (wC (.int 0))) (wVar 3)) 5)
 (wSeq (wDrop (wApp (wVar 2) (wTup (wCons (wVar 5) (wCons (wAdd (wVar 5) (wLen (wIx (wVar 4) (wC (.int 2))))) (wCons (wSl (wVar 0) (wPart (wIx (wVar 4) (wC (.int 0)))) (wPart (wIx (wVar 4) (wC (.int 1))))) wNil))))))
 (wAug rAddD 3 (wCall S_grown (wCons (wVar 4) wNil))))))
 (wRet (wVar 2))))))
def w_touch : SW :=
 (wRet (wAndV (wGe (wIx (wVar 0) (wC (.int 1))) (wIx (wVar 1) (wC (.int 0)))) (wGe (wIx (wVar 1) (wC (.int 1))) (wIx (wVar 0) (wC (.int 0))))))
def w_need_apart (C_Clash : Addr) : SW :=
 (wFor (wL (wVar 0)) (gN 2)
  (wFor (wL (wVar 1)) (gN 3)
  (wIfS (wB (wCall S_touch (wCons (wVar 2) (wCons (wVar 3) wNil))))
  (wRaiseI C_Clash "one" "other" (wCons (wVar 2) (wCons (wVar 3) wNil)))
  wNext)))
def w_moved (C_TooGreat : Addr) (C_NoText : Addr) (C_NoEdit : Addr) : SW :=
 (wSeq (wDrop (wCall (S_need_edits C_NoText C_TooGreat C_NoEdit) (wCons (wVar 0) (wCons (wVar 1) wNil))))
 (wSeq (wDrop (wCall (S_need_edits C_NoText C_TooGreat C_NoEdit) (wCons (wVar 0) (wCons (wVar 2) wNil))))
 (wSeq (wDrop (wCall S_need_apart (wCons (wVar 1) (wCons (wVar 2) wNil))))
 (wSeq (wDrop (wCall (S_done C_NoText C_TooGreat C_NoEdit) (wCons (wVar 0) (wCons (wVar 2) wNil))))
 (wSeq (wAsg (wLst wNil) 3)
 (wSeq (wFor (wL (wVar 1)) (gT 3 (gsCons (gN 4) (gsCons (gN 5) (gsCons (gN 6) gsNil))))
  (wSeq (wAsg (wSum (wLc (wL (wVar 2)) (gN 8) (wB (wLt (wIx (wVar 8) (wC (.int 1))) (wVar 4))) (wCall S_grown (wCons (wVar 8) wNil)) [8])) 7)
 (wDrop (wApp (wVar 3) (wTup (wCons (wAdd (wVar 4) (wVar 7)) (wCons (wAdd (wVar 5) (wVar 7)) (wCons (wVar 6) wNil))))))))
 (wRet (wVar 3))))))))
theorem pure_touch : ∀ args o ret exc, S_touch args o ret exc → w_touch (fun x s => exc x (cutL o.length s.o)) (pst0 args o 2) (bodyE o.length ret) := by
  rintro _ _ _ _ ⟨z, _⟩
  exact z.elim
theorem pure_need_apart (Cl : Addr) : ∀ args o ret exc, S_need_apart args o ret exc → w_need_apart Cl (fun x s => exc x (cutL o.length s.o)) (pst0 args o 4) (bodyE o.length ret) := by
  rintro _ _ ret exc ⟨A, B, rfl, rfl, h, hR⟩
  unfold w_need_apart
  rcases h with rfl | rfl
  · walk_at "go"
    refine ⟨fun _ s => s = (⟨[some (.d (.list [])), some (.d (.list (B.map edD))), none, none], []⟩ : PSt), rfl, fun _ _ _ _ => trivial, fun j x _ hx => (by cases hx), ?_⟩
    rintro s rfl
    exact hR
  · walk_at "go"
    refine ⟨fun _ s => ∃ x, s = (⟨[some (.d (.list (A.map edD))), some (.d (.list [])), x, none], []⟩ : PSt), ⟨none, rfl⟩, fun _ _ _ _ => trivial, ?_, ?_⟩
    · rintro j x _ hx ⟨y, rfl⟩
      walk_at "go"
      refine ⟨fun _ s => s = (⟨[some (.d (.list (A.map edD))), some (.d (.list [])), some (.d x), none], []⟩ : PSt), rfl, fun _ _ _ _ => trivial, fun j x _ hx => (by cases hx), ?_⟩
      rintro s rfl
      exact .inl ⟨_, rfl⟩
    · rintro s ⟨y, rfl⟩
      exact hR
theorem needT_imp3 {N G : Addr} {v : PV} {q q' : List Nat → Prop} {e e' : Addr → Prop} (h : NeedT N G v q e) (f : ∀ l, v = .d (dT l) → gdT l → l.length ≤ 2000 → q l → q' l) (g : ∀ C, e C → e' C) : NeedT N G v q' e' := needT_imp2 h f fun C _ => g C
theorem pure_done (G N E : Addr) : ∀ args o ret exc, S_done N G E args o ret exc → w_done G N E (fun x s => exc x (cutL o.length s.o)) (pst0 args o 7) (bodyE o.length ret) := by
  rintro _ _ ret exc ⟨v, e, rfl, rfl, h⟩
  unfold w_done
  rw [K41.lit_e]
  rcases h with hb | ⟨t, rfl, hg, hl, ⟨hn, hE⟩ | ⟨L, ⟨rfl, hW, hn⟩, hs, h2, h1⟩⟩
  · walk_at "go"
    exact .inl (needT_imp3 hb (fun l e g hl hq => hq.elim) fun C hq => hq)
  · walk_at "go"
    exact .inr ⟨t, rfl, hg, hl, .inl ⟨hn.e, hE⟩⟩
  have hD := done_len (t := t) L 0 (-1) (by omega) (Nat.zero_le _) hW
  walk_at "go"
  refine .inr ⟨t, rfl, hg, hl, .inr ⟨L, rfl, hW, hn, ?_⟩⟩
  walk_at "go"
  refine ⟨fun j s => ∃ (a : Nat) (q : Int) (f : List Nat) (x4 x5 x6 : Option PV), s = (⟨[some (.d (dT t)), some (.d (.list (L.map edD))), some (.d (dT f)), some (.d (.int a)), x4, x5, x6], []⟩ : PSt) ∧ (a : Int) ≤ q + 1 ∧ Wel t.length q (L.drop j) ∧ f ++ doneA t a (L.drop j) = doneA t 0 L,
    ⟨0, -1, [], none, none, none, rfl, by omega, hW, rfl⟩, ?_, ?_, ?_⟩
  · rintro j s _ ⟨a, q, f, x4, x5, x6, rfl, _⟩
    trivial
  · rintro j x _ hx ⟨a, q, f, x4, x5, x6, rfl, ha, hw, hf⟩
    obtain ⟨hj, rfl⟩ := map_get hx
    clear hx
    rw [List.drop_eq_getElem_cons hj] at hw hf
    generalize hE : L[j] = ed at *
    obtain ⟨b, en, w⟩ := ed
    obtain ⟨w1, w2, w3, w4, w5, w6⟩ := hw
    have hf : f ++ ((t.take b).drop a ++ (w ++ doneA t en (L.drop (j + 1)))) = doneA t 0 L := hf
    have hfl := congrArg List.length hf
    rw [List.length_append] at hfl
    have hm := mid_len (t := t) (a := a) (b := b) (by omega)
    have w5 : w.length ≤ 2000 := w5
    walk_at "go"
    rw [show cutS (tx t) (some ((a : Nat) : Int)) (some (((b, en, w).1 : Nat) : Int)) = tx ((t.take b).drop a) from cut_tx t a b]
    show rAddD (.str (tx ((t.take b).drop a))) (dT w) _
    generalize hM : (t.take b).drop a = md at *
    walk_at "go"
    refine .inl ⟨en, (en : Nat), f ++ (md ++ w), _, _, _, rfl, by omega, w6, ?_⟩
    rw [← hf, List.append_assoc, List.append_assoc]
  · rintro _ ⟨a, q, f, x4, x5, x6, rfl, ha, hw, hf⟩
    rw [List.length_map, List.drop_length] at hf
    have hf : f ++ t.drop a = doneA t 0 L := hf
    have hfl := congrArg List.length hf
    rw [List.length_append] at hfl
    walk_at "go"
    rw [show cutS (tx t) (some ((a : Nat) : Int)) none = tx (t.drop a) from cut_tx_from t a]
    generalize hM : t.drop a = md at *
    walk_at "go"
    rw [hf]
    refine br_p (fun z => ?_) (fun z => ?_)
    · have z2 : (2000 : Int) < ((tx (doneA t 0 L)).length : Nat) := z
      rw [tx_len] at z2
      omega
    · have z2 : ¬ (2000 : Int) < ((tx (doneA t 0 L)).length : Nat) := z
      rw [tx_len] at z2
      walk_at "go"
      exact h1
theorem pure_backs (G N E : Addr) : ∀ args o ret exc, S_backs N G E args o ret exc → w_backs G N E (fun x s => exc x (cutL o.length s.o)) (pst0 args o 6) (bodyE o.length ret) := by
  rintro _ _ ret exc ⟨v, e, rfl, rfl, h⟩
  unfold w_backs
  rcases h with hb | ⟨t, rfl, hg, hl, ⟨hn, hE⟩ | ⟨L, ⟨rfl, hW, hn⟩, hs, h2, h1⟩⟩
  · walk_at "go"
    exact .inl (needT_imp3 hb (fun l e g hl hq => hq.elim) fun C hq => hq)
  · walk_at "go"
    exact .inr ⟨t, rfl, hg, hl, .inl ⟨hn, hE⟩⟩
  walk_at "go"
  refine .inr ⟨t, rfl, hg, hl, .inr ⟨L, ⟨rfl, hW, hn⟩, hs, h2, ?_⟩⟩
  walk_at "go"
  refine ⟨fun j s => ∃ (a k : Nat) (q : Int) (B : List Ed) (x4 x5 : Option PV), s = (⟨[some (.d (dT t)), some (.d (.list (L.map edD))), some (.own 0), some (.d (.int ((k : Int) - (a : Int)))), x4, x5], [.dl (B.map edD)]⟩ : PSt) ∧ (a : Int) ≤ q + 1 ∧ Wel t.length q (L.drop j) ∧ B ++ backsA t a k (L.drop j) = backsA t 0 0 L ∧ B.length = j,
    ⟨0, 0, -1, [], none, none, rfl, by omega, hW, rfl, rfl⟩, ?_, ?_, ?_⟩
  · rintro j s _ ⟨a, k, q, B, x4, x5, rfl, _⟩
    trivial
  · rintro j x _ hx ⟨a, k, q, B, x4, x5, rfl, ha, hw, hf, hBl⟩
    obtain ⟨hj, rfl⟩ := map_get hx
    clear hx
    rw [List.drop_eq_getElem_cons hj] at hw hf
    generalize hE : L[j] = ed at *
    obtain ⟨b, en, w⟩ := ed
    obtain ⟨w1, w2, w3, w4, w5, w6⟩ := hw
    have hBm : (B.map edD).length ≤ 60 := by rw [List.length_map]; omega
    have w5 : w.length ≤ 2000 := w5
    have hcut : cutS (tx t) (some ((b : Nat) : Int)) (some ((en : Nat) : Int)) = tx ((t.take en).drop b) := cut_tx t b en
    walk_at "go"
    refine ⟨w5, ?_⟩
    walk_at "go"
    have hsh : (b : Int) + ((k : Int) - (a : Int)) = ((k + (b - a) : Nat) : Int) := by omega
    have hsh2 : ((k : Int) - (a : Int)) + ((w.length : Nat) - ((en : Int) - (b : Int))) = ((k + (b - a) + w.length : Nat) : Int) - (en : Int) := by omega
    refine .inl ⟨en, k + (b - a) + w.length, (en : Nat), B ++ [(k + (b - a), k + (b - a) + w.length, (t.take en).drop b)], some (.d (edD (b, en, w))), some (.d (.int ((k + (b - a) : Nat)))), ?_, by omega, w6, ?_, by simp [hBl]⟩
    · show (⟨[some (.d (dT t)), some (.d (.list (L.map edD))), some (.own 0), some (.d (.int (((k : Int) - (a : Int)) + ((w.length : Nat) - ((en : Int) - (b : Int)))))), some (.d (edD (b, en, w))), some (.d (.int ((b : Int) + ((k : Int) - (a : Int)))))], [OC.dl (B.map edD ++ [.tuple [.int ((b : Int) + ((k : Int) - (a : Int))), .int (((b : Int) + ((k : Int) - (a : Int))) + ((tx w).length : Nat)), .str (cutS (tx t) (some ((b : Nat) : Int)) (some ((en : Nat) : Int)))]])]⟩ : PSt) = _
      rw [hsh2, hcut, tx_len, hsh, List.map_append]
      rfl
    · rw [← hf, List.append_assoc]
      rfl
  · rintro _ ⟨a, k, q, B, x4, x5, rfl, ha, hw, hf, hBl⟩
    rw [List.length_map, List.drop_length] at hf
    have hf : B ++ [] = backsA t 0 0 L := hf
    rw [List.append_nil] at hf
    walk_at "go"
    rw [hf]
    exact ⟨Nat.le_refl _, _, rfl, h1⟩
theorem pure_moved (G N E : Addr) : ∀ args o ret exc, S_moved N G E args o ret exc → w_moved G N E (fun x s => exc x (cutL o.length s.o)) (pst0 args o 9) (bodyE o.length ret) := by
  rintro _ _ ret exc ⟨a, b, t, rfl, rfl, hg, hl, h⟩
  unfold w_moved
  rcases h with ⟨hn, hE⟩ | ⟨rfl, hn, hE⟩ | ⟨L, ⟨rfl, hW, hn⟩, rfl, hR⟩ | ⟨L, rfl, ⟨rfl, hW, hn⟩, hs, h2, hR⟩
  · walk_at "go"
    exact .inr ⟨t, rfl, hg, hl, .inl ⟨hn.e, hE⟩⟩
  · walk_at "go"
    refine .inr ⟨t, rfl, hg, hl, .inr ⟨[], rfl, trivial, by decide, ?_⟩⟩
    walk_at "go"
    exact .inr ⟨t, rfl, hg, hl, .inl ⟨hn.e, hE⟩⟩
  · walk_at "go"
    refine .inr ⟨t, rfl, hg, hl, .inr ⟨L, rfl, hW, hn, ?_⟩⟩
    walk_at "go"
    refine .inr ⟨t, rfl, hg, hl, .inr ⟨[], rfl, trivial, by decide, ?_⟩⟩
    walk_at "go"
    refine ⟨L, [], rfl, rfl, .inr rfl, ?_⟩
    walk_at "go"
    refine .inr ⟨t, rfl, hg, hl, .inr ⟨[], ⟨rfl, trivial, by decide⟩, by decide, ?_, ?_⟩⟩
    · show (t.drop 0).length ≤ 2000
      exact hl
    walk_at "go"
    refine ⟨fun j s => ∃ (x4 x5 x6 x7 x8 : Option PV), s = (⟨[some (.d (dT t)), some (.d (.list (L.map edD))), some (.d (.list [])), some (.own 0), x4, x5, x6, x7, x8], [.dl ((L.take j).map edD)]⟩ : PSt),
      ⟨none, none, none, none, none, rfl⟩, fun _ _ _ _ => trivial, ?_, ?_⟩
    · rintro j x _ hx ⟨x4, x5, x6, x7, x8, rfl⟩
      obtain ⟨hj, rfl⟩ := map_get hx
      clear hx
      have ht : L.take (j + 1) = L.take j ++ [L[j]] := List.take_succ_eq_append_getElem hj
      generalize L[j] = ed at *
      obtain ⟨b, en, w⟩ := ed
      have hm : ((L.take j).map edD).length ≤ 60 := by rw [List.length_map, List.length_take]; omega
      walk_at "go"
      refine ⟨fun _ acc s => acc = [] ∧ s = (⟨[some (.d (dT t)), some (.d (.list (L.map edD))), some (.d (.list [])), some (.own 0), some (.d (.int b)), some (.d (.int en)), some (.d (dT w)), x7, none], [.dl ((L.take j).map edD)]⟩ : PSt), ⟨rfl, rfl⟩, fun _ _ _ _ _ => trivial, fun j x acc s hx => (by cases hx), ?_⟩
      rintro acc s hs ⟨rfl, rfl⟩
      refine ⟨[], rfl, ?_⟩
      walk_at "go"
      refine .inr ⟨some (.d (.int (b : Nat))), some (.d (.int (en : Nat))), some (.d (dT w)), some (.d (.int 0)), none, ?_⟩
      show (⟨[some (.d (dT t)), some (.d (.list (L.map edD))), some (.d (.list [])), some (.own 0), some (.d (.int (b : Nat))), some (.d (.int (en : Nat))), some (.d (dT w)), some (.d (.int 0)), none], [.dl ((L.take j).map edD ++ [.tuple [.int ((b : Int) + ([] : List Int).sum), .int ((en : Int) + ([] : List Int).sum), dT w]])]⟩ : PSt) = _
      rw [ht, List.map_append, List.sum_nil, Int.add_zero, Int.add_zero]
      rfl
    · rintro _ ⟨x4, x5, x6, x7, x8, rfl⟩
      walk_at "go"
      refine ⟨Nat.le_refl _, _, rfl, ?_⟩
      rw [List.length_map, List.take_length]
      exact hR
  · walk_at "go"
    refine .inr ⟨t, rfl, hg, hl, .inr ⟨[], rfl, trivial, by decide, ?_⟩⟩
    walk_at "go"
    refine .inr ⟨t, rfl, hg, hl, .inr ⟨L, rfl, hW, hn, ?_⟩⟩
    walk_at "go"
    refine ⟨[], L, rfl, rfl, .inl rfl, ?_⟩
    walk_at "go"
    refine .inr ⟨t, rfl, hg, hl, .inr ⟨L, ⟨rfl, hW, hn⟩, hs, h2, ?_⟩⟩
    walk_at "go"
    refine ⟨fun j s => s = (⟨[some (.d (dT t)), some (.d (.list [])), some (.d (.list (L.map edD))), some (.own 0), none, none, none, none, none], [.dl []]⟩ : PSt), rfl, fun _ _ _ _ => trivial, fun j x _ hx => (by cases hx), ?_⟩
    rintro _ rfl
    walk_at "go"
    exact ⟨Nat.le_refl _, _, rfl, hR⟩
end K47

namespace K47
open PySem L2 PW
open K41 hiding S_backs S_done S_is_place S_is_text S_need_edits cut_app pure_backs pure_done pure_is_place pure_is_text0 pure_need_edits set_last sh_at w_backs w_done w_is_place w_is_text w_need_edits
open K42
local macro_rules
  | `(tactic| walk_at "sz") => `(tactic| first | omega | (simp only [tx_len, List.length_append, List.length_map, List.length_cons, List.length_nil, List.length_take, List.length_drop] <;> omega))
  | `(tactic| walk_at "go") => `(tactic| repeat (first | refine ⟨rfl, ?_⟩ | refine ⟨trivial, ?_⟩ | refine ⟨_, rfl, ?_⟩ | refine ⟨_, rfl, rfl, ?_⟩ | refine ⟨_, _, rfl, rfl, ?_⟩ | refine ⟨_, ix_hd, ?_⟩ | refine br_t rfl ?_ | refine br_f rfl ?_ | (refine ⟨le_sz ?_, ?_⟩; focus walk_at "sz") | (refine ⟨lt_sz ?_, ?_⟩; focus walk_at "sz") | (refine ⟨strLe_tx ?_, ?_⟩; focus walk_at "sz") | refine ⟨cmul_r rfl, ?_⟩ | refine ⟨cmul_l rfl, ?_⟩ | refine ⟨pos_ok rfl, ?_⟩ | refine ⟨cdiv_ok rfl, ?_⟩ | refine ⟨_, _, _, _, rfl, rfl, rfl, rfl, ?_⟩ | refine ⟨_, _, rfl, ?_⟩ | refine ⟨_, _, _, rfl, rfl, rfl, ?_⟩ | refine ⟨_, _, _, rfl, rfl, ?_⟩ | rw [tx_app]))
def Stays (o o' : List OC) (X : List Nat) : Prop := o.length ≤ o'.length ∧ ∀ i, i < o.length → i ∉ X → o'[i]? = o[i]?
theorem Stays.refl (o : List OC) (X : List Nat) : Stays o o X := ⟨Nat.le_refl _, fun _ _ _ => rfl⟩
theorem Stays.trans {o o' o'' : List OC} {X Y : List Nat} (h : Stays o o' X) (h2 : Stays o' o'' Y) (hs : ∀ i, i < o.length → i ∈ Y → i ∈ X) : Stays o o'' X :=
  ⟨Nat.le_trans h.1 h2.1, fun i hi hx => (h2.2 i (Nat.lt_of_lt_of_le hi h.1) fun hy => hx (hs i hi hy)).trans (h.2 i hi hx)⟩
theorem Stays.set {o o' : List OC} {X : List Nat} (h : Stays o o' X) {i : Nat} {c : OC} (hi : i ∈ X ∨ o.length ≤ i) : Stays o (o'.set i c) X :=
  ⟨by rw [List.length_set]; exact h.1, fun j hj hx => by
    rw [List.getElem?_set_ne (by rintro rfl; rcases hi with hi | hi; exact hx hi; omega)]
    exact h.2 j hj hx⟩
theorem Stays.add {o o' : List OC} {X : List Nat} (h : Stays o o' X) (q : List OC) : Stays o (o' ++ q) X :=
  ⟨by rw [List.length_append]; have := h.1; omega, fun j hj hx => by
    rw [List.getElem?_append_left (Nat.lt_of_lt_of_le hj h.1)]
    exact h.2 j hj hx⟩
theorem in_len {o : List OC} {i : Nat} {c : OC} (h : o[i]? = some c) : i < o.length := (List.getElem?_eq_some_iff.mp h).1
theorem get_end (q : List OC) (x : OC) : (q ++ [x])[q.length]? = some x := by simp
theorem get_ap' {o q : List OC} {k : Nat} {c : OC} (h : o[k]? = some c) : (o ++ q)[k]? = some c := (List.getElem?_append_left (in_len h)).trans h
theorem set_ap {o q : List OC} {n : Nat} {c : OC} (h : n < o.length) : (o ++ q).set n c = o.set n c ++ q := List.set_append_left _ _ h
def Dr (a f : Int) : Prop := f = 0 ∨ (f = 1 ∧ 0 ≤ a ∧ a < 2147483648)
abbrev dr (a f : Int) : OC := .dl [.int a, .int f]
def S_law_begun : FS := fun args o ret exc => ∃ (c k : Int), args = [.d (.int c), .d (.int k)] ∧ o = [] ∧ 0 ≤ k ∧ k ≤ 63 ∧ ∀ a f, Dr a f → ret (.new [.int a, .int f]) []
def w_law_begun : SW :=
 (wSeq (wIfS (wB (wGe (wVar 0) (wPow (wC (.int 10)) (wC (.int 18)))))
  (wRet (wLst (wCons (wSub (wVar 0) (wPow (wC (.int 10)) (wC (.int 18)))) (wCons (wC (.int 0)) wNil))))
  wNext)
 (wSeq (wAsg (wMod (wAdd (wMul (wMod (wVar 0) (wC (.int 2147483647))) (wC (.int 48271))) (wMul (wC (.int 104729)) (wAdd (wVar 1) (wC (.int 1))))) (wC (.int 2147483647))) 2)
 (wRet (wLst (wCons (wAdd (wC (.int 1)) (wMod (wAdd (wMul (wVar 2) (wVar 2)) (wMul (wC (.int 40692)) (wVar 2))) (wC (.int 2147483629)))) (wCons (wC (.int 1)) wNil))))))
def S_law_next : FSO := fun args o ret exc => ∃ (n : Nat) (a f m : Int), args = [.own n, .d (.int m)] ∧ o[n]? = some (dr a f) ∧ Dr a f ∧ 0 < m ∧ m ≤ 100000 ∧ ∀ (v : Nat) (a' : Int), (v : Int) < m → Dr a' f → ret (.d (.int v)) (o.set n (dr a' f))
def w_law_next : SW :=
 (wSeq (wIfS (wB (wEq (wIx (wVar 0) (wC (.int 1))) (wC (.int 0))))
  (wSeq (wAsg (wMod (wIx (wVar 0) (wC (.int 0))) (wVar 1)) 2)
 (wSeq (wSetIx (wDiv (wIx (wVar 0) (wC (.int 0))) (wVar 1)) (wVar 0) (wC (.int 0)))
 (wRet (wVar 2))))
  wNext)
 (wSeq (wSetIx (wMod (wAdd (wMul (wIx (wVar 0) (wC (.int 0))) (wC (.int 48271))) (wC (.int 11))) (wC (.int 2147483647))) (wVar 0) (wC (.int 0)))
 (wRet (wMod (wDiv (wIx (wVar 0) (wC (.int 0))) (wC (.int 7))) (wVar 1)))))
theorem pure_law_begun : ∀ args o ret exc, S_law_begun args o ret exc → w_law_begun (fun x s => exc x (cutL o.length s.o)) (pst0 args o 3) (bodyE o.length ret) := by
  rintro _ _ ret exc ⟨c, k, rfl, rfl, k0, k1, h⟩
  unfold w_law_begun
  walk_at "go"
  refine ⟨⟨by decide, by decide, by decide⟩, ?_⟩
  walk_at "go"
  refine br_d ((10 : Int) ^ 18 ≤ c) (by show decide _ = true ↔ _; rw [decide_eq_true_eq]; rfl) (fun z => ?_) (fun z => ?_)
  · walk_at "go"
    refine ⟨⟨by decide, by decide, by decide⟩, ?_⟩
    walk_at "go"
    exact ⟨Nat.le_refl _, _, rfl, h _ _ (.inl rfl)⟩
  · walk_at "go"
    have b0 : 0 ≤ (c % 2147483647 * 48271 + 104729 * (k + 1)) % 2147483647 := Int.emod_nonneg _ (by decide)
    have b1 : (c % 2147483647 * 48271 + 104729 * (k + 1)) % 2147483647 < 2147483647 := Int.emod_lt_of_pos _ (by decide)
    generalize (c % 2147483647 * 48271 + 104729 * (k + 1)) % 2147483647 = x at *
    refine ⟨cmul_o (.inl ⟨by omega, by omega⟩), ?_⟩
    walk_at "go"
    refine ⟨Nat.le_refl _, _, rfl, h _ _ (.inr ⟨rfl, ?_, ?_⟩)⟩
    · have := Int.emod_nonneg (x * x + 40692 * x) (show (2147483629 : Int) ≠ 0 by decide)
      omega
    · have := Int.emod_lt_of_pos (x * x + 40692 * x) (show (0 : Int) < 2147483629 by decide)
      omega
theorem pure_law_next : ∀ args o ret exc, S_law_next args o ret exc → w_law_next (fun x s => exc x s.o) (pst0 args o 3) (bodyO ret) := by
  rintro _ o ret exc ⟨n, a, f, m, rfl, hn, hd, m0, m1, h⟩
  unfold w_law_next
  have hl := in_len hn
  have dt : ∀ {r : List (Option PV)} {a : Int}, dat ⟨r, o.set n (dr a f)⟩ (.own n) = some (.list [.int a, .int f]) := fun {r a} => congrArg ocD (List.getElem?_set_self hl)
  have dt0 : ∀ {r : List (Option PV)}, dat ⟨r, o⟩ (.own n) = some (.list [.int a, .int f]) := fun {r} => congrArg ocD hn
  have pick : ∀ x : Int, ∃ v : Nat, (v : Int) = x % m ∧ (v : Int) < m := fun x => ⟨(x % m).toNat, Int.toNat_of_nonneg (Int.emod_nonneg _ (by omega)), by rw [Int.toNat_of_nonneg (Int.emod_nonneg _ (by omega))]; exact Int.emod_lt_of_pos _ m0⟩
  walk_at "go"
  refine ⟨_, _, dt0, rfl, trivial, _, rfl, ?_⟩
  walk_at "go"
  refine br_d (f = 0) (by show decide _ = true ↔ _; rw [decide_eq_true_eq]) (fun hf => ?_) (fun hf => ?_)
  · subst hf
    walk_at "go"
    refine ⟨_, _, dt0, rfl, trivial, _, rfl, ?_⟩
    walk_at "go"
    obtain ⟨v, e1, e2⟩ := pick a
    refine ⟨by omega, ?_⟩
    walk_at "go"
    refine ⟨_, _, dt0, rfl, trivial, _, rfl, ?_⟩
    walk_at "go"
    refine ⟨⟨m0, by omega⟩, ?_⟩
    walk_at "go"
    refine ⟨n, _, 0, 0, rfl, rfl, hn, rfl, ?_⟩
    walk_at "go"
    rw [← e1]
    exact h v _ e2 (.inl rfl)
  · rcases hd with hd | ⟨rfl, a0, a1⟩
    · exact absurd hd hf
    walk_at "go"
    refine ⟨_, _, dt0, rfl, trivial, _, rfl, ?_⟩
    walk_at "go"
    refine ⟨n, _, 0, 0, rfl, rfl, hn, rfl, ?_⟩
    have b0 : 0 ≤ (a * 48271 + 11) % 2147483647 := Int.emod_nonneg _ (by decide)
    have b1 : (a * 48271 + 11) % 2147483647 < 2147483647 := Int.emod_lt_of_pos _ (by decide)
    walk_at "go"
    generalize (a * 48271 + 11) % 2147483647 = a' at *
    refine ⟨_, _, dt, rfl, trivial, _, rfl, ?_⟩
    walk_at "go"
    obtain ⟨v, e1, e2⟩ := pick (a' / 7)
    refine ⟨by omega, ?_⟩
    rw [← e1]
    exact h v _ e2 (.inr ⟨rfl, b0, by omega⟩)
theorem ix_tx {l : List Nat} {v : Nat} (h : v < l.length) : ixD (.str (tx l)) (v : Int) = some (dT [l[v]]) := by
  show ((atI (tx l).cps.toList (v : Int)).map fun c => PyData.str ⟨#[c]⟩) = _
  rw [show (tx l).cps.toList = l from rfl, atI_nat h]
  rfl
theorem joinF0 : ∀ L : List (List Nat), TL.joinL [] L = L.flatten
  | [] => rfl
  | [x] => by show x = x ++ []; rw [List.append_nil]
  | x :: y :: r => by
    show x ++ ([] ++ TL.joinL [] (y :: r)) = _
    rw [joinF0 (y :: r), List.nil_append]
    rfl
theorem sum_len0 : ∀ L : List (List Nat), (L.map List.length).sum = L.flatten.length
  | [] => rfl
  | x :: r => by rw [List.map_cons, List.sum_cons, List.flatten_cons, List.length_append, sum_len0 r]
theorem join_ones {l : List Nat} (hl : l.length ≤ 2000) {q : PyData → Prop} (h : q (dT l)) : rJoinD (tx []) (.list (l.map fun c => dT [c])) q := by
  have fl : (l.map fun c => [c]).flatten = l := by
    clear hl h
    induction l with
    | nil => rfl
    | cons c r ih => rw [List.map_cons, List.flatten_cons, ih]; rfl
  have e : (l.map fun c => dT [c]) = (l.map fun c => [c]).map dT := by rw [List.map_map]; rfl
  rw [e]
  refine ⟨_, strsOf_tx _, ?_, ?_⟩
  · have e2 : ((l.map fun c => [c]).map tx).map (·.length) = (l.map fun c => [c]).map List.length := by
      rw [List.map_map]
      exact List.map_congr_left fun u _ => tx_len u
    rw [e2, sum_len0, fl]
    show l.length + _ * 0 ≤ _
    omega
  · rw [join_tx, joinF0, fl]
    exact h
def SGN : List Nat := [97, 98, 99, 100, 101, 102, 103, 104, 105, 106, 107, 108, 109, 110, 111, 112, 113, 114, 115, 116, 117, 118, 119, 120, 121, 122, 32, 35, 40, 41, 10]
theorem SGN_eq : ("abcdefghijklmnopqrstuvwxyz #()\n" : Str) = tx SGN := by decide +kernel
theorem SGN_ok : ∀ c ∈ SGN, gd c = true := by decide
theorem intsD_len : ∀ (a : Int) (n : Nat), (intsD a n).length = n := by
  intro a n
  unfold intsD
  simp
theorem get_end' {o : List OC} {m : Nat} {c : OC} (h : o.length = m) : (o ++ [c])[m]? = some c := by rw [← h]; exact get_end _ _
abbrev Drew (o o' : List OC) (n : Nat) (f : Int) : Prop := ∃ a', Dr a' f ∧ Stays o o' [n] ∧ o'[n]? = some (dr a' f)
def S_law_text : FSO := fun args o ret exc => ∃ (n : Nat) (a f : Int), args = [.own n] ∧ o[n]? = some (dr a f) ∧ Dr a f ∧ ∀ (t : List Nat) (o' : List OC), gdT t → t.length ≤ 30 → Drew o o' n f → ret (.d (dT t)) o'
def w_law_text : SW :=
 (wGd (wSeq (wAsg (wC (.str "abcdefghijklmnopqrstuvwxyz #()\n")) 1)
 (wRet (wM1 rJoinD (wC (.str "")) (wLc (wRg1 (wCallO S_law_next (wCons (wVar 0) (wCons (wC (.int 31)) wNil)))) (gN 2) wYes (wIx (wVar 1) (wCallO S_law_next (wCons (wVar 0) (wCons (wC (.int 31)) wNil)))) [2])))))
theorem cut_ap0 (o q : List OC) : cutL o.length (o ++ q) = cutL o.length o := by
  unfold cutL
  rw [List.take_append_of_le_length (Nat.le_refl _)]
theorem cut_set {o : List OC} {n : Nat} {a f : Int} (h : cutL o.length o = o) : cutL o.length (o.set n (dr a f)) = o.set n (dr a f) := by
  unfold cutL at h ⊢
  rw [← List.length_set (as := o) (i := n) (a := dr a f), List.take_length, List.map_set]
  rw [List.take_length] at h
  rw [List.length_set, h]
  rfl
theorem pure_law_text : ∀ args o ret exc, S_law_text args o ret exc → w_law_text (fun x s => exc x s.o) (pst0 args o 3) (bodyO ret) := by
  rintro _ o ret exc ⟨n, a, f, rfl, hn, hd, h⟩ hO
  have hO : cutL o.length o = o := hO
  rw [K41.lit_e, SGN_eq]
  have hl := in_len hn
  walk_at "go"
  refine ⟨n, a, f, 31, rfl, hn, hd, by decide, by decide, fun v a' hv hd' => ?_⟩
  refine ⟨(v : Int), rfl, by omega, by omega, ?_⟩
  have len : ∀ b, (o.set n (dr b f)).length = o.length := fun b => List.length_set
  refine ⟨fun j acc s => ∃ (b : Int) (l : List Nat), acc = l.map (fun c => dT [c]) ∧ l.length = j ∧ gdT l ∧ Dr b f ∧ s = (⟨[some (.own n), some (.d (.str (tx SGN))), none], o.set n (dr b f)⟩ : PSt),
    ⟨a', [], rfl, rfl, fun c m => absurd m List.not_mem_nil, hd', rfl⟩, fun _ _ _ _ _ => trivial, ?_, ?_⟩
  · rintro j x acc s2 hx hs ⟨b, l, rfl, hj, hg, hb, rfl⟩
    have hjv : j < v := by
      have := (List.getElem?_eq_some_iff.mp hx).1
      rw [intsD_len] at this
      omega
    walk_at "go"
    have gn : (o.set n (dr b f))[n]? = some (dr b f) := List.getElem?_set_self hl
    refine ⟨n, b, f, 31, rfl, get_ap' gn, hb, by decide, by decide, fun v2 b' hv2 hb' => ?_⟩
    have hv3 : v2 < SGN.length := by show v2 < 31; omega
    refine ⟨_, _, rfl, rfl, (show (tx SGN).length ≤ sizeLine from Nat.le_of_ble_eq_true rfl), _, ix_tx hv3, ?_⟩
    have e1 : (o.set n (dr b f) ++ [OC.dl (l.map fun c => dT [c])]).set n (dr b' f) = o.set n (dr b' f) ++ [OC.dl (l.map fun c => dT [c])] := by rw [set_ap (by rw [len]; exact hl), List.set_set]
    refine ⟨(congrArg (fun q : List OC => q[(o.set n (dr a' f)).length]?) e1).trans (get_end' (by rw [len, len])), by rw [List.length_map]; exact Nat.lt_of_lt_of_le (show l.length < 100 by omega) (Nat.le_of_ble_eq_true rfl), b', l ++ [SGN[v2]], by rw [List.map_append]; rfl, by rw [List.length_append, hj]; rfl, fun c m => ?_, hb', ?_⟩
    · rcases List.mem_append.mp m with m | m
      · exact hg c m
      · rw [List.mem_singleton.mp m]
        exact SGN_ok _ (List.getElem_mem hv3)
    · show (⟨([some (.own n), some (.d (.str (tx SGN))), some (.d x)].map (cutP (o.set n (dr a' f)).length)).set 2 none, cutL (o.set n (dr a' f)).length ((o.set n (dr b f) ++ [OC.dl (l.map fun c => dT [c])]).set n (dr b' f))⟩ : PSt) = _
      rw [e1, len, ← len b', cut_ap0, len, cut_set hO]
      have hc : cutP o.length (some (.own n)) = some (.own n) := if_pos hl
      show (⟨[cutP o.length (some (.own n)), _, none], _⟩ : PSt) = _
      rw [hc]
      rfl
  · rintro acc s2 hs ⟨b, l, rfl, hj, hg, hb, rfl⟩
    rw [intsD_len] at hj
    refine ⟨_, congrArg ocD (get_end' hs), ?_⟩
    refine join_ones (by omega) ?_
    refine h l _ hg (by omega) ⟨b, hb, ?_, get_ap' (List.getElem?_set_self hl)⟩
    exact (Stays.refl o [n]).set (.inl (by simp)) |>.add _
def lastE (p : Int) : List Ed → Int
  | [] => p
  | x :: r => lastE (x.2.1 : Nat) r
theorem wel_snoc {N : Nat} {b e : Nat} {w : List Nat} : ∀ {L : List Ed} {p : Int}, Wel N p L → lastE p L < b → b ≤ e → e ≤ N → gdT w → w.length ≤ 2000 → Wel N p (L ++ [(b, e, w)])
  | [], p, _, h, h1, h2, h3, h4 => ⟨h, h1, h2, h3, h4, trivial⟩
  | (b0, e0, w0) :: r, p, ⟨q1, q2, q3, q4, q5, q6⟩, h, h1, h2, h3, h4 => ⟨q1, q2, q3, q4, q5, wel_snoc q6 h h1 h2 h3 h4⟩
theorem last_snoc {b e : Nat} {w : List Nat} : ∀ {L : List Ed} {p : Int}, lastE p (L ++ [(b, e, w)]) = e
  | [], _ => rfl
  | _ :: r, _ => last_snoc (L := r)
def HDS : List (List Nat) := [[], [120], [97, 98, 32, 99], [10]]
theorem HDS_ok : ∀ l ∈ HDS, gdT l ∧ l.length ≤ 4 := by
  have : ∀ l ∈ HDS, (∀ c ∈ l, gd c = true) ∧ l.length ≤ 4 := by decide
  exact this
def LTR : List Nat := [97, 98, 99, 100, 101, 102, 103, 104, 105, 106, 107, 108, 109, 110, 111, 112, 113, 114, 115, 116, 117, 118, 119, 120, 121, 122]
theorem LTR_eq : ("abcdefghijklmnopqrstuvwxyz" : Str) = tx LTR := by decide +kernel
theorem LTR_ok : ∀ c ∈ LTR, gd c = true := by decide
structure Sm (N : Nat) (L : List Ed) : Prop where
  wel : Wel N (-1) L
  few : L.length ≤ 4
  short : ∀ x ∈ L, x.2.2.length ≤ 5
structure Qs (o q : List OC) (n m : Nat) (a f : Int) (X : List PyData) : Prop where
  st : Stays o q [n]
  dn : q[n]? = some (dr a f)
  fm : q[m]? = some (.dl X)
  ne : m ≠ n
  nl : o.length ≤ m
theorem Qs.draw {o q : List OC} {n m : Nat} {a f a' : Int} {X : List PyData} (h : Qs o q n m a f X) : Qs o (q.set n (dr a' f)) n m a' f X :=
  ⟨h.st.set (.inl (by simp)), List.getElem?_set_self (in_len h.dn), (List.getElem?_set_ne (Ne.symm h.ne)).trans h.fm, h.ne, h.nl⟩
theorem Qs.add {o q : List OC} {n m : Nat} {a f : Int} {X : List PyData} (h : Qs o q n m a f X) (r : List OC) : Qs o (q ++ r) n m a f X := ⟨h.st.add r, get_ap' h.dn, get_ap' h.fm, h.ne, h.nl⟩
theorem Qs.app {o q : List OC} {n m : Nat} {a f : Int} {X Y : List PyData} (h : Qs o q n m a f X) : Qs o (q.set m (.dl Y)) n m a f Y :=
  ⟨h.st.set (.inr h.nl), (List.getElem?_set_ne h.ne).trans h.dn, List.getElem?_set_self (in_len h.fm), h.ne, h.nl⟩
def S_law_edits : FSO := fun args o ret exc => ∃ (n : Nat) (a f : Int) (t : List Nat), args = [.own n, .d (dT t)] ∧ o[n]? = some (dr a f) ∧ Dr a f ∧ t.length ≤ 2000 ∧ ∀ (L : List Ed) (o' : List OC), Sm t.length L → Drew o o' n f → ret (.d (.tuple (L.map edD))) o'
def w_law_edits : SW :=
 (wSeq (wAsg (wLst wNil) 2)
 (wSeq (wAsg (wCallO S_law_next (wCons (wVar 0) (wCons (wC (.int 4)) wNil))) 3)
 (wSeq (wFor (wRg1 (wCallO S_law_next (wCons (wVar 0) (wCons (wC (.int 5)) wNil)))) (gN 4)
  (wSeq (wAsg (wAdd (wVar 3) (wCallO S_law_next (wCons (wVar 0) (wCons (wC (.int 4)) wNil)))) 5)
 (wSeq (wIfS (wB (wGt (wVar 5) (wLen (wVar 1))))
  wBrk
  wNext)
 (wSeq (wAsg (wAdd (wIx (wLst (wCons (wC (.str "")) (wCons (wC (.str "x")) (wCons (wC (.str "ab c")) (wCons (wC (.str "\n")) wNil))))) (wCallO S_law_next (wCons (wVar 0) (wCons (wC (.int 4)) wNil)))) (wIx (wC (.str "abcdefghijklmnopqrstuvwxyz")) (wCallO S_law_next (wCons (wVar 0) (wCons (wC (.int 26)) wNil))))) 6)
 (wSeq (wDrop (wApp (wVar 2) (wTup (wCons (wVar 3) (wCons (wVar 5) (wCons (wSl (wVar 6) (wPart (wCallO S_law_next (wCons (wVar 0) (wCons (wC (.int 2)) wNil)))) wNoPart) wNil))))))
 (wAsg (wAdd (wAdd (wVar 5) (wC (.int 1))) (wCallO S_law_next (wCons (wVar 0) (wCons (wC (.int 4)) wNil)))) 3))))))
 (wRet (wTupOf (wVar 2))))))
theorem pure_law_edits : ∀ args o ret exc, S_law_edits args o ret exc → w_law_edits (fun x s => exc x s.o) (pst0 args o 7) (bodyO ret) := by
  rintro _ o ret exc ⟨n, a, f, t, rfl, hn, hd, ht, h⟩
  unfold w_law_edits
  rw [K41.lit_e, LTR_eq]
  have hl := in_len hn
  walk_at "go"
  refine ⟨n, _, f, 4, rfl, (get_ap' hn), hd, by decide, by decide, fun v0 a0 hv0 hd0 => ?_⟩
  walk_at "go"
  have l1 : n < (o ++ [OC.dl []]).length := by rw [List.length_append]; omega
  refine ⟨n, _, f, 5, rfl, (List.getElem?_set_self (show n < ((o ++ [OC.dl []]).length) from l1)), hd0, by decide, by decide, fun v1 a1 hv1 hd1 => ?_⟩
  refine ⟨(v1 : Int), rfl, by omega, by omega, ?_⟩
  have fin : ∀ (b : Int) (L : List Ed) (r : List (Option PV)) (q : List OC), r[2]? = some (some (.own o.length)) → Dr b f → Qs o q n o.length b f (L.map edD) → Wel t.length (-1) L → L.length ≤ 4 → (∀ x ∈ L, x.2.2.length ≤ 5) → wRet (wTupOf (wVar 2)) (fun x s => exc x s.o) ⟨r, q⟩ (bodyO ret) := fun b L r q h2 hb hQ hW hl4 hsh =>
    ⟨_, h2, _, .inl (congrArg ocD hQ.fm), h L q ⟨hW, hl4, hsh⟩ ⟨b, hb, hQ.st, hQ.dn⟩⟩
  refine ⟨fun j s => ∃ (b : Int) (be : Nat) (L : List Ed) (x4 x5 x6 : Option PV) (q : List OC), s = (⟨[some (.own n), some (.d (dT t)), some (.own o.length), some (.d (.int be)), x4, x5, x6], q⟩ : PSt) ∧ Qs o q n o.length b f (L.map edD) ∧ Dr b f ∧
      Wel t.length (-1) L ∧ lastE (-1) L < be ∧ L.length ≤ j ∧ ∀ x ∈ L, x.2.2.length ≤ 5,
    ⟨a1, v0, [], none, none, none, _, rfl, ?_, hd1, trivial, ?_, Nat.le_refl _, fun x m => absurd m List.not_mem_nil⟩, fun _ _ _ _ => trivial, ?_, ?_⟩
  · have q0 : Qs o (o ++ [OC.dl []]) n o.length a f [] := ⟨(Stays.refl o [n]).add _, get_ap' hn, get_end _ _, by omega, Nat.le_refl _⟩
    exact q0.draw.draw
  · show (-1 : Int) < (v0 : Nat)
    omega
  · rintro j x s hx ⟨b, be, L, x4, x5, x6, q, rfl, hQ, hdb, hW, hlt, hj, hsh⟩
    have hjv : j < 5 := by
      have := (List.getElem?_eq_some_iff.mp hx).1
      rw [intsD_len] at this
      omega
    walk_at "go"
    refine ⟨n, _, f, 4, rfl, hQ.dn, hdb, by decide, by decide, fun v2 a2 hv2 hd2 => ?_⟩
    have hQ2 := hQ.draw (a' := a2)
    walk_at "go"
    refine br_p (fun z => ?_) (fun z => ?_)
    · exact fin a2 L [some (.own n), some (.d (dT t)), some (.own o.length), some (.d (.int be)), some (.d x), some (.d (.int ((be : Int) + (v2 : Nat)))), x6] _ rfl hd2 hQ2 hW (by omega) hsh
    have z2 : be + v2 ≤ t.length := by
      have z : ¬ (((tx t).length : Nat) : Int) < (be : Int) + (v2 : Int) := z
      rw [tx_len] at z
      omega
    walk_at "go"
    have hQ3 := hQ2.add [.dl (HDS.map dT)]
    refine ⟨n, _, f, 4, rfl, hQ3.dn, hd2, by decide, by decide, fun v3 a3 hv3 hd3 => ?_⟩
    have hQ4 := hQ3.draw (a' := a3)
    have hqn : n ≠ q.length := Nat.ne_of_lt (in_len hQ.dn)
    have dh : ((q.set n (dr a2 f) ++ [OC.dl (HDS.map dT)]).set n (dr a3 f))[(q.set n (dr a2 f)).length]? = some (.dl (HDS.map dT)) := (List.getElem?_set_ne (by rw [List.length_set]; exact hqn)).trans (get_end _ _)
    have hv3' : v3 < HDS.length := by show v3 < 4; omega
    refine ⟨_, _, congrArg ocD dh, rfl, trivial, _, PW.ix_list (by rw [List.length_map]; exact hv3'), ?_⟩
    rw [List.getElem_map]
    have h3 := HDS_ok _ (List.getElem_mem hv3')
    generalize HDS[v3] = hdw at h3 ⊢
    walk_at "go"
    refine ⟨n, _, f, 26, rfl, hQ4.dn, hd3, by decide, by decide, fun v4 a4 hv4 hd4 => ?_⟩
    have hQ5 := hQ4.draw (a' := a4)
    have hv4' : v4 < LTR.length := by show v4 < 26; omega
    refine ⟨_, _, rfl, rfl, (show (tx LTR).length ≤ sizeLine from Nat.le_of_ble_eq_true rfl), _, ix_tx hv4', ?_⟩
    have h4 := LTR_ok _ (List.getElem_mem hv4')
    generalize LTR[v4] = ltr at h4 ⊢
    walk_at "go"
    refine ⟨o.length, _, rfl, hQ5.fm, ?_⟩
    walk_at "go"
    refine ⟨n, _, f, 2, rfl, hQ5.dn, hd4, by decide, by decide, fun v5 a5 hv5 hd5 => ?_⟩
    have hQ6 := hQ5.draw (a' := a5)
    have hLl : (L.map edD).length ≤ 4 := by rw [List.length_map]; omega
    walk_at "go"
    have wl : (hdw ++ [ltr]).length ≤ 5 := by rw [List.length_append]; show _ + 1 ≤ 5; omega
    have wg : gdT (hdw ++ [ltr]) := fun c m => by
      rcases List.mem_append.mp m with m | m
      · exact h3.1 c m
      · rw [List.mem_singleton.mp m]; exact h4
    generalize hdw ++ [ltr] = wd at wl wg ⊢
    have hc : cutS (tx wd) (some ((v5 : Nat) : Int)) none = tx (wd.drop v5) := cut_tx_from wd v5
    have wl2 : (wd.drop v5).length ≤ 5 := by rw [List.length_drop]; omega
    have wg2 : gdT (wd.drop v5) := fun c m => wg c (List.mem_of_mem_drop m)
    refine ⟨_, hQ6.fm, Nat.lt_of_le_of_lt hLl (show 4 < sizeLine from Nat.le_of_ble_eq_true rfl), ?_⟩
    have hQ7 := hQ6.app (Y := L.map edD ++ [.tuple [.int (be : Nat), .int ((be : Int) + (v2 : Nat)), .str (cutS (tx wd) (some ((v5 : Nat) : Int)) none)]])
    walk_at "go"
    refine ⟨n, _, f, 4, rfl, hQ7.dn, hd5, by decide, by decide, fun v6 a6 hv6 hd6 => ?_⟩
    have hQ8 := hQ7.draw (a' := a6)
    walk_at "go"
    have eY : L.map edD ++ [.tuple [.int (be : Nat), .int ((be : Int) + (v2 : Nat)), .str (cutS (tx wd) (some ((v5 : Nat) : Int)) none)]] = (L ++ [((be, be + v2, wd.drop v5) : Ed)]).map edD := by
      rw [hc, List.map_append, show ((be : Int) + (v2 : Nat)) = ((be + v2 : Nat) : Int) by omega]
      rfl
    rw [eY] at hQ8
    refine .inl ⟨a6, be + v2 + 1 + v6, L ++ [((be, be + v2, wd.drop v5) : Ed)], some (.d x), some (.d (.int ((be : Int) + (v2 : Nat)))), some (.d (dT wd)), _, ?_, hQ8, hd6, wel_snoc hW hlt (by omega) z2 wg2 (by omega), ?_, ?_, ?_⟩
    · rw [← eY, show ((be + v2 + 1 + v6 : Nat) : Int) = (be : Int) + (v2 : Nat) + 1 + (v6 : Nat) by omega]
      rfl
    · rw [last_snoc]
      omega
    · rw [List.length_append]
      show _ + 1 ≤ _
      omega
    · intro y m
      rcases List.mem_append.mp m with m | m
      · exact hsh y m
      · rw [List.mem_singleton.mp m]
        exact wl2
  · rintro s ⟨b, be, L, x4, x5, x6, q, rfl, hQ, hdb, hW, hlt, hj, hsh⟩
    rw [intsD_len] at hj
    exact fin b L _ q rfl hdb hQ hW (by omega) hsh
end K47

namespace K47
open PySem L2 PW
open K41 hiding S_backs S_done S_is_place S_is_text S_need_edits cut_app pure_backs pure_done pure_is_place pure_is_text0 pure_need_edits set_last sh_at w_backs w_done w_is_place w_is_text w_need_edits
open K42
local macro_rules
  | `(tactic| walk_at "sz") => `(tactic| first | omega | (simp only [tx_len, List.length_append, List.length_map, List.length_cons, List.length_nil, List.length_take, List.length_drop] <;> omega))
  | `(tactic| walk_at "go") => `(tactic| repeat (first | refine ⟨rfl, ?_⟩ | refine ⟨trivial, ?_⟩ | refine ⟨_, rfl, ?_⟩ | refine ⟨_, rfl, rfl, ?_⟩ | refine ⟨_, _, rfl, rfl, ?_⟩ | refine ⟨_, ix_hd, ?_⟩ | refine br_t rfl ?_ | refine br_f rfl ?_ | (refine ⟨le_sz ?_, ?_⟩; focus walk_at "sz") | (refine ⟨lt_sz ?_, ?_⟩; focus walk_at "sz") | (refine ⟨strLe_tx ?_, ?_⟩; focus walk_at "sz") | refine ⟨cmul_r rfl, ?_⟩ | refine ⟨cmul_l rfl, ?_⟩ | refine ⟨pos_ok rfl, ?_⟩ | refine ⟨cdiv_ok rfl, ?_⟩ | refine ⟨_, _, _, _, rfl, rfl, rfl, rfl, ?_⟩ | refine ⟨_, _, rfl, ?_⟩ | refine ⟨_, _, _, rfl, rfl, rfl, ?_⟩ | refine ⟨_, _, _, rfl, rfl, ?_⟩ | rw [tx_app]))
def wayD (w : List Nat) : PyData := .tuple (w.map fun k => .int (k : Nat))
def Way : PyData → List Nat → Prop
  | _, [] => True
  | x, k :: w => ∃ xs y, x = .tuple xs ∧ xs[k]? = some y ∧ Way y w
def Td : Nat → PyData → Prop
  | 0, _ => False
  | n + 1, x => kitB (tyD x) "tuple" = some false ∨ ∃ xs, x = .tuple xs ∧ xs.length ≤ 10 ∧ ∀ y ∈ xs, Td n y
def S_law_spots (n : Nat) : FS := fun args o ret exc => ∃ x, args = [.d x] ∧ o = [] ∧ Td n x ∧ n ≤ 3 ∧ ∀ W : List (List Nat), W ≠ [] → W.length ≤ 11 ^ n → (∀ w ∈ W, Way x w ∧ w.length ≤ n) → ret (.new (W.map wayD)) []
def w_law_spots (R_law_spots : FS) : SW :=
 (wSeq (wAsg (wLst (wCons (wTup wNil) wNil)) 1)
 (wSeq (wIfS (wB (wIsi "tuple" (wVar 0)))
  (wFor (wEnT (wVar 0)) (gT 2 (gsCons (gN 2) (gsCons (gN 3) gsNil)))
  (wAsg (wCat (wVar 1) (wLc (wL (wCall R_law_spots (wCons (wVar 3) wNil))) (gN 4) wYes (wCatT (wTup (wCons (wVar 2) wNil)) (wVar 4)) [4])) 1))
  wNext)
 (wRet (wVar 1))))
theorem zero_law_spots : ∀ args o r e, ¬ S_law_spots 0 args o r e := by
  rintro args o r e ⟨x, _, _, h, _⟩
  exact h
def Pl (o : List OC) : Prop := ∀ c ∈ o, c = .no ∨ ∃ xs, c = .dl xs
theorem Pl.cut {o : List OC} (h : Pl o) : cutL o.length o = o := by
  unfold cutL
  rw [List.take_length]
  refine (List.map_congr_left fun c m => ?_).trans (List.map_id o)
  rcases h c m with rfl | ⟨xs, rfl⟩ <;> rfl
theorem Pl.nil : Pl [] := fun c m => absurd m List.not_mem_nil
theorem Pl.app {o q : List OC} (h : Pl o) (g : Pl q) : Pl (o ++ q) := fun c m => (List.mem_append.mp m).elim (h c) (g c)
theorem Pl.one (xs : List PyData) : Pl [.dl xs] := fun c m => .inr ⟨xs, List.mem_singleton.mp m⟩
theorem Pl.no : Pl [.no] := fun c m => .inl (List.mem_singleton.mp m)
theorem pure_law_spots (n : Nat) : ∀ args o ret exc, S_law_spots (n + 1) args o ret exc → w_law_spots (S_law_spots n) (fun x s => exc x (cutL o.length s.o)) (pst0 args o 5) (bodyE o.length ret) := by
  rintro _ _ ret exc ⟨x, rfl, rfl, hT, hn3, h⟩
  unfold w_law_spots
  walk_at "go"
  rcases hT with hT | ⟨xs, rfl, hl, hT⟩
  · refine ⟨_, false, rfl, hT, ?_⟩
    walk_at "go"
    exact ⟨Nat.le_refl _, _, rfl, h [[]] (by simp) (by show 1 ≤ _; exact Nat.one_le_pow _ _ (by decide)) fun w m => by rw [List.mem_singleton.mp m]; exact ⟨trivial, Nat.zero_le _⟩⟩
  · walk_at "go"
    have hp : 11 ^ n ≤ 1331 := Nat.le_trans (Nat.pow_le_pow_right (by decide) (by omega : n ≤ 3)) (by decide)
    refine ⟨fun j s => ∃ (m : Nat) (x2 x3 : Option PV) (o : List OC) (W : List (List Nat)), s = (⟨[some (.d (.tuple xs)), some (.own m), x2, x3, none], o⟩ : PSt) ∧ Pl o ∧ o[m]? = some (.dl (W.map wayD)) ∧ W ≠ [] ∧ W.length ≤ 1 + j * 11 ^ n ∧ ∀ w ∈ W, Way (.tuple xs) w ∧ w.length ≤ n + 1,
      ⟨0, none, none, _, [[]], rfl, Pl.one _, rfl, by simp, Nat.le_add_right _ _, fun w m => by rw [List.mem_singleton.mp m]; exact ⟨trivial, Nat.zero_le _⟩⟩, fun _ _ _ _ => trivial, ?_, ?_⟩
    · rintro j x s hx ⟨m, x2, x3, o, W, rfl, hP, hm, hW0, hWl, hW⟩
      have hj : j < xs.length := by
        have := (List.getElem?_eq_some_iff.mp hx).1
        rw [enumD_len] at this
        exact this
      rw [enumD_get, List.getElem?_eq_getElem hj] at hx
      cases hx
      have hy : xs[j]? = some xs[j] := List.getElem?_eq_getElem hj
      have hTy := hT _ (List.getElem_mem hj)
      generalize xs[j] = y at hy hTy
      rw [Nat.zero_add]
      have hml := in_len hm
      walk_at "go"
      refine ⟨hTy, by omega, fun W' h0' hl' hw' => ?_⟩
      refine ⟨_, get_end _ _, _, rfl, ?_⟩
      have hne : ¬ m = o.length := by omega
      have hs : ∀ v, subO o.length v (some (.own m)) = some (.own m) := fun v => subO_ne hne
      have ho : ∀ c, (o ++ [c]).set o.length .no = o ++ [OC.no] := fun c => by rw [List.set_append_right _ _ (Nat.le_refl _), Nat.sub_self]; rfl
      have P1 : Pl (o ++ [OC.no]) := hP.app Pl.no
      have hw1 : ∀ w ∈ W', Way (.tuple xs) (j :: w) ∧ (j :: w).length ≤ n + 1 := fun w mw => ⟨⟨xs, y, rfl, hy, (hw' w mw).1⟩, Nat.succ_le_succ (hw' w mw).2⟩
      refine ⟨fun i acc s => acc = ((W'.take i).map (fun w => wayD (j :: w))) ∧ s = (⟨[some (.d (.tuple xs)), some (.own m), some (.d (.int (j : Nat))), some (.d y), none], o ++ [.no]⟩ : PSt), ?_, fun _ _ _ _ _ => trivial, ?_, ?_⟩
      · refine ⟨rfl, ?_⟩
        show (⟨[_, subO o.length _ (some (.own m)), _, _, none], (o ++ [OC.dl _]).set o.length .no⟩ : PSt) = _
        rw [hs, ho]
        rfl
      · rintro i x acc s2 hx hs2 ⟨rfl, rfl⟩
        obtain ⟨hi, rfl⟩ := map_get hx
        have ht : W'.take (i + 1) = W'.take i ++ [W'[i]] := List.take_succ_eq_append_getElem hi
        have hwi := hw1 _ (List.getElem_mem hi)
        walk_at "go"
        have hX : ((o ++ [OC.dl (W'.map wayD)]).set o.length .no).length = (o ++ [OC.no]).length := by rw [ho]
        refine ⟨Nat.le_trans (show 1 + (W'[i].map fun k => PyData.int (k : Nat)).length ≤ 5 by rw [List.length_map]; have := (hw' _ (List.getElem_mem hi)).2; omega) (Nat.le_of_ble_eq_true rfl), get_end' hs2,
          Nat.lt_of_le_of_lt (show _ ≤ 1331 by rw [List.length_map, List.length_take]; omega) (show 1331 < sizeLine from Nat.le_of_ble_eq_true rfl), by rw [ht, List.map_append]; rfl, ?_⟩
        show (⟨([some (.d (.tuple xs)), some (.own m), some (.d (.int (j : Nat))), some (.d y), some (.d (wayD W'[i]))].map (cutP ((o ++ [OC.dl (W'.map wayD)]).set o.length .no).length)).set 4 none, cutL ((o ++ [OC.dl (W'.map wayD)]).set o.length .no).length ((o ++ [.no]) ++ [.dl ((W'.take i).map fun w => wayD (j :: w))])⟩ : PSt) = _
        rw [hX, cut_ap0, P1.cut]
        have hc : cutP (o ++ [OC.no]).length (some (.own m)) = some (.own m) := if_pos (by rw [List.length_append]; omega)
        show (⟨[_, cutP (o ++ [OC.no]).length (some (.own m)), _, _, none], _⟩ : PSt) = _
        rw [hc]
        rfl
      · rintro acc s2 hs2 ⟨rfl, rfl⟩
        rw [List.length_map, List.take_length]
        have q1 : (o ++ [OC.no] ++ [OC.dl (W'.map fun w => wayD (j :: w))])[m]? = some (.dl (W.map wayD)) := get_ap' (get_ap' hm)
        have hjx : j * 11 ^ n ≤ 9 * 11 ^ n := Nat.mul_le_mul_right _ (by omega)
        refine ⟨W.map wayD, W'.map fun w => wayD (j :: w), ?_, ?_, ?_, ?_⟩
        · exact congrArg ocD q1
        · exact congrArg ocD (get_end' hs2)
        · exact Nat.le_trans (show _ ≤ 20000 by rw [List.length_map, List.length_map]; omega) (Nat.le_of_ble_eq_true rfl)
        · refine .inl ⟨(o ++ [OC.no] ++ [OC.dl (W'.map fun w => wayD (j :: w))]).length, some (.d (.int (j : Nat))), some (.d y), _, W ++ W'.map (j :: ·), rfl, (P1.app (Pl.one _)).app (Pl.one _), ?_, by simp [hW0], ?_, ?_⟩
          · rw [get_end, List.map_append, List.map_map]
            rfl
          · rw [List.length_append, List.length_map, Nat.succ_mul]
            omega
          · intro w mw
            rcases List.mem_append.mp mw with mw | mw
            · exact hW w mw
            · obtain ⟨w', m', rfl⟩ := List.mem_map.mp mw
              exact hw1 w' m'
    · rintro s ⟨m, x2, x3, o, W, rfl, hP, hm, hW0, hWl, hW⟩
      rw [enumD_len] at hWl
      refine ⟨_, rfl, Nat.zero_le _, _, hm, ?_⟩
      refine h W hW0 (Nat.le_trans hWl ?_) hW
      have : xs.length * 11 ^ n ≤ 10 * 11 ^ n := Nat.mul_le_mul_right _ hl
      have h1 : 1 ≤ 11 ^ n := Nat.one_le_pow _ _ (by decide)
      rw [Nat.pow_succ]
      omega
def withD (z : PyData) : PyData → List Nat → PyData
  | _, [] => z
  | .tuple xs, k :: w => .tuple (xs.take k ++ [withD z (xs.getD k .none) w] ++ xs.drop (k + 1))
  | x, _ :: _ => x
def S_law_with (n : Nat) : FS := fun args o ret exc => ∃ (x z : PyData) (w : List Nat), args = [.d x, .d (wayD w), .d z] ∧ o = [] ∧ Td n x ∧ Way x w ∧ w.length < n ∧ n ≤ 3 ∧ ret (.d (withD z x w)) []
def w_law_with (R_law_with : FS) : SW :=
 (wSeq (wIfS (wB (wEq (wVar 1) (wTup wNil)))
  (wRet (wVar 2))
  wNext)
 (wSeq (wAsg (wIx (wVar 1) (wC (.int 0))) 3)
 (wRet (wCatT (wCatT (wSl (wVar 0) wNoPart (wPart (wVar 3))) (wTup (wCons (wCall R_law_with (wCons (wIx (wVar 0) (wVar 3)) (wCons (wSl (wVar 1) (wPart (wC (.int 1))) wNoPart) (wCons (wVar 2) wNil)))) wNil))) (wSl (wVar 0) (wPart (wAdd (wVar 3) (wC (.int 1)))) wNoPart)))))
theorem zero_law_with : ∀ args o r e, ¬ S_law_with 0 args o r e := by
  rintro args o r e ⟨x, z, w, _, _, h, _⟩
  exact h
theorem way_small : ∀ (n : Nat) (x : PyData) (w : List Nat), Td n x → Way x w → ∀ k ∈ w, k < 10
  | _, _, [], _, _, k, m => absurd m List.not_mem_nil
  | 0, _, _ :: _, h, _, _, _ => h.elim
  | n + 1, x, j :: w, hT, ⟨xs, y, e, hy, hw⟩, k, m => by
    subst e
    rcases hT with hT | ⟨ys, e, hl, hT⟩
    · cases hT
    cases e
    rcases List.mem_cons.mp m with rfl | m
    · have := (List.getElem?_eq_some_iff.mp hy).1
      omega
    · exact way_small n y w (hT y (List.mem_of_getElem? hy)) hw k m
theorem shaped_way {w : List Nat} (h : ∀ k ∈ w, k < 10) : SeqAt.shaped (wayD w) = true := shaped_tup fun x m => by
  obtain ⟨k, hk, rfl⟩ := List.mem_map.mp m
  have := h k hk
  refine ⟨?_, by show 0 ≤ 60; decide⟩
  have : ∀ k < 10, (PyData.int (k : Nat)).canLay0 = true := by decide
  exact this k (h k hk)
theorem pure_law_with (n : Nat) : ∀ args o ret exc, S_law_with (n + 1) args o ret exc → w_law_with (S_law_with n) (fun x s => exc x (cutL o.length s.o)) (pst0 args o 4) (bodyE o.length ret) := by
  rintro _ _ ret exc ⟨x, z, w, rfl, rfl, hT, hw, hl, hn3, h⟩
  unfold w_law_with
  have hsm := way_small _ _ _ hT hw
  walk_at "go"
  have ok : eqOk (wayD w) (.tuple []) = true := by
    unfold eqOk
    rw [shaped_way hsm, show SeqAt.shaped (PyData.tuple []) = true from by decide]
    simp
  refine ⟨ok, ?_⟩
  cases w with
  | nil =>
    walk_at "go"
    exact h
  | cons k w =>
    obtain ⟨xs, y, rfl, hy, hw⟩ := hw
    rcases hT with hT | ⟨xs', e, hxl, hT⟩
    · cases hT
    cases e
    have hk := (List.getElem?_eq_some_iff.mp hy).1
    unfold wayD
    rw [List.map_cons]
    walk_at "go"
    refine ⟨.int (k : Nat), PW.ix_tup (l := PyData.int (k : Nat) :: w.map fun k => PyData.int (k : Nat)) (i := 0) (by simp), ?_⟩
    walk_at "go"
    refine ⟨y, (PW.ix_tup hk).trans ((List.getElem?_eq_getElem hk).symm.trans hy), ?_⟩
    walk_at "go"
    have hl : w.length < n := by have : (k :: w).length < n + 1 := hl; exact Nat.lt_of_succ_lt_succ this
    refine ⟨y, z, w, ?_, rfl, hT y (List.mem_of_getElem? hy), hw, hl, by omega, ?_⟩
    · have e : cutD ((k :: w).map fun k => PyData.int (k : Nat)) (some 1) none = w.map fun k => PyData.int (k : Nat) := cutD_from _ 1
      show [PV.d y, PV.d (.tuple (cutD ((k :: w).map fun k => PyData.int (k : Nat)) (some 1) none)), PV.d z] = _
      rw [e]
      rfl
    have sm : 20 ≤ sizeLine := Nat.le_of_ble_eq_true rfl
    have t1 : (cutD xs none (some (k : Int))) = xs.take k := cutD_to xs k
    have t2 : (cutD xs (some ((k : Int) + 1)) none) = xs.drop (k + 1) := cutD_from xs (k + 1)
    have l1 : (xs.take k).length ≤ 10 := by rw [List.length_take]; omega
    have l2 : (xs.drop (k + 1)).length ≤ 10 := by rw [List.length_drop]; omega
    refine ⟨Nat.le_trans (show 1 ≤ 20 by decide) sm, _, _, rfl, rfl, ?_, ?_⟩
    · rw [t1]
      exact Nat.le_trans (show _ + 1 ≤ 20 by omega) sm
    walk_at "go"
    rw [t1, t2]
    refine ⟨Nat.le_trans (show _ ≤ 20 + 1 by rw [List.length_append]; show _ + 1 + _ ≤ _; omega) (Nat.le_of_ble_eq_true rfl), ?_⟩
    have hg : xs.getD k .none = y := by rw [List.getD_eq_getElem?_getD, hy]; rfl
    have h : ret (.d (.tuple (xs.take k ++ [withD z (xs.getD k .none) w] ++ xs.drop (k + 1)))) [] := h
    rw [hg] at h
    exact h
end K47

namespace K47
open PySem L2 PW
open K41 hiding S_backs S_done S_is_place S_is_text S_need_edits cut_app pure_backs pure_done pure_is_place pure_is_text0 pure_need_edits set_last sh_at w_backs w_done w_is_place w_is_text w_need_edits
open K42
local macro_rules
  | `(tactic| walk_at "sz") => `(tactic| first | omega | (simp only [tx_len, List.length_append, List.length_map, List.length_cons, List.length_nil, List.length_take, List.length_drop] <;> omega))
  | `(tactic| walk_at "go") => `(tactic| repeat (first | refine ⟨rfl, ?_⟩ | refine ⟨trivial, ?_⟩ | refine ⟨_, rfl, ?_⟩ | refine ⟨_, rfl, rfl, ?_⟩ | refine ⟨_, _, rfl, rfl, ?_⟩ | refine ⟨_, ix_hd, ?_⟩ | refine br_t rfl ?_ | refine br_f rfl ?_ | (refine ⟨le_sz ?_, ?_⟩; focus walk_at "sz") | (refine ⟨lt_sz ?_, ?_⟩; focus walk_at "sz") | (refine ⟨strLe_tx ?_, ?_⟩; focus walk_at "sz") | refine ⟨cmul_r rfl, ?_⟩ | refine ⟨cmul_l rfl, ?_⟩ | refine ⟨pos_ok rfl, ?_⟩ | refine ⟨cdiv_ok rfl, ?_⟩ | refine ⟨_, _, _, _, rfl, rfl, rfl, rfl, ?_⟩ | refine ⟨_, _, rfl, ?_⟩ | refine ⟨_, _, _, rfl, rfl, rfl, ?_⟩ | refine ⟨_, _, _, rfl, rfl, ?_⟩ | rw [tx_app]))
def gdTab (l : List Nat) : Prop := ∀ c ∈ l, gd c = true ∨ c = 9
def Sane : Nat → PyData → Prop
  | 0, _ => False
  | _ + 1, .none => True
  | _ + 1, .bool _ => True
  | _ + 1, .int i => i.natAbs ≤ 1000
  | _ + 1, .str s => ∃ l, s = tx l ∧ gdTab l ∧ l.length ≤ 10
  | n + 1, .list xs => xs.length ≤ 5 ∧ ∀ y ∈ xs, Sane n y
  | n + 1, .tuple xs => xs.length ≤ 5 ∧ ∀ y ∈ xs, Sane n y
  | _ + 1, .dict _ => False
theorem Sane.mono : ∀ {n : Nat} {x : PyData}, Sane n x → ∀ {m : Nat}, n ≤ m → Sane m x
  | n + 1, x, h, 0, e => absurd e (by omega)
  | n + 1, .none, h, m + 1, e => trivial
  | n + 1, .bool _, h, m + 1, e => trivial
  | n + 1, .int _, h, m + 1, e => h
  | n + 1, .str _, h, m + 1, e => h
  | n + 1, .list xs, h, m + 1, e => ⟨h.1, fun y my => (h.2 y my).mono (by omega)⟩
  | n + 1, .tuple xs, h, m + 1, e => ⟨h.1, fun y my => (h.2 y my).mono (by omega)⟩
theorem gdTab_of {l : List Nat} (h : gdT l) : gdTab l := fun c m => .inl (h c m)
theorem sane_tx {n : Nat} {l : List Nat} (h : gdTab l) (hl : l.length ≤ 10) : Sane (n + 1) (dT l) := ⟨l, rfl, h, hl⟩
theorem upper_gd {l : List Nat} (h : gdT l) : ∃ l', Txt.upper (tx l) = tx l' ∧ gdTab l' ∧ l'.length = l.length := by
  have hA : ∀ c ∈ (tx l).cps.toList, c < 128 := fun c m => by
    have := h c m
    unfold gd at this
    simp only [Bool.or_eq_true, Bool.and_eq_true, decide_eq_true_eq] at this
    omega
  refine ⟨l.map PyProof.Rows.up1, ?_, fun c m => ?_, List.length_map _⟩
  · rw [PyProof.Rows.upper_ascii hA]
    show (⟨l.toArray.map PyProof.Rows.up1⟩ : Str) = ⟨(l.map PyProof.Rows.up1).toArray⟩
    rw [List.map_toArray]
  · obtain ⟨b, mb, rfl⟩ := List.mem_map.mp m
    have hb := h b mb
    have all : ∀ c < 127, gd c = true → gd (PyProof.Rows.up1 c) = true := by decide +kernel
    refine .inl (all b ?_ hb)
    have := hA b mb
    unfold gd at hb
    simp only [Bool.or_eq_true, Bool.and_eq_true, decide_eq_true_eq] at hb
    omega
def Stp (x : PyData) : Prop := (∃ l, x = dT l ∧ gdT l ∧ l.length ≤ 6) ∨ (∃ i : Int, x = .int i ∧ 0 ≤ i ∧ i ≤ 100) ∨ ∃ xs, x = .tuple xs ∧ xs.length ≤ 4 ∧ ∀ y ∈ xs, Sane 2 y
def S_law_step : FSO := fun args o ret exc => ∃ (n : Nat) (a f : Int) (x : PyData), args = [.own n, .d x] ∧ o[n]? = some (dr a f) ∧ Dr a f ∧ Stp x ∧ ∀ (z : PyData) (o' : List OC), Sane 4 z → Drew o o' n f → ret (.d z) o'
def w_law_step : SW :=
 (wSeq (wIfS (wB (wIsi "str" (wVar 1)))
  (wSeq (wAsg (wCallO S_law_next (wCons (wVar 0) (wCons (wAdd (wLen (wVar 1)) (wC (.int 1))) wNil))) 2)
 (wSeq (wAsg (wIx (wC (.str "abcdefghijklmnopqrstuvwxyz AZ09#(\n\t")) (wCallO S_law_next (wCons (wVar 0) (wCons (wC (.int 35)) wNil)))) 3)
 (wSeq (wAsg (wLst (wCons (wAdd (wAdd (wSl (wVar 1) wNoPart (wPart (wVar 2))) (wVar 3)) (wSl (wVar 1) (wPart (wAdd (wVar 2) (wC (.int 1)))) wNoPart)) (wCons (wAdd (wAdd (wSl (wVar 1) wNoPart (wPart (wVar 2))) (wVar 3)) (wSl (wVar 1) (wPart (wVar 2)) wNoPart)) (wCons (wAdd (wSl (wVar 1) wNoPart (wPart (wVar 2))) (wSl (wVar 1) (wPart (wAdd (wVar 2) (wC (.int 1)))) wNoPart)) wNil)))) 4)
 (wRet (wIx (wCat (wVar 4) (wLst (wCons (wC (.str "")) (wCons (wUpper (wVar 1)) (wCons (wTup (wCons (wVar 1) wNil)) (wCons (wC .none) wNil)))))) (wCallO S_law_next (wCons (wVar 0) (wCons (wC (.int 7)) wNil))))))))
  wNext)
 (wSeq (wIfS (wB (wIsi "int" (wVar 1)))
  (wSeq (wAsg (wLst (wCons (wAdd (wVar 1) (wC (.int 1))) (wCons (wSub (wVar 1) (wC (.int 1))) (wCons (wAdd (wVar 1) (wC (.int 2))) (wCons (wC (.int 0)) (wCons (wNeg (wC (.int 1))) (wCons (wSub (wC (.int 0)) (wVar 1)) (wCons (wAdd (wVar 1) (wC (.int 40))) (wCons (wStrI (wVar 1)) (wCons (wEq (wVar 1) (wC (.int 1))) (wCons (wC .none) (wCons (wTup (wCons (wVar 1) wNil)) wNil)))))))))))) 4)
 (wRet (wIx (wVar 4) (wCallO S_law_next (wCons (wVar 0) (wCons (wC (.int 11)) wNil))))))
  wNext)
 (wSeq (wAsg (wCallO S_law_next (wCons (wVar 0) (wCons (wMax2 (wC (.int 1)) (wLen (wVar 1))) wNil))) 2)
 (wSeq (wAsg (wLst (wCons (wCatT (wSl (wVar 1) wNoPart (wPart (wVar 2))) (wSl (wVar 1) (wPart (wAdd (wVar 2) (wC (.int 1)))) wNoPart)) (wCons (wCatT (wSl (wVar 1) wNoPart (wPart (wAdd (wVar 2) (wC (.int 1))))) (wSl (wVar 1) (wPart (wVar 2)) wNoPart)) (wCons (wCatT (wSl (wVar 1) wNoPart (wPart (wVar 2))) (wRevT (wSl (wVar 1) (wPart (wVar 2)) wNoPart))) (wCons (wRevT (wVar 1)) wNil))))) 4)
 (wRet (wIx (wCat (wVar 4) (wLst (wCons (wListOf (wVar 1)) (wCons (wTup (wCons (wVar 1) wNil)) (wCons (wTup wNil) (wCons (wC .none) wNil)))))) (wCallO S_law_next (wCons (wVar 0) (wCons (wC (.int 8)) wNil)))))))))
def SG2 : List Nat := [97, 98, 99, 100, 101, 102, 103, 104, 105, 106, 107, 108, 109, 110, 111, 112, 113, 114, 115, 116, 117, 118, 119, 120, 121, 122, 32, 65, 90, 48, 57, 35, 40, 10, 9]
theorem SG2_eq : ("abcdefghijklmnopqrstuvwxyz AZ09#(\n\t" : Str) = tx SG2 := by decide +kernel
theorem SG2_ok : gdTab SG2 := by
  have : ∀ c ∈ SG2, gd c = true ∨ c = 9 := by decide
  exact this
theorem pure_law_step : ∀ args o ret exc, S_law_step args o ret exc → w_law_step (fun x s => exc x s.o) (pst0 args o 5) (bodyO ret) := by
  rintro _ o ret exc ⟨n, a, f, x, rfl, hn, hd, hx, h⟩
  unfold w_law_step
  rw [K41.lit_e, SG2_eq]
  have hl := in_len hn
  have d0 : Drew o o n f := ⟨a, hd, Stays.refl _ _, hn⟩
  have fin : ∀ (Z : List PyData) (v : Nat) (a' : Int) (m : Nat) (q : List OC) {r : List (Option PV)} {a0 : Int}, (∀ z ∈ Z, Sane 4 z) → (v : Int) < (Z.length : Nat) → Dr a' f → Qs o q n m a0 f Z →
      ∃ a i, dat ⟨r, q.set n (dr a' f)⟩ (.own m) = some a ∧ dat ⟨r, q.set n (dr a' f)⟩ (.d (.int (v : Nat))) = some (.int i) ∧ strLe a ∧ ∃ z, ixD a i = some z ∧ (bodyO ret).rt (.d z) ⟨r, q.set n (dr a' f)⟩ := fun Z v a' m q r a0 hZ hv hd' hQ => by
    have hv' : v < Z.length := by omega
    have hQ2 := hQ.draw (a' := a')
    exact ⟨_, _, congrArg ocD hQ2.fm, rfl, trivial, _, PW.ix_list hv', h _ _ (hZ _ (List.getElem_mem hv')) ⟨a', hd', hQ2.st, hQ2.dn⟩⟩
  rcases hx with ⟨l, rfl, hg, hll⟩ | ⟨i, rfl, i0, i1⟩ | ⟨xs, rfl, hxl, hxs⟩
  · walk_at "go"
    refine ⟨n, a, f, _, rfl, hn, hd, ?_, ?_, fun v a' hv hd' => ?_⟩
    · show (0 : Int) < ((tx l).length : Nat) + 1
      omega
    · show ((tx l).length : Nat) + 1 ≤ (100000 : Int)
      rw [tx_len]; omega
    have hv : v ≤ l.length := by
      have hv : (v : Int) < ((tx l).length : Nat) + 1 := hv
      rw [tx_len] at hv; omega
    walk_at "go"
    refine ⟨n, _, f, 35, rfl, List.getElem?_set_self hl, hd', by decide, by decide, fun v2 a2 hv2 hd2 => ?_⟩
    have hv2' : v2 < SG2.length := by show v2 < 35; omega
    refine ⟨_, _, rfl, rfl, (show (tx SG2).length ≤ sizeLine from Nat.le_of_ble_eq_true rfl), _, ix_tx hv2', ?_⟩
    have hs := SG2_ok _ (List.getElem_mem hv2')
    generalize SG2[v2] = sg at hs ⊢
    have c1 : cutS (tx l) none (some ((v : Nat) : Int)) = tx (l.take v) := cut_tx_to l v
    have c2 : cutS (tx l) (some ((v : Nat) : Int)) none = tx (l.drop v) := cut_tx_from l v
    have c3 : cutS (tx l) (some (((v : Nat) : Int) + 1)) none = tx (l.drop (v + 1)) := cut_tx_from l (v + 1)
    have tk : (l.take v).length ≤ 6 := by rw [List.length_take]; omega
    have dk : (l.drop v).length ≤ 6 := by rw [List.length_drop]; omega
    have dk1 : (l.drop (v + 1)).length ≤ 6 := by rw [List.length_drop]; omega
    obtain ⟨lu, eu, hu, hul⟩ := upper_gd hg
    walk_at "go"
    rw [c1]
    walk_at "go"
    rw [c3]
    walk_at "go"
    rw [c1]
    walk_at "go"
    rw [c2]
    walk_at "go"
    rw [c1]
    walk_at "go"
    rw [c3]
    walk_at "go"
    refine ⟨by rw [tx_len]; omega, ?_⟩
    rw [eu]
    walk_at "go"
    have S0 : Stays o ((o.set n (dr a' f)).set n (dr a2 f)) [n] := ((Stays.refl o [n]).set (.inl (by simp))).set (.inl (by simp))
    have D0 : ((o.set n (dr a' f)).set n (dr a2 f))[n]? = some (dr a2 f) := List.getElem?_set_self (by rw [List.length_set]; exact hl)
    refine ⟨_, _, congrArg ocD (get_ap' (get_end _ _)), congrArg ocD (get_end _ _), (show 3 + 4 ≤ sizeLine from Nat.le_of_ble_eq_true rfl), ?_⟩
    walk_at "go"
    refine ⟨n, _, f, 7, rfl, get_ap' (get_ap' (get_ap' D0)), hd2, by decide, by decide, fun v3 a3 hv3 hd3 => ?_⟩
    refine fin _ v3 a3 _ (_ ++ [OC.dl _] ++ [OC.dl _] ++ [OC.dl _]) ?hz ?hv hd3 ⟨((S0.add _).add _).add _, get_ap' (get_ap' (get_ap' D0)), get_end _ _, ?hn, ?hl⟩
    case hv => exact hv3
    case hz =>
      have hsg : gdTab [sg] := fun c m => by rw [List.mem_singleton.mp m]; exact hs
      have ap : ∀ {a b : List Nat}, gdTab a → gdTab b → gdTab (a ++ b) := fun {a b} x y c m => (List.mem_append.mp m).elim (x c) (y c)
      have g1 : gdTab (l.take v) := gdTab_of fun c m => hg c (List.mem_of_mem_take m)
      have g2 : gdTab (l.drop v) := gdTab_of fun c m => hg c (List.mem_of_mem_drop m)
      have g3 : gdTab (l.drop (v + 1)) := gdTab_of fun c m => hg c (List.mem_of_mem_drop m)
      intro z hz
      simp only [List.cons_append, List.nil_append, List.mem_cons, List.not_mem_nil, or_false] at hz
      rcases hz with rfl | rfl | rfl | rfl | rfl | rfl | rfl
      · exact sane_tx (ap (ap g1 hsg) g3) (by rw [List.length_append, List.length_append]; show _ + 1 + _ ≤ 10; rw [List.length_take, List.length_drop]; omega)
      · exact sane_tx (ap (ap g1 hsg) g2) (by rw [List.length_append, List.length_append]; show _ + 1 + _ ≤ 10; rw [List.length_take, List.length_drop]; omega)
      · exact sane_tx (ap g1 g3) (by rw [List.length_append, List.length_take, List.length_drop]; omega)
      · exact sane_tx (l := []) (fun c m => absurd m List.not_mem_nil) (by decide)
      · exact sane_tx hu (by omega)
      · exact ⟨by show 1 ≤ 5; decide, fun y my => by rw [List.mem_singleton.mp my]; exact sane_tx (gdTab_of hg) (by omega)⟩
      · exact trivial
    case hn =>
      show ¬ ((o.set n (dr a' f)).set n (dr a2 f) ++ [OC.dl _] ++ [OC.dl _]).length = n
      rw [List.length_append, List.length_append, List.length_set, List.length_set]
      omega
    case hl =>
      show o.length ≤ ((o.set n (dr a' f)).set n (dr a2 f) ++ [OC.dl _] ++ [OC.dl _]).length
      rw [List.length_append, List.length_append, List.length_set, List.length_set]
      omega
  · walk_at "go"
    refine ⟨Nat.lt_of_le_of_lt (Nat.log2_le_self _) (by omega), ?_⟩
    walk_at "go"
    refine ⟨n, a, f, 11, rfl, get_ap' hn, hd, by decide, by decide, fun v a' hv hd' => ?_⟩
    refine fin _ v a' o.length (o ++ [OC.dl _]) ?hz ?hv hd' ⟨(Stays.refl o [n]).add _, get_ap' hn, get_end _ _, by omega, Nat.le_refl _⟩
    case hv => exact hv
    case hz =>
      obtain ⟨m, rfl⟩ : ∃ m : Nat, i = (m : Nat) := ⟨i.toNat, by omega⟩
      have dg : ∀ m < 101, (∀ c ∈ (Nat.toDigits 10 m).map Char.toNat, gd c = true) ∧ ((Nat.toDigits 10 m).map Char.toNat).length ≤ 10 := by decide +kernel
      have hm := dg m (by omega)
      have es : (PyData.str (Str.ofString (toString (m : Int)))) = dT ((Nat.toDigits 10 m).map Char.toNat) := str_int m
      rw [es]
      have k : ∀ i : Int, i.natAbs ≤ 1000 → Sane 4 (.int i) := fun i h => h
      intro z hz
      simp only [List.mem_cons, List.not_mem_nil, or_false] at hz
      rcases hz with rfl | rfl | rfl | rfl | rfl | rfl | rfl | rfl | rfl | rfl | rfl
      · exact k _ (by omega)
      · exact k _ (by omega)
      · exact k _ (by omega)
      · exact k _ (by decide)
      · exact k _ (by decide)
      · exact k _ (by omega)
      · exact k _ (by omega)
      · exact sane_tx (gdTab_of hm.1) hm.2
      · exact trivial
      · exact trivial
      · exact ⟨by show 1 ≤ 5; decide, fun y my => by rw [List.mem_singleton.mp my]; exact (show ((m : Int)).natAbs ≤ 1000 by omega)⟩
  · walk_at "go"
    refine ⟨n, a, f, _, rfl, hn, hd, ?_, ?_, fun v a' hv hd' => ?_⟩
    · show (0 : Int) < if ((xs.length : Nat) : Int) > 1 then ((xs.length : Nat) : Int) else 1
      split <;> omega
    · show (if ((xs.length : Nat) : Int) > 1 then ((xs.length : Nat) : Int) else 1) ≤ 100000
      split <;> omega
    have e1 : cutD xs none (some ((v : Nat) : Int)) = xs.take v := cutD_to xs v
    have e2 : cutD xs (some (((v : Nat) : Int) + 1)) none = xs.drop (v + 1) := cutD_from xs (v + 1)
    have e3 : cutD xs none (some (((v : Nat) : Int) + 1)) = xs.take (v + 1) := cutD_to xs (v + 1)
    have e4 : cutD xs (some ((v : Nat) : Int)) none = xs.drop v := cutD_from xs v
    have n1 : (xs.take v).length ≤ 4 := by rw [List.length_take]; omega
    have n2 : (xs.drop (v + 1)).length ≤ 4 := by rw [List.length_drop]; omega
    have n3 : (xs.take (v + 1)).length ≤ 4 := by rw [List.length_take]; omega
    have n4 : (xs.drop v).length ≤ 4 := by rw [List.length_drop]; omega
    have sm : 20 ≤ sizeLine := Nat.le_of_ble_eq_true rfl
    walk_at "go"
    rw [e1, e2]
    refine ⟨Nat.le_trans (show _ ≤ 20 by omega) sm, ?_⟩
    walk_at "go"
    rw [e3, e4]
    refine ⟨Nat.le_trans (show _ ≤ 20 by omega) sm, ?_⟩
    walk_at "go"
    rw [e1, e4]
    refine ⟨Nat.le_trans (show _ ≤ 20 by rw [List.length_reverse]; omega) sm, ?_⟩
    walk_at "go"
    refine ⟨xs, .inr rfl, ?_⟩
    walk_at "go"
    have S0 : Stays o (o.set n (dr a' f)) [n] := (Stays.refl o [n]).set (.inl (by simp))
    have D0 : (o.set n (dr a' f))[n]? = some (dr a' f) := List.getElem?_set_self hl
    refine ⟨xs, get_end _ _, ?_⟩
    walk_at "go"
    have lo : (o.set n (dr a' f)).length = o.length := List.length_set
    have Y1 : ∀ L1 : List PyData, ((o.set n (dr a' f) ++ [OC.dl L1] ++ [OC.dl xs]).set (o.set n (dr a' f) ++ [OC.dl L1]).length OC.no)[(o.set n (dr a' f)).length]? = some (.dl L1) := fun L1 => (List.getElem?_set_ne (by rw [List.length_append]; exact Nat.succ_ne_self _)).trans (get_ap' (get_end _ _))
    have YD : ∀ L1 : List PyData, ((o.set n (dr a' f) ++ [OC.dl L1] ++ [OC.dl xs]).set (o.set n (dr a' f) ++ [OC.dl L1]).length OC.no)[n]? = some (dr a' f) := fun L1 => (List.getElem?_set_ne (by rw [List.length_append, lo]; show o.length + 1 ≠ n; omega)).trans (get_ap' (get_ap' D0))
    have YS : ∀ L1 : List PyData, Stays o ((o.set n (dr a' f) ++ [OC.dl L1] ++ [OC.dl xs]).set (o.set n (dr a' f) ++ [OC.dl L1]).length OC.no) [n] := fun L1 => ((S0.add _).add _).set (.inr (by rw [List.length_append, lo]; omega))
    refine ⟨_, _, congrArg ocD (get_ap' (Y1 _)), congrArg ocD (get_end _ _), (show 4 + 4 ≤ sizeLine from Nat.le_of_ble_eq_true rfl), ?_⟩
    refine ⟨.own n, congrArg some (subO_ne (show ¬ n = (o.set n (dr a' f) ++ [OC.dl _]).length by rw [List.length_append, lo]; show ¬ n = o.length + 1; omega)), ?_⟩
    walk_at "go"
    refine ⟨n, _, f, 8, rfl, get_ap' (get_ap' (YD _)), hd', by decide, by decide, fun v3 a3 hv3 hd3 => ?_⟩
    refine fin _ v3 a3 _ (_ ++ [OC.dl _] ++ [OC.dl _]) ?hz ?hv hd3 ⟨((YS _).add _).add _, get_ap' (get_ap' (YD _)), get_end _ _, ?hn, ?hl⟩
    case hv => exact hv3
    case hz =>
      intro z hz
      have T : ∀ {ys : List PyData}, ys.length ≤ 5 → (∀ y ∈ ys, Sane 2 y) → Sane 4 (.tuple ys) := fun {ys} h1 h2 => ⟨h1, fun y my => (h2 y my).mono (by decide)⟩
      have ap : ∀ {a b : List PyData}, (∀ y ∈ a, Sane 2 y) → (∀ y ∈ b, Sane 2 y) → ∀ y ∈ a ++ b, Sane 2 y := fun {a b} x y c m => (List.mem_append.mp m).elim (x c) (y c)
      have g1 : ∀ k, ∀ y ∈ xs.take k, Sane 2 y := fun k c m => hxs c (List.mem_of_mem_take m)
      have g2 : ∀ k, ∀ y ∈ xs.drop k, Sane 2 y := fun k c m => hxs c (List.mem_of_mem_drop m)
      simp only [List.cons_append, List.nil_append, List.mem_cons, List.not_mem_nil, or_false] at hz
      rcases hz with rfl | rfl | rfl | rfl | rfl | rfl | rfl | rfl
      · exact T (by rw [List.length_append, List.length_take, List.length_drop]; omega) (ap (g1 _) (g2 _))
      · exact T (by rw [List.length_append, List.length_take, List.length_drop]; omega) (ap (g1 _) (g2 _))
      · exact T (by rw [List.length_append, List.length_reverse, List.length_take, List.length_drop]; omega) (ap (g1 _) fun y my => g2 v y (List.mem_reverse.mp my))
      · exact T (by rw [List.length_reverse]; omega) fun y my => hxs y (List.mem_reverse.mp my)
      · exact ⟨by omega, fun y my => (hxs y my).mono (by decide)⟩
      · exact ⟨by show 1 ≤ 5; decide, fun y my => by rw [List.mem_singleton.mp my]; exact ⟨by omega, hxs⟩⟩
      · exact ⟨by decide, fun y my => absurd my List.not_mem_nil⟩
      · exact trivial
    case hn =>
      show ¬ (((o.set n (dr a' f) ++ [OC.dl _] ++ [OC.dl xs]).set _ OC.no) ++ [OC.dl _]).length = n
      rw [List.length_append, List.length_set, List.length_append, List.length_append, lo]
      omega
    case hl =>
      show o.length ≤ (((o.set n (dr a' f) ++ [OC.dl _] ++ [OC.dl xs]).set _ OC.no) ++ [OC.dl _]).length
      rw [List.length_append, List.length_set, List.length_append, List.length_append, lo]
      omega
end K47

namespace K47
open PySem L2 PW
open K41 hiding S_backs S_done S_is_place S_is_text S_need_edits cut_app pure_backs pure_done pure_is_place pure_is_text0 pure_need_edits set_last sh_at w_backs w_done w_is_place w_is_text w_need_edits
open K42
local macro_rules
  | `(tactic| walk_at "sz") => `(tactic| first | omega | (simp only [tx_len, List.length_append, List.length_map, List.length_cons, List.length_nil, List.length_take, List.length_drop] <;> omega))
  | `(tactic| walk_at "go") => `(tactic| repeat (first | refine ⟨rfl, ?_⟩ | refine ⟨trivial, ?_⟩ | refine ⟨_, rfl, ?_⟩ | refine ⟨_, rfl, rfl, ?_⟩ | refine ⟨_, _, rfl, rfl, ?_⟩ | refine ⟨_, ix_hd, ?_⟩ | refine br_t rfl ?_ | refine br_f rfl ?_ | (refine ⟨le_sz ?_, ?_⟩; focus walk_at "sz") | (refine ⟨lt_sz ?_, ?_⟩; focus walk_at "sz") | (refine ⟨strLe_tx ?_, ?_⟩; focus walk_at "sz") | refine ⟨cmul_r rfl, ?_⟩ | refine ⟨cmul_l rfl, ?_⟩ | refine ⟨pos_ok rfl, ?_⟩ | refine ⟨cdiv_ok rfl, ?_⟩ | refine ⟨_, _, _, _, rfl, rfl, rfl, rfl, ?_⟩ | refine ⟨_, _, rfl, ?_⟩ | refine ⟨_, _, _, rfl, rfl, rfl, ?_⟩ | refine ⟨_, _, _, rfl, rfl, ?_⟩ | rw [tx_app]))
theorem sane_with {z : PyData} {m : Nat} (hz : Sane m z) : ∀ (w : List Nat) (n : Nat) (x : PyData), Sane n x → Way x w → Sane (n + m) (withD z x w)
  | [], n, x, _, _ => hz.mono (Nat.le_add_left _ _)
  | k :: w, 0, x, h, _ => h.elim
  | k :: w, n + 1, x, h, ⟨xs, y, e, hy, hw⟩ => by
    subst e
    have hk := (List.getElem?_eq_some_iff.mp hy).1
    have hg : xs.getD k .none = y := by rw [List.getD_eq_getElem?_getD, hy]; rfl
    show Sane (n + 1 + m) (.tuple (xs.take k ++ [withD z (xs.getD k .none) w] ++ xs.drop (k + 1)))
    rw [show n + 1 + m = (n + m) + 1 by omega, hg]
    refine ⟨?_, fun v mv => ?_⟩
    · rw [List.length_append, List.length_append, List.length_take, List.length_drop]
      have := h.1
      show min k xs.length + 1 + (xs.length - (k + 1)) ≤ 5
      omega
    · rcases List.mem_append.mp mv with mv | mv
      · rcases List.mem_append.mp mv with mv | mv
        · exact (h.2 v (List.mem_of_mem_take mv)).mono (Nat.le_add_right _ _)
        · rw [List.mem_singleton.mp mv]
          exact sane_with hz w n y (h.2 y (List.mem_of_getElem? hy)) hw
      · exact (h.2 v (List.mem_of_mem_drop mv)).mono (Nat.le_add_right _ _)
def atW : PyData → List Nat → PyData
  | x, [] => x
  | .tuple xs, k :: w => atW (xs.getD k .none) w
  | x, _ :: _ => x
structure Sm2 (L : List Ed) : Prop where
  few : L.length ≤ 4
  ok : ∀ x ∈ L, x.1 ≤ 100 ∧ x.2.1 ≤ 100 ∧ gdT x.2.2 ∧ x.2.2.length ≤ 5
abbrev edsT (L : List Ed) : PyData := .tuple (L.map edD)
theorem ed_stp {x : Ed} (h : x.1 ≤ 100 ∧ x.2.1 ≤ 100 ∧ gdT x.2.2 ∧ x.2.2.length ≤ 5) : ∀ y ∈ [PyData.int (x.1 : Nat), .int (x.2.1 : Nat), dT x.2.2], Stp y ∧ Sane 1 y ∧ kitB (tyD y) "tuple" = some false := by
  intro y my
  simp only [List.mem_cons, List.not_mem_nil, or_false] at my
  rcases my with rfl | rfl | rfl
  · exact ⟨.inr (.inl ⟨_, rfl, by omega, by omega⟩), (show ((x.1 : Nat) : Int).natAbs ≤ 1000 by omega), rfl⟩
  · exact ⟨.inr (.inl ⟨_, rfl, by omega, by omega⟩), (show ((x.2.1 : Nat) : Int).natAbs ≤ 1000 by omega), rfl⟩
  · exact ⟨.inl ⟨_, rfl, h.2.2.1, by omega⟩, sane_tx (gdTab_of h.2.2.1) (by omega), rfl⟩
theorem ed_sane {x : Ed} (h : x.1 ≤ 100 ∧ x.2.1 ≤ 100 ∧ gdT x.2.2 ∧ x.2.2.length ≤ 5) : Sane 2 (edD x) := ⟨by show 3 ≤ 5; decide, fun y my => (ed_stp h y my).2.1⟩
theorem eds_sane {L : List Ed} (h : Sm2 L) : Sane 3 (edsT L) := ⟨by rw [List.length_map]; have := h.few; omega, fun y my => by
  obtain ⟨x, mx, rfl⟩ := List.mem_map.mp my
  exact ed_sane (h.ok x mx)⟩
theorem eds_td {L : List Ed} (h : Sm2 L) : Td 3 (edsT L) := .inr ⟨_, rfl, by rw [List.length_map]; have := h.few; omega, fun y my => by
  obtain ⟨x, mx, rfl⟩ := List.mem_map.mp my
  exact .inr ⟨_, rfl, by show 3 ≤ 10; decide, fun z mz => .inl (ed_stp (h.ok x mx) z mz).2.2⟩⟩
theorem eds_at {L : List Ed} (h : Sm2 L) : ∀ w, Way (edsT L) w → Stp (atW (edsT L) w)
  | [], _ => .inr (.inr ⟨_, rfl, by rw [List.length_map]; exact h.few, fun y my => by
      obtain ⟨x, mx, rfl⟩ := List.mem_map.mp my
      exact ed_sane (h.ok x mx)⟩)
  | k :: w, ⟨xs, y, e, hy, hw⟩ => by
    cases e
    obtain ⟨x, mx, rfl⟩ := List.mem_map.mp (List.mem_of_getElem? hy)
    have hg : (L.map edD).getD k .none = edD x := by rw [List.getD_eq_getElem?_getD, hy]; rfl
    show Stp (atW ((L.map edD).getD k .none) w)
    rw [hg]
    match w, hw with
    | [], _ => exact .inr (.inr ⟨_, rfl, by show 3 ≤ 4; decide, fun z mz => ((ed_stp (h.ok x mx) z mz).2.1).mono (by decide)⟩)
    | j :: w, ⟨xs, y, e, hy, hw⟩ =>
      cases e
      have hg : [PyData.int (x.1 : Nat), .int (x.2.1 : Nat), dT x.2.2].getD j .none = y := by rw [List.getD_eq_getElem?_getD, hy]; rfl
      have hs := ed_stp (h.ok x mx) y (List.mem_of_getElem? hy)
      show Stp (atW ([PyData.int (x.1 : Nat), .int (x.2.1 : Nat), dT x.2.2].getD j .none) w)
      rw [hg]
      match w, hw with
      | [], _ => exact hs.1
      | i :: w, ⟨xs, y, e, _, _⟩ =>
        subst e
        cases hs.2.2
theorem eds_len {L : List Ed} : ∀ w, Way (edsT L) w → w.length ≤ 2
  | [], _ => by decide
  | k :: w, ⟨xs, y, e, hy, hw⟩ => by
    cases e
    obtain ⟨x, mx, rfl⟩ := List.mem_map.mp (List.mem_of_getElem? hy)
    match w, hw with
    | [], _ => exact (by decide : 1 ≤ 2)
    | [j], _ => exact Nat.le_refl _
    | j :: i :: w, ⟨xs, y, e, hy, xs2, y2, e2, _, _⟩ =>
      cases e
      have m := List.mem_of_getElem? hy
      simp only [List.mem_cons, List.not_mem_nil, or_false] at m
      rcases m with rfl | rfl | rfl <;> cases e2
def S_law_spoilt : FSO := fun args o ret exc => ∃ (n : Nat) (a f : Int) (L : List Ed), args = [.own n, .d (edsT L)] ∧ o[n]? = some (dr a f) ∧ Dr a f ∧ Sm2 L ∧ ∀ (z : PyData) (o' : List OC), Sane 7 z → Drew o o' n f → ret (.d z) o'
def w_law_spoilt : SW :=
 (wSeq (wAsg (wCall (S_law_spots 3) (wCons (wVar 1) wNil)) 2)
 (wSeq (wAsg (wIx (wVar 2) (wCallO S_law_next (wCons (wVar 0) (wCons (wLen (wVar 2)) wNil)))) 3)
 (wSeq (wAsg (wVar 1) 4)
 (wSeq (wFor (wTp (wVar 3)) (gN 5)
  (wAsg (wIx (wVar 4) (wVar 5)) 4))
 (wRet (wCall (S_law_with 3) (wCons (wVar 1) (wCons (wVar 3) (wCons (wCallO S_law_step (wCons (wVar 0) (wCons (wVar 4) wNil))) wNil)))))))))
theorem pure_law_spoilt : ∀ args o ret exc, S_law_spoilt args o ret exc → w_law_spoilt (fun x s => exc x s.o) (pst0 args o 6) (bodyO ret) := by
  rintro _ o ret exc ⟨n, a, f, L, rfl, hn, hd, hL, h⟩
  unfold w_law_spoilt
  have hl := in_len hn
  walk_at "go"
  refine ⟨eds_td hL, by decide, fun W hW0 hWl hW => ?_⟩
  have hWp : 0 < W.length := List.length_pos_iff.mpr hW0
  have hWl : W.length ≤ 1331 := hWl
  walk_at "go"
  refine ⟨_, congrArg ocD (get_end _ _), ?_⟩
  have wl : (W.map wayD).length = W.length := List.length_map _
  walk_at "go"
  refine ⟨n, a, f, _, rfl, get_ap' hn, hd, ?_, ?_, fun v a' hv hd' => ?_⟩
  · show (0 : Int) < ((W.map wayD).length : Nat)
    omega
  · show ((W.map wayD).length : Nat) ≤ (100000 : Int)
    omega
  have hv : v < (W.map wayD).length := by
    have hv : (v : Int) < ((W.map wayD).length : Nat) := hv
    omega
  have hne : o.length ≠ n := by omega
  refine ⟨_, _, congrArg ocD ((List.getElem?_set_ne (Ne.symm hne)).trans (get_end _ _)), rfl, trivial, _, PW.ix_list hv, ?_⟩
  rw [List.getElem_map]
  have hw := hW _ (List.getElem_mem (show v < W.length by omega))
  generalize W[v] = w at hw ⊢
  have q0 : Drew o ((o ++ [OC.dl (W.map wayD)]).set n (dr a' f)) n f := ⟨a', hd', ((Stays.refl o [n]).add _).set (.inl (by simp)), List.getElem?_set_self (by rw [List.length_append]; omega)⟩
  walk_at "go"
  refine ⟨fun j s => ∃ (x : PyData) (x5 : Option PV), s = (⟨[some (.own n), some (.d (edsT L)), some (.own o.length), some (.d (wayD w)), some (.d x), x5], (o ++ [OC.dl (W.map wayD)]).set n (dr a' f)⟩ : PSt) ∧ Way x (w.drop j) ∧ atW x (w.drop j) = atW (edsT L) w,
    ⟨_, none, rfl, hw.1, rfl⟩, fun _ _ _ _ => trivial, ?_, ?_⟩
  · rintro j x s hx ⟨y, x5, rfl, hWay, hat⟩
    obtain ⟨hj, rfl⟩ := map_get hx
    rw [List.drop_eq_getElem_cons hj] at hWay hat
    obtain ⟨xs, z, rfl, hz, hWay⟩ := hWay
    have hg : xs.getD w[j] .none = z := by rw [List.getD_eq_getElem?_getD, hz]; rfl
    have hk := (List.getElem?_eq_some_iff.mp hz).1
    have hat : atW (xs.getD w[j] .none) (w.drop (j + 1)) = atW (edsT L) w := hat
    rw [hg] at hat
    walk_at "go"
    refine ⟨z, (PW.ix_tup hk).trans ((List.getElem?_eq_getElem hk).symm.trans hz), ?_⟩
    walk_at "go"
    exact .inl ⟨z, _, rfl, hWay, hat⟩
  · rintro s ⟨x, x5, rfl, _, hat⟩
    rw [List.length_map, List.drop_length] at hat
    have hat : x = atW (edsT L) w := hat
    have hst := eds_at hL w hw.1
    rw [← hat] at hst
    walk_at "go"
    obtain ⟨b', hb', st0, dn0⟩ := q0
    refine ⟨n, b', f, x, rfl, dn0, hb', hst, fun z o' hz ⟨a2, hd2, st2, dn2⟩ => ?_⟩
    refine ⟨edsT L, z, w, rfl, rfl, eds_td hL, hw.1, Nat.lt_succ_of_le (eds_len w hw.1), by decide, ?_⟩
    exact h _ _ (sane_with hz w 3 _ (eds_sane hL) hw.1) ⟨a2, hd2, st0.trans st2 fun _ _ m => m, dn2⟩
end K47

namespace K47
open PySem L2 PW
open K41 hiding S_backs S_done S_is_place S_is_text S_need_edits cut_app pure_backs pure_done pure_is_place pure_is_text0 pure_need_edits set_last sh_at w_backs w_done w_is_place w_is_text w_need_edits
open K42
local macro_rules
  | `(tactic| walk_at "sz") => `(tactic| first | omega | (simp only [tx_len, List.length_append, List.length_map, List.length_cons, List.length_nil, List.length_take, List.length_drop] <;> omega))
  | `(tactic| walk_at "go") => `(tactic| repeat (first | refine ⟨rfl, ?_⟩ | refine ⟨trivial, ?_⟩ | refine ⟨_, rfl, ?_⟩ | refine ⟨_, rfl, rfl, ?_⟩ | refine ⟨_, _, rfl, rfl, ?_⟩ | refine ⟨_, ix_hd, ?_⟩ | refine br_t rfl ?_ | refine br_f rfl ?_ | (refine ⟨le_sz ?_, ?_⟩; focus walk_at "sz") | (refine ⟨lt_sz ?_, ?_⟩; focus walk_at "sz") | (refine ⟨strLe_tx ?_, ?_⟩; focus walk_at "sz") | refine ⟨cmul_r rfl, ?_⟩ | refine ⟨cmul_l rfl, ?_⟩ | refine ⟨pos_ok rfl, ?_⟩ | refine ⟨cdiv_ok rfl, ?_⟩ | refine ⟨_, _, _, _, rfl, rfl, rfl, rfl, ?_⟩ | refine ⟨_, _, rfl, ?_⟩ | refine ⟨_, _, _, rfl, rfl, rfl, ?_⟩ | refine ⟨_, _, _, rfl, rfl, ?_⟩ | rw [tx_app]))
def S_law_is_place : FS := fun args o ret exc => ∃ (v : PyData) (t : List Nat), args = [.d v, .d (dT t)] ∧ o = [] ∧ t.length ≤ 2000 ∧ ret (.d (.bool (plB v (t.length : Nat)))) []
def w_law_is_place : SW :=
 (wRet (wAndV (wIsi "int" (wVar 0)) (wAndV (wNotV (wIsi "bool" (wVar 0))) (wChain (rCmpD fun i j => decide (i ≤ j)) (rCmpD fun i j => decide (i ≤ j)) (wC (.int 0)) (wVar 0) (wLen (wVar 1))))))
theorem pure_law_is_place : ∀ args o ret exc, S_law_is_place args o ret exc → w_law_is_place (fun x s => exc x (cutL o.length s.o)) (pst0 args o 2) (bodyE o.length ret) := by
  rintro _ _ ret exc ⟨v, t, rfl, rfl, ht, h⟩
  unfold w_law_is_place
  have tl : (tx t).length = t.length := tx_len t
  cases v with
  | int i =>
    walk_at "go"
    refine br_d (0 ≤ i) (by show decide (0 ≤ i) = true ↔ _; rw [decide_eq_true_eq]) (fun h1 => ?_) (fun h1 => ?_)
    · walk_at "go"
      have e : plB (.int i) (t.length : Nat) = decide (i ≤ ((tx t).length : Nat)) := by
        show (decide (0 ≤ i) && decide (i ≤ _)) = _
        rw [decide_eq_true h1, Bool.true_and, tl]
      rw [e] at h
      exact h
    · walk_at "go"
      have e : plB (.int i) (t.length : Nat) = false := by
        show (decide (0 ≤ i) && decide (i ≤ _)) = _
        rw [decide_eq_false h1, Bool.false_and]
      rw [e] at h
      exact h
  | none => walk_at "go"; exact h
  | bool b => walk_at "go"; exact h
  | str s => walk_at "go"; exact h
  | list xs => walk_at "go"; exact h
  | tuple xs => walk_at "go"; exact h
  | dict xs => walk_at "go"; exact h
theorem no9 {w : List Nat} (h : gdT w) : decide (9 ∈ (tx w).cps.toList) = false := decide_eq_false fun m => absurd (h 9 m) (by decide)
def S_law_are_edits : FS := fun args o ret exc => ∃ (z : PyData) (t : List Nat), args = [.d z, .d (dT t)] ∧ o = [] ∧ t.length ≤ 2000 ∧ Sane 7 z ∧ (((∃ L, IsE t.length z L) ∧ ret (.d (.bool true)) []) ∨ (NotD t.length z ∧ ret (.d (.bool false)) []))
def w_law_are_edits : SW :=
 (wSeq (wIfS (wNot (wB (wIsi "list" (wVar 0))))
  (wRet (wC (.bool false)))
  wNext)
 (wSeq (wAsg (wNeg (wC (.int 1))) 2)
 (wSeq (wFor (wL (wVar 0)) (gN 3)
  (wSeq (wIfS (wOr (wNot (wB (wIsi "tuple" (wVar 3)))) (wOr (wB (wNe (wLen (wVar 3)) (wC (.int 3)))) (wOr (wNot (wB (wIsi "str" (wIx (wVar 3) (wC (.int 2)))))) (wB (wIn (wC (.str "\t")) (wIx (wVar 3) (wC (.int 2))))))))
  (wRet (wC (.bool false)))
  wNext)
 (wSeq (wIfS (wOr (wNot (wB (wCall S_law_is_place (wCons (wIx (wVar 3) (wC (.int 0))) (wCons (wVar 1) wNil))))) (wNot (wB (wCall S_law_is_place (wCons (wIx (wVar 3) (wC (.int 1))) (wCons (wVar 1) wNil))))))
  (wRet (wC (.bool false)))
  wNext)
 (wSeq (wIfS (wOr (wB (wLe (wIx (wVar 3) (wC (.int 0))) (wVar 2))) (wB (wLt (wIx (wVar 3) (wC (.int 1))) (wIx (wVar 3) (wC (.int 0))))))
  (wRet (wC (.bool false)))
  wNext)
 (wAsg (wIx (wVar 3) (wC (.int 1))) 2)))))
 (wRet (wC (.bool true))))))
theorem pure_law_are_edits : ∀ args o ret exc, S_law_are_edits args o ret exc → w_law_are_edits (fun x s => exc x (cutL o.length s.o)) (pst0 args o 4) (bodyE o.length ret) := by
  rintro _ _ ret exc ⟨z, t, rfl, rfl, ht, hS, h⟩
  unfold w_law_are_edits
  rcases h with ⟨⟨L, rfl, hW, hn⟩, hR⟩ | ⟨hN, hR⟩
  · walk_at "go"
    refine ⟨fun j s => ∃ (p : Int) (x3 : Option PV), s = (⟨[some (.d (.list (L.map edD))), some (.d (dT t)), some (.d (.int p)), x3], []⟩ : PSt) ∧ Wel t.length p (L.drop j), ⟨-1, none, rfl, hW⟩, fun _ _ _ _ => trivial, ?_, ?_⟩
    · rintro j x _ hx ⟨p, x3, rfl, hw⟩
      obtain ⟨hj, rfl⟩ := map_get hx
      clear hx
      rw [List.drop_eq_getElem_cons hj] at hw
      generalize L[j] = ed at *
      obtain ⟨b, en, w⟩ := ed
      obtain ⟨w1, w2, w3, w4, w5, w6⟩ := hw
      have w5 : w.length ≤ 2000 := w5
      have e1 : plB (.int (b : Nat)) (t.length : Nat) = true := by
        show (decide (0 ≤ (b : Int)) && decide ((b : Int) ≤ _)) = true
        rw [decide_eq_true (by omega), decide_eq_true (by omega)]
        rfl
      have e2 : plB (.int (en : Nat)) (t.length : Nat) = true := by
        show (decide (0 ≤ (en : Int)) && decide ((en : Int) ≤ _)) = true
        rw [decide_eq_true (by omega), decide_eq_true (by omega)]
        rfl
      have h9 := no9 w4
      walk_at "go"
      refine br_f h9 ?_
      walk_at "go"
      refine ⟨ht, ?_⟩
      rw [show plB (.int ((b, en, w) : Ed).1) (t.length : Nat) = true from e1]
      walk_at "go"
      refine ⟨ht, ?_⟩
      rw [show plB (.int ((b, en, w) : Ed).2.1) (t.length : Nat) = true from e2]
      walk_at "go"
      refine br_f (decide_eq_false (by show ¬ (b : Int) ≤ p; omega)) ?_
      walk_at "go"
      refine br_f (decide_eq_false (by show ¬ (en : Int) < (b : Int); omega)) ?_
      walk_at "go"
      exact .inl ⟨(en : Nat), _, rfl, w6⟩
    · rintro _ ⟨p, x3, rfl, hw⟩
      exact hR
  · rcases hN with ⟨xs, rfl, hB⟩ | hk
    · walk_at "go"
      have hS6 : ∀ y ∈ xs, Sane 6 y := hS.2
      refine ⟨fun j s => ∃ (p : Int) (x3 : Option PV), s = (⟨[some (.d (.list xs)), some (.d (dT t)), some (.d (.int p)), x3], []⟩ : PSt) ∧ BadL t.length p (xs.drop j), ⟨-1, none, rfl, hB⟩, fun _ _ _ _ => trivial, ?_, ?_⟩
      · rintro j x s hx ⟨p, x3, rfl, hw⟩
        obtain ⟨hj, rfl⟩ := List.getElem?_eq_some_iff.mp hx
        clear hx
        have hs6 := hS6 _ (List.getElem_mem hj)
        rw [List.drop_eq_getElem_cons hj] at hw
        generalize xs[j] = x at *
        cases hw with
        | here h =>
          cases h with
          | noTup h =>
            walk_at "go"
            refine ⟨_, false, rfl, h, ?_⟩
            walk_at "go"
            exact hR
          | len h =>
            rename_i ys
            walk_at "go"
            refine br_t (by show (!decide ((ys.length : Int) = 3)) = true; rw [decide_eq_false (by omega)]; rfl) ?_
            walk_at "go"
            exact hR
          | txt h =>
            rename_i a b c
            have hc : Sane 5 c := hs6.2 c (by simp)
            rcases h with ⟨l, rfl, _, hng⟩ | h
            · obtain ⟨l', e, hl', hll⟩ := hc
              have e : tx l = tx l' := e
              have e : l = l' := congrArg (fun s : Str => s.cps.toList) e
              subst e
              have m9 : 9 ∈ (tx l).cps.toList := by
                show 9 ∈ l
                by_cases m : 9 ∈ l
                · exact m
                · exact absurd ⟨fun c mc => (hl' c mc).resolve_right fun z => m (z ▸ mc), by omega⟩ hng
              walk_at "go"
              refine br_t (decide_eq_true m9) ?_
              walk_at "go"
              exact hR
            · walk_at "go"
              refine ⟨_, false, rfl, h, ?_⟩
              walk_at "go"
              exact hR
          | pl0 g h =>
            have h9 := no9 g.1
            walk_at "go"
            refine br_f h9 ?_
            walk_at "go"
            refine ⟨ht, ?_⟩
            rw [h]
            walk_at "go"
            exact hR
          | pl1 g h h2 =>
            have h9 := no9 g.1
            walk_at "go"
            refine br_f h9 ?_
            walk_at "go"
            refine ⟨ht, ?_⟩
            rw [h]
            walk_at "go"
            refine ⟨ht, ?_⟩
            rw [h2]
            walk_at "go"
            exact hR
          | apart g h h2 h3 =>
            rename_i i j2 l
            have e1 : plB (.int i) (t.length : Nat) = true := by
              show (decide (0 ≤ i) && decide (i ≤ _)) = true
              rw [decide_eq_true h.1, decide_eq_true h.2]
              rfl
            have e2 : plB (.int j2) (t.length : Nat) = true := by
              show (decide (0 ≤ j2) && decide (j2 ≤ _)) = true
              rw [decide_eq_true h2.1, decide_eq_true h2.2]
              rfl
            have h9 := no9 g.1
            walk_at "go"
            refine br_f h9 ?_
            walk_at "go"
            refine ⟨ht, ?_⟩
            rw [e1]
            walk_at "go"
            refine ⟨ht, ?_⟩
            rw [e2]
            walk_at "go"
            refine br_d (i ≤ p) (by show decide (i ≤ p) = true ↔ _; rw [decide_eq_true_eq]) (fun k1 => ?_) (fun k1 => ?_)
            · walk_at "go"
              exact hR
            walk_at "go"
            refine br_t (decide_eq_true (by show j2 < i; omega)) ?_
            walk_at "go"
            exact hR
        | later g h h2 h3 h4 h5 =>
          rename_i i j2 l
          have e1 : plB (.int i) (t.length : Nat) = true := by
            show (decide (0 ≤ i) && decide (i ≤ _)) = true
            rw [decide_eq_true h.1, decide_eq_true h.2]
            rfl
          have e2 : plB (.int j2) (t.length : Nat) = true := by
            show (decide (0 ≤ j2) && decide (j2 ≤ _)) = true
            rw [decide_eq_true h2.1, decide_eq_true h2.2]
            rfl
          have h9 := no9 g.1
          walk_at "go"
          refine br_f h9 ?_
          walk_at "go"
          refine ⟨ht, ?_⟩
          rw [e1]
          walk_at "go"
          refine ⟨ht, ?_⟩
          rw [e2]
          walk_at "go"
          refine br_f (decide_eq_false (by show ¬ i ≤ p; omega)) ?_
          walk_at "go"
          refine br_f (decide_eq_false (by show ¬ j2 < i; omega)) ?_
          walk_at "go"
          exact .inl ⟨j2, _, rfl, h5⟩
      · rintro s ⟨p, x3, rfl, hw⟩
        rw [List.drop_length] at hw
        cases hw
    · walk_at "go"
      refine ⟨_, false, rfl, hk, ?_⟩
      walk_at "go"
      exact hR
theorem bad_or (n : Nat) : ∀ (xs : List PyData) (p : Int), (∀ x ∈ xs, Sane 6 x) → (∃ L : List Ed, xs = L.map edD ∧ Wel n p L ∧ ∀ x ∈ L, x.2.2.length ≤ 10) ∨ BadL n p xs
  | [], p, _ => .inl ⟨[], rfl, trivial, fun x m => absurd m List.not_mem_nil⟩
  | x :: xs, p, hS => by
    have hx := hS x List.mem_cons_self
    have ih := fun q => bad_or n xs q fun y my => hS y (List.mem_cons_of_mem _ my)
    cases x with
    | tuple ys =>
      by_cases hl : ys.length = 3
      · obtain ⟨a, b, c, rfl⟩ : ∃ a b c, ys = [a, b, c] := by
          match ys, hl with
          | [a, b, c], _ => exact ⟨a, b, c, rfl⟩
        have hc : Sane 5 c := hx.2 c (by simp)
        by_cases hk : kitB (tyD c) "str" = some false
        · exact .inr (.here (.txt (.inr hk)))
        cases c with
        | str s =>
          obtain ⟨l, rfl, hl', hll⟩ := hc
          by_cases hg : gdT l
          · have g : gTx l := ⟨hg, by omega⟩
            by_cases h1 : plB a n = true
            · by_cases h2 : plB b n = true
              · cases a with
                | int i =>
                  cases b with
                  | int j =>
                    have h1 : (decide (0 ≤ i) && decide (i ≤ (n : Int))) = true := h1
                    have h2 : (decide (0 ≤ j) && decide (j ≤ (n : Int))) = true := h2
                    rw [Bool.and_eq_true, decide_eq_true_eq, decide_eq_true_eq] at h1 h2
                    by_cases h3 : p < i ∧ i ≤ j
                    · rcases ih j with ⟨L, rfl, hW, hs⟩ | hB
                      · obtain ⟨i', rfl⟩ : ∃ k : Nat, i = (k : Nat) := ⟨i.toNat, by omega⟩
                        obtain ⟨j', rfl⟩ : ∃ k : Nat, j = (k : Nat) := ⟨j.toNat, by omega⟩
                        refine .inl ⟨(i', j', l) :: L, rfl, ⟨h3.1, by omega, by omega, hg, by omega, hW⟩, fun x m => ?_⟩
                        rcases List.mem_cons.mp m with rfl | m
                        · exact hll
                        · exact hs x m
                      · exact .inr (.later g h1 h2 h3.1 h3.2 hB)
                    · exact .inr (.here (.apart g h1 h2 h3))
                  | _ => cases h2
                | _ => cases h1
              · exact .inr (.here (.pl1 g h1 (Bool.not_eq_true _ ▸ h2)))
            · exact .inr (.here (.pl0 g (Bool.not_eq_true _ ▸ h1)))
          · exact .inr (.here (.txt (.inl ⟨l, rfl, by omega, fun z => hg z.1⟩)))
        | _ => exact absurd rfl hk
      · exact .inr (.here (.len hl))
    | _ => exact .inr (.here (.noTup rfl))
theorem is_or {n : Nat} {z : PyData} (h : Sane 7 z) : (∃ L : List Ed, IsE n z L ∧ L.length ≤ 5 ∧ ∀ x ∈ L, x.2.2.length ≤ 10) ∨ NotD n z := by
  cases z with
  | list xs =>
    rcases bad_or n xs (-1) h.2 with ⟨L, rfl, hW, hs⟩ | hB
    · have hl : L.length ≤ 5 := by have := h.1; rwa [List.length_map] at this
      exact .inl ⟨L, ⟨rfl, hW, by omega⟩, hl, hs⟩
    · exact .inr (.inl ⟨xs, rfl, hB⟩)
  | _ => exact .inr (.inr rfl)
end K47

namespace K47
open PySem L2 PW
open K41 hiding S_backs S_done S_is_place S_is_text S_need_edits cut_app pure_backs pure_done pure_is_place pure_is_text0 pure_need_edits set_last sh_at w_backs w_done w_is_place w_is_text w_need_edits
open K42
local macro_rules
  | `(tactic| walk_at "sz") => `(tactic| first | omega | (simp only [tx_len, List.length_append, List.length_map, List.length_cons, List.length_nil, List.length_take, List.length_drop] <;> omega))
  | `(tactic| walk_at "go") => `(tactic| repeat (first | refine ⟨rfl, ?_⟩ | refine ⟨trivial, ?_⟩ | refine ⟨_, rfl, ?_⟩ | refine ⟨_, rfl, rfl, ?_⟩ | refine ⟨_, _, rfl, rfl, ?_⟩ | refine ⟨_, ix_hd, ?_⟩ | refine br_t rfl ?_ | refine br_f rfl ?_ | (refine ⟨le_sz ?_, ?_⟩; focus walk_at "sz") | (refine ⟨lt_sz ?_, ?_⟩; focus walk_at "sz") | (refine ⟨strLe_tx ?_, ?_⟩; focus walk_at "sz") | refine ⟨cmul_r rfl, ?_⟩ | refine ⟨cmul_l rfl, ?_⟩ | refine ⟨pos_ok rfl, ?_⟩ | refine ⟨cdiv_ok rfl, ?_⟩ | refine ⟨_, _, _, _, rfl, rfl, rfl, rfl, ?_⟩ | refine ⟨_, _, rfl, ?_⟩ | refine ⟨_, _, _, rfl, rfl, rfl, ?_⟩ | refine ⟨_, _, _, rfl, rfl, ?_⟩ | rw [tx_app]))
def S_law_done : FS := fun args o ret exc => ∃ (t : List Nat) (L : List Ed), args = [.d (dT t), .d (.list (L.map edD))] ∧ o = [] ∧ Wel t.length (-1) L ∧ t.length ≤ 2000 ∧ L.length ≤ 60 ∧ (doneA t 0 L).length ≤ 2000 ∧ ret (.d (.tuple [dT (doneA t 0 L), .list ((backsA t 0 0 L).map edD)])) []
def w_law_done : SW :=
 (wSeq (wUnpM (wTupM (wCons (wC (.str "")) (wCons (wLst wNil) (wCons (wC (.int 0)) wNil)))) (gTM 3 (gsConsM (gNM 2) (gsConsM (gNM 3) (gsConsM (gNM 4) gsNilM)))))
 (wSeq (wFor (wL (wVar 1)) (gT 3 (gsCons (gN 5) (gsCons (gN 6) (gsCons (gN 7) gsNil))))
  (wSeq (wAsg (wAdd (wVar 2) (wSl (wVar 0) (wPart (wVar 4)) (wPart (wVar 5)))) 2)
 (wSeq (wDrop (wApp (wVar 3) (wTup (wCons (wLen (wVar 2)) (wCons (wAdd (wLen (wVar 2)) (wLen (wVar 7))) (wCons (wSl (wVar 0) (wPart (wVar 5)) (wPart (wVar 6))) wNil))))))
 (wSeq (wAsg (wAdd (wVar 2) (wVar 7)) 2)
 (wAsg (wVar 6) 4)))))
 (wRet (wTup (wCons (wAdd (wVar 2) (wSl (wVar 0) (wPart (wVar 4)) wNoPart)) (wCons (wVar 3) wNil))))))
theorem pure_law_done : ∀ args o ret exc, S_law_done args o ret exc → w_law_done (fun x s => exc x (cutL o.length s.o)) (pst0 args o 8) (bodyE o.length ret) := by
  rintro _ _ ret exc ⟨t, L, rfl, rfl, hW, ht, hn, hD, h⟩
  unfold w_law_done
  rw [K41.lit_e]
  walk_at "go"
  refine ⟨fun j s => ∃ (a : Nat) (q : Int) (f : List Nat) (B : List Ed) (x5 x6 x7 : Option PV), s = (⟨[some (.d (dT t)), some (.d (.list (L.map edD))), some (.d (dT f)), some (.own 0), some (.d (.int a)), x5, x6, x7], [.dl (B.map edD)]⟩ : PSt) ∧ (a : Int) ≤ q + 1 ∧ Wel t.length q (L.drop j) ∧ f ++ doneA t a (L.drop j) = doneA t 0 L ∧ B ++ backsA t a f.length (L.drop j) = backsA t 0 0 L ∧ B.length = j,
    ⟨0, -1, [], [], none, none, none, rfl, by omega, hW, rfl, rfl, rfl⟩, fun _ _ _ _ => trivial, ?_, ?_⟩
  · rintro j x _ hx ⟨a, q, f, B, x5, x6, x7, rfl, ha, hw, hf, hB, hBl⟩
    obtain ⟨hj, rfl⟩ := map_get hx
    clear hx
    rw [List.drop_eq_getElem_cons hj] at hw hf hB
    generalize hE : L[j] = ed at *
    obtain ⟨b, en, w⟩ := ed
    obtain ⟨w1, w2, w3, w4, w5, w6⟩ := hw
    have hf : f ++ ((t.take b).drop a ++ (w ++ doneA t en (L.drop (j + 1)))) = doneA t 0 L := hf
    have hfl := congrArg List.length hf
    rw [List.length_append, List.length_append, List.length_append] at hfl
    have hm := mid_len (t := t) (a := a) (b := b) (by omega)
    have w5 : w.length ≤ 2000 := w5
    have hBm : (B.map edD).length ≤ 60 := by rw [List.length_map]; omega
    have hcut : cutS (tx t) (some ((b : Nat) : Int)) (some ((en : Nat) : Int)) = tx ((t.take en).drop b) := cut_tx t b en
    walk_at "go"
    rw [show cutS (tx t) (some ((a : Nat) : Int)) (some (((b, en, w).1 : Nat) : Int)) = tx ((t.take b).drop a) from cut_tx t a b]
    generalize hM : (t.take b).drop a = md at *
    walk_at "go"
    have lm : (f ++ md).length = f.length + (b - a) := by rw [List.length_append, hm]
    have eB : B.map edD ++ [.tuple [.int ((tx (f ++ md)).length : Nat), .int (((tx (f ++ md)).length : Nat) + ((tx w).length : Nat)), .str (cutS (tx t) (some ((b : Nat) : Int)) (some ((en : Nat) : Int)))]] = (B ++ [((f.length + (b - a), f.length + (b - a) + w.length, (t.take en).drop b) : Ed)]).map edD := by
      rw [hcut, tx_len, tx_len, lm, List.map_append, show (((f.length + (b - a) : Nat) : Int) + (w.length : Nat)) = ((f.length + (b - a) + w.length : Nat) : Int) by omega]
      rfl
    refine .inl ⟨en, (en : Nat), f ++ md ++ w, B ++ [((f.length + (b - a), f.length + (b - a) + w.length, (t.take en).drop b) : Ed)], some (.d (.int (b : Nat))), some (.d (.int (en : Nat))), some (.d (dT w)), ?_, by omega, w6, ?_, ?_, by simp [hBl]⟩
    · rw [← eB]
      rfl
    · rw [← hf]
      simp only [List.append_assoc]
    · rw [← hB, List.length_append, lm, List.append_assoc]
      rfl
  · rintro _ ⟨a, q, f, B, x5, x6, x7, rfl, ha, hw, hf, hB, hBl⟩
    rw [List.length_map, List.drop_length] at hf hB
    have hf : f ++ t.drop a = doneA t 0 L := hf
    have hB : B ++ [] = backsA t 0 0 L := hB
    rw [List.append_nil] at hB
    have hfl := congrArg List.length hf
    rw [List.length_append] at hfl
    walk_at "go"
    rw [show cutS (tx t) (some ((a : Nat) : Int)) none = tx (t.drop a) from cut_tx_from t a]
    generalize hM : t.drop a = md at *
    walk_at "go"
    rw [hf, hB]
    exact h
end K47

namespace K47
open PySem L2 PW
open K41 hiding S_backs S_done S_is_place S_is_text S_need_edits cut_app pure_backs pure_done pure_is_place pure_is_text0 pure_need_edits set_last sh_at w_backs w_done w_is_place w_is_text w_need_edits
open K42
local macro_rules
  | `(tactic| walk_at "sz") => `(tactic| first | omega | (simp only [tx_len, List.length_append, List.length_map, List.length_cons, List.length_nil, List.length_take, List.length_drop] <;> omega))
  | `(tactic| walk_at "go") => `(tactic| repeat (first | refine ⟨rfl, ?_⟩ | refine ⟨trivial, ?_⟩ | refine ⟨_, rfl, ?_⟩ | refine ⟨_, rfl, rfl, ?_⟩ | refine ⟨_, _, rfl, rfl, ?_⟩ | refine ⟨_, ix_hd, ?_⟩ | refine br_t rfl ?_ | refine br_f rfl ?_ | (refine ⟨le_sz ?_, ?_⟩; focus walk_at "sz") | (refine ⟨lt_sz ?_, ?_⟩; focus walk_at "sz") | (refine ⟨strLe_tx ?_, ?_⟩; focus walk_at "sz") | refine ⟨cmul_r rfl, ?_⟩ | refine ⟨cmul_l rfl, ?_⟩ | refine ⟨pos_ok rfl, ?_⟩ | refine ⟨cdiv_ok rfl, ?_⟩ | refine ⟨_, _, _, _, rfl, rfl, rfl, rfl, ?_⟩ | refine ⟨_, _, rfl, ?_⟩ | refine ⟨_, _, _, rfl, rfl, rfl, ?_⟩ | refine ⟨_, _, _, rfl, rfl, ?_⟩ | rw [tx_app]))
structure Em (M : MX) (C_TooGreat : Addr) (C_NoText : Addr) (C_NoEdit : Addr) (C_Clash : Addr) (C_MenderError : Addr) (C_NoAsk : Addr) (C_NoMend : Addr) (C_NotWhole : Addr) (C_NoName : Addr) (C_NoPlace : Addr) : Prop where
  m_TooGreat_MenderError : M C_TooGreat (.ref C_MenderError) = some true
  m_TooGreat_NoAsk : M C_TooGreat (.ref C_NoAsk) = some false
  m_TooGreat_NoMend : M C_TooGreat (.ref C_NoMend) = some false
  m_TooGreat_NotWhole : M C_TooGreat (.ref C_NotWhole) = some false
  m_TooGreat_NoName : M C_TooGreat (.ref C_NoName) = some false
  m_TooGreat_NoPlace : M C_TooGreat (.ref C_NoPlace) = some false
  m_TooGreat_Clash : M C_TooGreat (.ref C_Clash) = some false
  m_TooGreat_NoEdit : M C_TooGreat (.ref C_NoEdit) = some false
  m_TooGreat_TooGreat : M C_TooGreat (.ref C_TooGreat) = some true
  m_TooGreat_NoText : M C_TooGreat (.ref C_NoText) = some false
  m_NoText_MenderError : M C_NoText (.ref C_MenderError) = some true
  m_NoText_NoAsk : M C_NoText (.ref C_NoAsk) = some false
  m_NoText_NoMend : M C_NoText (.ref C_NoMend) = some false
  m_NoText_NotWhole : M C_NoText (.ref C_NotWhole) = some false
  m_NoText_NoName : M C_NoText (.ref C_NoName) = some false
  m_NoText_NoPlace : M C_NoText (.ref C_NoPlace) = some false
  m_NoText_Clash : M C_NoText (.ref C_Clash) = some false
  m_NoText_NoEdit : M C_NoText (.ref C_NoEdit) = some false
  m_NoText_TooGreat : M C_NoText (.ref C_TooGreat) = some false
  m_NoText_NoText : M C_NoText (.ref C_NoText) = some true
  m_NoEdit_MenderError : M C_NoEdit (.ref C_MenderError) = some true
  m_NoEdit_NoAsk : M C_NoEdit (.ref C_NoAsk) = some false
  m_NoEdit_NoMend : M C_NoEdit (.ref C_NoMend) = some false
  m_NoEdit_NotWhole : M C_NoEdit (.ref C_NotWhole) = some false
  m_NoEdit_NoName : M C_NoEdit (.ref C_NoName) = some false
  m_NoEdit_NoPlace : M C_NoEdit (.ref C_NoPlace) = some false
  m_NoEdit_Clash : M C_NoEdit (.ref C_Clash) = some false
  m_NoEdit_NoEdit : M C_NoEdit (.ref C_NoEdit) = some true
  m_NoEdit_TooGreat : M C_NoEdit (.ref C_TooGreat) = some false
  m_NoEdit_NoText : M C_NoEdit (.ref C_NoText) = some false
  m_Clash_MenderError : M C_Clash (.ref C_MenderError) = some true
  m_Clash_NoAsk : M C_Clash (.ref C_NoAsk) = some false
  m_Clash_NoMend : M C_Clash (.ref C_NoMend) = some false
  m_Clash_NotWhole : M C_Clash (.ref C_NotWhole) = some false
  m_Clash_NoName : M C_Clash (.ref C_NoName) = some false
  m_Clash_NoPlace : M C_Clash (.ref C_NoPlace) = some false
  m_Clash_Clash : M C_Clash (.ref C_Clash) = some true
  m_Clash_NoEdit : M C_Clash (.ref C_NoEdit) = some false
  m_Clash_TooGreat : M C_Clash (.ref C_TooGreat) = some false
  m_Clash_NoText : M C_Clash (.ref C_NoText) = some false
  m_TooGreat_ValueError : M C_TooGreat (.ty "ValueError") = some true
  m_NoText_ValueError : M C_NoText (.ty "ValueError") = some true
  m_NoEdit_ValueError : M C_NoEdit (.ty "ValueError") = some true
  m_Clash_ValueError : M C_Clash (.ty "ValueError") = some true
section
variable {M : MX} {C_TooGreat C_NoText C_NoEdit C_Clash C_MenderError C_NoAsk C_NoMend C_NotWhole C_NoName C_NoPlace : Addr}
theorem pure_is_text (em : Em M C_TooGreat C_NoText C_NoEdit C_Clash C_MenderError C_NoAsk C_NoMend C_NotWhole C_NoName C_NoPlace) : ∀ args o ret exc, S_is_text C_NoText C_TooGreat args o ret exc → w_is_text M C_TooGreat C_NoText C_MenderError (fun x s => exc x (cutL o.length s.o)) (pst0 args o 1) (bodyE o.length ret) :=
  pure_is_text0 em.m_NoText_MenderError em.m_TooGreat_MenderError
def S_law_word (N E : Addr) : FS := fun args o ret exc => ∃ x : XV, args = [.exc x] ∧ o = [] ∧ ((x.C = N ∧ ret (.d (.str "text")) []) ∨ (x.C = E ∧ ret (.d (.str "edit")) []))
def w_law_word (M : MX) (C_TooGreat : Addr) (C_NoText : Addr) (C_NoEdit : Addr) (C_Clash : Addr) (C_NoAsk : Addr) (C_NoMend : Addr) (C_NotWhole : Addr) (C_NoName : Addr) (C_NoPlace : Addr) : SW :=
 (wSeq (wAsg (wLst (wCons (wIsE M (.ref C_NoText) (wVar 0)) (wCons (wIsE M (.ref C_TooGreat) (wVar 0)) (wCons (wIsE M (.ref C_NoEdit) (wVar 0)) wNil)))) 1)
 (wSeq (wAsg (wCat (wVar 1) (wLst (wCons (wIsE M (.ref C_Clash) (wVar 0)) (wCons (wIsE M (.ref C_NoPlace) (wVar 0)) (wCons (wIsE M (.ref C_NoName) (wVar 0)) wNil))))) 1)
 (wSeq (wAsg (wCat (wVar 1) (wLst (wCons (wIsE M (.ref C_NotWhole) (wVar 0)) (wCons (wIsE M (.ref C_NoMend) (wVar 0)) (wCons (wIsE M (.ref C_NoAsk) (wVar 0)) wNil))))) 1)
 (wSeq (wIfS (wOr (wB (wNe (wCount (wVar 1) (wC (.bool true))) (wC (.int 1)))) (wNot (wB (wIsE M (.ty "ValueError") (wVar 0)))))
  (wRet (wC (.str "other")))
  wNext)
 (wRet (wIx (wLst (wCons (wC (.str "text")) (wCons (wC (.str "great")) (wCons (wC (.str "edit")) (wCons (wC (.str "clash")) (wCons (wC (.str "place")) (wCons (wC (.str "name")) (wCons (wC (.str "whole")) (wCons (wC (.str "mend")) (wCons (wC (.str "ask")) wNil)))))))))) (wIndex (wVar 1) (wC (.bool true)))))))))
theorem pure_law_word (em : Em M C_TooGreat C_NoText C_NoEdit C_Clash C_MenderError C_NoAsk C_NoMend C_NotWhole C_NoName C_NoPlace) : ∀ args o ret exc, S_law_word C_NoText C_NoEdit args o ret exc → w_law_word M C_TooGreat C_NoText C_NoEdit C_Clash C_NoAsk C_NoMend C_NotWhole C_NoName C_NoPlace (fun x s => exc x (cutL o.length s.o)) (pst0 args o 2) (bodyE o.length ret) := by
  rintro _ _ ret exc ⟨⟨C, fs⟩, rfl, rfl, ⟨hC, h⟩ | ⟨hC, h⟩⟩
  · unfold w_law_word
    have hC : C = C_NoText := hC
    subst hC
    walk_at "go"
    refine ⟨_, _, rfl, em.m_NoText_NoText, ?_⟩
    walk_at "go"
    refine ⟨_, _, rfl, em.m_NoText_TooGreat, ?_⟩
    walk_at "go"
    refine ⟨_, _, rfl, em.m_NoText_NoEdit, ?_⟩
    walk_at "go"
    refine ⟨_, _, rfl, em.m_NoText_Clash, ?_⟩
    walk_at "go"
    refine ⟨_, _, rfl, em.m_NoText_NoPlace, ?_⟩
    walk_at "go"
    refine ⟨_, _, rfl, em.m_NoText_NoName, ?_⟩
    walk_at "go"
    refine ⟨_, _, rfl, em.m_NoText_NotWhole, ?_⟩
    walk_at "go"
    refine ⟨_, _, rfl, em.m_NoText_NoMend, ?_⟩
    walk_at "go"
    refine ⟨_, _, rfl, em.m_NoText_NoAsk, ?_⟩
    walk_at "go"
    refine ⟨⟨_, rfl⟩, ?_⟩
    walk_at "go"
    refine ⟨_, _, rfl, em.m_NoText_ValueError, ?_⟩
    walk_at "go"
    refine ⟨⟨_, rfl⟩, ?_⟩
    walk_at "go"
    refine ⟨_, _, 0, .bool true, rfl, rfl, by decide, by decide, rfl, rfl, fun m z hm => absurd hm (Nat.not_lt_zero m), ?_⟩
    exact ⟨_, _, rfl, rfl, trivial, _, rfl, h⟩
  · unfold w_law_word
    have hC : C = C_NoEdit := hC
    subst hC
    walk_at "go"
    refine ⟨_, _, rfl, em.m_NoEdit_NoText, ?_⟩
    walk_at "go"
    refine ⟨_, _, rfl, em.m_NoEdit_TooGreat, ?_⟩
    walk_at "go"
    refine ⟨_, _, rfl, em.m_NoEdit_NoEdit, ?_⟩
    walk_at "go"
    refine ⟨_, _, rfl, em.m_NoEdit_Clash, ?_⟩
    walk_at "go"
    refine ⟨_, _, rfl, em.m_NoEdit_NoPlace, ?_⟩
    walk_at "go"
    refine ⟨_, _, rfl, em.m_NoEdit_NoName, ?_⟩
    walk_at "go"
    refine ⟨_, _, rfl, em.m_NoEdit_NotWhole, ?_⟩
    walk_at "go"
    refine ⟨_, _, rfl, em.m_NoEdit_NoMend, ?_⟩
    walk_at "go"
    refine ⟨_, _, rfl, em.m_NoEdit_NoAsk, ?_⟩
    walk_at "go"
    refine ⟨⟨_, rfl⟩, ?_⟩
    walk_at "go"
    refine ⟨_, _, rfl, em.m_NoEdit_ValueError, ?_⟩
    walk_at "go"
    refine ⟨⟨_, rfl⟩, ?_⟩
    walk_at "go"
    refine ⟨_, _, 2, .bool true, rfl, rfl, by decide, by decide, rfl, rfl, fun m z hm hz => by
      match m, hm with
      | 0, _ => cases hz; rfl
      | 1, _ => cases hz; rfl, ?_⟩
    exact ⟨_, _, rfl, rfl, trivial, _, rfl, h⟩
def S_law_told (N E : Addr) : LBT → LBT := fun B o ret _ => ∀ (k : PV → List OC → Prop) (kx : XV → List OC → Prop), (∀ v o', ret v o' → k v o') → (∀ x o', x.C = N → ret (.d (.str "refused text")) o' → kx x o') → (∀ x o', x.C = E → ret (.d (.str "refused edit")) o' → kx x o') → B o k kx
def w_law_told (M : MX) (C_NoText : Addr) (C_NoEdit : Addr) (C_MenderError : Addr) (f d : Addr) (q : Str) (ps : List PV) (us : List V) (B : LBT) : SW :=
 (wSeq (wAsg (wC .none) 1)
 (wSeq (wTry M (wAsg (wAct 0 f d q ps us B) 1)
  ((C_MenderError, some 2, (wAsg (wAdd (wC (.str "refused ")) (wCall (S_law_word C_NoText C_NoEdit) (wCons (wVar 2) wNil))) 1)) :: []))
 (wRet (wVar 1))))
theorem pure_law_told (em : Em M C_TooGreat C_NoText C_NoEdit C_Clash C_MenderError C_NoAsk C_NoMend C_NotWhole C_NoName C_NoPlace) : ∀ f d q ps us B o ret exc, S_law_told C_NoText C_NoEdit B o ret exc → w_law_told M C_NoText C_NoEdit C_MenderError f d q ps us B (fun x s => exc x s.o) (pst0 [.fn f d q ps us] o 3) (bodyO ret) := by
  rintro f d q ps us B o ret exc h
  unfold w_law_told
  walk_at "go"
  refine h _ _ (fun v o' hr => ?_) (fun x o' hx hr => ?_) (fun x o' hx hr => ?_)
  · exact ⟨v, rfl, hr⟩
  · obtain ⟨C, fs⟩ := x
    have hx : C = C_NoText := hx
    subst hx
    refine ⟨true, em.m_NoText_MenderError, fun _ => ?_, fun z => nomatch z⟩
    walk_at "go"
    refine .inl ⟨rfl, ?_⟩
    walk_at "go"
    refine ⟨Nat.le_of_ble_eq_true rfl, ?_⟩
    have e : ("refused " : Str) ++ ("text" : Str) = ("refused text" : Str) := by decide +kernel
    refine ⟨_, congrArg (fun s : Str => some (some (PV.d (.str s)))) e, ?_⟩
    exact hr
  · obtain ⟨C, fs⟩ := x
    have hx : C = C_NoEdit := hx
    subst hx
    refine ⟨true, em.m_NoEdit_MenderError, fun _ => ?_, fun z => nomatch z⟩
    walk_at "go"
    refine .inr ⟨rfl, ?_⟩
    walk_at "go"
    refine ⟨Nat.le_of_ble_eq_true rfl, ?_⟩
    have e : ("refused " : Str) ++ ("edit" : Str) = ("refused edit" : Str) := by decide +kernel
    refine ⟨_, congrArg (fun s : Str => some (some (PV.d (.str s)))) e, ?_⟩
    exact hr
end
end K47

namespace K47
open PySem L2 PW
open K41 hiding S_backs S_done S_is_place S_is_text S_need_edits cut_app pure_backs pure_done pure_is_place pure_is_text0 pure_need_edits set_last sh_at w_backs w_done w_is_place w_is_text w_need_edits
open K42
local macro_rules
  | `(tactic| walk_at "sz") => `(tactic| first | omega | (simp only [tx_len, List.length_append, List.length_map, List.length_cons, List.length_nil, List.length_take, List.length_drop] <;> omega))
  | `(tactic| walk_at "go") => `(tactic| repeat (first | refine ⟨rfl, ?_⟩ | refine ⟨trivial, ?_⟩ | refine ⟨_, rfl, ?_⟩ | refine ⟨_, rfl, rfl, ?_⟩ | refine ⟨_, _, rfl, rfl, ?_⟩ | refine ⟨_, ix_hd, ?_⟩ | refine br_t rfl ?_ | refine br_f rfl ?_ | (refine ⟨le_sz ?_, ?_⟩; focus walk_at "sz") | (refine ⟨lt_sz ?_, ?_⟩; focus walk_at "sz") | (refine ⟨strLe_tx ?_, ?_⟩; focus walk_at "sz") | refine ⟨cmul_r rfl, ?_⟩ | refine ⟨cmul_l rfl, ?_⟩ | refine ⟨pos_ok rfl, ?_⟩ | refine ⟨cdiv_ok rfl, ?_⟩ | refine ⟨_, _, _, _, rfl, rfl, rfl, rfl, ?_⟩ | refine ⟨_, _, rfl, ?_⟩ | refine ⟨_, _, _, rfl, rfl, rfl, ?_⟩ | refine ⟨_, _, _, rfl, rfl, ?_⟩ | rw [tx_app]))
structure Sh (k m : Nat) (d : PyData) : Prop where
  ls : d.leavesShort 8 = true
  bk : d.bulk ≤ m
  sh : d.showable = true
  nd : d.hasDict = false
  dp : d.depth ≤ k
theorem Sh.mono {k m k' m' : Nat} {d : PyData} (h : Sh k m d) (h1 : k ≤ k') (h2 : m ≤ m') : Sh k' m' d := ⟨h.ls, Nat.le_trans h.bk h2, h.sh, h.nd, Nat.le_trans h.dp h1⟩
theorem Sh.str {k m : Nat} {l : List Nat} (h : gdTab l) (hl : l.length ≤ m) : Sh k m (dT l) := by
  refine ⟨?_, hl, rfl, rfl, Nat.zero_le _⟩
  show (tx l).cps.toList.all (fun c => decide (c < 16 ^ 8)) = true
  rw [List.all_eq_true]
  intro c mc
  have mc : c ∈ l := mc
  rw [decide_eq_true_eq]
  rcases h c mc with q | rfl
  · unfold gd at q
    simp only [Bool.or_eq_true, Bool.and_eq_true, decide_eq_true_eq] at q
    have : c ≤ 126 := by omega
    exact Nat.lt_of_le_of_lt this (by decide)
  · decide
theorem shown_int (i : Int) (h : i.natAbs ≤ 1900) : (PyData.shown (.int i)).length ≤ 8 := by
  have a : ∀ n < 1901, (PyData.shown (.int (n : Nat))).length ≤ 8 := by decide +kernel
  have b : ∀ n < 1901, (PyData.shown (.int (-(n : Nat)))).length ≤ 8 := by decide +kernel
  rcases Int.le_total 0 i with q | q
  · obtain ⟨n, rfl⟩ : ∃ n : Nat, i = (n : Nat) := ⟨i.toNat, by omega⟩
    exact a n (by omega)
  · obtain ⟨n, rfl⟩ : ∃ n : Nat, i = -(n : Nat) := ⟨i.natAbs, by omega⟩
    exact b n (by omega)
theorem Sh.int {k m : Nat} {i : Int} (h : i.natAbs ≤ 1900) : Sh k m (.int i) := by
  refine ⟨?_, Nat.zero_le _, ?_, rfl, Nat.zero_le _⟩
  · show decide ((PyData.shown (.int i)).length ≤ 8) = true
    exact decide_eq_true (shown_int i h)
  · show decide _ = true
    exact decide_eq_true (Nat.lt_of_le_of_lt (Nat.log2_le_self _) (by omega))
theorem Sh.non {k m : Nat} : Sh k m .none := ⟨rfl, Nat.zero_le _, rfl, rfl, Nat.zero_le _⟩
theorem Sh.bool {k m : Nat} {b : Bool} : Sh k m (.bool b) := ⟨rfl, Nat.zero_le _, rfl, rfl, Nat.zero_le _⟩
theorem Sh.all {k m : Nat} : ∀ {xs : List PyData}, (∀ x ∈ xs, Sh k m x) → PyData.leavesShortAll 8 xs = true ∧ PyData.bulkAll xs ≤ xs.length * (m + 1) ∧ PyData.showableAll xs = true ∧ PyData.hasDictAll xs = false ∧ PyData.depthAll xs ≤ k
  | [], _ => ⟨rfl, Nat.zero_le _, rfl, rfl, Nat.zero_le _⟩
  | x :: xs, h => by
    obtain ⟨a, b, c, d, e⟩ := Sh.all fun y my => h y (List.mem_cons_of_mem _ my)
    have q := h x List.mem_cons_self
    refine ⟨?_, ?_, ?_, ?_, ?_⟩
    · show (x.leavesShort 8 && _) = true
      rw [q.ls, a]; rfl
    · show x.bulk + 1 + PyData.bulkAll xs ≤ (xs.length + 1) * (m + 1)
      have := q.bk
      rw [Nat.succ_mul]
      omega
    · show (x.showable && _) = true
      rw [q.sh, c]; rfl
    · show (x.hasDict || _) = false
      rw [q.nd, d]; rfl
    · show max x.depth (PyData.depthAll xs) ≤ k
      exact Nat.max_le.mpr ⟨q.dp, e⟩
theorem Sh.list {k m : Nat} {xs : List PyData} (h : ∀ x ∈ xs, Sh k m x) : Sh (k + 1) (xs.length * (m + 1)) (.list xs) :=
  let ⟨a, b, c, d, e⟩ := Sh.all h; ⟨a, b, c, d, Nat.succ_le_succ e⟩
theorem Sh.tuple {k m : Nat} {xs : List PyData} (h : ∀ x ∈ xs, Sh k m x) : Sh (k + 1) (xs.length * (m + 1)) (.tuple xs) :=
  let ⟨a, b, c, d, e⟩ := Sh.all h; ⟨a, b, c, d, Nat.succ_le_succ e⟩
def bdS : Nat → Nat
  | 0 => 10
  | n + 1 => 5 * (bdS n + 1)
theorem bdS_le : ∀ n, 10 ≤ bdS n
  | 0 => Nat.le_refl _
  | n + 1 => by have := bdS_le n; show 10 ≤ 5 * (bdS n + 1); omega
theorem Sane.sh : ∀ {n : Nat} {x : PyData}, Sane n x → Sh n (bdS n) x
  | n + 1, .none, _ => Sh.non
  | n + 1, .bool _, _ => Sh.bool
  | n + 1, .int i, h => Sh.int (Nat.le_trans h (by decide))
  | n + 1, .str s, ⟨l, e, h, hl⟩ => by
    rw [e]
    exact Sh.str h (Nat.le_trans hl (bdS_le _))
  | n + 1, .list xs, h => (Sh.list fun y my => (h.2 y my).sh).mono (Nat.le_refl _) (Nat.mul_le_mul_right _ h.1)
  | n + 1, .tuple xs, h => (Sh.tuple fun y my => (h.2 y my).sh).mono (Nat.le_refl _) (Nat.mul_le_mul_right _ h.1)
theorem Sh.fin {k m : Nat} {d : PyData} (h : Sh k m d) (hk : k ≤ 90) (hm : m ≤ 1600000) : d.showable = true ∧ d.hasDict = false ∧ d.depth ≤ 90 ∧ d.shown.length ≤ sizeLine := by
  refine ⟨h.sh, h.nd, Nat.le_trans h.dp hk, ?_⟩
  have h1 := PyData.shown_le_bulk 8 (Nat.le_refl _) d h.ls
  have h2 := h.bk
  have e : sizeLine = 2 ^ 24 := rfl
  rw [e]
  omega
end K47

namespace K47
open PySem L2 PW
open K41 hiding S_backs S_done S_is_place S_is_text S_need_edits cut_app pure_backs pure_done pure_is_place pure_is_text0 pure_need_edits set_last sh_at w_backs w_done w_is_place w_is_text w_need_edits
open K42
local macro_rules
  | `(tactic| walk_at "sz") => `(tactic| first | omega | (simp only [tx_len, List.length_append, List.length_map, List.length_cons, List.length_nil, List.length_take, List.length_drop] <;> omega))
  | `(tactic| walk_at "go") => `(tactic| repeat (first | refine ⟨rfl, ?_⟩ | refine ⟨trivial, ?_⟩ | refine ⟨_, rfl, ?_⟩ | refine ⟨_, rfl, rfl, ?_⟩ | refine ⟨_, _, rfl, rfl, ?_⟩ | refine ⟨_, ix_hd, ?_⟩ | refine br_t rfl ?_ | refine br_f rfl ?_ | (refine ⟨le_sz ?_, ?_⟩; focus walk_at "sz") | (refine ⟨lt_sz ?_, ?_⟩; focus walk_at "sz") | (refine ⟨strLe_tx ?_, ?_⟩; focus walk_at "sz") | refine ⟨cmul_r rfl, ?_⟩ | refine ⟨cmul_l rfl, ?_⟩ | refine ⟨pos_ok rfl, ?_⟩ | refine ⟨cdiv_ok rfl, ?_⟩ | refine ⟨_, _, _, _, rfl, rfl, rfl, rfl, ?_⟩ | refine ⟨_, _, rfl, ?_⟩ | refine ⟨_, _, _, rfl, rfl, rfl, ?_⟩ | refine ⟨_, _, _, rfl, rfl, ?_⟩ | rw [tx_app]))
abbrev qR : Str := "_law_right.<locals>.<lambda>"
def S_law_right (P : Addr) : FSO := fun args o ret exc => ∃ (t : List Nat) (z : PyData) (i : Nat), args = [.d (dT t), .d z] ∧ o[i]? = some (.tb P qR) ∧ gdT t ∧ t.length ≤ 100 ∧ Sane 7 z ∧ ∀ o', Stays o o' [] → ret (.d (.bool true)) o'
def w_rt (G N E P : Addr) : SW :=
 (wSeq (wAsg (wRepr (wVar 1)) 5)
 (wSeq (wAsg (wLst (wCons (wCallB P ("_law_right.<locals>.<lambda>" : Str) (S_law_told N E) (wCall (S_done N G E) (wCons (wVar 0) (wCons (wVar 1) wNil)))) wNil)) 6)
 (wSeq (wDrop (wApp (wVar 6) (wCallB P ("_law_right.<locals>.<lambda>" : Str) (S_law_told N E) (wCall (S_backs N G E) (wCons (wVar 0) (wCons (wVar 1) wNil))))))
 (wSeq (wDrop (wApp (wVar 6) (wCallB P ("_law_right.<locals>.<lambda>" : Str) (S_law_told N E) (wCall (S_moved N G E) (wCons (wVar 0) (wCons (wVar 1) (wCons (wLst wNil) wNil)))))))
 (wSeq (wDrop (wApp (wVar 6) (wCallB P ("_law_right.<locals>.<lambda>" : Str) (S_law_told N E) (wCall (S_moved N G E) (wCons (wVar 0) (wCons (wLst wNil) (wCons (wVar 1) wNil)))))))
 (wRet (wAndV (wEq (wRepr (wVar 6)) (wRepr (wVar 2))) (wEq (wRepr (wVar 1)) (wVar 5)))))))))
def w_law_right (C_TooGreat : Addr) (C_NoText : Addr) (C_NoEdit : Addr) (P_law_right : Addr) : SW :=
 (wSeq (wAsg (wRep (wLst (wCons (wC (.str "refused edit")) wNil)) (wC (.int 4))) 2)
 (wSeq (wIfS (wB (wCall S_law_are_edits (wCons (wVar 1) (wCons (wVar 0) wNil))))
  (wSeq (wUnp (wCall S_law_done (wCons (wVar 0) (wCons (wVar 1) wNil))) (gT 2 (gsCons (gN 3) (gsCons (gN 4) gsNil))))
 (wAsg (wLst (wCons (wVar 3) (wCons (wVar 4) (wCons (wVar 1) (wCons (wLst wNil) wNil))))) 2))
  wNext)
 (w_rt C_TooGreat C_NoText C_NoEdit P_law_right)))
section
variable {G N E P : Addr} {t : List Nat} {z : PyData}
def Out (q : List OC) (d : PyData) (v : PV) (q' : List OC) : Prop := Stays q q' [] ∧ (v = .d d ∨ ∃ xs m, d = .list xs ∧ v = .own m ∧ q'[m]? = some (.dl xs) ∧ q.length ≤ m)
theorem out_frz {r : List (Option PV)} {q q' : List OC} {d : PyData} {v : PV} {kk : PyData → PSt → Prop} (h : Out q d v q') (hr : ∀ m x, q.length ≤ m → r.map (subO m x) = r) (hk : ∀ q2, Stays q q2 [] → kk d ⟨r, q2⟩) : frz v ⟨r, q'⟩ kk := by
  obtain ⟨hs, rfl | ⟨xs, m, rfl, rfl, hm, hl⟩⟩ := h
  · exact hk _ hs
  · refine ⟨xs, hm, ?_⟩
    show kk (.list xs) ⟨r.map (subO m _), q'.set m .no⟩
    rw [hr m _ hl]
    exact hk _ (hs.set (.inr hl))
theorem prep_own {m : Nat} {xs : List PyData} {vs : List PV} {s : PSt} {k : List PV → PSt → Prop} (h : s.o[m]? = some (.dl xs)) (g : prep vs (s.frz m xs) fun ys s2 => k (.d (.list xs) :: ys) s2) : prep (.own m :: vs) s k := by
  unfold prep
  rw [h]
  exact ⟨xs, h, g⟩
theorem prep_ddo {x y : PyData} {m : Nat} {xs : List PyData} {s : PSt} {k : List PV → PSt → Prop} (h : s.o[m]? = some (.dl xs)) (g : k [.d x, .d y, .d (.list xs)] (s.frz m xs)) : prep [.d x, .d y, .own m] s k := by
  show prep [.own m] s fun ys s2 => k (.d x :: .d y :: ys) s2
  exact prep_own h g
theorem prep_dod {x y : PyData} {m : Nat} {xs : List PyData} {s : PSt} {k : List PV → PSt → Prop} (h : s.o[m]? = some (.dl xs)) (g : k [.d x, .d (.list xs), .d y] (s.frz m xs)) : prep [.d x, .own m, .d y] s k := by
  show prep [.own m, .d y] s fun ys s2 => k (.d x :: ys) s2
  exact prep_own h g
def Tld (N E : Addr) (t : List Nat) (z : PyData) (wl : EW) (d : PyData) : Prop := ∀ (r : List (Option PV)) (q : List OC) (ret : PV → List OC → Prop) (exc : XV → List OC → Prop), r[0]? = some (some (.d (dT t))) → r[1]? = some (some (.d z)) → (∀ v q', Out q d v q' → ret v q') →
  S_law_told N E (fun o ret exc => wl (fun x s1 => exc x s1.o) ⟨r, o⟩ (fun v s1 => ret v s1.o)) q ret exc
abbrev l1 (G N E : Addr) : EW := wCall (S_done N G E) (wCons (wVar 0) (wCons (wVar 1) wNil))
abbrev l2 (G N E : Addr) : EW := wCall (S_backs N G E) (wCons (wVar 0) (wCons (wVar 1) wNil))
abbrev l3 (G N E : Addr) : EW := wCall (S_moved N G E) (wCons (wVar 0) (wCons (wVar 1) (wCons (wLst wNil) wNil)))
abbrev l4 (G N E : Addr) : EW := wCall (S_moved N G E) (wCons (wVar 0) (wCons (wLst wNil) (wCons (wVar 1) wNil)))
section
variable {L : List Ed} (hg : gdT t) (ht : t.length ≤ 2000) (hE : IsE t.length z L) (hs : smW L ≤ 100000) (hd : (doneA t 0 L).length ≤ 2000)
include hg ht hE hs hd
theorem tl1 : Tld N E t z (l1 G N E) (dT (doneA t 0 L)) := fun r q ret exc h0 h1 h k kx hk _ _ =>
  ⟨_, h0, _, h1, _, _, rfl, rfl, .inr ⟨t, rfl, hg, ht, .inr ⟨L, hE, hs, hd, hk _ _ (h _ _ ⟨Stays.refl _ _, .inl rfl⟩)⟩⟩⟩
theorem tl2 : Tld N E t z (l2 G N E) (.list ((backsA t 0 0 L).map edD)) := fun r q ret exc h0 h1 h k kx hk _ _ =>
  ⟨_, h0, _, h1, _, _, rfl, rfl, .inr ⟨t, rfl, hg, ht, .inr ⟨L, hE, hs, hd, hk _ _ (h _ _ ⟨(Stays.refl _ _).add _, .inr ⟨_, _, rfl, rfl, get_end _ _, Nat.le_refl _⟩⟩)⟩⟩⟩
theorem tl3 : Tld N E t z (l3 G N E) z := fun r q ret exc h0 h1 h k kx hk _ _ => by
  obtain ⟨rfl, hW, hn⟩ := id hE
  refine ⟨_, h0, _, h1, Nat.zero_le _, ?_⟩
  show prep [_, _, .own q.length] (⟨r, q ++ [.dl []]⟩ : PSt) _
  refine prep_ddo (get_end _ _) ?_
  refine ⟨_, _, t, rfl, rfl, hg, ht, .inr (.inr (.inl ⟨L, hE, rfl, hk _ _ (h _ _ ⟨?_, .inr ⟨_, _, rfl, rfl, get_end _ _, ?_⟩⟩)⟩))⟩
  · exact (((Stays.refl _ _).add _).set (.inr (Nat.le_refl _))).add _
  · show q.length ≤ ((q ++ [OC.dl []]).set q.length OC.no).length
    rw [List.length_set, List.length_append]
    omega
theorem tl4 : Tld N E t z (l4 G N E) (.list []) := fun r q ret exc h0 h1 h k kx hk _ _ => by
  refine ⟨_, h0, Nat.zero_le _, _, h1, ?_⟩
  show prep [_, .own q.length, _] (⟨r, q ++ [.dl []]⟩ : PSt) _
  refine prep_dod (get_end _ _) ?_
  refine ⟨_, _, t, rfl, rfl, hg, ht, .inr (.inr (.inr ⟨L, rfl, hE, hs, hd, hk _ _ (h _ _ ⟨?_, .inr ⟨_, _, rfl, rfl, get_end _ _, ?_⟩⟩)⟩))⟩
  · exact (((Stays.refl _ _).add _).set (.inr (Nat.le_refl _))).add _
  · show q.length ≤ ((q ++ [OC.dl []]).set q.length OC.no).length
    rw [List.length_set, List.length_append]
    omega
end
section
variable (hg : gdT t) (ht : t.length ≤ 2000) (hN : NotD t.length z)
include hg ht hN
theorem tb1 : Tld N E t z (l1 G N E) (.str "refused edit") := fun r q ret exc h0 h1 h k kx _ _ hE =>
  ⟨_, h0, _, h1, _, _, rfl, rfl, .inr ⟨t, rfl, hg, ht, .inl ⟨hN, hE _ _ rfl (h _ _ ⟨Stays.refl _ _, .inl rfl⟩)⟩⟩⟩
theorem tb2 : Tld N E t z (l2 G N E) (.str "refused edit") := fun r q ret exc h0 h1 h k kx _ _ hE =>
  ⟨_, h0, _, h1, _, _, rfl, rfl, .inr ⟨t, rfl, hg, ht, .inl ⟨hN, hE _ _ rfl (h _ _ ⟨Stays.refl _ _, .inl rfl⟩)⟩⟩⟩
theorem tb3 : Tld N E t z (l3 G N E) (.str "refused edit") := fun r q ret exc h0 h1 h k kx _ _ hE => by
  refine ⟨_, h0, _, h1, Nat.zero_le _, ?_⟩
  show prep [_, _, .own q.length] (⟨r, q ++ [.dl []]⟩ : PSt) _
  refine prep_ddo (get_end _ _) ?_
  refine ⟨_, _, t, rfl, rfl, hg, ht, .inl ⟨hN, hE _ _ rfl (h _ _ ⟨?_, .inl rfl⟩)⟩⟩
  exact ((Stays.refl _ _).add _).set (.inr (Nat.le_refl _))
theorem tb4 : Tld N E t z (l4 G N E) (.str "refused edit") := fun r q ret exc h0 h1 h k kx _ _ hE => by
  refine ⟨_, h0, Nat.zero_le _, _, h1, ?_⟩
  show prep [_, .own q.length, _] (⟨r, q ++ [.dl []]⟩ : PSt) _
  refine prep_dod (get_end _ _) ?_
  refine ⟨_, _, t, rfl, rfl, hg, ht, .inr (.inl ⟨rfl, hN, hE _ _ rfl (h _ _ ⟨?_, .inl rfl⟩)⟩)⟩
  exact ((Stays.refl _ _).add _).set (.inr (Nat.le_refl _))
end
theorem app_step {wl : EW} {d : PyData} {r : List (Option PV)} {q : List OC} {m6 i : Nat} {ws : List PyData} {K : PEnds} {kx : KX} (T : Tld N E t z wl d) (h0 : r[0]? = some (some (.d (dT t)))) (h1 : r[1]? = some (some (.d z))) (h6 : r[6]? = some (some (.own m6))) (hm : q[m6]? = some (.dl ws)) (hw : ws.length ≤ 10)
    (hi : q[i]? = some (.tb P qR)) (hr : ∀ m x, q.length ≤ m → r.map (subO m x) = r) (hk : ∀ q2, Stays q q2 [] → K.nx ⟨r, q2.set m6 (.dl (ws ++ [d]))⟩) : wDrop (wApp (wVar 6) (wCallB P qR (S_law_told N E) wl)) kx ⟨r, q⟩ K :=
  ⟨_, h6, m6, ws, rfl, hm, ⟨i, hi⟩, T r q _ _ h0 h1 fun v q' hO => out_frz hO hr fun q2 hS => ⟨ws, (hS.2 m6 (in_len hm) List.not_mem_nil).trans hm, Nat.lt_of_le_of_lt hw (Nat.le_of_ble_eq_true rfl), hk q2 hS⟩⟩
theorem rt_ok {d1 d2 d3 d4 : PyData} {k i : Nat} {q : List OC} {x3 x4 : Option PV} {ret : PV → List OC → Prop} {kx : KX} (hz : z.showable = true ∧ z.hasDict = false ∧ z.depth ≤ 90 ∧ z.shown.length ≤ sizeLine)
    (hD : (PyData.list [d1, d2, d3, d4]).showable = true ∧ (PyData.list [d1, d2, d3, d4]).hasDict = false ∧ (PyData.list [d1, d2, d3, d4]).depth ≤ 90 ∧ (PyData.list [d1, d2, d3, d4]).shown.length ≤ sizeLine)
    (T1 : Tld N E t z (l1 G N E) d1) (T2 : Tld N E t z (l2 G N E) d2) (T3 : Tld N E t z (l3 G N E) d3) (T4 : Tld N E t z (l4 G N E) d4) (hq : q[k]? = some (.dl [d1, d2, d3, d4])) (hi : q[i]? = some (.tb P qR)) (h3 : ∀ m x, subO m x x3 = x3) (h4 : ∀ m x, subO m x x4 = x4)
    (h : ∀ o', Stays q o' [] → ret (.d (.bool true)) o') : w_rt G N E P kx ⟨[some (.d (dT t)), some (.d z), some (.own k), x3, x4, none, none], q⟩ (bodyO ret) := by
  unfold w_rt
  have hkl := in_len hq
  have eqs : ∀ s : Str, PyData.eqv (.str s) (.str s) = true := fun s => by show (s == s) = true; exact beq_self_eq_true s
  walk_at "go"
  refine ⟨hz.1, hz.2.1, hz.2.2.1, hz.2.2.2, ?_⟩
  have hr0 : ∀ m x, q.length ≤ m → ([some (.d (dT t)), some (.d z), some (.own k), x3, x4, some (.d (.str z.shown)), none] : List (Option PV)).map (subO m x) = [some (.d (dT t)), some (.d z), some (.own k), x3, x4, some (.d (.str z.shown)), none] := fun m x hm => by
    show [_, _, subO m x (some (.own k)), subO m x x3, subO m x x4, _, _] = _
    rw [h3, h4, subO_ne (show ¬ k = m by omega)]
    rfl
  refine ⟨⟨i, hi⟩, T1 _ q _ _ rfl rfl fun v q' hO => out_frz hO hr0 fun q2 hS => ⟨Nat.le_of_ble_eq_true rfl, ?_⟩⟩
  have hl2 : q.length ≤ q2.length := hS.1
  have hr1 : ∀ (q3 : List OC) m x, q2.length < q3.length → q3.length ≤ m → ([some (.d (dT t)), some (.d z), some (.own k), x3, x4, some (.d (.str z.shown)), some (.own q2.length)] : List (Option PV)).map (subO m x) = [some (.d (dT t)), some (.d z), some (.own k), x3, x4, some (.d (.str z.shown)), some (.own q2.length)] := fun q3 m x h5 hm => by
    show [_, _, subO m x (some (.own k)), subO m x x3, subO m x x4, _, subO m x (some (.own q2.length))] = _
    rw [h3, h4, subO_ne (show ¬ k = m by omega), subO_ne (show ¬ q2.length = m by omega)]
    rfl
  have S2 : Stays q (q2 ++ [.dl [d1]]) [] := hS.add _
  have k2 : q2.length < (q2 ++ [OC.dl [d1]]).length := by rw [List.length_append]; exact Nat.lt_succ_self _
  refine app_step (r := [some (.d (dT t)), some (.d z), some (.own k), x3, x4, some (.d (.str z.shown)), some (.own q2.length)]) (q := q2 ++ [.dl [d1]]) (ws := [d1]) T2 rfl rfl rfl (get_end _ _) (by decide : 1 ≤ 10) ((S2.2 i (in_len hi) List.not_mem_nil).trans hi) (hr1 _ · · k2) fun q3 hS3 => ?_
  have m3 : q3[q2.length]? = some (.dl [d1]) := (hS3.2 _ k2 List.not_mem_nil).trans (get_end _ _)
  have S3 : Stays q (q3.set q2.length (.dl ([d1] ++ [d2]))) [] := (S2.trans hS3 fun _ _ m => m).set (.inr hl2)
  have k3 : q2.length < (q3.set q2.length (.dl ([d1] ++ [d2]))).length := by rw [List.length_set]; exact in_len m3
  refine app_step (r := [some (.d (dT t)), some (.d z), some (.own k), x3, x4, some (.d (.str z.shown)), some (.own q2.length)]) (ws := [d1] ++ [d2]) T3 rfl rfl rfl (List.getElem?_set_self (in_len m3)) (by decide : 2 ≤ 10) ((S3.2 i (in_len hi) List.not_mem_nil).trans hi) (hr1 _ · · k3) fun q4 hS4 => ?_
  have m4 : q4[q2.length]? = some (.dl ([d1] ++ [d2])) := (hS4.2 _ k3 List.not_mem_nil).trans (List.getElem?_set_self (in_len m3))
  have S4 : Stays q (q4.set q2.length (.dl ([d1] ++ [d2] ++ [d3]))) [] := (S3.trans hS4 fun _ _ m => m).set (.inr hl2)
  have k4 : q2.length < (q4.set q2.length (.dl ([d1] ++ [d2] ++ [d3]))).length := by rw [List.length_set]; exact in_len m4
  refine app_step (r := [some (.d (dT t)), some (.d z), some (.own k), x3, x4, some (.d (.str z.shown)), some (.own q2.length)]) (ws := [d1] ++ [d2] ++ [d3]) T4 rfl rfl rfl (List.getElem?_set_self (in_len m4)) (by decide : 3 ≤ 10) ((S4.2 i (in_len hi) List.not_mem_nil).trans hi) (hr1 _ · · k4) fun q5 hS5 => ?_
  have m5 : q5[q2.length]? = some (.dl ([d1] ++ [d2] ++ [d3])) := (hS5.2 _ k4 List.not_mem_nil).trans (List.getElem?_set_self (in_len m4))
  have S5 : Stays q (q5.set q2.length (.dl ([d1] ++ [d2] ++ [d3] ++ [d4]))) [] := (S4.trans hS5 fun _ _ m => m).set (.inr hl2)
  have hqk : (q5.set q2.length (.dl ([d1] ++ [d2] ++ [d3] ++ [d4])))[k]? = some (.dl [d1, d2, d3, d4]) := (S5.2 k hkl List.not_mem_nil).trans hq
  have hq6 : (q5.set q2.length (.dl ([d1] ++ [d2] ++ [d3] ++ [d4])))[q2.length]? = some (.dl [d1, d2, d3, d4]) := List.getElem?_set_self (in_len m5)
  generalize q5.set q2.length (.dl ([d1] ++ [d2] ++ [d3] ++ [d4])) = q6 at *
  walk_at "go"
  have fin : ∀ b : Bool, b = true → ret (.d (.bool b)) q6 := fun b e => by rw [e]; exact h q6 S5
  refine ⟨_, congrArg ocD hq6, hD.1, hD.2.1, hD.2.2.1, hD.2.2.2, ?_⟩
  refine ⟨_, rfl, _, congrArg ocD hqk, hD.1, hD.2.1, hD.2.2.1, hD.2.2.2, ?_⟩
  refine ⟨_, _, rfl, rfl, ⟨rfl, _, rfl, fun _ => ?_, fun z => ?_⟩⟩
  · walk_at "go"
    refine ⟨hz.1, hz.2.1, hz.2.2.1, hz.2.2.2, ?_⟩
    refine ⟨_, rfl, _, _, rfl, rfl, ⟨rfl, ?_⟩⟩
    exact fin _ (eqs _)
  · exact absurd ((eqs _).symm.trans z) (by decide)
theorem wel_all {n : Nat} : ∀ {L : List Ed} {p : Int}, Wel n p L → ∀ x ∈ L, x.1 ≤ n ∧ x.2.1 ≤ n ∧ gdT x.2.2 ∧ x.2.2.length ≤ 2000
  | [], _, _, x, m => absurd m List.not_mem_nil
  | (b, e, w) :: r, _, ⟨_, h2, h3, h4, h5, h6⟩, x, m => by
    rcases List.mem_cons.mp m with rfl | m
    · exact ⟨by show b ≤ n; omega, h3, h4, h5⟩
    · exact wel_all h6 x m
theorem sh_eds {n : Nat} {L : List Ed} (hn : n ≤ 1900) (h : ∀ x ∈ L, x.1 ≤ n ∧ x.2.1 ≤ n ∧ gdT x.2.2 ∧ x.2.2.length ≤ 2000) : Sh 2 (L.length * (3 * 2001 + 1)) (.list (L.map edD)) := by
  have q := Sh.list (k := 1) (m := 3 * 2001) (xs := L.map edD) fun y my => by
    obtain ⟨x, mx, rfl⟩ := List.mem_map.mp my
    obtain ⟨h1, h2, h3, h4⟩ := h x mx
    refine Sh.tuple (k := 0) (m := 2000) (xs := [.int (x.1 : Nat), .int (x.2.1 : Nat), dT x.2.2]) fun v mv => ?_
    simp only [List.mem_cons, List.not_mem_nil, or_false] at mv
    rcases mv with rfl | rfl | rfl
    · exact Sh.int (by omega)
    · exact Sh.int (by omega)
    · exact Sh.str (gdTab_of h3) h4
  rw [List.length_map] at q
  exact q
theorem smW_le0 {k : Nat} : ∀ {L : List Ed}, (∀ x ∈ L, x.2.2.length ≤ k) → smW L ≤ k * L.length
  | [], _ => Nat.zero_le _
  | (b, e, w) :: r, h => by
    have h1 : w.length ≤ k := h _ List.mem_cons_self
    have h2 := smW_le0 (L := r) fun x m => h x (List.mem_cons_of_mem _ m)
    show w.length + smW r ≤ k * (r.length + 1)
    rw [Nat.mul_succ]
    omega
theorem pure_law_right : ∀ args o ret exc, S_law_right P args o ret exc → w_law_right G N E P (fun x s => exc x s.o) (pst0 args o 7) (bodyO ret) := by
  rintro _ o ret exc ⟨t, z, i, rfl, hi, hg, ht, hS, h⟩
  unfold w_law_right
  have hz := hS.sh.fin (by decide) (by decide)
  have ht2 : t.length ≤ 2000 := by omega
  walk_at "go"
  refine ⟨[.str "refused edit"], 4, congrArg ocD (get_end _ _), rfl, by decide, by decide, Nat.le_of_ble_eq_true rfl, ?_⟩
  walk_at "go"
  rcases is_or (n := t.length) hS with ⟨L, hE, hL5, hL10⟩ | hN
  · refine ⟨ht2, hS, .inl ⟨⟨L, hE⟩, ?_⟩⟩
    obtain ⟨rfl, hW, hn⟩ := id hE
    have hsm := smW_le0 hL10
    have hsm2 : smW L ≤ 50 := Nat.le_trans hsm (Nat.mul_le_mul_left 10 hL5)
    have hdl := done_len (t := t) L 0 (-1) (by omega) (Nat.zero_le _) hW
    have hd : (doneA t 0 L).length ≤ 150 := by omega
    have hgd : gdT (doneA t 0 L) := done_gd hg L 0 (-1) hW
    have hB := wel_backs hg ht2 L 0 0 (-1) (-1) (by omega) (by omega) hW
    refine ⟨true, rfl, br_t rfl ?_⟩
    refine ⟨_, rfl, _, rfl, t, L, rfl, rfl, hW, ht2, by omega, by omega, ?_⟩
    walk_at "go"
    refine ⟨[], get_end _ _, Nat.le_of_ble_eq_true rfl, ?_⟩
    have hDs : Sh 3 (4 * (30100 + 1)) (.list [dT (doneA t 0 L), .list ((backsA t 0 0 L).map edD), .list (L.map edD), .list []]) := by
      refine Sh.list (k := 2) (m := 30100) (xs := [dT (doneA t 0 L), .list ((backsA t 0 0 L).map edD), .list (L.map edD), .list []]) fun v mv => ?_
      simp only [List.mem_cons, List.not_mem_nil, or_false] at mv
      rcases mv with rfl | rfl | rfl | rfl
      · exact Sh.str (gdTab_of hgd) (by omega)
      · have q := sh_eds (L := backsA t 0 0 L) (n := 0 + (doneA t 0 L).length) (by omega) (wel_all hB)
        rw [backs_len] at q
        exact q.mono (Nat.le_refl _) (Nat.le_trans (Nat.mul_le_mul_right _ hL5) (by decide))
      · exact (sh_eds (by omega) (wel_all hW)).mono (Nat.le_refl _) (Nat.le_trans (Nat.mul_le_mul_right _ hL5) (by decide))
      · exact (Sh.list (k := 0) (m := 0) (xs := []) fun v m => absurd m List.not_mem_nil).mono (by decide) (by decide)
    have hD := hDs.fin (by decide) (by decide)
    show w_rt G N E P _ ⟨[some (.d (dT t)), some (.d (.list (L.map edD))), some (.own _), some (.d (dT (doneA t 0 L))), some (.d (.list ((backsA t 0 0 L).map edD))), none, none], (o ++ [OC.dl _] ++ [OC.dl _] ++ [OC.dl []]).set _ OC.no ++ [OC.dl [dT (doneA t 0 L), .list ((backsA t 0 0 L).map edD), .list (L.map edD), .list []]]⟩ _
    have hst : ∀ A B : List PyData, Stays o ((o ++ [OC.dl A] ++ [OC.dl B] ++ [OC.dl []]).set (o ++ [OC.dl A] ++ [OC.dl B]).length OC.no) [] := fun A B => ((((Stays.refl o []).add _).add _).add _).set (.inr (by rw [List.length_append, List.length_append]; omega))
    refine rt_ok hz hD (tl1 hg ht2 hE (by omega) (by omega)) (tl2 hg ht2 hE (by omega) (by omega)) (tl3 hg ht2 hE (by omega) (by omega)) (tl4 hg ht2 hE (by omega) (by omega)) (get_end _ _) (get_ap' (((hst _ _).2 i (in_len hi) List.not_mem_nil).trans hi)) (fun _ _ => rfl) (fun _ _ => rfl) fun o' hs => h o' ?_
    exact ((hst _ _).add _).trans hs fun _ _ m => m
  · refine ⟨ht2, hS, .inr ⟨hN, ?_⟩⟩
    refine ⟨false, rfl, br_f rfl ?_⟩
    have hD : Sh 2 100 (.list [.str "refused edit", .str "refused edit", .str "refused edit", .str "refused edit"]) := ⟨by decide +kernel, by decide +kernel, by decide +kernel, by decide +kernel, by decide +kernel⟩
    have hD := hD.fin (by decide) (by decide)
    show w_rt G N E P _ ⟨[some (.d (dT t)), some (.d z), some (.own _), none, none, none, none], o ++ [.dl _] ++ [.dl [.str "refused edit", .str "refused edit", .str "refused edit", .str "refused edit"]]⟩ _
    refine rt_ok hz hD (tb1 hg ht2 hN) (tb2 hg ht2 hN) (tb3 hg ht2 hN) (tb4 hg ht2 hN) (get_end _ _) (get_ap' (get_ap' hi)) (fun _ _ => rfl) (fun _ _ => rfl) fun o' hs => h o' ?_
    exact (((Stays.refl o []).add _).add _).trans hs fun _ _ m => m
end
end K47

namespace K47
open PySem L2 PW
open K41 hiding S_backs S_done S_is_place S_is_text S_need_edits cut_app pure_backs pure_done pure_is_place pure_is_text0 pure_need_edits set_last sh_at w_backs w_done w_is_place w_is_text w_need_edits
open K42
local macro_rules
  | `(tactic| walk_at "sz") => `(tactic| first | omega | (simp only [tx_len, List.length_append, List.length_map, List.length_cons, List.length_nil, List.length_take, List.length_drop] <;> omega))
  | `(tactic| walk_at "go") => `(tactic| repeat (first | refine ⟨rfl, ?_⟩ | refine ⟨trivial, ?_⟩ | refine ⟨_, rfl, ?_⟩ | refine ⟨_, rfl, rfl, ?_⟩ | refine ⟨_, _, rfl, rfl, ?_⟩ | refine ⟨_, ix_hd, ?_⟩ | refine br_t rfl ?_ | refine br_f rfl ?_ | (refine ⟨le_sz ?_, ?_⟩; focus walk_at "sz") | (refine ⟨lt_sz ?_, ?_⟩; focus walk_at "sz") | (refine ⟨strLe_tx ?_, ?_⟩; focus walk_at "sz") | refine ⟨cmul_r rfl, ?_⟩ | refine ⟨cmul_l rfl, ?_⟩ | refine ⟨pos_ok rfl, ?_⟩ | refine ⟨cdiv_ok rfl, ?_⟩ | refine ⟨_, _, _, _, rfl, rfl, rfl, rfl, ?_⟩ | refine ⟨_, _, rfl, ?_⟩ | refine ⟨_, _, _, rfl, rfl, rfl, ?_⟩ | refine ⟨_, _, _, rfl, rfl, ?_⟩ | rw [tx_app]))
abbrev qL : Str := "law.<locals>.<lambda>"
def S_law (P PR : Addr) : FSO := lawT [(P, qL), (PR, qR)]
theorem sm2_of {t : List Nat} {L : List Ed} (ht : t.length ≤ 30) (h : Sm t.length L) : Sm2 L := ⟨h.few, fun x m => by
  obtain ⟨h1, h2, h3, _⟩ := wel_all h.wel x m
  exact ⟨by omega, by omega, h3, h.short x m⟩⟩
def w_rest (G N E P PR : Addr) : SW :=
 (wSeq (wIfS (wNot (wB (wCallO (S_law_right PR) (wCons (wVar 4) (wCons (wVar 7) wNil)))))
  (wRet (wC (.bool false)))
  wNext)
 (wSeq (wAsg (wIx (wLst (wCons (wC .none) (wCons (wAdd (wVar 4) (wC (.str "\t"))) (wCons (wC (.int 5)) (wCons (wLst (wCons (wVar 4) wNil)) wNil))))) (wVar 6)) 8)
 (wIfS (wB (wNe (wCallB P ("law.<locals>.<lambda>" : Str) (S_law_told N E) (wCall (S_done N G E) (wCons (wVar 8) (wCons (wVar 7) wNil)))) (wC (.str "refused text"))))
  (wRet (wC (.bool false)))
  wNext)))
structure Std (P PR : Addr) (n : Nat) (f : Int) (q : List OC) : Prop where
  tL : q[0]? = some (.tb P qL)
  tR : q[1]? = some (.tb PR qR)
  dr : ∃ a, q[n]? = some (dr a f) ∧ Dr a f
  n2 : 2 ≤ n
theorem Std.stay {P PR : Addr} {n : Nat} {f : Int} {q q' : List OC} (h : Std P PR n f q) (s : Stays q q' []) : Std P PR n f q' :=
  let ⟨a, h1, h2⟩ := h.dr; ⟨(s.2 0 (in_len h.tL) List.not_mem_nil).trans h.tL, (s.2 1 (in_len h.tR) List.not_mem_nil).trans h.tR, ⟨a, (s.2 n (in_len h1) List.not_mem_nil).trans h1, h2⟩, h.n2⟩
theorem Std.drew {P PR : Addr} {n : Nat} {f : Int} {q q' : List OC} (h : Std P PR n f q) (s : Drew q q' n f) : Std P PR n f q' :=
  let ⟨a, h1, h2, h3⟩ := s; ⟨(h2.2 0 (in_len h.tL) (by have := h.n2; simp; omega)).trans h.tL, (h2.2 1 (in_len h.tR) (by have := h.n2; simp; omega)).trans h.tR, ⟨a, h3, h1⟩, h.n2⟩
section
variable {G N E P PR : Addr} {ret : PV → List OC → Prop}
theorem no_text {v : PyData} {t : List Nat} {kx : Addr → Prop} (ht : t.length ≤ 30) (hv : v ∈ [PyData.none, dT (t ++ [9]), .int 5, .list [dT t]]) (h : kx N) : NoT N G v kx := by
  simp only [List.mem_cons, List.not_mem_nil, or_false] at hv
  rcases hv with rfl | rfl | rfl | rfl
  · exact .inr (.inl ⟨_, rfl, rfl, h⟩)
  · have bad : ¬ gdT (t ++ [9]) := fun q => absurd (q 9 (by simp)) (by decide)
    exact .inl ⟨_, rfl, by rw [List.length_append]; show _ + 1 ≤ _; omega, fun q => absurd q bad, fun q => absurd q bad, fun _ => h⟩
  · exact .inr (.inl ⟨_, rfl, rfl, h⟩)
  · exact .inr (.inl ⟨_, rfl, rfl, h⟩)
theorem rest_ok {ns : List Int} {x1 x2 x8 : Option PV} {n j : Nat} {f : Int} {t : List Nat} {T z : PyData} {q : List OC} {K : PEnds} {kx : KX} (hg : gdT t) (ht : t.length ≤ 30) (hz : Sane 7 z) (hj : j < 4) (hs : Std P PR n f q)
    (hk : ∀ x1 x2 x7 x8 q', Std P PR n f q' → K.nx ⟨[some (.scr ns), x1, x2, some (.own n), some (.d (dT t)), some (.d T), some (.d (.int (j : Nat))), x7, x8], q'⟩) :
    w_rest G N E P PR kx ⟨[some (.scr ns), x1, x2, some (.own n), some (.d (dT t)), some (.d T), some (.d (.int (j : Nat))), some (.d z), x8], q⟩ K := by
  unfold w_rest
  walk_at "go"
  refine ⟨t, z, 1, rfl, hs.tR, hg, by omega, hz, fun q2 hst => ?_⟩
  have h2 := hs.stay hst
  have et : (tx t ++ ("\t" : Str)) = tx (t ++ [9]) := tx_app t [9]
  walk_at "go"
  refine ⟨[dT t], get_end _ _, Nat.le_of_ble_eq_true rfl, ?_⟩
  have hj' : j < [PyData.none, .str (tx t ++ ("\t" : Str)), .int 5, .list [dT t]].length := hj
  refine ⟨_, rfl, _, _, congrArg ocD (get_end _ _), rfl, trivial, _, PW.ix_list hj', ?_⟩
  have hv : [PyData.none, .str (tx t ++ ("\t" : Str)), .int 5, .list [dT t]][j] ∈ [PyData.none, dT (t ++ [9]), .int 5, .list [dT t]] := by
    have m := List.getElem_mem hj'
    rw [et] at m ⊢
    exact m
  generalize [PyData.none, .str (tx t ++ ("\t" : Str)), .int 5, .list [dT t]][j] = v at hv ⊢
  have hst2 : Stays q2 ((q2 ++ [OC.dl [dT t]]).set q2.length OC.no ++ [OC.dl [PyData.none, .str (tx t ++ ("\t" : Str)), .int 5, .list [dT t]]]) [] := (((Stays.refl q2 []).add _).set (.inr (Nat.le_refl _))).add _
  have h3 := h2.stay hst2
  refine ⟨⟨0, h3.tL⟩, fun k kx' hk' hN hE => ?_⟩
  refine ⟨_, rfl, _, rfl, v, z, rfl, rfl, .inl (no_text ht hv (hN _ _ rfl ?_))⟩
  walk_at "go"
  have hnl : ¬ n = q2.length := by
    obtain ⟨a, h1, _⟩ := h2.dr
    have := in_len h1
    omega
  show K.nx ⟨[some (.scr ns), subO q2.length _ x1, subO q2.length _ x2, subO q2.length _ (some (.own n)), some (.d (dT t)), some (.d T), some (.d (.int (j : Nat))), some (.d z), some (.d v)], _⟩
  rw [subO_ne hnl]
  exact hk _ _ _ _ _ h3
def w_turn0 (R : SW) : SW :=
  (wSeq (wUnp (wCallO S_law_spoilt (wCons (wVar 3) (wCons (wVar 5) wNil))) (gN 7))
 (wSeq (wIfS (wAnd (wB (wIsi "tuple" (wVar 7))) (wB (wGt (wCallO S_law_next (wCons (wVar 3) (wCons (wC (.int 8)) wNil))) (wC (.int 0)))))
  (wUnp (wListOf (wVar 7)) (gN 7))
  wNext)
 R))
theorem turn_ok {R : SW} {ns : List Int} {x1 x2 x6 x7 x8 : Option PV} {n : Nat} {f : Int} {t : List Nat} {L : List Ed} {q : List OC} {K : PEnds} {kx : KX} (hL : Sm2 L) (hs : Std P PR n f q)
    (hR : ∀ x1 x2 x8 z q', Sane 7 z → Std P PR n f q' → R kx ⟨[some (.scr ns), x1, x2, some (.own n), some (.d (dT t)), some (.d (edsT L)), x6, some (.d z), x8], q'⟩ K)
    (h6 : ∀ m v, subO m v x6 = x6) :
    w_turn0 R kx ⟨[some (.scr ns), x1, x2, some (.own n), some (.d (dT t)), some (.d (edsT L)), x6, x7, x8], q⟩ K := by
  unfold w_turn0
  obtain ⟨a, hn, hd⟩ := hs.dr
  walk_at "go"
  refine ⟨n, a, f, L, rfl, hn, hd, hL, fun z q2 hz hdr => ?_⟩
  have h2 := hs.drew hdr
  obtain ⟨a2, hn2, hd2⟩ := h2.dr
  cases z with
  | tuple xs =>
    walk_at "go"
    refine ⟨n, a2, f, 8, rfl, hn2, hd2, by decide, by decide, fun v a3 hv hd3 => ?_⟩
    have h3 : Std P PR n f (q2.set n (dr a3 f)) := h2.drew ⟨a3, hd3, (Stays.refl q2 [n]).set (.inl (by simp)), List.getElem?_set_self (in_len hn2)⟩
    walk_at "go"
    refine br_p (fun c => ?_) (fun c => ?_)
    · walk_at "go"
      refine ⟨xs, .inr rfl, ?_⟩
      refine ⟨xs, get_end _ _, ?_⟩
      have hz2 : Sane 7 (.list xs) := hz
      have h4 : Std P PR n f (((q2.set n (dr a3 f)) ++ [OC.dl xs]).set (q2.set n (dr a3 f)).length OC.no) := h3.stay (((Stays.refl _ []).add _).set (.inr (Nat.le_refl _)))
      show R kx ⟨[some (.scr ns), subO (q2.set n (dr a3 f)).length _ x1, subO (q2.set n (dr a3 f)).length _ x2, subO (q2.set n (dr a3 f)).length _ (some (.own n)), some (.d (dT t)), some (.d (edsT L)), subO (q2.set n (dr a3 f)).length _ x6, some (.d (.list xs)), subO (q2.set n (dr a3 f)).length _ x8], _⟩ K
      rw [subO_ne (show ¬ n = (q2.set n (dr a3 f)).length by rw [List.length_set]; have := in_len hn2; omega), h6]
      exact hR _ _ _ _ _ hz2 h4
    · exact hR _ _ _ _ _ hz h3
  | none => walk_at "go"; exact hR _ _ _ _ _ hz h2
  | bool _ => walk_at "go"; exact hR _ _ _ _ _ hz h2
  | int _ => walk_at "go"; exact hR _ _ _ _ _ hz h2
  | str _ => walk_at "go"; exact hR _ _ _ _ _ hz h2
  | list _ => walk_at "go"; exact hR _ _ _ _ _ hz h2
  | dict _ => exact hz.elim
def w_one (PR : Addr) (T : SW) : SW :=
  (wSeq (wAsg (wCall S_law_begun (wCons (wVar 2) (wCons (wVar 1) wNil))) 3)
 (wSeq (wAsg (wCallO S_law_text (wCons (wVar 3) wNil)) 4)
 (wSeq (wAsg (wCallO S_law_edits (wCons (wVar 3) (wCons (wVar 4) wNil))) 5)
 (wSeq (wIfS (wNot (wB (wCallO (S_law_right PR) (wCons (wVar 4) (wCons (wFrzE (wListOf (wVar 5))) wNil)))))
  (wRet (wC (.bool false)))
  wNext)
 (wFor (wRg1 (wC (.int 4))) (gN 6)
  T)))))
theorem one_ok {T : SW} {ns : List Int} {c k : Int} {x3 x4 x5 x6 x7 x8 : Option PV} {q : List OC} {K : PEnds} {kx : KX} (hk0 : 0 ≤ k) (hk1 : k ≤ 63) (h0 : q[0]? = some (.tb P qL)) (h1 : q[1]? = some (.tb PR qR))
    (hT : ∀ (j n : Nat) (f : Int) (t : List Nat) (L : List Ed) (x1 x2 x7 x8 : Option PV) (q : List OC) (K : PEnds), j < 4 → gdT t → t.length ≤ 30 → Sm2 L → Std P PR n f q →
      (∀ x1 x2 x7 x8 q', Std P PR n f q' → K.nx ⟨[some (.scr ns), x1, x2, some (.own n), some (.d (dT t)), some (.d (edsT L)), some (.d (.int (j : Nat))), x7, x8], q'⟩) →
      T kx ⟨[some (.scr ns), x1, x2, some (.own n), some (.d (dT t)), some (.d (edsT L)), some (.d (.int (j : Nat))), x7, x8], q⟩ K)
    (hk : ∀ x1 x2 x3 x4 x5 x6 x7 x8 q', q'[0]? = some (.tb P qL) → q'[1]? = some (.tb PR qR) → K.nx ⟨[some (.scr ns), x1, x2, x3, x4, x5, x6, x7, x8], q'⟩) :
    w_one PR T kx ⟨[some (.scr ns), some (.d (.int k)), some (.d (.int c)), x3, x4, x5, x6, x7, x8], q⟩ K := by
  unfold w_one
  have hq := in_len h1
  walk_at "go"
  refine ⟨hk0, hk1, fun a f hd => ?_⟩
  walk_at "go"
  refine ⟨q.length, a, f, rfl, get_end _ _, hd, fun t q2 hg ht hdr => ?_⟩
  have s1 : Std P PR q.length f (q ++ [dr a f]) := ⟨get_ap' h0, get_ap' h1, ⟨a, get_end _ _, hd⟩, by omega⟩
  have s2 := s1.drew hdr
  obtain ⟨a2, hn2, hd2⟩ := s2.dr
  walk_at "go"
  refine ⟨q.length, a2, f, t, rfl, hn2, hd2, by omega, fun L q3 hL hdr3 => ?_⟩
  have s3 := s2.drew hdr3
  have hL2 := sm2_of ht hL
  walk_at "go"
  refine ⟨L.map edD, .inr rfl, ?_⟩
  refine ⟨L.map edD, get_end _ _, ?_⟩
  have s4 : Std P PR q.length f ((q3 ++ [OC.dl (L.map edD)]).set q3.length OC.no) := s3.stay (((Stays.refl _ []).add _).set (.inr (Nat.le_refl _)))
  have hSane : Sane 7 (.list (L.map edD)) := (show Sane 3 (.list (L.map edD)) from eds_sane hL2).mono (by decide)
  refine ⟨t, .list (L.map edD), 1, rfl, s4.tR, hg, by omega, hSane, fun q5 hs5 => ?_⟩
  have s5 := s4.stay hs5
  refine ⟨true, rfl, ?_⟩
  refine br_f rfl ?_
  have hne : ¬ q.length = q3.length := by
    obtain ⟨_, h1, _⟩ := s3.dr
    have := in_len h1
    omega
  show wFor (wRg1 (wC (.int 4))) (gN 6) T kx ⟨[some (.scr ns), some (.d (.int k)), some (.d (.int c)), subO q3.length _ (some (.own q.length)), some (.d (dT t)), some (.d (edsT L)), subO q3.length _ x6, subO q3.length _ x7, subO q3.length _ x8], q5⟩ K
  rw [subO_ne hne]
  refine ⟨4, rfl, by decide, by decide, ?_⟩
  refine ⟨fun j s => ∃ (x1 x2 x6 x7 x8 : Option PV) (q' : List OC), s = (⟨[some (.scr ns), x1, x2, some (.own q.length), some (.d (dT t)), some (.d (edsT L)), x6, x7, x8], q'⟩ : PSt) ∧ Std P PR q.length f q', ⟨_, _, _, _, _, _, rfl, s5⟩, fun _ _ _ _ => trivial, ?_, ?_⟩
  · rintro j x s hx ⟨x1, x2, x6, x7, x8, q', rfl, hs⟩
    obtain ⟨hj, rfl⟩ := map_get hx
    have hj4 : j < 4 := by rw [List.length_range] at hj; exact hj
    rw [List.getElem_range, Int.zero_add]
    refine hT j q.length f t L x1 x2 x7 x8 q' _ hj4 hg ht hL2 hs fun x1 x2 x7 x8 q'' hs2 => ?_
    exact .inl ⟨_, _, _, _, _, _, rfl, hs2⟩
  · rintro s ⟨x1, x2, x6, x7, x8, q', rfl, hs⟩
    exact hk _ _ _ _ _ _ _ _ _ hs.tL hs.tR
def w_law (C_TooGreat : Addr) (C_NoText : Addr) (C_NoEdit : Addr) (P_law : Addr) (P_law_right : Addr) : SW :=
 (wSeq (wFor (wEn (wSl (wOrL (wVar 0) (wLst (wCons (wC (.int 5)) wNil))) wNoPart (wPart (wC (.int 12))))) (gT 2 (gsCons (gN 1) (gsCons (gN 2) gsNil)))
  (w_one P_law_right (w_turn0 (w_rest C_TooGreat C_NoText C_NoEdit P_law P_law_right))))
 (wRet (wC (.bool true))))
theorem turn_ok2 : ∀ {kx : KX} {ns : List Int} (j n : Nat) (f : Int) (t : List Nat) (L : List Ed) (x1 x2 x7 x8 : Option PV) (q : List OC) (K : PEnds), j < 4 → gdT t → t.length ≤ 30 → Sm2 L → Std P PR n f q →
      (∀ x1 x2 x7 x8 q', Std P PR n f q' → K.nx ⟨[some (.scr ns), x1, x2, some (.own n), some (.d (dT t)), some (.d (edsT L)), some (.d (.int (j : Nat))), x7, x8], q'⟩) →
      w_turn0 (w_rest G N E P PR) kx ⟨[some (.scr ns), x1, x2, some (.own n), some (.d (dT t)), some (.d (edsT L)), some (.d (.int (j : Nat))), x7, x8], q⟩ K := fun j n f t L x1 x2 x7 x8 q K hj hg ht hL hs hk =>
  turn_ok hL hs (fun x1 x2 x8 z q' hz hs' => rest_ok hg ht hz hj hs' hk) fun _ _ => rfl
theorem pure_law : ∀ args o ret exc, S_law P PR args o ret exc → w_law G N E P PR (fun x s => exc x s.o) (pst0 args o 9) (bodyO ret) := by
  rintro _ _ ret exc ⟨ns, rfl, rfl, hl, h⟩
  unfold w_law
  generalize hT : w_one PR (w_turn0 (w_rest G N E P PR)) = W
  have loop : ∀ (cs : List Int) (q : List OC) (K : PEnds), cs.length ≤ 63 → q[0]? = some (.tb P qL) → q[1]? = some (.tb PR qR) → (∀ s, K.nx s) →
      wFor (fun kx s k => k (enumD 0 (cs.map PyData.int)) none s) (gT 2 (gsCons (gN 1) (gsCons (gN 2) gsNil))) W (fun x s => exc x s.o) ⟨[some (.scr ns), none, none, none, none, none, none, none, none], q⟩ K := fun cs q K hcs h0 h1 hK => by
    refine ⟨fun j s => ∃ (x1 x2 x3 x4 x5 x6 x7 x8 : Option PV) (q' : List OC), s = (⟨[some (.scr ns), x1, x2, x3, x4, x5, x6, x7, x8], q'⟩ : PSt) ∧ q'[0]? = some (.tb P qL) ∧ q'[1]? = some (.tb PR qR), ⟨_, _, _, _, _, _, _, _, _, rfl, h0, h1⟩, fun _ _ _ _ => trivial, ?_, fun s _ => hK s⟩
    rintro j x s hx ⟨x1, x2, x3, x4, x5, x6, x7, x8, q', rfl, h0, h1⟩
    have hj : j < (cs.map PyData.int).length := by
      have := (List.getElem?_eq_some_iff.mp hx).1
      rw [enumD_len] at this
      exact this
    rw [enumD_get, List.getElem?_eq_getElem hj, List.getElem_map] at hx
    cases hx
    rw [List.length_map] at hj
    rw [Nat.zero_add]
    walk_at "go"
    rw [← hT]
    exact one_ok (by omega) (by omega) h0 h1 turn_ok2 fun x1 x2 x3 x4 x5 x6 x7 x8 q'' h0 h1 => .inl ⟨_, _, _, _, _, _, _, _, _, rfl, h0, h1⟩
  have tk : ∀ l : List Int, cutD (l.map PyData.int) none (some 12) = (l.take 12).map PyData.int := fun l => by rw [List.map_take]; exact cutD_to _ 12
  walk_at "go"
  cases ns with
  | nil =>
    refine br_f rfl ?_
    walk_at "go"
    rw [show cutD [PyData.int 5] none (some 12) = (([5] : List Int).take 12).map PyData.int from tk [5]]
    exact loop (([5] : List Int).take 12) _ _ (by decide) rfl rfl fun s => h _
  | cons n ns =>
    refine br_t rfl ?_
    walk_at "go"
    rw [tk]
    exact loop ((n :: ns).take 12) _ _ (by rw [List.length_take]; omega) rfl rfl fun s => h _
end
end K47

namespace PW
open PySem L2 PySem.Spec PyProof.Rows
theorem tabE_ok {o : Option Obj} (h : tabE o = true) : o = some { cls := .none, data := .fields #[] } := by
  unfold tabE at h
  split at h
  · rename_i ts sl
    rw [Bool.and_eq_true] at h
    have h1 : ts = #[] := Array.eq_empty_of_size_eq_zero (Nat.eq_of_beq_eq_true h.1)
    have h2 : sl = #[] := Array.eq_empty_of_size_eq_zero (Nat.eq_of_beq_eq_true h.2)
    rw [h1, h2]
  · cases h
theorem codE_ok {P c : Addr} {K : PySem.W.Frag} (h : codE P (K.lookup c) = true) (n : c ≠ P) {hp : Heap} (X : K.In hp) : PySem.W.CodeHd hp c P := by
  unfold codE at h
  split at h
  · rename_i t d vs sl e
    simp only [Bool.and_eq_true, decide_eq_true_eq] at h
    obtain ⟨⟨⟨⟨⟨h1, h2⟩, h3⟩, h4⟩, h5⟩, h6⟩ := h
    subst h1
    have e11 : vs[11]? = some (.ref P) := by
      unfold refE at h2
      split at h2
      · rename_i p ep
        rw [ep, Nat.eq_of_beq_eq_true h2]
      · cases h2
    have g11 : vs.getD 11 .none = .ref P := by
      rw [Array.getD_eq_getD_getElem?, e11]
      rfl
    obtain ⟨f, tf, e18⟩ : ∃ f tf, vs.getD 18 .none = .str f tf := by
      unfold vStr at h3
      split at h3
      · rename_i q; exact ⟨_, _, q⟩
      · cases h3
    obtain ⟨a, b, e7⟩ : ∃ f tf, vs.getD 7 .none = .int f tf := by
      unfold vInt at h4
      split at h4
      · rename_i q; exact ⟨_, _, q⟩
      · cases h4
    obtain ⟨i, e9⟩ : ∃ f, vs.getD 9 .none = .bool f := by
      unfold vBool at h5
      split at h5
      · rename_i q; exact ⟨_, q⟩
      · cases h5
    obtain ⟨a2, b2, e10⟩ : ∃ f tf, vs.getD 10 .none = .int f tf := by
      unfold vInt at h6
      split at h6
      · rename_i q; exact ⟨_, _, q⟩
      · cases h6
    exact ⟨_, vs, f, tf, a, b, i, a2, b2, X _ _ e, rfl, rfl, e11, g11, e18, e7, e9, e10, n⟩
  · cases h
theorem fT_ok {K K' : PySem.W.Frag} {x : Str} {P f : Addr} {oc : Value} {od : Option Addr} {fd : FuncData} {sl : Array (Option Value)} (h : fT K K' x P = true) (ha : PySem.W.nsIn K' mainGlobals x = some (some (.ref f))) (hl : K'.lookup f = some ⟨oc, od, .func fd, sl⟩) :
    ∃ c, fd.code = .ref c ∧ (∀ hp : Heap, K'.In hp → PySem.W.CodeHd hp c P) ∧ ∀ hp : Heap, K.In hp → hp.get? P = some { cls := .none, data := .fields #[] } := by
  unfold fT at h
  rw [Bool.and_eq_true] at h
  obtain ⟨h1, h2⟩ := h
  have e : adr K' x = some f := by unfold adr; rw [ha]
  rw [e] at h1
  have h1 : fncE K' P (K'.lookup f) = true := h1
  rw [hl] at h1
  unfold fncE at h1
  split at h1
  · rename_i d o e1 e2 e3 e4 e5 e6 e7 e8 e9 e10 e11 e12 c e13 e14 s q
    cases q
    rw [Bool.and_eq_true] at h1
    have n : c ≠ P := fun z => by
      have := h1.2
      rw [z] at this
      simp at this
    exact ⟨c, rfl, fun hp X => codE_ok h1.1 n X, fun hp X => X _ _ (tabE_ok h2)⟩
  · cases h1
theorem cutK_lookup {ts : List Addr} : ∀ {K : PySem.W.Frag} {a : Addr}, (cutK ts K).lookup a = if (ts.any fun t => Nat.beq a t) = true then none else K.lookup a
  | [], a => by
    unfold cutK
    split <;> rfl
  | (b, o) :: K, a => by
    have ih := cutK_lookup (ts := ts) (K := K) (a := a)
    unfold cutK at ih ⊢
    rw [List.filter_cons]
    by_cases hb : (ts.any fun t => Nat.beq b t) = true
    · rw [if_neg (by rw [hb]; decide), ih]
      by_cases hab : a = b
      · subst hab
        rw [if_pos hb, if_pos hb]
      · rw [List.lookup_cons, show (a == b) = false by simpa using hab]
    · have hb' : (ts.any fun t => Nat.beq b t) = false := (Bool.not_eq_true _).mp hb
      rw [if_pos (by rw [hb']; rfl), List.lookup_cons, List.lookup_cons]
      by_cases hab : a = b
      · subst hab
        rw [beq_self_eq_true, if_neg (by rw [hb']; decide)]
      · rw [show (a == b) = false by simpa using hab]
        exact ih
theorem cutK_in {ts : List Addr} {K : PySem.W.Frag} {hp : Heap} (X : K.In hp) : (cutK ts K).In hp := fun a o h => by
  rw [cutK_lookup] at h
  split at h
  · cases h
  · exact X a o h
theorem cutK_out {ts : List Addr} {K : PySem.W.Frag} {t : Addr} (h : t ∈ ts) : (cutK ts K).lookup t = none := by
  rw [cutK_lookup, if_pos]
  exact List.any_eq_true.mpr ⟨t, h, Nat.beq_refl t⟩
end PW

namespace K47
open PySem L2 PW
open K41 (S_grown pure_grown w_grown)
open K42 (S_is_place S_is_text S_need_edits pure_is_place pure_need_edits w_is_place w_is_text w_need_edits)
open LamX (TabB lamS_by)
abbrev N_need_text : List Str := ["text", "sign"]
theorem sc_need_text : FnScope N_need_text ["text"] (defScope s_need_text) := ⟨rfl, rfl, rfl, by decide +kernel, rfl, by decide +kernel, by decide +kernel⟩
abbrev N_is_place : List Str := ["thing", "most"]
theorem sc_is_place : FnScope N_is_place ["thing", "most"] (defScope s_is_place) := ⟨rfl, rfl, rfl, by decide +kernel, rfl, by decide +kernel, by decide +kernel⟩
abbrev N_is_text : List Str := ["thing"]
theorem sc_is_text : FnScope N_is_text ["thing"] (defScope s_is_text) := ⟨rfl, rfl, rfl, by decide +kernel, rfl, by decide +kernel, by decide +kernel⟩
abbrev N_need_edits : List Str := ["text", "edits", "behind", "edit"]
theorem sc_need_edits : FnScope N_need_edits ["text", "edits"] (defScope s_need_edits) := ⟨rfl, rfl, rfl, by decide +kernel, rfl, by decide +kernel, by decide +kernel⟩
abbrev N_done : List Str := ["text", "edits", "found", "behind", "begin", "end", "new"]
theorem sc_done : FnScope N_done ["text", "edits"] (defScope s_done) := ⟨rfl, rfl, rfl, by decide +kernel, rfl, by decide +kernel, by decide +kernel⟩
abbrev N_grown : List Str := ["edit"]
theorem sc_grown : FnScope N_grown ["edit"] (defScope s_grown) := ⟨rfl, rfl, rfl, by decide +kernel, rfl, by decide +kernel, by decide +kernel⟩
abbrev N_backs : List Str := ["text", "edits", "found", "shift", "edit", "begin"]
theorem sc_backs : FnScope N_backs ["text", "edits"] (defScope s_backs) := ⟨rfl, rfl, rfl, by decide +kernel, rfl, by decide +kernel, by decide +kernel⟩
abbrev N_touch : List Str := ["one", "other"]
theorem sc_touch : FnScope N_touch ["one", "other"] (defScope s_touch) := ⟨rfl, rfl, rfl, by decide +kernel, rfl, by decide +kernel, by decide +kernel⟩
abbrev N_need_apart : List Str := ["edits", "others", "one", "other"]
theorem sc_need_apart : FnScope N_need_apart ["edits", "others"] (defScope s_need_apart) := ⟨rfl, rfl, rfl, by decide +kernel, rfl, by decide +kernel, by decide +kernel⟩
abbrev N_moved : List Str := ["text", "edits", "others", "found", "begin", "end", "new", "shift", "other"]
theorem sc_moved : FnScope N_moved ["text", "edits", "others"] (defScope s_moved) := ⟨rfl, rfl, rfl, by decide +kernel, rfl, by decide +kernel, by decide +kernel⟩
abbrev N_law_begun : List Str := ["_law_cell", "_law_k", "_law_mixed"]
theorem sc_law_begun : FnScope N_law_begun ["_law_cell", "_law_k"] (defScope s_law_begun) := ⟨rfl, rfl, rfl, by decide +kernel, rfl, by decide +kernel, by decide +kernel⟩
abbrev N_law_next : List Str := ["_law_drawn", "_law_size", "_law_found"]
theorem sc_law_next : FnScope N_law_next ["_law_drawn", "_law_size"] (defScope s_law_next) := ⟨rfl, rfl, rfl, by decide +kernel, rfl, by decide +kernel, by decide +kernel⟩
abbrev N_law_spots : List Str := ["_law_thing", "_law_found", "_law_k", "_law_one", "_law_way"]
theorem sc_law_spots : FnScope N_law_spots ["_law_thing"] (defScope s_law_spots) := ⟨rfl, rfl, rfl, by decide +kernel, rfl, by decide +kernel, by decide +kernel⟩
abbrev N_law_with : List Str := ["_law_thing", "_law_way", "_law_other", "_law_k"]
theorem sc_law_with : FnScope N_law_with ["_law_thing", "_law_way", "_law_other"] (defScope s_law_with) := ⟨rfl, rfl, rfl, by decide +kernel, rfl, by decide +kernel, by decide +kernel⟩
abbrev N_law_step : List Str := ["_law_drawn", "_law_one", "_law_at", "_law_sign", "_law_some"]
theorem sc_law_step : FnScope N_law_step ["_law_drawn", "_law_one"] (defScope s_law_step) := ⟨rfl, rfl, rfl, by decide +kernel, rfl, by decide +kernel, by decide +kernel⟩
abbrev N_law_spoilt : List Str := ["_law_drawn", "_law_thing", "_law_spots_here", "_law_way", "_law_one", "_law_k"]
theorem sc_law_spoilt : FnScope N_law_spoilt ["_law_drawn", "_law_thing"] (defScope s_law_spoilt) := ⟨rfl, rfl, rfl, by decide +kernel, rfl, by decide +kernel, by decide +kernel⟩
abbrev N_law_word : List Str := ["_law_error", "_law_kinds"]
theorem sc_law_word : FnScope N_law_word ["_law_error"] (defScope s_law_word) := ⟨rfl, rfl, rfl, by decide +kernel, rfl, by decide +kernel, by decide +kernel⟩
abbrev N_law_told : List Str := ["_law_work", "_law_found", "e"]
theorem sc_law_told : FnScope N_law_told ["_law_work"] (defScope s_law_told) := ⟨rfl, rfl, rfl, by decide +kernel, rfl, by decide +kernel, by decide +kernel⟩
abbrev N_law_text : List Str := ["_law_drawn", "_law_signs", "_law_k"]
theorem sc_law_text : FnScope N_law_text ["_law_drawn"] (defScope s_law_text) := ⟨rfl, rfl, rfl, by decide +kernel, rfl, by decide +kernel, by decide +kernel⟩
abbrev N_law_edits : List Str := ["_law_drawn", "_law_text_here", "_law_found", "_law_begin", "_law_k", "_law_end", "_law_new"]
theorem sc_law_edits : FnScope N_law_edits ["_law_drawn", "_law_text_here"] (defScope s_law_edits) := ⟨rfl, rfl, rfl, by decide +kernel, rfl, by decide +kernel, by decide +kernel⟩
abbrev N_law_is_place : List Str := ["_law_thing", "_law_text_here"]
theorem sc_law_is_place : FnScope N_law_is_place ["_law_thing", "_law_text_here"] (defScope s_law_is_place) := ⟨rfl, rfl, rfl, by decide +kernel, rfl, by decide +kernel, by decide +kernel⟩
abbrev N_law_are_edits : List Str := ["_law_thing", "_law_text_here", "_law_behind", "_law_one"]
theorem sc_law_are_edits : FnScope N_law_are_edits ["_law_thing", "_law_text_here"] (defScope s_law_are_edits) := ⟨rfl, rfl, rfl, by decide +kernel, rfl, by decide +kernel, by decide +kernel⟩
abbrev N_law_done : List Str := ["_law_text_here", "_law_edits_here", "_law_found", "_law_back", "_law_at", "_law_begin", "_law_end", "_law_new"]
theorem sc_law_done : FnScope N_law_done ["_law_text_here", "_law_edits_here"] (defScope s_law_done) := ⟨rfl, rfl, rfl, by decide +kernel, rfl, by decide +kernel, by decide +kernel⟩
abbrev N_law_right : List Str := ["_law_text_here", "_law_thing", "_law_due", "_law_text_behind", "_law_back", "_law_kept", "_law_found"]
theorem sc_law_right : FnScope N_law_right ["_law_text_here", "_law_thing"] (defScope s_law_right) := ⟨rfl, rfl, rfl, by decide +kernel, rfl, by decide +kernel, by decide +kernel⟩
abbrev N_law : List Str := ["_law_script", "_law_k", "_law_cell", "_law_drawn", "_law_text_here", "_law_edits_here", "_law_turn", "_law_thing", "_law_wrong"]
theorem sc_law : FnScope N_law ["_law_script"] (defScope s_law) := ⟨rfl, rfl, rfl, by decide +kernel, rfl, by decide +kernel, by decide +kernel⟩
theorem scI_Clash : FnScope ["self", "one", "other"] ["self", "one", "other"] (defScope i_Clash) := ⟨rfl, rfl, rfl, by decide +kernel, rfl, by decide +kernel, by decide +kernel⟩
structure Txt (K : PySem.W.Frag) (mg : Str → Option Value) (C_TooGreat : Addr) (C_NoText : Addr) (C_NoEdit : Addr) (C_Clash : Addr) (C_MenderError : Addr) (C_NoAsk : Addr) (C_NoMend : Addr) (C_NotWhole : Addr) (C_NoName : Addr) (C_NoPlace : Addr) : Prop where
  b_len : mg "len" = none
  g_MOST_SIGNS_signs : ∃ t, mg "MOST_SIGNS_signs" = some (.int 2000 t)
  x_TooGreat : Exc1 K mg "TooGreat" C_TooGreat
  g_LETTERS : ∃ t, mg "LETTERS" = some (.str "abcdefghijklmnopqrstuvwxyz" t)
  g_FIGURES : ∃ t, mg "FIGURES" = some (.str "0123456789" t)
  g_GREAT : ∃ t, mg "GREAT" = some (.str "ABCDEFGHIJKLMNOPQRSTUVWXYZ" t)
  g_MARKS : ∃ t, mg "MARKS" = some (.str " !\"#$&'()*+,-./:;<=>?\x40[\\]^_`{|}~\n" t)
  x_NoText : Exc1 K mg "NoText" C_NoText
  b_isinstance : mg "isinstance" = none
  b_str : mg "str" = none
  b_int : mg "int" = none
  b_bool : mg "bool" = none
  n_MenderError : mg "MenderError" = some (.ref C_MenderError)
  x_NoEdit : Exc1 K mg "NoEdit" C_NoEdit
  b_tuple : mg "tuple" = none
  b_list : mg "list" = none
  g_MOST_SIGNS_edits : ∃ t, mg "MOST_SIGNS_edits" = some (.int 2000 t)
  i_Clash : DfdI K mg "Clash" "Clash.__init__" C_Clash "one" "other" ["self", "one", "other"] i_Clash
  y_MenderError : BaseI K mg "MenderError" C_MenderError
  b_sum : mg "sum" = none
  b_enumerate : mg "enumerate" = none
  b_max : mg "max" = none
  b_ValueError : mg "ValueError" = none
  n_NoAsk : mg "NoAsk" = some (.ref C_NoAsk)
  n_NoMend : mg "NoMend" = some (.ref C_NoMend)
  n_NotWhole : mg "NotWhole" = some (.ref C_NotWhole)
  n_NoName : mg "NoName" = some (.ref C_NoName)
  n_NoPlace : mg "NoPlace" = some (.ref C_NoPlace)
  n_Clash : mg "Clash" = some (.ref C_Clash)
  n_NoEdit : mg "NoEdit" = some (.ref C_NoEdit)
  n_TooGreat : mg "TooGreat" = some (.ref C_TooGreat)
  n_NoText : mg "NoText" = some (.ref C_NoText)
  b_range : mg "range" = none
  b_repr : mg "repr" = none
  em : Em (mxK K) C_TooGreat C_NoText C_NoEdit C_Clash C_MenderError C_NoAsk C_NoMend C_NotWhole C_NoName C_NoPlace
theorem ini_Clash {P : Program} {w : World} {K : PySem.W.Frag} {mg : Str → Option Value} {base : Heap} {C_TooGreat : Addr} {C_NoText : Addr} {C_NoEdit : Addr} {C_Clash : Addr} {C_MenderError : Addr} {C_NoAsk : Addr} {C_NoMend : Addr} {C_NotWhole : Addr} {C_NoName : Addr} {C_NoPlace : Addr} (T : Txt K mg C_TooGreat C_NoText C_NoEdit C_Clash C_MenderError C_NoAsk C_NoMend C_NotWhole C_NoName C_NoPlace) : CalI P w K mg base 1 "Clash" C_Clash "one" "other" :=
  T.i_Clash.cal (N := ["self", "one", "other"]) (msg := "edits that touch") scI_Clash rfl rfl (fun f cdv A outer s H E =>
    pss_cons (ps_expr (pe_meinit (x := "MenderError") rfl T.y_MenderError.g T.y_MenderError.r T.y_MenderError.s T.y_MenderError.v (pa_cons (pe_var (i := 0) rfl (Or.inl rfl)) (pa_cons pe_str pa_nil))))
      (pss_cons (ps_ost (pe_var (i := 0) rfl (Or.inl rfl)) (pe_var (i := 1) rfl (Or.inl rfl))) (pss_one (ps_ost (pe_var (i := 0) rfl (Or.inl rfl)) (pe_var (i := 2) rfl (Or.inl rfl))))))
end K47
namespace K47
open PySem L2 PW
open K41 (S_grown pure_grown w_grown)
open K42 (S_is_place S_is_text S_need_edits pure_is_place pure_need_edits w_is_place w_is_text w_need_edits)
open LamX (TabB lamS_by)
theorem len_need_text {C_NoText : Addr} {C_TooGreat : Addr} : ∀ args o r e, S_need_text C_NoText C_TooGreat args o r e → args.length = 1 := by
  intro args o r e h
  unfold S_need_text at h
  repeat (first | (obtain ⟨rfl, _⟩ := h; rfl) | (obtain ⟨rfl | rfl, _⟩ := h <;> rfl) | obtain ⟨_, h⟩ := h)
theorem len_is_place : ∀ args o r e, S_is_place args o r e → args.length = 2 := by
  intro args o r e h
  unfold S_is_place at h
  repeat (first | (obtain ⟨rfl, _⟩ := h; rfl) | (obtain ⟨rfl | rfl, _⟩ := h <;> rfl) | obtain ⟨_, h⟩ := h)
theorem len_is_text {C_NoText : Addr} {C_TooGreat : Addr} : ∀ args o r e, S_is_text C_NoText C_TooGreat args o r e → args.length = 1 := by
  intro args o r e h
  unfold S_is_text at h
  repeat (first | (obtain ⟨rfl, _⟩ := h; rfl) | (obtain ⟨rfl | rfl, _⟩ := h <;> rfl) | obtain ⟨_, h⟩ := h)
theorem len_need_edits {C_NoText : Addr} {C_TooGreat : Addr} {C_NoEdit : Addr} : ∀ args o r e, S_need_edits C_NoText C_TooGreat C_NoEdit args o r e → args.length = 2 := by
  intro args o r e h
  unfold S_need_edits at h
  repeat (first | (obtain ⟨rfl, _⟩ := h; rfl) | (obtain ⟨rfl | rfl, _⟩ := h <;> rfl) | obtain ⟨_, h⟩ := h)
theorem len_done {C_NoText : Addr} {C_TooGreat : Addr} {C_NoEdit : Addr} : ∀ args o r e, S_done C_NoText C_TooGreat C_NoEdit args o r e → args.length = 2 := by
  intro args o r e h
  unfold S_done at h
  repeat (first | (obtain ⟨rfl, _⟩ := h; rfl) | (obtain ⟨rfl | rfl, _⟩ := h <;> rfl) | obtain ⟨_, h⟩ := h)
theorem len_grown : ∀ args o r e, S_grown args o r e → args.length = 1 := by
  intro args o r e h
  unfold S_grown at h
  repeat (first | (obtain ⟨rfl, _⟩ := h; rfl) | (obtain ⟨rfl | rfl, _⟩ := h <;> rfl) | obtain ⟨_, h⟩ := h)
theorem len_backs {C_NoText : Addr} {C_TooGreat : Addr} {C_NoEdit : Addr} : ∀ args o r e, S_backs C_NoText C_TooGreat C_NoEdit args o r e → args.length = 2 := by
  intro args o r e h
  unfold S_backs at h
  repeat (first | (obtain ⟨rfl, _⟩ := h; rfl) | (obtain ⟨rfl | rfl, _⟩ := h <;> rfl) | obtain ⟨_, h⟩ := h)
theorem len_touch : ∀ args o r e, S_touch args o r e → args.length = 2 := by
  intro args o r e h
  unfold S_touch at h
  repeat (first | (obtain ⟨rfl, _⟩ := h; rfl) | (obtain ⟨rfl | rfl, _⟩ := h <;> rfl) | obtain ⟨_, h⟩ := h)
theorem len_need_apart : ∀ args o r e, S_need_apart args o r e → args.length = 2 := by
  intro args o r e h
  unfold S_need_apart at h
  repeat (first | (obtain ⟨rfl, _⟩ := h; rfl) | (obtain ⟨rfl | rfl, _⟩ := h <;> rfl) | obtain ⟨_, h⟩ := h)
theorem len_moved {C_NoText : Addr} {C_TooGreat : Addr} {C_NoEdit : Addr} : ∀ args o r e, S_moved C_NoText C_TooGreat C_NoEdit args o r e → args.length = 3 := by
  intro args o r e h
  unfold S_moved at h
  repeat (first | (obtain ⟨rfl, _⟩ := h; rfl) | (obtain ⟨rfl | rfl, _⟩ := h <;> rfl) | obtain ⟨_, h⟩ := h)
theorem len_law_begun : ∀ args o r e, S_law_begun args o r e → args.length = 2 := by
  intro args o r e h
  unfold S_law_begun at h
  repeat (first | (obtain ⟨rfl, _⟩ := h; rfl) | (obtain ⟨rfl | rfl, _⟩ := h <;> rfl) | obtain ⟨_, h⟩ := h)
theorem len_law_next : ∀ args o r e, S_law_next args o r e → args.length = 2 := by
  intro args o r e h
  unfold S_law_next at h
  repeat (first | (obtain ⟨rfl, _⟩ := h; rfl) | (obtain ⟨rfl | rfl, _⟩ := h <;> rfl) | obtain ⟨_, h⟩ := h)
theorem len_law_spots {n : Nat} : ∀ args o r e, S_law_spots n args o r e → args.length = 1 := by
  intro args o r e h
  unfold S_law_spots at h
  repeat (first | (obtain ⟨rfl, _⟩ := h; rfl) | (obtain ⟨rfl | rfl, _⟩ := h <;> rfl) | obtain ⟨_, h⟩ := h)
theorem len_law_with {n : Nat} : ∀ args o r e, S_law_with n args o r e → args.length = 3 := by
  intro args o r e h
  unfold S_law_with at h
  repeat (first | (obtain ⟨rfl, _⟩ := h; rfl) | (obtain ⟨rfl | rfl, _⟩ := h <;> rfl) | obtain ⟨_, h⟩ := h)
theorem len_law_step : ∀ args o r e, S_law_step args o r e → args.length = 2 := by
  intro args o r e h
  unfold S_law_step at h
  repeat (first | (obtain ⟨rfl, _⟩ := h; rfl) | (obtain ⟨rfl | rfl, _⟩ := h <;> rfl) | obtain ⟨_, h⟩ := h)
theorem len_law_spoilt : ∀ args o r e, S_law_spoilt args o r e → args.length = 2 := by
  intro args o r e h
  unfold S_law_spoilt at h
  repeat (first | (obtain ⟨rfl, _⟩ := h; rfl) | (obtain ⟨rfl | rfl, _⟩ := h <;> rfl) | obtain ⟨_, h⟩ := h)
theorem len_law_word {C_NoText : Addr} {C_NoEdit : Addr} : ∀ args o r e, S_law_word C_NoText C_NoEdit args o r e → args.length = 1 := by
  intro args o r e h
  unfold S_law_word at h
  repeat (first | (obtain ⟨rfl, _⟩ := h; rfl) | (obtain ⟨rfl | rfl, _⟩ := h <;> rfl) | obtain ⟨_, h⟩ := h)
theorem len_law_text : ∀ args o r e, S_law_text args o r e → args.length = 1 := by
  intro args o r e h
  unfold S_law_text at h
  repeat (first | (obtain ⟨rfl, _⟩ := h; rfl) | (obtain ⟨rfl | rfl, _⟩ := h <;> rfl) | obtain ⟨_, h⟩ := h)
theorem len_law_edits : ∀ args o r e, S_law_edits args o r e → args.length = 2 := by
  intro args o r e h
  unfold S_law_edits at h
  repeat (first | (obtain ⟨rfl, _⟩ := h; rfl) | (obtain ⟨rfl | rfl, _⟩ := h <;> rfl) | obtain ⟨_, h⟩ := h)
theorem len_law_is_place : ∀ args o r e, S_law_is_place args o r e → args.length = 2 := by
  intro args o r e h
  unfold S_law_is_place at h
  repeat (first | (obtain ⟨rfl, _⟩ := h; rfl) | (obtain ⟨rfl | rfl, _⟩ := h <;> rfl) | obtain ⟨_, h⟩ := h)
theorem len_law_are_edits : ∀ args o r e, S_law_are_edits args o r e → args.length = 2 := by
  intro args o r e h
  unfold S_law_are_edits at h
  repeat (first | (obtain ⟨rfl, _⟩ := h; rfl) | (obtain ⟨rfl | rfl, _⟩ := h <;> rfl) | obtain ⟨_, h⟩ := h)
theorem len_law_done : ∀ args o r e, S_law_done args o r e → args.length = 2 := by
  intro args o r e h
  unfold S_law_done at h
  repeat (first | (obtain ⟨rfl, _⟩ := h; rfl) | (obtain ⟨rfl | rfl, _⟩ := h <;> rfl) | obtain ⟨_, h⟩ := h)
theorem len_law_right {P_law_right : Addr} : ∀ args o r e, S_law_right P_law_right args o r e → args.length = 2 := by
  intro args o r e h
  unfold S_law_right at h
  repeat (first | (obtain ⟨rfl, _⟩ := h; rfl) | (obtain ⟨rfl | rfl, _⟩ := h <;> rfl) | obtain ⟨_, h⟩ := h)
theorem len_law {P_law : Addr} {P_law_right : Addr} : ∀ args o r e, S_law P_law P_law_right args o r e → args.length = 1 := by
  intro args o r e h
  unfold S_law at h
  repeat (first | (obtain ⟨rfl, _⟩ := h; rfl) | (obtain ⟨rfl | rfl, _⟩ := h <;> rfl) | obtain ⟨_, h⟩ := h)
section
variable {P : Program} {w : World} {K : PySem.W.Frag} {mg : Str → Option Value} {base : Heap} {C_TooGreat : Addr} {C_NoText : Addr} {C_NoEdit : Addr} {C_Clash : Addr} {C_MenderError : Addr} {C_NoAsk : Addr} {C_NoMend : Addr} {C_NotWhole : Addr} {C_NoName : Addr} {C_NoPlace : Addr}
theorem ok_need_text (T : Txt K mg C_TooGreat C_NoText C_NoEdit C_Clash C_MenderError C_NoAsk C_NoMend C_NotWhole C_NoName C_NoPlace) (D : Dfd K mg "need_text" ["text"] s_need_text) : Cal P w K mg base 1 "need_text" ["text"] (S_need_text C_NoText C_TooGreat) :=
  D.cal (k := 0) (wb := w_need_text C_TooGreat C_NoText) sc_need_text len_need_text (fun f cdv A outer s H E hr => by
    have tk := takes_of (X := cxOf (L2.CX P w) P w K mg base N_need_text "need_text" (defScope s_need_text) f cdv A outer s H E) rfl rfl rfl rfl
    exact (s_cons (s_if (t_not (t_val (e_isi T.b_isinstance T.b_str (by decide +kernel) (e_var 0))))
  (s_one (s_raise rfl tk (T.x_NoText.mk1)))
  s_nil)
 (s_cons (s_for (passes_of rfl) rfl (i_str (e_var 0)) (g_name (i := 1) sc_need_text.nd rfl (by first | exact Or.inl rfl | exact Or.inr rfl))
  (s_one (s_if (t_pw (t_andC (t_notIn (hu65 hr) rfl (e_var 1) (e_gs rfl T.g_LETTERS)) (t_andC (t_notIn (hu65 hr) rfl (e_var 1) (e_gs rfl T.g_FIGURES)) (t_andC (t_notIn (hu65 hr) rfl (e_var 1) (e_gs rfl T.g_GREAT)) (t_and1 (t_notIn (hu65 hr) rfl (e_var 1) (e_gs rfl T.g_MARKS)))))))
  (s_one (s_raise rfl tk (T.x_NoText.mk1)))
  s_nil)))
 (s_one (s_if (t_gt (e_len T.b_len (e_var 0)) (e_gi rfl T.g_MOST_SIGNS_signs))
  (s_one (s_raise rfl tk (T.x_TooGreat.mk1)))
  s_nil)))))
    (pure_need_text C_TooGreat C_NoText)
theorem ok_is_place (T : Txt K mg C_TooGreat C_NoText C_NoEdit C_Clash C_MenderError C_NoAsk C_NoMend C_NotWhole C_NoName C_NoPlace) (D : Dfd K mg "is_place" ["thing", "most"] s_is_place) : Cal P w K mg base 1 "is_place" ["thing", "most"] S_is_place :=
  D.cal (k := 0) (wb := w_is_place) sc_is_place len_is_place (fun f cdv A outer s H E hr => by
    have tk := takes_of (X := cxOf (L2.CX P w) P w K mg base N_is_place "is_place" (defScope s_is_place) f cdv A outer s H E) rfl rfl rfl rfl
    exact (s_one (s_ret (e_andC (e_isi T.b_isinstance T.b_int (by decide +kernel) (e_var 0)) (e_andC (e_not (e_isi T.b_isinstance T.b_bool (by decide +kernel) (e_var 0))) (e_one (e_chain op_le op_le e_int (e_var 0) (e_var 1))))))))
    (pure_is_place)
theorem ok_is_text (T : Txt K mg C_TooGreat C_NoText C_NoEdit C_Clash C_MenderError C_NoAsk C_NoMend C_NotWhole C_NoName C_NoPlace) (D : Dfd K mg "is_text" ["thing"] s_is_text) (c_need_text : Cal P w K mg base 1 "need_text" ["text"] (S_need_text C_NoText C_TooGreat)) : Cal P w K mg base 2 "is_text" ["thing"] (S_is_text C_NoText C_TooGreat) :=
  D.cal (k := 1) (wb := w_is_text (mxK K) C_TooGreat C_NoText C_MenderError) sc_is_text len_is_text (fun f cdv A outer s H E hr => by
    have tk := takes_of (X := cxOf (L2.CX P w) P w K mg base N_is_text "is_text" (defScope s_is_text) f cdv A outer s H E) rfl rfl rfl rfl
    exact (s_cons (s_try rfl rfl rfl tk (fun _ _ _ tk1 po1 => (s_one (s_expr (c_call c_need_text tk1 hr (a_cons (e_var 0) a_nil)))))
  (cls_only (roomT hr) T.n_MenderError (fun _ _ hr1 => (s_one (s_ret e_bl))) .nil))
 (s_one (s_ret e_bl))))
    (pure_is_text T.em)
theorem ok_need_edits (T : Txt K mg C_TooGreat C_NoText C_NoEdit C_Clash C_MenderError C_NoAsk C_NoMend C_NotWhole C_NoName C_NoPlace) (D : Dfd K mg "need_edits" ["text", "edits"] s_need_edits) (c_is_place : Cal P w K mg base 1 "is_place" ["thing", "most"] S_is_place) (c_is_text : Cal P w K mg base 2 "is_text" ["thing"] (S_is_text C_NoText C_TooGreat)) (c_need_text : Cal P w K mg base 1 "need_text" ["text"] (S_need_text C_NoText C_TooGreat)) : Cal P w K mg base 3 "need_edits" ["text", "edits"] (S_need_edits C_NoText C_TooGreat C_NoEdit) :=
  D.cal (k := 2) (wb := w_need_edits C_TooGreat C_NoText C_NoEdit) sc_need_edits len_need_edits (fun f cdv A outer s H E hr => by
    have tk := takes_of (X := cxOf (L2.CX P w) P w K mg base N_need_edits "need_edits" (defScope s_need_edits) f cdv A outer s H E) rfl rfl rfl rfl
    exact (s_cons (s_expr (c_call c_need_text tk hr (a_cons (e_var 0) a_nil)))
 (s_cons (s_if (t_not (t_val (e_isi T.b_isinstance T.b_list (by decide +kernel) (e_var 1))))
  (s_one (s_raise rfl tk (T.x_NoEdit.mk1)))
  s_nil)
 (s_cons (s_set (i := 2) sc_need_edits.nd rfl (by first | exact Or.inl rfl | exact Or.inr rfl) (e_neg e_int))
 (s_one (s_for (passes_of rfl) rfl (i_listX (e_var 1)) (g_name (i := 3) sc_need_edits.nd rfl (by first | exact Or.inl rfl | exact Or.inr rfl))
  (s_cons (s_if (t_pw (t_orC (t_not (t_val (e_isi T.b_isinstance T.b_tuple (by decide +kernel) (e_var 3)))) (t_orC (t_ne (hu64 hr) (e_len T.b_len (e_var 3)) e_int) (t_or1 (t_not (t_val (c_call c_is_text tk hr (a_cons (e_ix (e_var 3) e_int) a_nil))))))))
  (s_one (s_raise rfl tk (T.x_NoEdit.mk1)))
  s_nil)
 (s_cons (s_if (t_pw (t_orC (t_not (t_val (c_call c_is_place tk hr (a_cons (e_ix (e_var 3) e_int) (a_cons (e_len T.b_len (e_var 0)) a_nil))))) (t_or1 (t_not (t_val (c_call c_is_place tk hr (a_cons (e_ix (e_var 3) e_int) (a_cons (e_len T.b_len (e_var 0)) a_nil))))))))
  (s_one (s_raise rfl tk (T.x_NoEdit.mk1)))
  s_nil)
 (s_cons (s_if (t_not (t_chain op_lt op_le (e_var 2) (e_ix (e_var 3) e_int) (e_ix (e_var 3) e_int)))
  (s_one (s_raise rfl tk (T.x_NoEdit.mk1)))
  s_nil)
 (s_one (s_set (i := 2) sc_need_edits.nd rfl (by first | exact Or.inl rfl | exact Or.inr rfl) (e_ix (e_var 3) e_int))))))))))))
    (pure_need_edits C_TooGreat C_NoText C_NoEdit)
theorem ok_done (T : Txt K mg C_TooGreat C_NoText C_NoEdit C_Clash C_MenderError C_NoAsk C_NoMend C_NotWhole C_NoName C_NoPlace) (D : Dfd K mg "done" ["text", "edits"] s_done) (c_need_edits : Cal P w K mg base 3 "need_edits" ["text", "edits"] (S_need_edits C_NoText C_TooGreat C_NoEdit)) : Cal P w K mg base 4 "done" ["text", "edits"] (S_done C_NoText C_TooGreat C_NoEdit) :=
  D.cal (k := 3) (wb := w_done C_TooGreat C_NoText C_NoEdit) sc_done len_done (fun f cdv A outer s H E hr => by
    have tk := takes_of (X := cxOf (L2.CX P w) P w K mg base N_done "done" (defScope s_done) f cdv A outer s H E) rfl rfl rfl rfl
    exact (s_cons (s_expr (c_call c_need_edits tk hr (a_cons (e_var 0) (a_cons (e_var 1) a_nil))))
 (s_cons (s_set (i := 2) sc_done.nd rfl (by first | exact Or.inl rfl | exact Or.inr rfl) e_str)
 (s_cons (s_set (i := 3) sc_done.nd rfl (by first | exact Or.inl rfl | exact Or.inr rfl) e_int)
 (s_cons (s_for (passes_of rfl) rfl (i_listX (e_var 1)) (g_tup rfl (gs_cons (g_name (i := 4) sc_done.nd rfl (by first | exact Or.inl rfl | exact Or.inr rfl)) (gs_cons (g_name (i := 5) sc_done.nd rfl (by first | exact Or.inl rfl | exact Or.inr rfl)) (gs_cons (g_name (i := 6) sc_done.nd rfl (by first | exact Or.inl rfl | exact Or.inr rfl)) gs_nil))))
  (s_cons (s_augAdd (i := 2) sc_done.nd rfl (by first | exact Or.inl rfl | exact Or.inr rfl) (e_add (e_sl (e_var 0) (o_some (e_var 3)) (o_some (e_var 4))) (e_var 6)))
 (s_one (s_set (i := 3) sc_done.nd rfl (by first | exact Or.inl rfl | exact Or.inr rfl) (e_var 5)))))
 (s_cons (s_augAdd (i := 2) sc_done.nd rfl (by first | exact Or.inl rfl | exact Or.inr rfl) (e_sl (e_var 0) (o_some (e_var 3)) o_none))
 (s_cons (s_if (t_gt (e_len T.b_len (e_var 2)) (e_gi rfl T.g_MOST_SIGNS_edits))
  (s_one (s_raise rfl tk (T.x_TooGreat.mk1)))
  s_nil)
 (s_one (s_ret (e_var 2))))))))))
    (pure_done C_TooGreat C_NoText C_NoEdit)
theorem ok_grown (T : Txt K mg C_TooGreat C_NoText C_NoEdit C_Clash C_MenderError C_NoAsk C_NoMend C_NotWhole C_NoName C_NoPlace) (D : Dfd K mg "grown" ["edit"] s_grown) : Cal P w K mg base 1 "grown" ["edit"] S_grown :=
  D.cal (k := 0) (wb := w_grown) sc_grown len_grown (fun f cdv A outer s H E hr => by
    have tk := takes_of (X := cxOf (L2.CX P w) P w K mg base N_grown "grown" (defScope s_grown) f cdv A outer s H E) rfl rfl rfl rfl
    exact (s_one (s_ret (e_sub (e_len T.b_len (e_ix (e_var 0) e_int)) (e_sub (e_ix (e_var 0) e_int) (e_ix (e_var 0) e_int))))))
    (pure_grown)
theorem ok_backs (T : Txt K mg C_TooGreat C_NoText C_NoEdit C_Clash C_MenderError C_NoAsk C_NoMend C_NotWhole C_NoName C_NoPlace) (D : Dfd K mg "backs" ["text", "edits"] s_backs) (c_grown : Cal P w K mg base 1 "grown" ["edit"] S_grown) (c_done : Cal P w K mg base 4 "done" ["text", "edits"] (S_done C_NoText C_TooGreat C_NoEdit)) : Cal P w K mg base 5 "backs" ["text", "edits"] (S_backs C_NoText C_TooGreat C_NoEdit) :=
  D.cal (k := 4) (wb := w_backs C_TooGreat C_NoText C_NoEdit) sc_backs len_backs (fun f cdv A outer s H E hr => by
    have tk := takes_of (X := cxOf (L2.CX P w) P w K mg base N_backs "backs" (defScope s_backs) f cdv A outer s H E) rfl rfl rfl rfl
    exact (s_cons (s_expr (c_call c_done tk hr (a_cons (e_var 0) (a_cons (e_var 1) a_nil))))
 (s_cons (s_set (i := 2) sc_backs.nd rfl (by first | exact Or.inl rfl | exact Or.inr rfl) (e_lst a_nil))
 (s_cons (s_set (i := 3) sc_backs.nd rfl (by first | exact Or.inl rfl | exact Or.inr rfl) e_int)
 (s_cons (s_for (passes_of rfl) rfl (i_listX (e_var 1)) (g_name (i := 4) sc_backs.nd rfl (by first | exact Or.inl rfl | exact Or.inr rfl))
  (s_cons (s_set (i := 5) sc_backs.nd rfl (by first | exact Or.inl rfl | exact Or.inr rfl) (e_add (e_ix (e_var 4) e_int) (e_var 3)))
 (s_cons (s_expr (e_app (e_var 2) (e_tup (a_cons (e_var 5) (a_cons (e_add (e_var 5) (e_len T.b_len (e_ix (e_var 4) e_int))) (a_cons (e_sl (e_var 0) (o_some (e_ix (e_var 4) e_int)) (o_some (e_ix (e_var 4) e_int))) a_nil))))))
 (s_one (s_augAdd (i := 3) sc_backs.nd rfl (by first | exact Or.inl rfl | exact Or.inr rfl) (c_call c_grown tk hr (a_cons (e_var 4) a_nil)))))))
 (s_one (s_ret (e_var 2))))))))
    (pure_backs C_TooGreat C_NoText C_NoEdit)
theorem ok_touch (T : Txt K mg C_TooGreat C_NoText C_NoEdit C_Clash C_MenderError C_NoAsk C_NoMend C_NotWhole C_NoName C_NoPlace) (D : Dfd K mg "touch" ["one", "other"] s_touch) : Cal P w K mg base 1 "touch" ["one", "other"] S_touch :=
  D.cal (k := 0) (wb := w_touch) sc_touch len_touch (fun f cdv A outer s H E hr => by
    have tk := takes_of (X := cxOf (L2.CX P w) P w K mg base N_touch "touch" (defScope s_touch) f cdv A outer s H E) rfl rfl rfl rfl
    exact (s_one (s_ret (e_andC (e_ge (e_ix (e_var 0) e_int) (e_ix (e_var 1) e_int)) (e_one (e_ge (e_ix (e_var 1) e_int) (e_ix (e_var 0) e_int)))))))
    (pure_touch)
theorem ok_need_apart (T : Txt K mg C_TooGreat C_NoText C_NoEdit C_Clash C_MenderError C_NoAsk C_NoMend C_NotWhole C_NoName C_NoPlace) (D : Dfd K mg "need_apart" ["edits", "others"] s_need_apart) (c_touch : Cal P w K mg base 1 "touch" ["one", "other"] S_touch) : Cal P w K mg base 3 "need_apart" ["edits", "others"] S_need_apart :=
  D.cal (k := 2) (wb := w_need_apart C_Clash) sc_need_apart len_need_apart (fun f cdv A outer s H E hr => by
    have tk := takes_of (X := cxOf (L2.CX P w) P w K mg base N_need_apart "need_apart" (defScope s_need_apart) f cdv A outer s H E) rfl rfl rfl rfl
    exact (s_one (s_for (passes_of rfl) rfl (i_list (e_var 0)) (g_name (i := 2) sc_need_apart.nd rfl (by first | exact Or.inl rfl | exact Or.inr rfl))
  (s_one (s_for (passes_of rfl) rfl (i_list (e_var 1)) (g_name (i := 3) sc_need_apart.nd rfl (by first | exact Or.inl rfl | exact Or.inr rfl))
  (s_one (s_if (t_val (c_call c_touch tk hr (a_cons (e_var 2) (a_cons (e_var 3) a_nil))))
  (s_one (c_raiseI (ini_Clash T) rfl tk hr (a_cons (e_var 2) (a_cons (e_var 3) a_nil))))
  s_nil)))))))
    (pure_need_apart C_Clash)
theorem ok_moved (T : Txt K mg C_TooGreat C_NoText C_NoEdit C_Clash C_MenderError C_NoAsk C_NoMend C_NotWhole C_NoName C_NoPlace) (D : Dfd K mg "moved" ["text", "edits", "others"] s_moved) (c_grown : Cal P w K mg base 1 "grown" ["edit"] S_grown) (c_done : Cal P w K mg base 4 "done" ["text", "edits"] (S_done C_NoText C_TooGreat C_NoEdit)) (c_need_apart : Cal P w K mg base 3 "need_apart" ["edits", "others"] S_need_apart) (c_need_edits : Cal P w K mg base 3 "need_edits" ["text", "edits"] (S_need_edits C_NoText C_TooGreat C_NoEdit)) : Cal P w K mg base 5 "moved" ["text", "edits", "others"] (S_moved C_NoText C_TooGreat C_NoEdit) :=
  D.cal (k := 4) (wb := w_moved C_TooGreat C_NoText C_NoEdit) sc_moved len_moved (fun f cdv A outer s H E hr => by
    have tk := takes_of (X := cxOf (L2.CX P w) P w K mg base N_moved "moved" (defScope s_moved) f cdv A outer s H E) rfl rfl rfl rfl
    exact (s_cons (s_expr (c_call c_need_edits tk hr (a_cons (e_var 0) (a_cons (e_var 1) a_nil))))
 (s_cons (s_expr (c_call c_need_edits tk hr (a_cons (e_var 0) (a_cons (e_var 2) a_nil))))
 (s_cons (s_expr (c_call c_need_apart tk hr (a_cons (e_var 1) (a_cons (e_var 2) a_nil))))
 (s_cons (s_expr (c_call c_done tk hr (a_cons (e_var 0) (a_cons (e_var 2) a_nil))))
 (s_cons (s_set (i := 3) sc_moved.nd rfl (by first | exact Or.inl rfl | exact Or.inr rfl) (e_lst a_nil))
 (s_cons (s_for (passes_of rfl) rfl (i_list (e_var 1)) (g_tup rfl (gs_cons (g_name (i := 4) sc_moved.nd rfl (by first | exact Or.inl rfl | exact Or.inr rfl)) (gs_cons (g_name (i := 5) sc_moved.nd rfl (by first | exact Or.inl rfl | exact Or.inr rfl)) (gs_cons (g_name (i := 6) sc_moved.nd rfl (by first | exact Or.inl rfl | exact Or.inr rfl)) gs_nil))))
  (s_cons (s_set (i := 7) sc_moved.nd rfl (by first | exact Or.inl rfl | exact Or.inr rfl) (e_sum rfl T.b_sum (e_lc (own := [("other", 8)]) rfl sc_moved.nd (i_list (e_var 2)) (blkOk_by (N := N_moved) (sc := defScope s_moved) (by decide +kernel)) (by decide) (fun _ _ _ _ _ => (g_name (i := 8) sc_moved.nd rfl (by first | exact Or.inl rfl | exact Or.inr rfl))) (fun _ _ _ _ _ => (ts_one (t_lt (e_ix (e_var 8) e_int) (e_var 4)))) (fun _ _ _ _ _ => (c_call c_grown takes0 hr (a_cons (e_var 8) a_nil))))))
 (s_one (s_expr (e_app (e_var 3) (e_tup (a_cons (e_add (e_var 4) (e_var 7)) (a_cons (e_add (e_var 5) (e_var 7)) (a_cons (e_var 6) a_nil)))))))))
 (s_one (s_ret (e_var 3))))))))))
    (pure_moved C_TooGreat C_NoText C_NoEdit)
theorem ok_law_begun (T : Txt K mg C_TooGreat C_NoText C_NoEdit C_Clash C_MenderError C_NoAsk C_NoMend C_NotWhole C_NoName C_NoPlace) (D : Dfd K mg "_law_begun" ["_law_cell", "_law_k"] s_law_begun) : Cal P w K mg base 1 "_law_begun" ["_law_cell", "_law_k"] S_law_begun :=
  D.cal (k := 0) (wb := w_law_begun) sc_law_begun len_law_begun (fun f cdv A outer s H E hr => by
    have tk := takes_of (X := cxOf (L2.CX P w) P w K mg base N_law_begun "_law_begun" (defScope s_law_begun) f cdv A outer s H E) rfl rfl rfl rfl
    exact (s_cons (s_if (t_ge (e_var 0) (e_pow e_int e_int))
  (s_one (s_ret (e_lst (a_cons (e_sub (e_var 0) (e_pow e_int e_int)) (a_cons e_int a_nil)))))
  s_nil)
 (s_cons (s_set (i := 2) sc_law_begun.nd rfl (by first | exact Or.inl rfl | exact Or.inr rfl) (e_mod (e_add (e_mul (e_mod (e_var 0) e_int) e_int) (e_mul e_int (e_add (e_var 1) e_int))) e_int))
 (s_one (s_ret (e_lst (a_cons (e_add e_int (e_mod (e_add (e_mul (e_var 2) (e_var 2)) (e_mul e_int (e_var 2))) e_int)) (a_cons e_int a_nil))))))))
    (pure_law_begun)
theorem ok_law_next (T : Txt K mg C_TooGreat C_NoText C_NoEdit C_Clash C_MenderError C_NoAsk C_NoMend C_NotWhole C_NoName C_NoPlace) (D : Dfd K mg "_law_next" ["_law_drawn", "_law_size"] s_law_next) : CalO P w K mg base 1 "_law_next" ["_law_drawn", "_law_size"] S_law_next :=
  D.calO (k := 0) (wb := w_law_next) sc_law_next len_law_next (fun f cdv A outer s H E hr => by
    have tk := takes_of (X := cxOf (L2.CX P w) P w K mg base N_law_next "_law_next" (defScope s_law_next) f cdv A outer s H E) rfl rfl rfl rfl
    exact (s_cons (s_if (t_eq (hu64 hr) (e_ix (e_var 0) e_int) e_int)
  (s_cons (s_set (i := 2) sc_law_next.nd rfl (by first | exact Or.inl rfl | exact Or.inr rfl) (e_mod (e_ix (e_var 0) e_int) (e_var 1)))
 (s_cons (s_setIx (e_div (e_ix (e_var 0) e_int) (e_var 1)) (e_var 0) e_int)
 (s_one (s_ret (e_var 2)))))
  s_nil)
 (s_cons (s_setIx (e_mod (e_add (e_mul (e_ix (e_var 0) e_int) e_int) e_int) e_int) (e_var 0) e_int)
 (s_one (s_ret (e_mod (e_div (e_ix (e_var 0) e_int) e_int) (e_var 1)))))))
    (pure_law_next)
theorem ok_law_spots {k : Nat} {S R_law_spots : FS} (hk : 1 ≤ k) (T : Txt K mg C_TooGreat C_NoText C_NoEdit C_Clash C_MenderError C_NoAsk C_NoMend C_NotWhole C_NoName C_NoPlace) (D : Dfd K mg "_law_spots" ["_law_thing"] s_law_spots) (c_law_spots : Cal P w K mg base k "_law_spots" ["_law_thing"] R_law_spots) (len : ∀ args o r e, S args o r e → args.length = 1) (pure : ∀ args o ret exc, S args o ret exc → w_law_spots R_law_spots (fun x s => exc x (cutL o.length s.o)) (pst0 args o 5) (bodyE o.length ret)) : Cal P w K mg base (k + 1) "_law_spots" ["_law_thing"] S :=
  D.cal (k := k) (wb := w_law_spots R_law_spots) sc_law_spots len (fun f cdv A outer s H E hr => by
    have tk := takes_of (X := cxOf (L2.CX P w) P w K mg base N_law_spots "_law_spots" (defScope s_law_spots) f cdv A outer s H E) rfl rfl rfl rfl
    exact (s_cons (s_set (i := 1) sc_law_spots.nd rfl (by first | exact Or.inl rfl | exact Or.inr rfl) (e_lst (a_cons (e_tup a_nil) a_nil)))
 (s_cons (s_if (t_val (e_isi T.b_isinstance T.b_tuple (by decide +kernel) (e_var 0)))
  (s_one (s_for (passes_of rfl) rfl (i_enumT T.b_enumerate (e_var 0)) (g_tup rfl (gs_cons (g_name (i := 2) sc_law_spots.nd rfl (by first | exact Or.inl rfl | exact Or.inr rfl)) (gs_cons (g_name (i := 3) sc_law_spots.nd rfl (by first | exact Or.inl rfl | exact Or.inr rfl)) gs_nil)))
  (s_one (s_set (i := 1) sc_law_spots.nd rfl (by first | exact Or.inl rfl | exact Or.inr rfl) (e_cat (e_var 1) (e_lc (own := [("_law_way", 4)]) rfl sc_law_spots.nd (i_list (c_call c_law_spots tk hr (a_cons (e_var 3) a_nil) (hk := Nat.le_refl _))) (blkOk_by (N := N_law_spots) (sc := defScope s_law_spots) (by decide +kernel)) (by decide) (fun _ _ _ _ _ => (g_name (i := 4) sc_law_spots.nd rfl (by first | exact Or.inl rfl | exact Or.inr rfl))) (fun _ _ _ _ _ => ts_nil) (fun _ _ _ _ _ => (e_catT (e_tup (a_cons (e_var 2) a_nil)) (e_var 4)))))))))
  s_nil)
 (s_one (s_ret (e_var 1))))))
    pure
theorem ok_law_with {k : Nat} {S R_law_with : FS} (hk : 1 ≤ k) (T : Txt K mg C_TooGreat C_NoText C_NoEdit C_Clash C_MenderError C_NoAsk C_NoMend C_NotWhole C_NoName C_NoPlace) (D : Dfd K mg "_law_with" ["_law_thing", "_law_way", "_law_other"] s_law_with) (c_law_with : Cal P w K mg base k "_law_with" ["_law_thing", "_law_way", "_law_other"] R_law_with) (len : ∀ args o r e, S args o r e → args.length = 3) (pure : ∀ args o ret exc, S args o ret exc → w_law_with R_law_with (fun x s => exc x (cutL o.length s.o)) (pst0 args o 4) (bodyE o.length ret)) : Cal P w K mg base (k + 1) "_law_with" ["_law_thing", "_law_way", "_law_other"] S :=
  D.cal (k := k) (wb := w_law_with R_law_with) sc_law_with len (fun f cdv A outer s H E hr => by
    have tk := takes_of (X := cxOf (L2.CX P w) P w K mg base N_law_with "_law_with" (defScope s_law_with) f cdv A outer s H E) rfl rfl rfl rfl
    exact (s_cons (s_if (t_eq (hu64 hr) (e_var 1) (e_tup a_nil))
  (s_one (s_ret (e_var 2)))
  s_nil)
 (s_cons (s_set (i := 3) sc_law_with.nd rfl (by first | exact Or.inl rfl | exact Or.inr rfl) (e_ix (e_var 1) e_int))
 (s_one (s_ret (e_catT (e_catT (e_sl (e_var 0) o_none (o_some (e_var 3))) (e_tup (a_cons (c_call c_law_with tk hr (a_cons (e_ix (e_var 0) (e_var 3)) (a_cons (e_sl (e_var 1) (o_some e_int) o_none) (a_cons (e_var 2) a_nil))) (hk := Nat.le_refl _)) a_nil))) (e_sl (e_var 0) (o_some (e_add (e_var 3) e_int)) o_none)))))))
    pure
theorem ok_law_step (T : Txt K mg C_TooGreat C_NoText C_NoEdit C_Clash C_MenderError C_NoAsk C_NoMend C_NotWhole C_NoName C_NoPlace) (D : Dfd K mg "_law_step" ["_law_drawn", "_law_one"] s_law_step) (c_law_next : CalO P w K mg base 1 "_law_next" ["_law_drawn", "_law_size"] S_law_next) : CalO P w K mg base 2 "_law_step" ["_law_drawn", "_law_one"] S_law_step :=
  D.calO (k := 1) (wb := w_law_step) sc_law_step len_law_step (fun f cdv A outer s H E hr => by
    have tk := takes_of (X := cxOf (L2.CX P w) P w K mg base N_law_step "_law_step" (defScope s_law_step) f cdv A outer s H E) rfl rfl rfl rfl
    exact (s_cons (s_if (t_val (e_isi T.b_isinstance T.b_str (by decide +kernel) (e_var 1)))
  (s_cons (s_set (i := 2) sc_law_step.nd rfl (by first | exact Or.inl rfl | exact Or.inr rfl) (c_callO c_law_next tk hr (a_cons (e_var 0) (a_cons (e_add (e_len T.b_len (e_var 1)) e_int) a_nil))))
 (s_cons (s_set (i := 3) sc_law_step.nd rfl (by first | exact Or.inl rfl | exact Or.inr rfl) (e_ix e_str (c_callO c_law_next tk hr (a_cons (e_var 0) (a_cons e_int a_nil)))))
 (s_cons (s_set (i := 4) sc_law_step.nd rfl (by first | exact Or.inl rfl | exact Or.inr rfl) (e_lst (a_cons (e_add (e_add (e_sl (e_var 1) o_none (o_some (e_var 2))) (e_var 3)) (e_sl (e_var 1) (o_some (e_add (e_var 2) e_int)) o_none)) (a_cons (e_add (e_add (e_sl (e_var 1) o_none (o_some (e_var 2))) (e_var 3)) (e_sl (e_var 1) (o_some (e_var 2)) o_none)) (a_cons (e_add (e_sl (e_var 1) o_none (o_some (e_var 2))) (e_sl (e_var 1) (o_some (e_add (e_var 2) e_int)) o_none)) a_nil)))))
 (s_one (s_ret (e_ix (e_cat (e_var 4) (e_lst (a_cons e_str (a_cons (e_upper (e_var 1)) (a_cons (e_tup (a_cons (e_var 1) a_nil)) (a_cons e_non a_nil)))))) (c_callO c_law_next tk hr (a_cons (e_var 0) (a_cons e_int a_nil)))))))))
  s_nil)
 (s_cons (s_if (t_val (e_isi T.b_isinstance T.b_int (by decide +kernel) (e_var 1)))
  (s_cons (s_set (i := 4) sc_law_step.nd rfl (by first | exact Or.inl rfl | exact Or.inr rfl) (e_lst (a_cons (e_add (e_var 1) e_int) (a_cons (e_sub (e_var 1) e_int) (a_cons (e_add (e_var 1) e_int) (a_cons e_int (a_cons (e_neg e_int) (a_cons (e_sub e_int (e_var 1)) (a_cons (e_add (e_var 1) e_int) (a_cons (e_strI T.b_str (e_var 1)) (a_cons (e_eq (hu64 hr) (e_var 1) e_int) (a_cons e_non (a_cons (e_tup (a_cons (e_var 1) a_nil)) a_nil)))))))))))))
 (s_one (s_ret (e_ix (e_var 4) (c_callO c_law_next tk hr (a_cons (e_var 0) (a_cons e_int a_nil)))))))
  s_nil)
 (s_cons (s_set (i := 2) sc_law_step.nd rfl (by first | exact Or.inl rfl | exact Or.inr rfl) (c_callO c_law_next tk hr (a_cons (e_var 0) (a_cons (e_max2 rfl T.b_max e_int (e_len T.b_len (e_var 1))) a_nil))))
 (s_cons (s_set (i := 4) sc_law_step.nd rfl (by first | exact Or.inl rfl | exact Or.inr rfl) (e_lst (a_cons (e_catT (e_sl (e_var 1) o_none (o_some (e_var 2))) (e_sl (e_var 1) (o_some (e_add (e_var 2) e_int)) o_none)) (a_cons (e_catT (e_sl (e_var 1) o_none (o_some (e_add (e_var 2) e_int))) (e_sl (e_var 1) (o_some (e_var 2)) o_none)) (a_cons (e_catT (e_sl (e_var 1) o_none (o_some (e_var 2))) (e_revT (e_sl (e_var 1) (o_some (e_var 2)) o_none))) (a_cons (e_revT (e_var 1)) a_nil))))))
 (s_one (s_ret (e_ix (e_cat (e_var 4) (e_lst (a_cons (e_listOf T.b_list (e_var 1)) (a_cons (e_tup (a_cons (e_var 1) a_nil)) (a_cons (e_tup a_nil) (a_cons e_non a_nil)))))) (c_callO c_law_next tk hr (a_cons (e_var 0) (a_cons e_int a_nil)))))))))))
    (pure_law_step)
theorem ok_law_spoilt (T : Txt K mg C_TooGreat C_NoText C_NoEdit C_Clash C_MenderError C_NoAsk C_NoMend C_NotWhole C_NoName C_NoPlace) (D : Dfd K mg "_law_spoilt" ["_law_drawn", "_law_thing"] s_law_spoilt) (c_law_step : CalO P w K mg base 2 "_law_step" ["_law_drawn", "_law_one"] S_law_step) (c_law_with : Cal P w K mg base 4 "_law_with" ["_law_thing", "_law_way", "_law_other"] (S_law_with 3)) (c_law_next : CalO P w K mg base 1 "_law_next" ["_law_drawn", "_law_size"] S_law_next) (c_law_spots : Cal P w K mg base 4 "_law_spots" ["_law_thing"] (S_law_spots 3)) : CalO P w K mg base 5 "_law_spoilt" ["_law_drawn", "_law_thing"] S_law_spoilt :=
  D.calO (k := 4) (wb := w_law_spoilt) sc_law_spoilt len_law_spoilt (fun f cdv A outer s H E hr => by
    have tk := takes_of (X := cxOf (L2.CX P w) P w K mg base N_law_spoilt "_law_spoilt" (defScope s_law_spoilt) f cdv A outer s H E) rfl rfl rfl rfl
    exact (s_cons (s_set (i := 2) sc_law_spoilt.nd rfl (by first | exact Or.inl rfl | exact Or.inr rfl) (c_call c_law_spots tk hr (a_cons (e_var 1) a_nil)))
 (s_cons (s_set (i := 3) sc_law_spoilt.nd rfl (by first | exact Or.inl rfl | exact Or.inr rfl) (e_ix (e_var 2) (c_callO c_law_next tk hr (a_cons (e_var 0) (a_cons (e_len T.b_len (e_var 2)) a_nil)))))
 (s_cons (s_set (i := 4) sc_law_spoilt.nd rfl (by first | exact Or.inl rfl | exact Or.inr rfl) (e_var 1))
 (s_cons (s_for (passes_of rfl) rfl (i_tup (e_var 3)) (g_name (i := 5) sc_law_spoilt.nd rfl (by first | exact Or.inl rfl | exact Or.inr rfl))
  (s_one (s_set (i := 4) sc_law_spoilt.nd rfl (by first | exact Or.inl rfl | exact Or.inr rfl) (e_ix (e_var 4) (e_var 5)))))
 (s_one (s_ret (c_call c_law_with tk hr (a_cons (e_var 1) (a_cons (e_var 3) (a_cons (c_callO c_law_step tk hr (a_cons (e_var 0) (a_cons (e_var 4) a_nil))) a_nil)))))))))))
    (pure_law_spoilt)
theorem ok_law_word (T : Txt K mg C_TooGreat C_NoText C_NoEdit C_Clash C_MenderError C_NoAsk C_NoMend C_NotWhole C_NoName C_NoPlace) (D : Dfd K mg "_law_word" ["_law_error"] s_law_word) : CalT P w K mg base 1 "_law_word" ["_law_error"] (S_law_word C_NoText C_NoEdit) :=
  D.calT (k := 0) (wb := w_law_word (mxK K) C_TooGreat C_NoText C_NoEdit C_Clash C_NoAsk C_NoMend C_NotWhole C_NoName C_NoPlace) sc_law_word len_law_word (fun f cdv A outer s H E hr => by
    have tk := takes_of (X := cxT (L2.CX P w) P w K mg base N_law_word "_law_word" (defScope s_law_word) f cdv A outer s H E) rfl rfl rfl rfl
    exact (s_cons (s_set (i := 1) sc_law_word.nd rfl (by first | exact Or.inl rfl | exact Or.inr rfl) (e_lst (a_cons (e_isE T.b_isinstance T.n_NoText (e_var 0)) (a_cons (e_isE T.b_isinstance T.n_TooGreat (e_var 0)) (a_cons (e_isE T.b_isinstance T.n_NoEdit (e_var 0)) a_nil)))))
 (s_cons (s_set (i := 1) sc_law_word.nd rfl (by first | exact Or.inl rfl | exact Or.inr rfl) (e_cat (e_var 1) (e_lst (a_cons (e_isE T.b_isinstance T.n_Clash (e_var 0)) (a_cons (e_isE T.b_isinstance T.n_NoPlace (e_var 0)) (a_cons (e_isE T.b_isinstance T.n_NoName (e_var 0)) a_nil))))))
 (s_cons (s_set (i := 1) sc_law_word.nd rfl (by first | exact Or.inl rfl | exact Or.inr rfl) (e_cat (e_var 1) (e_lst (a_cons (e_isE T.b_isinstance T.n_NotWhole (e_var 0)) (a_cons (e_isE T.b_isinstance T.n_NoMend (e_var 0)) (a_cons (e_isE T.b_isinstance T.n_NoAsk (e_var 0)) a_nil))))))
 (s_cons (s_if (t_pw (t_orC (t_ne (hu64H hr) (e_count (hu65H hr) (e_var 1) e_bl) e_int) (t_or1 (t_not (t_val (e_isEB T.b_isinstance T.b_ValueError (by decide +kernel) (e_var 0)))))))
  (s_one (s_ret e_str))
  s_nil)
 (s_one (s_ret (e_ix (e_lst (a_cons e_str (a_cons e_str (a_cons e_str (a_cons e_str (a_cons e_str (a_cons e_str (a_cons e_str (a_cons e_str (a_cons e_str a_nil)))))))))) (e_index (hu65H hr) (e_var 1) e_bl)))))))))
    (pure_law_word T.em)
theorem ok_law_told (T : Txt K mg C_TooGreat C_NoText C_NoEdit C_Clash C_MenderError C_NoAsk C_NoMend C_NotWhole C_NoName C_NoPlace) (D : Dfd K mg "_law_told" ["_law_work"] s_law_told) (c_law_word : CalT P w K mg base 1 "_law_word" ["_law_error"] (S_law_word C_NoText C_NoEdit)) : CalB P w K mg base 20 "_law_told" "_law_work" (S_law_told C_NoText C_NoEdit) :=
  ⟨s_law_told, N_law_told, fun f d q ps us B => w_law_told (mxK K) C_NoText C_NoEdit C_MenderError f d q ps us B, D, sc_law_told, rfl, .inl rfl, fun f d q ps us B g cdv A outer s H E hr act => by
    have tk := takes_of (X := cxOf (L2.CX P w) P w K mg base N_law_told "_law_told" (defScope s_law_told) g cdv A outer s H E) rfl rfl rfl rfl
    exact (s_cons (s_set (i := 1) sc_law_told.nd rfl (by first | exact Or.inl rfl | exact Or.inr rfl) e_non)
 (s_cons (s_try rfl rfl rfl tk (fun W1 pn1 xe1 tk1 po1 => (s_one (s_set (i := 1) sc_law_told.nd rfl (by first | exact Or.inl rfl | exact Or.inr rfl) (act W1 pn1 xe1 _ _ tk1))))
  (cls_as (roomT hr) T.n_MenderError sc_law_told.nd (i := 2) rfl rfl (fun _ _ hr1 => (s_one (s_set (i := 1) sc_law_told.nd rfl (by first | exact Or.inl rfl | exact Or.inr rfl) (e_add e_str (c_callT c_law_word takes0 hr1 (a_cons (e_var 2) a_nil)))))) .nil))
 (s_one (s_ret (e_var 1))))),
    fun f d q ps us B o ret exc h => pure_law_told T.em f d q ps us B o ret exc h⟩
theorem ok_law_text (T : Txt K mg C_TooGreat C_NoText C_NoEdit C_Clash C_MenderError C_NoAsk C_NoMend C_NotWhole C_NoName C_NoPlace) (D : Dfd K mg "_law_text" ["_law_drawn"] s_law_text) (c_law_next : CalO P w K mg base 1 "_law_next" ["_law_drawn", "_law_size"] S_law_next) : CalO P w K mg base 2 "_law_text" ["_law_drawn"] S_law_text :=
  D.calO (k := 1) (wb := w_law_text) sc_law_text len_law_text (fun f cdv A outer s H E hr => by
    have tk := takes_of (X := cxOf (L2.CX P w) P w K mg base N_law_text "_law_text" (defScope s_law_text) f cdv A outer s H E) rfl rfl rfl rfl
    exact (s_gd (s_cons (s_set (i := 1) sc_law_text.nd rfl (by first | exact Or.inl rfl | exact Or.inr rfl) e_str)
 (s_one (s_ret (e_join e_str (e_lc (own := [("_law_k", 2)]) rfl sc_law_text.nd (i_rg1 T.b_range (c_callO c_law_next tk hr (a_cons (e_var 0) (a_cons e_int a_nil)))) (blkOk_by (N := N_law_text) (sc := defScope s_law_text) (by decide +kernel)) (by decide) (fun _ _ _ _ _ => (g_name (i := 2) sc_law_text.nd rfl (by first | exact Or.inl rfl | exact Or.inr rfl))) (fun _ _ _ _ _ => ts_nil) (fun _ _ _ _ _ => (e_ix (e_var 1) (c_callO c_law_next takes0 hr (a_cons (e_var 0) (a_cons e_int a_nil))))))))))))
    (pure_law_text)
theorem ok_law_edits (T : Txt K mg C_TooGreat C_NoText C_NoEdit C_Clash C_MenderError C_NoAsk C_NoMend C_NotWhole C_NoName C_NoPlace) (D : Dfd K mg "_law_edits" ["_law_drawn", "_law_text_here"] s_law_edits) (c_law_next : CalO P w K mg base 1 "_law_next" ["_law_drawn", "_law_size"] S_law_next) : CalO P w K mg base 2 "_law_edits" ["_law_drawn", "_law_text_here"] S_law_edits :=
  D.calO (k := 1) (wb := w_law_edits) sc_law_edits len_law_edits (fun f cdv A outer s H E hr => by
    have tk := takes_of (X := cxOf (L2.CX P w) P w K mg base N_law_edits "_law_edits" (defScope s_law_edits) f cdv A outer s H E) rfl rfl rfl rfl
    exact (s_cons (s_set (i := 2) sc_law_edits.nd rfl (by first | exact Or.inl rfl | exact Or.inr rfl) (e_lst a_nil))
 (s_cons (s_set (i := 3) sc_law_edits.nd rfl (by first | exact Or.inl rfl | exact Or.inr rfl) (c_callO c_law_next tk hr (a_cons (e_var 0) (a_cons e_int a_nil))))
 (s_cons (s_for (passes_of rfl) rfl (i_rg1 T.b_range (c_callO c_law_next tk hr (a_cons (e_var 0) (a_cons e_int a_nil)))) (g_name (i := 4) sc_law_edits.nd rfl (by first | exact Or.inl rfl | exact Or.inr rfl))
  (s_cons (s_set (i := 5) sc_law_edits.nd rfl (by first | exact Or.inl rfl | exact Or.inr rfl) (e_add (e_var 3) (c_callO c_law_next tk hr (a_cons (e_var 0) (a_cons e_int a_nil)))))
 (s_cons (s_if (t_gt (e_var 5) (e_len T.b_len (e_var 1)))
  (s_one s_brk)
  s_nil)
 (s_cons (s_set (i := 6) sc_law_edits.nd rfl (by first | exact Or.inl rfl | exact Or.inr rfl) (e_add (e_ix (e_lst (a_cons e_str (a_cons e_str (a_cons e_str (a_cons e_str a_nil))))) (c_callO c_law_next tk hr (a_cons (e_var 0) (a_cons e_int a_nil)))) (e_ix e_str (c_callO c_law_next tk hr (a_cons (e_var 0) (a_cons e_int a_nil))))))
 (s_cons (s_expr (e_app (e_var 2) (e_tup (a_cons (e_var 3) (a_cons (e_var 5) (a_cons (e_sl (e_var 6) (o_some (c_callO c_law_next tk hr (a_cons (e_var 0) (a_cons e_int a_nil)))) o_none) a_nil))))))
 (s_one (s_set (i := 3) sc_law_edits.nd rfl (by first | exact Or.inl rfl | exact Or.inr rfl) (e_add (e_add (e_var 5) e_int) (c_callO c_law_next tk hr (a_cons (e_var 0) (a_cons e_int a_nil)))))))))))
 (s_one (s_ret (e_tupOf T.b_tuple (e_var 2))))))))
    (pure_law_edits)
theorem ok_law_is_place (T : Txt K mg C_TooGreat C_NoText C_NoEdit C_Clash C_MenderError C_NoAsk C_NoMend C_NotWhole C_NoName C_NoPlace) (D : Dfd K mg "_law_is_place" ["_law_thing", "_law_text_here"] s_law_is_place) : Cal P w K mg base 1 "_law_is_place" ["_law_thing", "_law_text_here"] S_law_is_place :=
  D.cal (k := 0) (wb := w_law_is_place) sc_law_is_place len_law_is_place (fun f cdv A outer s H E hr => by
    have tk := takes_of (X := cxOf (L2.CX P w) P w K mg base N_law_is_place "_law_is_place" (defScope s_law_is_place) f cdv A outer s H E) rfl rfl rfl rfl
    exact (s_one (s_ret (e_andC (e_isi T.b_isinstance T.b_int (by decide +kernel) (e_var 0)) (e_andC (e_not (e_isi T.b_isinstance T.b_bool (by decide +kernel) (e_var 0))) (e_one (e_chain op_le op_le e_int (e_var 0) (e_len T.b_len (e_var 1)))))))))
    (pure_law_is_place)
theorem ok_law_are_edits (T : Txt K mg C_TooGreat C_NoText C_NoEdit C_Clash C_MenderError C_NoAsk C_NoMend C_NotWhole C_NoName C_NoPlace) (D : Dfd K mg "_law_are_edits" ["_law_thing", "_law_text_here"] s_law_are_edits) (c_law_is_place : Cal P w K mg base 1 "_law_is_place" ["_law_thing", "_law_text_here"] S_law_is_place) : Cal P w K mg base 2 "_law_are_edits" ["_law_thing", "_law_text_here"] S_law_are_edits :=
  D.cal (k := 1) (wb := w_law_are_edits) sc_law_are_edits len_law_are_edits (fun f cdv A outer s H E hr => by
    have tk := takes_of (X := cxOf (L2.CX P w) P w K mg base N_law_are_edits "_law_are_edits" (defScope s_law_are_edits) f cdv A outer s H E) rfl rfl rfl rfl
    exact (s_cons (s_if (t_not (t_val (e_isi T.b_isinstance T.b_list (by decide +kernel) (e_var 0))))
  (s_one (s_ret e_bl))
  s_nil)
 (s_cons (s_set (i := 2) sc_law_are_edits.nd rfl (by first | exact Or.inl rfl | exact Or.inr rfl) (e_neg e_int))
 (s_cons (s_for (passes_of rfl) rfl (i_list (e_var 0)) (g_name (i := 3) sc_law_are_edits.nd rfl (by first | exact Or.inl rfl | exact Or.inr rfl))
  (s_cons (s_if (t_pw (t_orC (t_not (t_val (e_isi T.b_isinstance T.b_tuple (by decide +kernel) (e_var 3)))) (t_orC (t_ne (hu64 hr) (e_len T.b_len (e_var 3)) e_int) (t_orC (t_not (t_val (e_isi T.b_isinstance T.b_str (by decide +kernel) (e_ix (e_var 3) e_int)))) (t_or1 (t_in (hu65 hr) rfl e_str (e_ix (e_var 3) e_int)))))))
  (s_one (s_ret e_bl))
  s_nil)
 (s_cons (s_if (t_pw (t_orC (t_not (t_val (c_call c_law_is_place tk hr (a_cons (e_ix (e_var 3) e_int) (a_cons (e_var 1) a_nil))))) (t_or1 (t_not (t_val (c_call c_law_is_place tk hr (a_cons (e_ix (e_var 3) e_int) (a_cons (e_var 1) a_nil))))))))
  (s_one (s_ret e_bl))
  s_nil)
 (s_cons (s_if (t_pw (t_orC (t_le (e_ix (e_var 3) e_int) (e_var 2)) (t_or1 (t_lt (e_ix (e_var 3) e_int) (e_ix (e_var 3) e_int)))))
  (s_one (s_ret e_bl))
  s_nil)
 (s_one (s_set (i := 2) sc_law_are_edits.nd rfl (by first | exact Or.inl rfl | exact Or.inr rfl) (e_ix (e_var 3) e_int)))))))
 (s_one (s_ret e_bl))))))
    (pure_law_are_edits)
theorem ok_law_done (T : Txt K mg C_TooGreat C_NoText C_NoEdit C_Clash C_MenderError C_NoAsk C_NoMend C_NotWhole C_NoName C_NoPlace) (D : Dfd K mg "_law_done" ["_law_text_here", "_law_edits_here"] s_law_done) : Cal P w K mg base 1 "_law_done" ["_law_text_here", "_law_edits_here"] S_law_done :=
  D.cal (k := 0) (wb := w_law_done) sc_law_done len_law_done (fun f cdv A outer s H E hr => by
    have tk := takes_of (X := cxOf (L2.CX P w) P w K mg base N_law_done "_law_done" (defScope s_law_done) f cdv A outer s H E) rfl rfl rfl rfl
    exact (s_cons (s_unpM3 (i := 2) (j := 3) (l := 4) rfl sc_law_done.nd rfl rfl rfl (by decide) (by decide) (by decide) rfl rfl rfl (a_cons e_str (a_cons (e_lst a_nil) (a_cons e_int a_nil))))
 (s_cons (s_for (passes_of rfl) rfl (i_list (e_var 1)) (g_tup rfl (gs_cons (g_name (i := 5) sc_law_done.nd rfl (by first | exact Or.inl rfl | exact Or.inr rfl)) (gs_cons (g_name (i := 6) sc_law_done.nd rfl (by first | exact Or.inl rfl | exact Or.inr rfl)) (gs_cons (g_name (i := 7) sc_law_done.nd rfl (by first | exact Or.inl rfl | exact Or.inr rfl)) gs_nil))))
  (s_cons (s_set (i := 2) sc_law_done.nd rfl (by first | exact Or.inl rfl | exact Or.inr rfl) (e_add (e_var 2) (e_sl (e_var 0) (o_some (e_var 4)) (o_some (e_var 5)))))
 (s_cons (s_expr (e_app (e_var 3) (e_tup (a_cons (e_len T.b_len (e_var 2)) (a_cons (e_add (e_len T.b_len (e_var 2)) (e_len T.b_len (e_var 7))) (a_cons (e_sl (e_var 0) (o_some (e_var 5)) (o_some (e_var 6))) a_nil))))))
 (s_cons (s_set (i := 2) sc_law_done.nd rfl (by first | exact Or.inl rfl | exact Or.inr rfl) (e_add (e_var 2) (e_var 7)))
 (s_one (s_set (i := 4) sc_law_done.nd rfl (by first | exact Or.inl rfl | exact Or.inr rfl) (e_var 6)))))))
 (s_one (s_ret (e_tup (a_cons (e_add (e_var 2) (e_sl (e_var 0) (o_some (e_var 4)) o_none)) (a_cons (e_var 3) a_nil))))))))
    (pure_law_done)
theorem ok_law_right {P_law_right : Addr} {cd_law_right : Addr} (TB_law_right : TabB base mg cd_law_right P_law_right) (T : Txt K mg C_TooGreat C_NoText C_NoEdit C_Clash C_MenderError C_NoAsk C_NoMend C_NotWhole C_NoName C_NoPlace) (D : DfdC K mg "_law_right" ["_law_text_here", "_law_thing"] s_law_right cd_law_right) (c_law_told : CalB P w K mg base 20 "_law_told" "_law_work" (S_law_told C_NoText C_NoEdit)) (c_moved : Cal P w K mg base 5 "moved" ["text", "edits", "others"] (S_moved C_NoText C_TooGreat C_NoEdit)) (c_backs : Cal P w K mg base 5 "backs" ["text", "edits"] (S_backs C_NoText C_TooGreat C_NoEdit)) (c_done : Cal P w K mg base 4 "done" ["text", "edits"] (S_done C_NoText C_TooGreat C_NoEdit)) (c_law_are_edits : Cal P w K mg base 2 "_law_are_edits" ["_law_thing", "_law_text_here"] S_law_are_edits) (c_law_done : Cal P w K mg base 1 "_law_done" ["_law_text_here", "_law_edits_here"] S_law_done) : CalG P w K mg base 22 "_law_right" ["_law_text_here", "_law_thing"] (S_law_right P_law_right) :=
  D.calG (k := 21) (wb := w_law_right C_TooGreat C_NoText C_NoEdit P_law_right) sc_law_right len_law_right (fun f A outer s H E hr hgd => by
    have tk := takes_of (X := cxOf (L2.CX P w) P w K mg base N_law_right "_law_right" (defScope s_law_right) f (.ref cd_law_right) A outer s H E) rfl rfl rfl rfl
    exact (s_cons (s_set (i := 2) sc_law_right.nd rfl (by first | exact Or.inl rfl | exact Or.inr rfl) (e_rep (e_lst (a_cons e_str a_nil)) e_int))
 (s_cons (s_if (t_val (c_call c_law_are_edits tk hr (a_cons (e_var 1) (a_cons (e_var 0) a_nil))))
  (s_cons (s_unp (c_call c_law_done tk hr (a_cons (e_var 0) (a_cons (e_var 1) a_nil))) (g_tup rfl (gs_cons (g_name (i := 3) sc_law_right.nd rfl (by first | exact Or.inl rfl | exact Or.inr rfl)) (gs_cons (g_name (i := 4) sc_law_right.nd rfl (by first | exact Or.inl rfl | exact Or.inr rfl)) gs_nil))))
 (s_one (s_set (i := 2) sc_law_right.nd rfl (by first | exact Or.inl rfl | exact Or.inr rfl) (e_lst (a_cons (e_var 3) (a_cons (e_var 4) (a_cons (e_var 1) (a_cons (e_lst a_nil) a_nil))))))))
  s_nil)
 (s_cons (s_set (i := 5) sc_law_right.nd rfl (by first | exact Or.inl rfl | exact Or.inr rfl) (e_repr hgd (hu100 hr) T.b_repr (e_var 1)))
 (s_cons (s_set (i := 6) sc_law_right.nd rfl (by first | exact Or.inl rfl | exact Or.inr rfl) (e_lst (a_cons (c_callB c_law_told tk hr TB_law_right rfl (lamS_by (sc := defScope s_law_right) (by decide +kernel)) rfl (fun _ _ _ _ _ => rfl) (fun A outer s H E f d hr2 => (c_call c_done takes_lam hr2 (a_cons (e_var 0) (a_cons (e_var 1) a_nil))))) a_nil)))
 (s_cons (s_expr (e_app (e_var 6) (c_callB c_law_told tk hr TB_law_right rfl (lamS_by (sc := defScope s_law_right) (by decide +kernel)) rfl (fun _ _ _ _ _ => rfl) (fun A outer s H E f d hr2 => (c_call c_backs takes_lam hr2 (a_cons (e_var 0) (a_cons (e_var 1) a_nil)))))))
 (s_cons (s_expr (e_app (e_var 6) (c_callB c_law_told tk hr TB_law_right rfl (lamS_by (sc := defScope s_law_right) (by decide +kernel)) rfl (fun _ _ _ _ _ => rfl) (fun A outer s H E f d hr2 => (c_call c_moved takes_lam hr2 (a_cons (e_var 0) (a_cons (e_var 1) (a_cons (e_lst a_nil) a_nil))))))))
 (s_cons (s_expr (e_app (e_var 6) (c_callB c_law_told tk hr TB_law_right rfl (lamS_by (sc := defScope s_law_right) (by decide +kernel)) rfl (fun _ _ _ _ _ => rfl) (fun A outer s H E f d hr2 => (c_call c_moved takes_lam hr2 (a_cons (e_var 0) (a_cons (e_lst a_nil) (a_cons (e_var 1) a_nil))))))))
 (s_one (s_ret (e_andC (e_eq (hu64 hr) (e_repr hgd (hu100 hr) T.b_repr (e_var 6)) (e_repr hgd (hu100 hr) T.b_repr (e_var 2))) (e_one (e_eq (hu64 hr) (e_repr hgd (hu100 hr) T.b_repr (e_var 1)) (e_var 5))))))))))))))
    pure_law_right
theorem rec_law_spots {P : Program} {w : World} {K : PySem.W.Frag} {mg : Str → Option Value} {base : Heap} {C_TooGreat : Addr} {C_NoText : Addr} {C_NoEdit : Addr} {C_Clash : Addr} {C_MenderError : Addr} {C_NoAsk : Addr} {C_NoMend : Addr} {C_NotWhole : Addr} {C_NoName : Addr} {C_NoPlace : Addr} (T : Txt K mg C_TooGreat C_NoText C_NoEdit C_Clash C_MenderError C_NoAsk C_NoMend C_NotWhole C_NoName C_NoPlace) (D_law_spots : Dfd K mg "_law_spots" ["_law_thing"] s_law_spots) : ∀ n : Nat, Cal P w K mg base (1 + n) "_law_spots" ["_law_thing"] (S_law_spots n)
  | 0 => D_law_spots.cal0 zero_law_spots
  | n + 1 => by
    have r := rec_law_spots (P := P) (w := w) (base := base) T D_law_spots n
    exact ok_law_spots (k := 1 + n) (Nat.le_add_right _ _) T D_law_spots r len_law_spots (pure_law_spots n)
theorem rec_law_with {P : Program} {w : World} {K : PySem.W.Frag} {mg : Str → Option Value} {base : Heap} {C_TooGreat : Addr} {C_NoText : Addr} {C_NoEdit : Addr} {C_Clash : Addr} {C_MenderError : Addr} {C_NoAsk : Addr} {C_NoMend : Addr} {C_NotWhole : Addr} {C_NoName : Addr} {C_NoPlace : Addr} (T : Txt K mg C_TooGreat C_NoText C_NoEdit C_Clash C_MenderError C_NoAsk C_NoMend C_NotWhole C_NoName C_NoPlace) (D_law_with : Dfd K mg "_law_with" ["_law_thing", "_law_way", "_law_other"] s_law_with) : ∀ n : Nat, Cal P w K mg base (1 + n) "_law_with" ["_law_thing", "_law_way", "_law_other"] (S_law_with n)
  | 0 => D_law_with.cal0 zero_law_with
  | n + 1 => by
    have r := rec_law_with (P := P) (w := w) (base := base) T D_law_with n
    exact ok_law_with (k := 1 + n) (Nat.le_add_right _ _) T D_law_with r len_law_with (pure_law_with n)
theorem ok_law {P_law : Addr} {P_law_right : Addr} {cd_law : Addr} (TB_law : TabB base mg cd_law P_law) (T : Txt K mg C_TooGreat C_NoText C_NoEdit C_Clash C_MenderError C_NoAsk C_NoMend C_NotWhole C_NoName C_NoPlace) {fl : Addr} {fd : FuncData} (F : Fun K "law" "law" s_law fl fd) (hcF : fd.code = .ref cd_law) (c_law_told : CalB P w K mg base 20 "_law_told" "_law_work" (S_law_told C_NoText C_NoEdit)) (c_done : Cal P w K mg base 4 "done" ["text", "edits"] (S_done C_NoText C_TooGreat C_NoEdit)) (c_law_right : CalG P w K mg base 22 "_law_right" ["_law_text_here", "_law_thing"] (S_law_right P_law_right)) (c_law_next : CalO P w K mg base 1 "_law_next" ["_law_drawn", "_law_size"] S_law_next) (c_law_spoilt : CalO P w K mg base 5 "_law_spoilt" ["_law_drawn", "_law_thing"] S_law_spoilt) (c_law_edits : CalO P w K mg base 2 "_law_edits" ["_law_drawn", "_law_text_here"] S_law_edits) (c_law_text : CalO P w K mg base 2 "_law_text" ["_law_drawn"] S_law_text) (c_law_begun : Cal P w K mg base 1 "_law_begun" ["_law_cell", "_law_k"] S_law_begun) : FnG P w K mg base 23 fl fd ["_law_script"] (spO K (S_law P_law P_law_right)) :=
  fn_okG (k := 22) (wb := w_law C_TooGreat C_NoText C_NoEdit P_law P_law_right) F hcF sc_law len_law (fun A outer s H E hr hgd => by
    have tk := takes_of (X := cxOf (L2.CX P w) P w K mg base N_law "law" (defScope s_law) fl (.ref cd_law) A outer s H E) rfl rfl rfl rfl
    exact (s_cons (s_for (passes_of rfl) rfl (i_enum T.b_enumerate (e_sl (e_orL (e_var 0) (e_one (e_lst (a_cons e_int a_nil)))) o_none (o_some e_int))) (g_tup rfl (gs_cons (g_name (i := 1) sc_law.nd rfl (by first | exact Or.inl rfl | exact Or.inr rfl)) (gs_cons (g_name (i := 2) sc_law.nd rfl (by first | exact Or.inl rfl | exact Or.inr rfl)) gs_nil)))
  (s_cons (s_set (i := 3) sc_law.nd rfl (by first | exact Or.inl rfl | exact Or.inr rfl) (c_call c_law_begun tk hr (a_cons (e_var 2) (a_cons (e_var 1) a_nil))))
 (s_cons (s_set (i := 4) sc_law.nd rfl (by first | exact Or.inl rfl | exact Or.inr rfl) (c_callO c_law_text tk hr (a_cons (e_var 3) a_nil)))
 (s_cons (s_set (i := 5) sc_law.nd rfl (by first | exact Or.inl rfl | exact Or.inr rfl) (c_callO c_law_edits tk hr (a_cons (e_var 3) (a_cons (e_var 4) a_nil))))
 (s_cons (s_if (t_not (t_val (c_callG c_law_right tk hr hgd (a_cons (e_var 4) (a_cons (e_frzE (e_listOf T.b_list (e_var 5))) a_nil)))))
  (s_one (s_ret e_bl))
  s_nil)
 (s_one (s_for (passes_of rfl) rfl (i_rg1 T.b_range e_int) (g_name (i := 6) sc_law.nd rfl (by first | exact Or.inl rfl | exact Or.inr rfl))
  (s_cons (s_unp (c_callO c_law_spoilt tk hr (a_cons (e_var 3) (a_cons (e_var 5) a_nil))) (g_name (i := 7) sc_law.nd rfl (by first | exact Or.inl rfl | exact Or.inr rfl)))
 (s_cons (s_if (t_pw (t_andC (t_val (e_isi T.b_isinstance T.b_tuple (by decide +kernel) (e_var 7))) (t_and1 (t_gt (c_callO c_law_next tk hr (a_cons (e_var 3) (a_cons e_int a_nil))) e_int))))
  (s_one (s_unp (e_listOf T.b_list (e_var 7)) (g_name (i := 7) sc_law.nd rfl (by first | exact Or.inl rfl | exact Or.inr rfl))))
  s_nil)
 (s_cons (s_if (t_not (t_val (c_callG c_law_right tk hr hgd (a_cons (e_var 4) (a_cons (e_var 7) a_nil)))))
  (s_one (s_ret e_bl))
  s_nil)
 (s_cons (s_set (i := 8) sc_law.nd rfl (by first | exact Or.inl rfl | exact Or.inr rfl) (e_ix (e_lst (a_cons e_non (a_cons (e_add (e_var 4) e_str) (a_cons e_int (a_cons (e_lst (a_cons (e_var 4) a_nil)) a_nil))))) (e_var 6)))
 (s_one (s_if (t_ne (hu64 hr) (c_callB c_law_told tk hr TB_law rfl (lamS_by (sc := defScope s_law) (by decide +kernel)) rfl (fun _ _ _ _ _ => rfl) (fun A outer s H E f d hr2 => (c_call c_done takes_lam hr2 (a_cons (e_var 8) (a_cons (e_var 7) a_nil))))) e_str)
  (s_one (s_ret e_bl))
  s_nil)))))))))))))
 (s_one (s_ret e_bl))))
    pure_law
end
theorem hfacts {l : PySem.W.OpenLaw} {w : World} {K0 : PySem.W.Frag} {h : Heap} {mg : Str → Option Value} {fa : Addr} (X0 : K0.In h) (G : h.Ns mainGlobals mg) (hfa : mg "law" = some (.ref fa)) (e : FF K0 = FV w) :
    ∃ (K : PySem.W.Frag) (cd_law cd_law_right : Addr), K.In h ∧ (∀ p ∈ [(cd_law, P_law), (cd_law_right, P_law_right)], h.get? p.2 = some { cls := .none, data := .fields #[] } ∧ K.lookup p.2 = none ∧ PySem.W.CodeHd h p.1 p.2) ∧ ∃ fd : FuncData, (∀ (s : Shared) (u : Value), BindsTo s fd ⟨[u], []⟩ [("_law_script", u)]) ∧ ∀ base : Heap, K.In base → base.Ns mainGlobals mg → (∀ p ∈ [(cd_law, P_law), (cd_law_right, P_law_right)], TabB base mg p.1 p.2) → FnG l.prog w K mg base 23 fa fd ["_law_script"] (spO K (S_law P_law P_law_right)) := by
  have e1 : fos (cK K0) = fosV := congrArg (fun z => z.1) e
  have e2 : tups (cK K0) = tupsV := congrArg (fun z => z.2.1) e
  have e3 : flg (cK K0) = flgV := congrArg (fun z => z.2.2.1) e
  have e4 : tbs K0 = tbsV := congrArg (fun z => z.2.2.2) e
  clear e
  unfold tbs tbsV at e4
  have X : (cK K0).In h := cutK_in X0
  have ho_law : (cK K0).lookup P_law = none := cutK_out (by simp)
  have ho_law_right : (cK K0).lookup P_law_right = none := cutK_out (by simp)
  generalize hK : cK K0 = K at e1 e2 e3 e4 X ho_law ho_law_right
  clear hK
  unfold fos fosV at e1
  unfold tups tupsV at e2
  unfold flg flgV at e3
  obtain ⟨pp, e3⟩ := List.cons.inj e3
  obtain ⟨C_TooGreat, na_TooGreat⟩ := cls_ok pp
  obtain ⟨pp, e3⟩ := List.cons.inj e3
  obtain ⟨C_NoText, na_NoText⟩ := cls_ok pp
  obtain ⟨pp, e3⟩ := List.cons.inj e3
  obtain ⟨C_MenderError, na_MenderError⟩ := cls_ok pp
  obtain ⟨pp, e3⟩ := List.cons.inj e3
  obtain ⟨C_NoEdit, na_NoEdit⟩ := cls_ok pp
  obtain ⟨pp, e3⟩ := List.cons.inj e3
  obtain ⟨C_Clash, na_Clash⟩ := cls_ok pp
  obtain ⟨pp, e3⟩ := List.cons.inj e3
  obtain ⟨C_NoAsk, na_NoAsk⟩ := cls_ok pp
  obtain ⟨pp, e3⟩ := List.cons.inj e3
  obtain ⟨C_NoMend, na_NoMend⟩ := cls_ok pp
  obtain ⟨pp, e3⟩ := List.cons.inj e3
  obtain ⟨C_NotWhole, na_NotWhole⟩ := cls_ok pp
  obtain ⟨pp, e3⟩ := List.cons.inj e3
  obtain ⟨C_NoName, na_NoName⟩ := cls_ok pp
  obtain ⟨pp, e3⟩ := List.cons.inj e3
  obtain ⟨C_NoPlace, na_NoPlace⟩ := cls_ok pp
  obtain ⟨pp, e3⟩ := List.cons.inj e3
  obtain ⟨xq_TooGreat, xk_TooGreat, xb_TooGreat, xt_TooGreat⟩ := exc_ok na_TooGreat pp
  obtain ⟨pp, e3⟩ := List.cons.inj e3
  obtain ⟨ea_TooGreat, eb_TooGreat, ed_TooGreat, ee_TooGreat, eh_TooGreat, ei_TooGreat⟩ := ex_ok na_TooGreat pp
  obtain ⟨pp, e3⟩ := List.cons.inj e3
  obtain ⟨db_TooGreat, dt_TooGreat, dd_TooGreat, ds_TooGreat⟩ := db_ok na_TooGreat pp
  obtain ⟨pp, e3⟩ := List.cons.inj e3
  obtain ⟨xq_NoText, xk_NoText, xb_NoText, xt_NoText⟩ := exc_ok na_NoText pp
  obtain ⟨pp, e3⟩ := List.cons.inj e3
  obtain ⟨ea_NoText, eb_NoText, ed_NoText, ee_NoText, eh_NoText, ei_NoText⟩ := ex_ok na_NoText pp
  obtain ⟨pp, e3⟩ := List.cons.inj e3
  obtain ⟨db_NoText, dt_NoText, dd_NoText, ds_NoText⟩ := db_ok na_NoText pp
  obtain ⟨pp, e3⟩ := List.cons.inj e3
  obtain ⟨db_MenderError, dt_MenderError, dd_MenderError, ds_MenderError⟩ := db_ok na_MenderError pp
  obtain ⟨pp, e3⟩ := List.cons.inj e3
  obtain ⟨xq_NoEdit, xk_NoEdit, xb_NoEdit, xt_NoEdit⟩ := exc_ok na_NoEdit pp
  obtain ⟨pp, e3⟩ := List.cons.inj e3
  obtain ⟨ea_NoEdit, eb_NoEdit, ed_NoEdit, ee_NoEdit, eh_NoEdit, ei_NoEdit⟩ := ex_ok na_NoEdit pp
  obtain ⟨pp, e3⟩ := List.cons.inj e3
  obtain ⟨db_NoEdit, dt_NoEdit, dd_NoEdit, ds_NoEdit⟩ := db_ok na_NoEdit pp
  obtain ⟨pp, e3⟩ := List.cons.inj e3
  obtain ⟨ea_Clash, eb_Clash, ed_Clash, ee_Clash, eh_Clash, ei_Clash⟩ := ex_ok na_Clash pp
  obtain ⟨pp, e3⟩ := List.cons.inj e3
  obtain ⟨db_Clash, dt_Clash, dd_Clash, ds_Clash⟩ := db_ok na_Clash pp
  obtain ⟨pp, e3⟩ := List.cons.inj e3
  obtain ⟨db_NoAsk, dt_NoAsk, dd_NoAsk, ds_NoAsk⟩ := db_ok na_NoAsk pp
  obtain ⟨pp, e3⟩ := List.cons.inj e3
  obtain ⟨db_NoMend, dt_NoMend, dd_NoMend, ds_NoMend⟩ := db_ok na_NoMend pp
  obtain ⟨pp, e3⟩ := List.cons.inj e3
  obtain ⟨db_NotWhole, dt_NotWhole, dd_NotWhole, ds_NotWhole⟩ := db_ok na_NotWhole pp
  obtain ⟨pp, e3⟩ := List.cons.inj e3
  obtain ⟨db_NoName, dt_NoName, dd_NoName, ds_NoName⟩ := db_ok na_NoName pp
  obtain ⟨pp, e3⟩ := List.cons.inj e3
  obtain ⟨db_NoPlace, dt_NoPlace, dd_NoPlace, ds_NoPlace⟩ := db_ok na_NoPlace pp
  obtain ⟨pp, e3⟩ := List.cons.inj e3
  obtain ⟨yr_MenderError, ys_MenderError, yv_MenderError⟩ := yb_ok na_MenderError pp
  obtain ⟨pp, e3⟩ := List.cons.inj e3
  obtain ⟨onm_Clash, oqn_Clash, oN_Clash, obs_Clash, obm_Clash, osn_Clash, osub_Clash, oab_Clash, ocol_Clash, odd_Clash, ok0_Clash, ok1_Clash, ok2_Clash, ok3_Clash, ok5_Clash, oc_Clash, ov_Clash⟩ := xc_ok na_Clash pp
  obtain ⟨pp, e3⟩ := List.cons.inj e3
  obtain ⟨os_Clash, ob_Clash, ot_Clash, okp_Clash⟩ := xs_ok na_Clash pp
  obtain ⟨pp, e3⟩ := List.cons.inj e3
  obtain ⟨e_sp, e_tk⟩ := sp_ok' pp
  obtain ⟨pp, e3⟩ := List.cons.inj e3
  have z_len := isNo_ok pp
  obtain ⟨pp, e3⟩ := List.cons.inj e3
  obtain ⟨t_MOST_SIGNS_signs, g_MOST_SIGNS_signs⟩ := int_ok pp
  obtain ⟨pp, e3⟩ := List.cons.inj e3
  obtain ⟨t_LETTERS, g_LETTERS⟩ := str_ok' pp
  obtain ⟨pp, e3⟩ := List.cons.inj e3
  obtain ⟨t_FIGURES, g_FIGURES⟩ := str_ok' pp
  obtain ⟨pp, e3⟩ := List.cons.inj e3
  obtain ⟨t_GREAT, g_GREAT⟩ := str_ok' pp
  obtain ⟨pp, e3⟩ := List.cons.inj e3
  obtain ⟨t_MARKS, g_MARKS⟩ := str_ok' pp
  obtain ⟨pp, e3⟩ := List.cons.inj e3
  have z_isinstance := isNo_ok pp
  obtain ⟨pp, e3⟩ := List.cons.inj e3
  have z_str := isNo_ok pp
  obtain ⟨pp, e3⟩ := List.cons.inj e3
  have z_int := isNo_ok pp
  obtain ⟨pp, e3⟩ := List.cons.inj e3
  have z_bool := isNo_ok pp
  obtain ⟨pp, e3⟩ := List.cons.inj e3
  have z_tuple := isNo_ok pp
  obtain ⟨pp, e3⟩ := List.cons.inj e3
  have z_list := isNo_ok pp
  obtain ⟨pp, e3⟩ := List.cons.inj e3
  obtain ⟨t_MOST_SIGNS_edits, g_MOST_SIGNS_edits⟩ := int_ok pp
  obtain ⟨pp, e3⟩ := List.cons.inj e3
  have on1_Clash := on_ok na_Clash pp
  obtain ⟨pp, e3⟩ := List.cons.inj e3
  have on2_Clash := on_ok na_Clash pp
  obtain ⟨pp, e3⟩ := List.cons.inj e3
  have z_sum := isNo_ok pp
  obtain ⟨pp, e3⟩ := List.cons.inj e3
  have z_enumerate := isNo_ok pp
  obtain ⟨pp, e3⟩ := List.cons.inj e3
  have z_max := isNo_ok pp
  obtain ⟨pp, e3⟩ := List.cons.inj e3
  have z_ValueError := isNo_ok pp
  obtain ⟨pp, e3⟩ := List.cons.inj e3
  have z_range := isNo_ok pp
  obtain ⟨pp, e3⟩ := List.cons.inj e3
  have z_repr := isNo_ok pp
  obtain ⟨pp, e3⟩ := List.cons.inj e3
  have m_TooGreat_MenderError := m_ok na_TooGreat na_MenderError pp
  obtain ⟨pp, e3⟩ := List.cons.inj e3
  have m_TooGreat_NoAsk := m_ok na_TooGreat na_NoAsk pp
  obtain ⟨pp, e3⟩ := List.cons.inj e3
  have m_TooGreat_NoMend := m_ok na_TooGreat na_NoMend pp
  obtain ⟨pp, e3⟩ := List.cons.inj e3
  have m_TooGreat_NotWhole := m_ok na_TooGreat na_NotWhole pp
  obtain ⟨pp, e3⟩ := List.cons.inj e3
  have m_TooGreat_NoName := m_ok na_TooGreat na_NoName pp
  obtain ⟨pp, e3⟩ := List.cons.inj e3
  have m_TooGreat_NoPlace := m_ok na_TooGreat na_NoPlace pp
  obtain ⟨pp, e3⟩ := List.cons.inj e3
  have m_TooGreat_Clash := m_ok na_TooGreat na_Clash pp
  obtain ⟨pp, e3⟩ := List.cons.inj e3
  have m_TooGreat_NoEdit := m_ok na_TooGreat na_NoEdit pp
  obtain ⟨pp, e3⟩ := List.cons.inj e3
  have m_TooGreat_TooGreat := m_ok na_TooGreat na_TooGreat pp
  obtain ⟨pp, e3⟩ := List.cons.inj e3
  have m_TooGreat_NoText := m_ok na_TooGreat na_NoText pp
  obtain ⟨pp, e3⟩ := List.cons.inj e3
  have m_NoText_MenderError := m_ok na_NoText na_MenderError pp
  obtain ⟨pp, e3⟩ := List.cons.inj e3
  have m_NoText_NoAsk := m_ok na_NoText na_NoAsk pp
  obtain ⟨pp, e3⟩ := List.cons.inj e3
  have m_NoText_NoMend := m_ok na_NoText na_NoMend pp
  obtain ⟨pp, e3⟩ := List.cons.inj e3
  have m_NoText_NotWhole := m_ok na_NoText na_NotWhole pp
  obtain ⟨pp, e3⟩ := List.cons.inj e3
  have m_NoText_NoName := m_ok na_NoText na_NoName pp
  obtain ⟨pp, e3⟩ := List.cons.inj e3
  have m_NoText_NoPlace := m_ok na_NoText na_NoPlace pp
  obtain ⟨pp, e3⟩ := List.cons.inj e3
  have m_NoText_Clash := m_ok na_NoText na_Clash pp
  obtain ⟨pp, e3⟩ := List.cons.inj e3
  have m_NoText_NoEdit := m_ok na_NoText na_NoEdit pp
  obtain ⟨pp, e3⟩ := List.cons.inj e3
  have m_NoText_TooGreat := m_ok na_NoText na_TooGreat pp
  obtain ⟨pp, e3⟩ := List.cons.inj e3
  have m_NoText_NoText := m_ok na_NoText na_NoText pp
  obtain ⟨pp, e3⟩ := List.cons.inj e3
  have m_NoEdit_MenderError := m_ok na_NoEdit na_MenderError pp
  obtain ⟨pp, e3⟩ := List.cons.inj e3
  have m_NoEdit_NoAsk := m_ok na_NoEdit na_NoAsk pp
  obtain ⟨pp, e3⟩ := List.cons.inj e3
  have m_NoEdit_NoMend := m_ok na_NoEdit na_NoMend pp
  obtain ⟨pp, e3⟩ := List.cons.inj e3
  have m_NoEdit_NotWhole := m_ok na_NoEdit na_NotWhole pp
  obtain ⟨pp, e3⟩ := List.cons.inj e3
  have m_NoEdit_NoName := m_ok na_NoEdit na_NoName pp
  obtain ⟨pp, e3⟩ := List.cons.inj e3
  have m_NoEdit_NoPlace := m_ok na_NoEdit na_NoPlace pp
  obtain ⟨pp, e3⟩ := List.cons.inj e3
  have m_NoEdit_Clash := m_ok na_NoEdit na_Clash pp
  obtain ⟨pp, e3⟩ := List.cons.inj e3
  have m_NoEdit_NoEdit := m_ok na_NoEdit na_NoEdit pp
  obtain ⟨pp, e3⟩ := List.cons.inj e3
  have m_NoEdit_TooGreat := m_ok na_NoEdit na_TooGreat pp
  obtain ⟨pp, e3⟩ := List.cons.inj e3
  have m_NoEdit_NoText := m_ok na_NoEdit na_NoText pp
  obtain ⟨pp, e3⟩ := List.cons.inj e3
  have m_Clash_MenderError := m_ok na_Clash na_MenderError pp
  obtain ⟨pp, e3⟩ := List.cons.inj e3
  have m_Clash_NoAsk := m_ok na_Clash na_NoAsk pp
  obtain ⟨pp, e3⟩ := List.cons.inj e3
  have m_Clash_NoMend := m_ok na_Clash na_NoMend pp
  obtain ⟨pp, e3⟩ := List.cons.inj e3
  have m_Clash_NotWhole := m_ok na_Clash na_NotWhole pp
  obtain ⟨pp, e3⟩ := List.cons.inj e3
  have m_Clash_NoName := m_ok na_Clash na_NoName pp
  obtain ⟨pp, e3⟩ := List.cons.inj e3
  have m_Clash_NoPlace := m_ok na_Clash na_NoPlace pp
  obtain ⟨pp, e3⟩ := List.cons.inj e3
  have m_Clash_Clash := m_ok na_Clash na_Clash pp
  obtain ⟨pp, e3⟩ := List.cons.inj e3
  have m_Clash_NoEdit := m_ok na_Clash na_NoEdit pp
  obtain ⟨pp, e3⟩ := List.cons.inj e3
  have m_Clash_TooGreat := m_ok na_Clash na_TooGreat pp
  obtain ⟨pp, e3⟩ := List.cons.inj e3
  have m_Clash_NoText := m_ok na_Clash na_NoText pp
  obtain ⟨pp, e3⟩ := List.cons.inj e3
  have m_TooGreat_ValueError := mt_ok na_TooGreat pp
  obtain ⟨pp, e3⟩ := List.cons.inj e3
  have m_NoText_ValueError := mt_ok na_NoText pp
  obtain ⟨pp, e3⟩ := List.cons.inj e3
  have m_NoEdit_ValueError := mt_ok na_NoEdit pp
  obtain ⟨pp, e3⟩ := List.cons.inj e3
  have m_Clash_ValueError := mt_ok na_Clash pp
  obtain ⟨pp, e1⟩ := List.cons.inj e1
  obtain ⟨f1, a1, z⟩ := fo_ok pp
  obtain ⟨oc1, od1, an1, sl1, kV1, dc1, pm1, cd1, ct1, l1, c1, k1⟩ := foAt_none z
  obtain ⟨pp, e1⟩ := List.cons.inj e1
  obtain ⟨f2, a2, z⟩ := fo_ok pp
  obtain ⟨oc2, od2, an2, sl2, kV2, dc2, pm2, cd2, ct2, l2, c2, k2⟩ := foAt_none z
  obtain ⟨pp, e1⟩ := List.cons.inj e1
  obtain ⟨f3, a3, z⟩ := fo_ok pp
  obtain ⟨oc3, od3, an3, sl3, kV3, dc3, pm3, cd3, ct3, l3, c3, k3⟩ := foAt_none z
  obtain ⟨pp, e1⟩ := List.cons.inj e1
  obtain ⟨f4, a4, z⟩ := fo_ok pp
  obtain ⟨oc4, od4, an4, sl4, kV4, dc4, pm4, cd4, ct4, l4, c4, k4⟩ := foAt_none z
  obtain ⟨pp, e1⟩ := List.cons.inj e1
  obtain ⟨f5, a5, z⟩ := fo_ok pp
  obtain ⟨oc5, od5, an5, sl5, kV5, dc5, pm5, cd5, ct5, l5, c5, k5⟩ := foAt_none z
  obtain ⟨pp, e1⟩ := List.cons.inj e1
  obtain ⟨f6, a6, z⟩ := fo_ok pp
  obtain ⟨oc6, od6, an6, sl6, kV6, dc6, pm6, cd6, ct6, l6, c6, k6⟩ := foAt_none z
  obtain ⟨pp, e1⟩ := List.cons.inj e1
  obtain ⟨f7, a7, z⟩ := fo_ok pp
  obtain ⟨oc7, od7, an7, sl7, kV7, dc7, pm7, cd7, ct7, l7, c7, k7⟩ := foAt_none z
  obtain ⟨pp, e1⟩ := List.cons.inj e1
  obtain ⟨f8, a8, z⟩ := fo_ok pp
  obtain ⟨oc8, od8, an8, sl8, kV8, dc8, pm8, cd8, ct8, l8, c8, k8⟩ := foAt_none z
  obtain ⟨pp, e1⟩ := List.cons.inj e1
  obtain ⟨f9, a9, z⟩ := fo_ok pp
  obtain ⟨oc9, od9, an9, sl9, kV9, dc9, pm9, cd9, ct9, l9, c9, k9⟩ := foAt_none z
  obtain ⟨pp, e1⟩ := List.cons.inj e1
  obtain ⟨f10, a10, z⟩ := fo_ok pp
  obtain ⟨oc10, od10, an10, sl10, kV10, dc10, pm10, cd10, ct10, l10, c10, k10⟩ := foAt_none z
  obtain ⟨pp, e1⟩ := List.cons.inj e1
  obtain ⟨f11, a11, z⟩ := fo_ok pp
  obtain ⟨oc11, od11, an11, sl11, kV11, dc11, pm11, cd11, ct11, l11, c11, k11⟩ := foAt_none z
  obtain ⟨pp, e1⟩ := List.cons.inj e1
  obtain ⟨f12, a12, z⟩ := fo_ok pp
  obtain ⟨oc12, od12, an12, sl12, kV12, dc12, pm12, cd12, ct12, l12, c12, k12⟩ := foAt_none z
  obtain ⟨pp, e1⟩ := List.cons.inj e1
  obtain ⟨f13, a13, z⟩ := fo_ok pp
  obtain ⟨oc13, od13, an13, sl13, kV13, dc13, pm13, cd13, ct13, l13, c13, k13⟩ := foAt_none z
  obtain ⟨pp, e1⟩ := List.cons.inj e1
  obtain ⟨f14, a14, z⟩ := fo_ok pp
  obtain ⟨oc14, od14, an14, sl14, kV14, dc14, pm14, cd14, ct14, l14, c14, k14⟩ := foAt_none z
  obtain ⟨pp, e1⟩ := List.cons.inj e1
  obtain ⟨f15, a15, z⟩ := fo_ok pp
  obtain ⟨oc15, od15, an15, sl15, kV15, dc15, pm15, cd15, ct15, l15, c15, k15⟩ := foAt_none z
  obtain ⟨pp, e1⟩ := List.cons.inj e1
  obtain ⟨f16, a16, z⟩ := fo_ok pp
  obtain ⟨oc16, od16, an16, sl16, kV16, dc16, pm16, cd16, ct16, l16, c16, k16⟩ := foAt_none z
  obtain ⟨pp, e1⟩ := List.cons.inj e1
  obtain ⟨f17, a17, z⟩ := fo_ok pp
  obtain ⟨oc17, od17, an17, sl17, kV17, dc17, pm17, cd17, ct17, l17, c17, k17⟩ := foAt_none z
  obtain ⟨pp, e1⟩ := List.cons.inj e1
  obtain ⟨f18, a18, z⟩ := fo_ok pp
  obtain ⟨oc18, od18, an18, sl18, kV18, dc18, pm18, cd18, ct18, l18, c18, k18⟩ := foAt_none z
  obtain ⟨pp, e1⟩ := List.cons.inj e1
  obtain ⟨f19, a19, z⟩ := fo_ok pp
  obtain ⟨oc19, od19, an19, sl19, kV19, dc19, pm19, cd19, ct19, l19, c19, k19⟩ := foAt_none z
  obtain ⟨pp, e1⟩ := List.cons.inj e1
  obtain ⟨f20, a20, z⟩ := fo_ok pp
  obtain ⟨oc20, od20, an20, sl20, kV20, dc20, pm20, cd20, ct20, l20, c20, k20⟩ := foAt_none z
  obtain ⟨pp, e1⟩ := List.cons.inj e1
  obtain ⟨f21, a21, z⟩ := fo_ok pp
  obtain ⟨oc21, od21, an21, sl21, kV21, dc21, pm21, cd21, ct21, l21, c21, k21⟩ := foAt_none z
  obtain ⟨pp, e1⟩ := List.cons.inj e1
  obtain ⟨f22, a22, z⟩ := fo_ok pp
  obtain ⟨oc22, od22, an22, sl22, kV22, dc22, pm22, cd22, ct22, l22, c22, k22⟩ := foAt_none z
  obtain ⟨pp, e1⟩ := List.cons.inj e1
  obtain ⟨f23, a23, z⟩ := fo_ok pp
  obtain ⟨oc23, od23, an23, sl23, kV23, dc23, pm23, cd23, ct23, l23, c23, k23⟩ := foAt_none z
  obtain ⟨pp, e1⟩ := List.cons.inj e1
  obtain ⟨f24, a24, z⟩ := fo_ok pp
  obtain ⟨oc24, od24, an24, sl24, kV24, dc24, pm24, cd24, ct24, l24, c24, k24⟩ := foAt_none z
  obtain ⟨pp, e1⟩ := List.cons.inj e1
  obtain ⟨f25, a25, z⟩ := fo_ok pp
  obtain ⟨oc25, od25, an25, sl25, kV25, dc25, pm25, cd25, ct25, l25, c25, k25⟩ := foAt_none z
  obtain ⟨pp, e1⟩ := List.cons.inj e1
  obtain ⟨fI_Clash, fi_Clash, miI_Clash, z⟩ := fom_ok na_Clash pp
  have ti_Clash := beq_iff_eq.mp miI_Clash
  obtain ⟨ocI_Clash, odI_Clash, anI_Clash, slI_Clash, kVI_Clash, dcI_Clash, pmI_Clash, cdI_Clash, ctI_Clash, lI_Clash, cI_Clash, kI_Clash⟩ := foAt_none z
  have xa_TooGreat := na_TooGreat
  have xa_NoText := na_NoText
  have xa_NoEdit := na_NoEdit
  obtain ⟨pp, e4⟩ := List.cons.inj e4
  obtain ⟨cd_law, lc25, hcd_law, htab_law⟩ := fT_ok pp a25 l25
  obtain ⟨pp, e4⟩ := List.cons.inj e4
  obtain ⟨cd_law_right, lc24, hcd_law_right, htab_law_right⟩ := fT_ok pp a24 l24
  refine ⟨K, cd_law, cd_law_right, X, ?_, ?_⟩
  · intro p hp
    simp only [List.mem_cons, List.not_mem_nil, or_false] at hp
    rcases hp with rfl | rfl
    · exact ⟨htab_law _ X0, ho_law, hcd_law _ X⟩
    · exact ⟨htab_law_right _ X0, ho_law_right, hcd_law_right _ X⟩
  have e := hfa.symm.trans (PySem.W.mg_of X G a25)
  cases e
  have T : Txt K mg C_TooGreat C_NoText C_NoEdit C_Clash C_MenderError C_NoAsk C_NoMend C_NotWhole C_NoName C_NoPlace := ⟨PySem.W.mg_none_of X G z_len, ⟨_, PySem.W.mg_of X G g_MOST_SIGNS_signs⟩, ⟨PySem.W.mg_of X G xa_TooGreat, xq_TooGreat, xk_TooGreat, xb_TooGreat, xt_TooGreat⟩, ⟨_, PySem.W.mg_of X G g_LETTERS⟩, ⟨_, PySem.W.mg_of X G g_FIGURES⟩, ⟨_, PySem.W.mg_of X G g_GREAT⟩, ⟨_, PySem.W.mg_of X G g_MARKS⟩, ⟨PySem.W.mg_of X G xa_NoText, xq_NoText, xk_NoText, xb_NoText, xt_NoText⟩, PySem.W.mg_none_of X G z_isinstance, PySem.W.mg_none_of X G z_str, PySem.W.mg_none_of X G z_int, PySem.W.mg_none_of X G z_bool, PySem.W.mg_of X G na_MenderError, ⟨PySem.W.mg_of X G xa_NoEdit, xq_NoEdit, xk_NoEdit, xb_NoEdit, xt_NoEdit⟩, PySem.W.mg_none_of X G z_tuple, PySem.W.mg_none_of X G z_list, ⟨_, PySem.W.mg_of X G g_MOST_SIGNS_edits⟩, ⟨fI_Clash, _, fun_mk (st := i_Clash) lI_Clash cI_Clash kI_Clash, ⟨⟨_, _, _, _, _, _, _, _, _, _, _, _, _, _, _, oc_Clash, ov_Clash⟩, os_Clash, ob_Clash, ot_Clash, okp_Clash⟩, on1_Clash, on2_Clash, fi_Clash, ti_Clash, (fun_mk (st := i_Clash) lI_Clash cI_Clash kI_Clash).binds (fun _ _ _ _ _ _ us hl => match us, hl with | [_, _, _], _ => rfl), PySem.W.mg_of X G na_Clash⟩, ⟨PySem.W.mg_of X G na_MenderError, yr_MenderError, ys_MenderError, yv_MenderError⟩, PySem.W.mg_none_of X G z_sum, PySem.W.mg_none_of X G z_enumerate, PySem.W.mg_none_of X G z_max, PySem.W.mg_none_of X G z_ValueError, PySem.W.mg_of X G na_NoAsk, PySem.W.mg_of X G na_NoMend, PySem.W.mg_of X G na_NotWhole, PySem.W.mg_of X G na_NoName, PySem.W.mg_of X G na_NoPlace, PySem.W.mg_of X G na_Clash, PySem.W.mg_of X G na_NoEdit, PySem.W.mg_of X G na_TooGreat, PySem.W.mg_of X G na_NoText, PySem.W.mg_none_of X G z_range, PySem.W.mg_none_of X G z_repr, ⟨mx_ref ⟨ea_TooGreat, eb_TooGreat, ei_TooGreat, ed_TooGreat, ee_TooGreat, e_sp, e_tk, eh_TooGreat⟩ ⟨db_MenderError, dt_MenderError, dd_MenderError, ds_MenderError⟩ m_TooGreat_MenderError, mx_ref ⟨ea_TooGreat, eb_TooGreat, ei_TooGreat, ed_TooGreat, ee_TooGreat, e_sp, e_tk, eh_TooGreat⟩ ⟨db_NoAsk, dt_NoAsk, dd_NoAsk, ds_NoAsk⟩ m_TooGreat_NoAsk, mx_ref ⟨ea_TooGreat, eb_TooGreat, ei_TooGreat, ed_TooGreat, ee_TooGreat, e_sp, e_tk, eh_TooGreat⟩ ⟨db_NoMend, dt_NoMend, dd_NoMend, ds_NoMend⟩ m_TooGreat_NoMend, mx_ref ⟨ea_TooGreat, eb_TooGreat, ei_TooGreat, ed_TooGreat, ee_TooGreat, e_sp, e_tk, eh_TooGreat⟩ ⟨db_NotWhole, dt_NotWhole, dd_NotWhole, ds_NotWhole⟩ m_TooGreat_NotWhole, mx_ref ⟨ea_TooGreat, eb_TooGreat, ei_TooGreat, ed_TooGreat, ee_TooGreat, e_sp, e_tk, eh_TooGreat⟩ ⟨db_NoName, dt_NoName, dd_NoName, ds_NoName⟩ m_TooGreat_NoName, mx_ref ⟨ea_TooGreat, eb_TooGreat, ei_TooGreat, ed_TooGreat, ee_TooGreat, e_sp, e_tk, eh_TooGreat⟩ ⟨db_NoPlace, dt_NoPlace, dd_NoPlace, ds_NoPlace⟩ m_TooGreat_NoPlace, mx_ref ⟨ea_TooGreat, eb_TooGreat, ei_TooGreat, ed_TooGreat, ee_TooGreat, e_sp, e_tk, eh_TooGreat⟩ ⟨db_Clash, dt_Clash, dd_Clash, ds_Clash⟩ m_TooGreat_Clash, mx_ref ⟨ea_TooGreat, eb_TooGreat, ei_TooGreat, ed_TooGreat, ee_TooGreat, e_sp, e_tk, eh_TooGreat⟩ ⟨db_NoEdit, dt_NoEdit, dd_NoEdit, ds_NoEdit⟩ m_TooGreat_NoEdit, mx_ref ⟨ea_TooGreat, eb_TooGreat, ei_TooGreat, ed_TooGreat, ee_TooGreat, e_sp, e_tk, eh_TooGreat⟩ ⟨db_TooGreat, dt_TooGreat, dd_TooGreat, ds_TooGreat⟩ m_TooGreat_TooGreat, mx_ref ⟨ea_TooGreat, eb_TooGreat, ei_TooGreat, ed_TooGreat, ee_TooGreat, e_sp, e_tk, eh_TooGreat⟩ ⟨db_NoText, dt_NoText, dd_NoText, ds_NoText⟩ m_TooGreat_NoText, mx_ref ⟨ea_NoText, eb_NoText, ei_NoText, ed_NoText, ee_NoText, e_sp, e_tk, eh_NoText⟩ ⟨db_MenderError, dt_MenderError, dd_MenderError, ds_MenderError⟩ m_NoText_MenderError, mx_ref ⟨ea_NoText, eb_NoText, ei_NoText, ed_NoText, ee_NoText, e_sp, e_tk, eh_NoText⟩ ⟨db_NoAsk, dt_NoAsk, dd_NoAsk, ds_NoAsk⟩ m_NoText_NoAsk, mx_ref ⟨ea_NoText, eb_NoText, ei_NoText, ed_NoText, ee_NoText, e_sp, e_tk, eh_NoText⟩ ⟨db_NoMend, dt_NoMend, dd_NoMend, ds_NoMend⟩ m_NoText_NoMend, mx_ref ⟨ea_NoText, eb_NoText, ei_NoText, ed_NoText, ee_NoText, e_sp, e_tk, eh_NoText⟩ ⟨db_NotWhole, dt_NotWhole, dd_NotWhole, ds_NotWhole⟩ m_NoText_NotWhole, mx_ref ⟨ea_NoText, eb_NoText, ei_NoText, ed_NoText, ee_NoText, e_sp, e_tk, eh_NoText⟩ ⟨db_NoName, dt_NoName, dd_NoName, ds_NoName⟩ m_NoText_NoName, mx_ref ⟨ea_NoText, eb_NoText, ei_NoText, ed_NoText, ee_NoText, e_sp, e_tk, eh_NoText⟩ ⟨db_NoPlace, dt_NoPlace, dd_NoPlace, ds_NoPlace⟩ m_NoText_NoPlace, mx_ref ⟨ea_NoText, eb_NoText, ei_NoText, ed_NoText, ee_NoText, e_sp, e_tk, eh_NoText⟩ ⟨db_Clash, dt_Clash, dd_Clash, ds_Clash⟩ m_NoText_Clash, mx_ref ⟨ea_NoText, eb_NoText, ei_NoText, ed_NoText, ee_NoText, e_sp, e_tk, eh_NoText⟩ ⟨db_NoEdit, dt_NoEdit, dd_NoEdit, ds_NoEdit⟩ m_NoText_NoEdit, mx_ref ⟨ea_NoText, eb_NoText, ei_NoText, ed_NoText, ee_NoText, e_sp, e_tk, eh_NoText⟩ ⟨db_TooGreat, dt_TooGreat, dd_TooGreat, ds_TooGreat⟩ m_NoText_TooGreat, mx_ref ⟨ea_NoText, eb_NoText, ei_NoText, ed_NoText, ee_NoText, e_sp, e_tk, eh_NoText⟩ ⟨db_NoText, dt_NoText, dd_NoText, ds_NoText⟩ m_NoText_NoText, mx_ref ⟨ea_NoEdit, eb_NoEdit, ei_NoEdit, ed_NoEdit, ee_NoEdit, e_sp, e_tk, eh_NoEdit⟩ ⟨db_MenderError, dt_MenderError, dd_MenderError, ds_MenderError⟩ m_NoEdit_MenderError, mx_ref ⟨ea_NoEdit, eb_NoEdit, ei_NoEdit, ed_NoEdit, ee_NoEdit, e_sp, e_tk, eh_NoEdit⟩ ⟨db_NoAsk, dt_NoAsk, dd_NoAsk, ds_NoAsk⟩ m_NoEdit_NoAsk, mx_ref ⟨ea_NoEdit, eb_NoEdit, ei_NoEdit, ed_NoEdit, ee_NoEdit, e_sp, e_tk, eh_NoEdit⟩ ⟨db_NoMend, dt_NoMend, dd_NoMend, ds_NoMend⟩ m_NoEdit_NoMend, mx_ref ⟨ea_NoEdit, eb_NoEdit, ei_NoEdit, ed_NoEdit, ee_NoEdit, e_sp, e_tk, eh_NoEdit⟩ ⟨db_NotWhole, dt_NotWhole, dd_NotWhole, ds_NotWhole⟩ m_NoEdit_NotWhole, mx_ref ⟨ea_NoEdit, eb_NoEdit, ei_NoEdit, ed_NoEdit, ee_NoEdit, e_sp, e_tk, eh_NoEdit⟩ ⟨db_NoName, dt_NoName, dd_NoName, ds_NoName⟩ m_NoEdit_NoName, mx_ref ⟨ea_NoEdit, eb_NoEdit, ei_NoEdit, ed_NoEdit, ee_NoEdit, e_sp, e_tk, eh_NoEdit⟩ ⟨db_NoPlace, dt_NoPlace, dd_NoPlace, ds_NoPlace⟩ m_NoEdit_NoPlace, mx_ref ⟨ea_NoEdit, eb_NoEdit, ei_NoEdit, ed_NoEdit, ee_NoEdit, e_sp, e_tk, eh_NoEdit⟩ ⟨db_Clash, dt_Clash, dd_Clash, ds_Clash⟩ m_NoEdit_Clash, mx_ref ⟨ea_NoEdit, eb_NoEdit, ei_NoEdit, ed_NoEdit, ee_NoEdit, e_sp, e_tk, eh_NoEdit⟩ ⟨db_NoEdit, dt_NoEdit, dd_NoEdit, ds_NoEdit⟩ m_NoEdit_NoEdit, mx_ref ⟨ea_NoEdit, eb_NoEdit, ei_NoEdit, ed_NoEdit, ee_NoEdit, e_sp, e_tk, eh_NoEdit⟩ ⟨db_TooGreat, dt_TooGreat, dd_TooGreat, ds_TooGreat⟩ m_NoEdit_TooGreat, mx_ref ⟨ea_NoEdit, eb_NoEdit, ei_NoEdit, ed_NoEdit, ee_NoEdit, e_sp, e_tk, eh_NoEdit⟩ ⟨db_NoText, dt_NoText, dd_NoText, ds_NoText⟩ m_NoEdit_NoText, mx_ref ⟨ea_Clash, eb_Clash, ei_Clash, ed_Clash, ee_Clash, e_sp, e_tk, eh_Clash⟩ ⟨db_MenderError, dt_MenderError, dd_MenderError, ds_MenderError⟩ m_Clash_MenderError, mx_ref ⟨ea_Clash, eb_Clash, ei_Clash, ed_Clash, ee_Clash, e_sp, e_tk, eh_Clash⟩ ⟨db_NoAsk, dt_NoAsk, dd_NoAsk, ds_NoAsk⟩ m_Clash_NoAsk, mx_ref ⟨ea_Clash, eb_Clash, ei_Clash, ed_Clash, ee_Clash, e_sp, e_tk, eh_Clash⟩ ⟨db_NoMend, dt_NoMend, dd_NoMend, ds_NoMend⟩ m_Clash_NoMend, mx_ref ⟨ea_Clash, eb_Clash, ei_Clash, ed_Clash, ee_Clash, e_sp, e_tk, eh_Clash⟩ ⟨db_NotWhole, dt_NotWhole, dd_NotWhole, ds_NotWhole⟩ m_Clash_NotWhole, mx_ref ⟨ea_Clash, eb_Clash, ei_Clash, ed_Clash, ee_Clash, e_sp, e_tk, eh_Clash⟩ ⟨db_NoName, dt_NoName, dd_NoName, ds_NoName⟩ m_Clash_NoName, mx_ref ⟨ea_Clash, eb_Clash, ei_Clash, ed_Clash, ee_Clash, e_sp, e_tk, eh_Clash⟩ ⟨db_NoPlace, dt_NoPlace, dd_NoPlace, ds_NoPlace⟩ m_Clash_NoPlace, mx_ref ⟨ea_Clash, eb_Clash, ei_Clash, ed_Clash, ee_Clash, e_sp, e_tk, eh_Clash⟩ ⟨db_Clash, dt_Clash, dd_Clash, ds_Clash⟩ m_Clash_Clash, mx_ref ⟨ea_Clash, eb_Clash, ei_Clash, ed_Clash, ee_Clash, e_sp, e_tk, eh_Clash⟩ ⟨db_NoEdit, dt_NoEdit, dd_NoEdit, ds_NoEdit⟩ m_Clash_NoEdit, mx_ref ⟨ea_Clash, eb_Clash, ei_Clash, ed_Clash, ee_Clash, e_sp, e_tk, eh_Clash⟩ ⟨db_TooGreat, dt_TooGreat, dd_TooGreat, ds_TooGreat⟩ m_Clash_TooGreat, mx_ref ⟨ea_Clash, eb_Clash, ei_Clash, ed_Clash, ee_Clash, e_sp, e_tk, eh_Clash⟩ ⟨db_NoText, dt_NoText, dd_NoText, ds_NoText⟩ m_Clash_NoText, mx_ty ⟨ea_TooGreat, eb_TooGreat, ei_TooGreat, ed_TooGreat, ee_TooGreat, e_sp, e_tk, eh_TooGreat⟩ (by decide +kernel) m_TooGreat_ValueError, mx_ty ⟨ea_NoText, eb_NoText, ei_NoText, ed_NoText, ee_NoText, e_sp, e_tk, eh_NoText⟩ (by decide +kernel) m_NoText_ValueError, mx_ty ⟨ea_NoEdit, eb_NoEdit, ei_NoEdit, ed_NoEdit, ee_NoEdit, e_sp, e_tk, eh_NoEdit⟩ (by decide +kernel) m_NoEdit_ValueError, mx_ty ⟨ea_Clash, eb_Clash, ei_Clash, ed_Clash, ee_Clash, e_sp, e_tk, eh_Clash⟩ (by decide +kernel) m_Clash_ValueError⟩⟩
  have D_need_text : Dfd K mg "need_text" ["text"] s_need_text := dfd_mk X G a1 l1 c1 k1 (fun _ _ _ _ _ _ us hl => match us, hl with | [_], _ => rfl)
  have D_is_place : Dfd K mg "is_place" ["thing", "most"] s_is_place := dfd_mk X G a2 l2 c2 k2 (fun _ _ _ _ _ _ us hl => match us, hl with | [_, _], _ => rfl)
  have D_is_text : Dfd K mg "is_text" ["thing"] s_is_text := dfd_mk X G a3 l3 c3 k3 (fun _ _ _ _ _ _ us hl => match us, hl with | [_], _ => rfl)
  have D_need_edits : Dfd K mg "need_edits" ["text", "edits"] s_need_edits := dfd_mk X G a4 l4 c4 k4 (fun _ _ _ _ _ _ us hl => match us, hl with | [_, _], _ => rfl)
  have D_done : Dfd K mg "done" ["text", "edits"] s_done := dfd_mk X G a5 l5 c5 k5 (fun _ _ _ _ _ _ us hl => match us, hl with | [_, _], _ => rfl)
  have D_grown : Dfd K mg "grown" ["edit"] s_grown := dfd_mk X G a6 l6 c6 k6 (fun _ _ _ _ _ _ us hl => match us, hl with | [_], _ => rfl)
  have D_backs : Dfd K mg "backs" ["text", "edits"] s_backs := dfd_mk X G a7 l7 c7 k7 (fun _ _ _ _ _ _ us hl => match us, hl with | [_, _], _ => rfl)
  have D_touch : Dfd K mg "touch" ["one", "other"] s_touch := dfd_mk X G a8 l8 c8 k8 (fun _ _ _ _ _ _ us hl => match us, hl with | [_, _], _ => rfl)
  have D_need_apart : Dfd K mg "need_apart" ["edits", "others"] s_need_apart := dfd_mk X G a9 l9 c9 k9 (fun _ _ _ _ _ _ us hl => match us, hl with | [_, _], _ => rfl)
  have D_moved : Dfd K mg "moved" ["text", "edits", "others"] s_moved := dfd_mk X G a10 l10 c10 k10 (fun _ _ _ _ _ _ us hl => match us, hl with | [_, _, _], _ => rfl)
  have D_law_begun : Dfd K mg "_law_begun" ["_law_cell", "_law_k"] s_law_begun := dfd_mk X G a11 l11 c11 k11 (fun _ _ _ _ _ _ us hl => match us, hl with | [_, _], _ => rfl)
  have D_law_next : Dfd K mg "_law_next" ["_law_drawn", "_law_size"] s_law_next := dfd_mk X G a12 l12 c12 k12 (fun _ _ _ _ _ _ us hl => match us, hl with | [_, _], _ => rfl)
  have D_law_spots : Dfd K mg "_law_spots" ["_law_thing"] s_law_spots := dfd_mk X G a13 l13 c13 k13 (fun _ _ _ _ _ _ us hl => match us, hl with | [_], _ => rfl)
  have D_law_with : Dfd K mg "_law_with" ["_law_thing", "_law_way", "_law_other"] s_law_with := dfd_mk X G a14 l14 c14 k14 (fun _ _ _ _ _ _ us hl => match us, hl with | [_, _, _], _ => rfl)
  have D_law_step : Dfd K mg "_law_step" ["_law_drawn", "_law_one"] s_law_step := dfd_mk X G a15 l15 c15 k15 (fun _ _ _ _ _ _ us hl => match us, hl with | [_, _], _ => rfl)
  have D_law_spoilt : Dfd K mg "_law_spoilt" ["_law_drawn", "_law_thing"] s_law_spoilt := dfd_mk X G a16 l16 c16 k16 (fun _ _ _ _ _ _ us hl => match us, hl with | [_, _], _ => rfl)
  have D_law_word : Dfd K mg "_law_word" ["_law_error"] s_law_word := dfd_mk X G a17 l17 c17 k17 (fun _ _ _ _ _ _ us hl => match us, hl with | [_], _ => rfl)
  have D_law_told : Dfd K mg "_law_told" ["_law_work"] s_law_told := dfd_mk X G a18 l18 c18 k18 (fun _ _ _ _ _ _ us hl => match us, hl with | [_], _ => rfl)
  have D_law_text : Dfd K mg "_law_text" ["_law_drawn"] s_law_text := dfd_mk X G a19 l19 c19 k19 (fun _ _ _ _ _ _ us hl => match us, hl with | [_], _ => rfl)
  have D_law_edits : Dfd K mg "_law_edits" ["_law_drawn", "_law_text_here"] s_law_edits := dfd_mk X G a20 l20 c20 k20 (fun _ _ _ _ _ _ us hl => match us, hl with | [_, _], _ => rfl)
  have D_law_is_place : Dfd K mg "_law_is_place" ["_law_thing", "_law_text_here"] s_law_is_place := dfd_mk X G a21 l21 c21 k21 (fun _ _ _ _ _ _ us hl => match us, hl with | [_, _], _ => rfl)
  have D_law_are_edits : Dfd K mg "_law_are_edits" ["_law_thing", "_law_text_here"] s_law_are_edits := dfd_mk X G a22 l22 c22 k22 (fun _ _ _ _ _ _ us hl => match us, hl with | [_, _], _ => rfl)
  have D_law_done : Dfd K mg "_law_done" ["_law_text_here", "_law_edits_here"] s_law_done := dfd_mk X G a23 l23 c23 k23 (fun _ _ _ _ _ _ us hl => match us, hl with | [_, _], _ => rfl)
  have D_law_right : DfdC K mg "_law_right" ["_law_text_here", "_law_thing"] s_law_right cd_law_right := dfdC_mk X G a24 l24 c24 k24 lc24 (fun _ _ _ _ _ _ us hl => match us, hl with | [_, _], _ => rfl)
  refine ⟨PySem.W.fnOf "law" "law" (defArgs s_law) (defBody s_law) (defScope s_law) .none kV25 dc25 pm25 an25 cd25 ct25, fun s u => .of_eq rfl, fun base _ _ hTB => ?_⟩
  have TB_law : TabB base mg cd_law P_law := hTB (cd_law, P_law) (by simp)
  have TB_law_right : TabB base mg cd_law_right P_law_right := hTB (cd_law_right, P_law_right) (by simp)
  have c_law_word : CalT l.prog w K mg base 1 "_law_word" ["_law_error"] (S_law_word C_NoText C_NoEdit) := ok_law_word T D_law_word
  have c_law_told : CalB l.prog w K mg base 20 "_law_told" "_law_work" (S_law_told C_NoText C_NoEdit) := ok_law_told T D_law_told c_law_word
  have c_is_place : Cal l.prog w K mg base 1 "is_place" ["thing", "most"] S_is_place := ok_is_place T D_is_place
  have c_need_text : Cal l.prog w K mg base 1 "need_text" ["text"] (S_need_text C_NoText C_TooGreat) := ok_need_text T D_need_text
  have c_is_text : Cal l.prog w K mg base 2 "is_text" ["thing"] (S_is_text C_NoText C_TooGreat) := ok_is_text T D_is_text c_need_text
  have c_need_edits : Cal l.prog w K mg base 3 "need_edits" ["text", "edits"] (S_need_edits C_NoText C_TooGreat C_NoEdit) := ok_need_edits T D_need_edits c_is_place c_is_text c_need_text
  have c_done : Cal l.prog w K mg base 4 "done" ["text", "edits"] (S_done C_NoText C_TooGreat C_NoEdit) := ok_done T D_done c_need_edits
  have c_grown : Cal l.prog w K mg base 1 "grown" ["edit"] S_grown := ok_grown T D_grown
  have c_touch : Cal l.prog w K mg base 1 "touch" ["one", "other"] S_touch := ok_touch T D_touch
  have c_need_apart : Cal l.prog w K mg base 3 "need_apart" ["edits", "others"] S_need_apart := ok_need_apart T D_need_apart c_touch
  have c_moved : Cal l.prog w K mg base 5 "moved" ["text", "edits", "others"] (S_moved C_NoText C_TooGreat C_NoEdit) := ok_moved T D_moved c_grown c_done c_need_apart c_need_edits
  have c_backs : Cal l.prog w K mg base 5 "backs" ["text", "edits"] (S_backs C_NoText C_TooGreat C_NoEdit) := ok_backs T D_backs c_grown c_done
  have c_law_is_place : Cal l.prog w K mg base 1 "_law_is_place" ["_law_thing", "_law_text_here"] S_law_is_place := ok_law_is_place T D_law_is_place
  have c_law_are_edits : Cal l.prog w K mg base 2 "_law_are_edits" ["_law_thing", "_law_text_here"] S_law_are_edits := ok_law_are_edits T D_law_are_edits c_law_is_place
  have c_law_done : Cal l.prog w K mg base 1 "_law_done" ["_law_text_here", "_law_edits_here"] S_law_done := ok_law_done T D_law_done
  have c_law_right : CalG l.prog w K mg base 22 "_law_right" ["_law_text_here", "_law_thing"] (S_law_right P_law_right) := ok_law_right TB_law_right T D_law_right c_law_told c_moved c_backs c_done c_law_are_edits c_law_done
  have c_law_next : CalO l.prog w K mg base 1 "_law_next" ["_law_drawn", "_law_size"] S_law_next := ok_law_next T D_law_next
  have c_law_step : CalO l.prog w K mg base 2 "_law_step" ["_law_drawn", "_law_one"] S_law_step := ok_law_step T D_law_step c_law_next
  have r_rec_law_with := rec_law_with (P := l.prog) (w := w) (base := base) T D_law_with 3
  have c_law_with : Cal l.prog w K mg base 4 "_law_with" ["_law_thing", "_law_way", "_law_other"] (S_law_with 3) := r_rec_law_with
  have r_rec_law_spots := rec_law_spots (P := l.prog) (w := w) (base := base) T D_law_spots 3
  have c_law_spots : Cal l.prog w K mg base 4 "_law_spots" ["_law_thing"] (S_law_spots 3) := r_rec_law_spots
  have c_law_spoilt : CalO l.prog w K mg base 5 "_law_spoilt" ["_law_drawn", "_law_thing"] S_law_spoilt := ok_law_spoilt T D_law_spoilt c_law_step c_law_with c_law_next c_law_spots
  have c_law_edits : CalO l.prog w K mg base 2 "_law_edits" ["_law_drawn", "_law_text_here"] S_law_edits := ok_law_edits T D_law_edits c_law_next
  have c_law_text : CalO l.prog w K mg base 2 "_law_text" ["_law_drawn"] S_law_text := ok_law_text T D_law_text c_law_next
  have c_law_begun : Cal l.prog w K mg base 1 "_law_begun" ["_law_cell", "_law_k"] S_law_begun := ok_law_begun T D_law_begun
  exact ok_law TB_law T (fun_mk (st := s_law) l25 c25 k25) lc25 c_law_told c_done c_law_right c_law_next c_law_spoilt c_law_edits c_law_text c_law_begun
end K47
open PySem PySem.W PySem.Calls PyProof.Rows
set_option maxHeartbeats 0 in
theorem PySem.Challenge.cw_mender_k47_edits_spoilt_anywhere_holds : PySem.Challenge.rw_mender_k47_edits_spoilt_anywhere.Holds := by
  refine K47.hlaw fun said => ?_
  refine HDP.head_in (r := OpenLaw.row PySem.Challenge.rw_mender_k47_edits_spoilt_anywhere) (q := view (OpenLaw.row PySem.Challenge.rw_mender_k47_edits_spoilt_anywhere).prog [44]) (H := PW.frHook K47.FF K47.FV) (ob := PW.frOb K47.FF) (loose := K47.hns) (d := HandSHeadRun.topDef (OpenLaw.row PySem.Challenge.rw_mender_k47_edits_spoilt_anywhere).prog 44) (kwd := []) (PW.frOb_eq K47.FF _)
    K47.he1 K47.he2 K47.hrun K47.he3 K47.he4 K47.he5 K47.he6 said K47.he8 K47.hbare ?hw ?hc
  case hw => w_witness2
  case hc =>
    refine PW.law_ofTG (l := PySem.Challenge.rw_mender_k47_edits_spoilt_anywhere) (k := 23) (x := "_law_script") rfl (by kernel_rfl) ⟨rfl, by decide, by decide⟩ ?F
    intro w mg fa h Y G hmg0
    obtain ⟨K, KX, e⟩ := Y
    have hmg : mg ("law" : PySem.Str) = some (.ref fa) := by
      have e : (HandSHeadRun.topDef (OpenLaw.row PySem.Challenge.rw_mender_k47_edits_spoilt_anywhere).prog 44).name = ("law" : PySem.Str) := by kernel_rfl
      rw [← e]
      exact hmg0
    obtain ⟨K', cd_law, cd_law_right, X', hc, fd, hb, hF⟩ := K47.hfacts (l := PySem.Challenge.rw_mender_k47_edits_spoilt_anywhere) (w := w) KX G hmg e
    exact ⟨K', [(cd_law, K47.P_law), (cd_law_right, K47.P_law_right)], [(K47.P_law, "law.<locals>.<lambda>"), (K47.P_law_right, "_law_right.<locals>.<lambda>")], X', rfl, by decide, hc, fd, hb, hF⟩
