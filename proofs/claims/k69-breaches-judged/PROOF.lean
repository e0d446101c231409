import PyProof.Rows.All
import Wide.All
import OpenK.AllK
import Wide.FinOn
import HandS.ForMost
import HandS.Exc
import HandS.Walk
import HandS.Deep
import HandS.Lambda
import HandS.TupAny
import HandS.Flow
import HandS.Wide
import HandS.Style
import HandS.IsInst
import PyProof.ReprRoads
import HandS.TupMul
import HandS.ExcCtx
import HandS.SuiteRaise
import HandS.RaiseFrom
import HandS.ExcInit
import HandS.Words
import HandS.Defaults
import HandS.MakeKwOnly
import HandS.CallSlots
import HandS.ExcOwn
import KE.SortData
import HandS.SortRule
import HandS.Ends
import KE.GoesEnum
import HandS.Iter
import HandS.TupLe
import HandS.WordsExc
import HandS.TryOnly
import HandS.TryElse
import HandS.ExcIs
import HandS.ExcField
import HandS.SetFor
import HandS.Conv
import HandS.More
import HandS.EndTab
import HandS.HotCalls
import HandS.ExcInitHot
import HandS.RaiseMore
import HandS.List
import PyProof.Rows.RegStrFacts
import PySem.Challenge.RW_mendlines_k69_breaches_judged
set_option Elab.async false
set_option linter.all false
set_option maxRecDepth 99999
set_option maxHeartbeats 3999999
namespace L2.Dl
open PySem
open PySem.Spec
open PyProof.Rows

/-- the module's written part, for the whole of a proof -/
class KF where
  frag : PySem.W.Frag
  tabs : List (Addr × Str)
variable [KF]
mutual
inductive Rp (D : Hp) : V → PyData → Prop
  | non : Rp D .non .none
  | bl (b : Bool) : Rp D (.bl b) (.bool b)
  | int (i : Int) : Rp D (.int i) (.int i)
  | str (x : Str) : Rp D (.str x) (.str x)
  | lst {a : Addr} {vs : List V} {ds : List PyData} : D a = some (.lst vs) → RpL D vs ds → Rp D (.ref a) (.list ds)
  | tup {a : Addr} {vs : List V} {ds : List PyData} : D a = some (.tup vs) → RpL D vs ds → Rp D (.ref a) (.tuple ds)
  | nilK {a : Addr} : SqT KF.frag (fun _ => none) a [] → Rp D (.ref a) (.tuple [])
inductive RpL (D : Hp) : List V → List PyData → Prop
  | nil : RpL D [] []
  | cons {v : V} {vs : List V} {d : PyData} {ds : List PyData} : Rp D v d → RpL D vs ds → RpL D (v :: vs) (d :: ds)
end
mutual
theorem Rp.mono {D D' : Hp} (s : Same D D') : ∀ {v : V} {d : PyData}, Rp D v d → Rp D' v d
  | _, _, .non => .non
  | _, _, .bl b => .bl b
  | _, _, .int i => .int i
  | _, _, .str x => .str x
  | _, _, .lst h r => .lst (s _ _ h) (RpL.mono s r)
  | _, _, .tup h r => .tup (s _ _ h) (RpL.mono s r)
  | _, _, .nilK h => .nilK h
theorem RpL.mono {D D' : Hp} (s : Same D D') : ∀ {vs : List V} {ds : List PyData}, RpL D vs ds → RpL D' vs ds
  | _, _, .nil => .nil
  | _, _, .cons h r => .cons (Rp.mono s h) (RpL.mono s r)
end
theorem sqT_any {K : PySem.W.Frag} {D : Hp} {a : Addr} {vs : List V} (h : SqT K (fun _ => none) a vs) : SqT K D a vs := by
  rcases h with (h | ⟨o, h⟩) | h
  · cases h
  · cases h
  · exact .inr h
mutual
theorem Rp.dp {D : Hp} : ∀ {v : V} {d : PyData}, Rp D v d → Dp KF.frag D v d
  | _, _, .non => .non
  | _, _, .bl b => .bl b
  | _, _, .int i => .int i
  | _, _, .str x => .str x
  | _, _, .lst h r => .lst (.inl (.inl h)) (RpL.dp r)
  | _, _, .tup h r => .tup (.inl (.inl h)) (RpL.dp r)
  | _, _, .nilK h => .tup (sqT_any h) .nil
theorem RpL.dp {D : Hp} : ∀ {vs : List V} {ds : List PyData}, RpL D vs ds → DpAll KF.frag D vs ds
  | _, _, .nil => .nil
  | _, _, .cons h r => .cons (Rp.dp h) (RpL.dp r)
end
theorem RpL.length {D : Hp} : ∀ {vs : List V} {ds : List PyData}, RpL D vs ds → vs.length = ds.length
  | _, _, .nil => rfl
  | _, _, .cons _ r => congrArg (· + 1) (RpL.length r)
theorem RpL.append {D : Hp} : ∀ {vs ws : List V} {ds es : List PyData}, RpL D vs ds → RpL D ws es → RpL D (vs ++ ws) (ds ++ es)
  | _, _, _, _, .nil, q => q
  | _, _, _, _, .cons h r, q => .cons h (RpL.append r q)
theorem RpL.get {D : Hp} : ∀ {vs : List V} {ds : List PyData} {i : Nat} {v : V}, RpL D vs ds → vs[i]? = some v → ∃ d, ds[i]? = some d ∧ Rp D v d
  | _, _, _, _, .nil, e => by simp at e
  | _, _, 0, _, .cons h _, e => by
    simp at e
    subst e
    exact ⟨_, rfl, h⟩
  | _, _, i + 1, v, .cons _ r, e => by
    obtain ⟨d, h1, h2⟩ := RpL.get (i := i) (v := v) r (by simpa using e)
    exact ⟨d, by simpa using h1, h2⟩
theorem RpL.get' {D : Hp} : ∀ {vs : List V} {ds : List PyData} {i : Nat} {d : PyData}, RpL D vs ds → ds[i]? = some d → ∃ v, vs[i]? = some v ∧ Rp D v d
  | _, _, _, _, .nil, e => by simp at e
  | _, _, 0, _, .cons h _, e => by
    simp at e
    subst e
    exact ⟨_, rfl, h⟩
  | _, _, i + 1, d, .cons _ r, e => by
    obtain ⟨v, h1, h2⟩ := RpL.get' (i := i) (d := d) r (by simpa using e)
    exact ⟨v, by simpa using h1, h2⟩
theorem DpAll.length {K : PySem.W.Frag} {D : Hp} : ∀ {vs : List V} {ds : List PyData}, DpAll K D vs ds → vs.length = ds.length
  | _, _, .nil => rfl
  | _, _, .cons _ r => congrArg (· + 1) (DpAll.length r)
mutual
theorem Dp.mono {K : PySem.W.Frag} {D D' : Hp} (s : Same D D') : ∀ {v : V} {d : PyData}, Dp K D v d → Dp K D' v d
  | _, _, .non => .non
  | _, _, .bl b => .bl b
  | _, _, .int i => .int i
  | _, _, .str x => .str x
  | _, _, .lst h r => .lst (s.seq h) (DpAll.mono s r)
  | _, _, .tup (xs := xs) h r => .tup (by
      rcases h with (h | ⟨o, h⟩) | h
      · exact .inl (.inl (s _ _ h))
      · exact .inl (.inr ⟨o, s _ _ h⟩)
      · exact .inr h) (DpAll.mono s r)
theorem DpAll.mono {K : PySem.W.Frag} {D D' : Hp} (s : Same D D') : ∀ {vs : List V} {ds : List PyData}, DpAll K D vs ds → DpAll K D' vs ds
  | _, _, .nil => .nil
  | _, _, .cons h r => .cons (Dp.mono s h) (DpAll.mono s r)
end

/-- a dict: whether its keys are tuples, its pairs -/
structure DV where
  t : Bool
  kvs : List (PyData × PyData)
inductive Slot where
  | un
  | v (d : PyData)
  | own (par : Bool) (xs : List PyData)
  | dct (par : Bool) (kvs : DV)
  | gl (x : Str)
  | ro (xs : List PyData)
  | la
abbrev Nv := List Slot
/-- what an expression comes to: a value that stays, the thing a slot owns, a def -/
inductive OV where
  | d (x : PyData)
  | sl (i : Nat)
  | gl (x : Str)
structure Ex where
  cls : Str
  fs : List (Str × PyData)
inductive Res (α : Type) where
  | ok (a : α) (e : Nv)
  | exc (x : Ex) (e : Nv)
  | stuck
inductive SRes where
  | nx (e : Nv)
  | rt (d : PyData) (e : Nv)
  | rtD (kvs : DV) (e : Nv)
  | bk (e : Nv)
  | ct (e : Nv)
  | exc (x : Ex) (e : Nv)
  | stuck
abbrev DE := Nv → Res OV
abbrev DT := Nv → Res Bool
abbrev DL := Nv → Res (List PyData)
abbrev DK := Nv → Res DV
abbrev DS := Nv → SRes

/-- fixed while a def runs: the written part, the module's names, what others hold, the addresses of what was handed in -/
structure Cf where
  mg : Str → Option Value
  B : Hp
  pa : Nat → Option Addr
  la : Option (Addr × Addr × Str)
  D0 : Hp
/-- neither a code object's table nor anything told by what is true of it -/
def okO : HO → Bool
  | .tbl _ => false
  | .ext _ => false
  | .xd _ => false
  | _ => true
def okB : HO → Bool
  | .tbl _ => false
  | _ => true
theorem okO_okB {o : HO} (h : okO o = true) : okB o = true := by cases o <;> first | rfl | cases h
theorem tabs_put {T : List (Addr × Str)} {H : Hp} {a : Addr} {u o : HO} (t : LamX.Tabs T H) (h : H a = some u) (hu : okO u = true) : LamX.Tabs T (upd H a o) := fun p hp => by
  obtain ⟨ps, h1, h2, h3⟩ := t p hp
  have e1 : p.1 ≠ a := fun z => by
    rw [z, h] at h1
    cases h1
    cases hu
  refine ⟨ps, by rw [upd_ne e1]; exact h1, h2, fun pos cv hc => ?_⟩
  obtain ⟨c, e, hc2⟩ := h3 pos cv hc
  have e2 : c ≠ a := fun z => by
    rw [z, h] at hc2
    cases hc2
    cases hu
  exact ⟨c, e, by rw [upd_ne e2]; exact hc2⟩

abbrev Cf.K (_ : Cf) : PySem.W.Frag := KF.frag
def kD : Key → PyData
  | .inl i => .int i
  | .inr x => .str x
def kDT (ks : List Key) : PyData := .tuple (ks.map kD)
def DctOk (D H : Hp) (a : Addr) (d : DV) : Prop :=
  (d.t = false ∧ ∃ kv : List (Key × V), H a = some (.dK kv) ∧ Paired (fun (p : Key × V) (q : PyData × PyData) => q.1 = kD p.1 ∧ Rp D p.2 q.2) kv d.kvs) ∨
  (d.t = true ∧ ∃ kv : List (List Key × V), H a = some (.dT kv) ∧ Paired (fun (p : List Key × V) (q : PyData × PyData) => q.1 = kDT p.1 ∧ Rp D p.2 q.2) kv d.kvs)
theorem DctOk.mono {D D' H H' : Hp} {a : Addr} {kvs : DV} (h : DctOk D H a kvs) (s : Same D D') (e : H' a = H a) : DctOk D' H' a kvs := by
  rcases h with ⟨h0, kv, h1, h2⟩ | ⟨h0, kv, h1, h2⟩
  · exact .inl ⟨h0, kv, e.trans h1, Paired.mapP h2 fun p q z => ⟨z.1, z.2.mono s⟩⟩
  · exact .inr ⟨h0, kv, e.trans h1, Paired.mapP h2 fun p q z => ⟨z.1, z.2.mono s⟩⟩
theorem DctOk.tracked {D H : Hp} {a : Addr} {d : DV} (h : DctOk D H a d) : ∃ u, H a = some u := by
  rcases h with ⟨_, kv, h1, _⟩ | ⟨_, kv, h1, _⟩ <;> exact ⟨_, h1⟩
theorem DctOk.trackedO {D H : Hp} {a : Addr} {d : DV} (h : DctOk D H a d) : ∃ u, H a = some u ∧ okO u = true := by
  rcases h with ⟨_, kv, h1, _⟩ | ⟨_, kv, h1, _⟩ <;> exact ⟨_, h1, rfl⟩
def SlotOk (c : Cf) (D H : Hp) (i : Nat) (x : Option V) : Slot → Prop
  | .un => True
  | .v d => ∃ v, x = some v ∧ Rp D v d
  | .own p xs => ∃ a vs, x = some (.ref a) ∧ H a = some (.lst vs) ∧ RpL D vs xs ∧ D a = none ∧ c.B a = none ∧ (p = true → c.pa i = some a)
  | .dct p kvs => ∃ a, x = some (.ref a) ∧ DctOk D H a kvs ∧ D a = none ∧ c.B a = none ∧ (p = true → c.pa i = some a)
  | .gl n => ∃ f, x = some (.ref f) ∧ c.mg n = some (.ref f)
  | .ro xs => ∃ a vs, x = some (.ref a) ∧ SqL c.K D a vs ∧ RpL D vs xs
  | .la => ∃ f k q, c.la = some (f, k, q) ∧ x = some (.ref f)
def Slot.owns : Slot → Bool
  | .own _ _ => true
  | .dct _ _ => true
  | _ => false
structure Sim (c : Cf) (D : Hp) (env : Nv) (σ : St) (H : Hp) : Prop where
  dh : Same D H
  bh : Same c.B H
  bd : ∀ a o, c.B a = some o → D a = none
  len : env.length = σ.length
  slot : ∀ (i : Nat) (s : Slot), env[i]? = some s → SlotOk c D H i ((σ[i]?).join) s
  apart : ∀ (i j : Nat) (s t : Slot) (a : Addr), env[i]? = some s → env[j]? = some t → s.owns = true → t.owns = true → (σ[i]?).join = some (V.ref a) → (σ[j]?).join = some (V.ref a) → i = j
  tb : LamX.Tabs KF.tabs H
  nd : ∀ a o, D a = some o → okO o = true
  nb : ∀ a o, c.B a = some o → okB o = true
  d0 : Same c.D0 D

theorem SlotOk.lift {c : Cf} {D D' H H' : Hp} {i : Nat} {x : Option V} {s : Slot} (h : SlotOk c D H i x s) (sD : Same D D') (hH : ∀ a, x = some (.ref a) → s.owns = true → H' a = H a ∧ (D a = none → D' a = none)) : SlotOk c D' H' i x s := by
  cases s with
  | un => trivial
  | v d => obtain ⟨v, e, r⟩ := h; exact ⟨v, e, r.mono sD⟩
  | own p xs =>
    obtain ⟨a, vs, e, h1, h2, h3, h4, h5⟩ := h
    obtain ⟨k1, k2⟩ := hH a e rfl
    exact ⟨a, vs, e, k1.trans h1, h2.mono sD, k2 h3, h4, h5⟩
  | dct p kvs =>
    obtain ⟨a, e, h1, h3, h4, h5⟩ := h
    obtain ⟨k1, k2⟩ := hH a e rfl
    exact ⟨a, e, h1.mono sD k1, k2 h3, h4, h5⟩
  | gl n => exact h
  | ro xs => obtain ⟨a, vs, e, h1, h2⟩ := h; exact ⟨a, vs, e, sD.seq h1, h2.mono sD⟩
  | la => exact h
/-- the address that an owning slot holds is tracked in H -/
theorem SlotOk.tracked {c : Cf} {D H : Hp} {i : Nat} {x : Option V} {s : Slot} (h : SlotOk c D H i x s) (o : s.owns = true) : ∃ a u, x = some (.ref a) ∧ H a = some u ∧ D a = none ∧ c.B a = none := by
  cases s with
  | own p xs => obtain ⟨a, vs, e, h1, h2, h3, h4, h5⟩ := h; exact ⟨a, _, e, h1, h3, h4⟩
  | dct p kvs =>
    obtain ⟨a, e, h1, h3, h4, h5⟩ := h
    obtain ⟨u, hu⟩ := h1.tracked
    exact ⟨a, u, e, hu, h3, h4⟩
  | un => cases o
  | v d => cases o
  | gl n => cases o
  | ro xs => cases o
  | la => cases o

theorem SlotOk.trackedO {c : Cf} {D H : Hp} {i : Nat} {x : Option V} {s : Slot} (h : SlotOk c D H i x s) (o : s.owns = true) : ∃ a u, x = some (.ref a) ∧ H a = some u ∧ D a = none ∧ c.B a = none ∧ okO u = true := by
  cases s with
  | own p xs => obtain ⟨a, vs, e, h1, h2, h3, h4, h5⟩ := h; exact ⟨a, _, e, h1, h3, h4, rfl⟩
  | dct p kvs =>
    obtain ⟨a, e, h1, h3, h4, h5⟩ := h
    obtain ⟨u, hu, hk⟩ := h1.trackedO
    exact ⟨a, u, e, hu, h3, h4, hk⟩
  | un => cases o
  | v d => cases o
  | gl n => cases o
  | ro xs => cases o
  | la => cases o
theorem same_upd' {H : Hp} {p : Addr} {o : HO} (h : H p = none) : Same H (upd H p o) := fun b x e => by
  rw [upd_ne (ne_of_none e h)]
  exact e
section
variable {c : Cf} {D D' : Hp} {env : Nv} {σ : St} {H H' : Hp} {p : Addr} {o : HO}
/-- a new thing stands at p, in the frozen part -/
theorem Sim.laid (S : Sim c D env σ H) (hp : H p = none) (o : HO) (ho : okO o = true := by rfl) : Sim c (upd D p o) env σ (upd H p o) := by
  have hpD : D p = none := S.dh.free hp
  have hpB : c.B p = none := S.bh.free hp
  refine ⟨fun a u e => ?_, S.bh.trans (same_upd' hp), fun a u e => ?_, S.len, fun i s e => (S.slot i s e).lift (same_upd' hpD) fun a ea ho => ?_, S.apart, S.tb.ext (same_upd' hp), fun a u e => ?_, S.nb, S.d0.trans (same_upd' hpD)⟩
  · by_cases ha : a = p
    · subst ha; rw [upd_same] at e ⊢; exact e
    · rw [upd_ne ha] at e ⊢; exact S.dh a u e
  · have ha : a ≠ p := ne_of_none e hpB
    rw [upd_ne ha]; exact S.bd a u e
  · obtain ⟨a', u, e1, e2, e3, e4⟩ := (S.slot i s e).tracked ho
    rw [ea] at e1; cases e1
    have ha : a ≠ p := ne_of_none e2 hp
    rw [upd_ne ha, upd_ne ha]
    exact ⟨rfl, fun z => z⟩
  · by_cases ha : a = p
    · subst ha; rw [upd_same] at e; cases e; exact ho
    · rw [upd_ne ha] at e; exact S.nd a u e
/-- .. outside of it -/
theorem Sim.grow (S : Sim c D env σ H) (hp : H p = none) (o : HO) : Sim c D env σ (upd H p o) := by
  refine ⟨S.dh.trans (same_upd' hp), S.bh.trans (same_upd' hp), S.bd, S.len, fun i s e => (S.slot i s e).lift (Same.refl D) fun a ea ho => ?_, S.apart, S.tb.ext (same_upd' hp), S.nd, S.nb, S.d0⟩
  obtain ⟨a', u, e1, e2, e3, e4⟩ := (S.slot i s e).tracked ho
  rw [ea] at e1; cases e1
  exact ⟨upd_ne (ne_of_none e2 hp), fun z => z⟩
end
end L2.Dl

namespace L2.Dl
open PySem
open PySem.Spec
open PyProof.Rows
variable [KF]

def OVR (c : Cf) (D : Hp) (σ : St) (v : V) : OV → Prop
  | .d x => Rp D v x
  | .sl i => (σ[i]?).join = some v
  | .gl n => ∃ f, v = .ref f ∧ c.mg n = some (.ref f)
inductive OVRL (c : Cf) (D : Hp) (σ : St) : List V → List OV → Prop
  | nil : OVRL c D σ [] []
  | cons {v : V} {vs : List V} {o : OV} {os : List OV} : OVR c D σ v o → OVRL c D σ vs os → OVRL c D σ (v :: vs) (o :: os)
theorem OVR.mono {c : Cf} {D D' : Hp} {σ : St} {v : V} {o : OV} (h : OVR c D σ v o) (s : Same D D') : OVR c D' σ v o := by
  cases o with
  | d x => exact Rp.mono s h
  | sl i => exact h
  | gl n => exact h
theorem OVRL.mono {c : Cf} {D D' : Hp} {σ : St} (s : Same D D') : ∀ {vs : List V} {os : List OV}, OVRL c D σ vs os → OVRL c D' σ vs os
  | _, _, .nil => .nil
  | _, _, .cons h r => .cons (h.mono s) (OVRL.mono s r)
def getOV (env : Nv) : OV → Option PyData
  | .d x => some x
  | .sl i => match env[i]? with
    | some (.own _ xs) => some (.list xs)
    | some (.v d) => some d
    | _ => none
  | .gl _ => none
def pinOV (env : Nv) : OV → Option (PyData × Nv)
  | .d x => some (x, env)
  | .sl i => match env[i]? with
    | some (.own false xs) => some (.list xs, env.set i (.v (.list xs)))
    | some (.v d) => some (d, env)
    | _ => none
  | .gl _ => none
section
variable {c : Cf} {D D0 D' : Hp} {env env' : Nv} {σ : St} {H H' : Hp} {v : V} {o : OV} {x : PyData}
theorem Sim.sl (S : Sim c D env σ H) {i : Nat} {s : Slot} (e : env[i]? = some s) (h : (σ[i]?).join = some v) : SlotOk c D H i (some v) s := by
  have := S.slot i s e
  rw [h] at this
  exact this
theorem Sim.get (S : Sim c D env σ H) (r : OVR c D0 σ v o) (s : Same D0 D) (g : getOV env o = some x) : Dp c.K H v x := by
  cases o with
  | d y =>
    cases g
    exact Dp.mono S.dh (Rp.dp (r.mono s))
  | sl i =>
    have r : (σ[i]?).join = some v := r
    simp only [getOV] at g
    split at g
    · rename_i p xs e
      cases g
      obtain ⟨a, vs, e1, h1, h2, h3⟩ := S.sl e r
      cases e1
      exact .lst (.inl (.inl h1)) (DpAll.mono S.dh (RpL.dp h2))
    · rename_i d e
      cases g
      obtain ⟨v', e1, h1⟩ := S.sl e r
      cases e1
      exact Dp.mono S.dh (Rp.dp h1)
    · cases g
  | gl n => cases g
/-- an owned list becomes a value that stays -/
theorem Sim.freeze (S : Sim c D env σ H) {i : Nat} {xs : List PyData} (e : env[i]? = some (.own false xs)) (h : (σ[i]?).join = some v) :
    ∃ D', Sim c D' (env.set i (.v (.list xs))) σ H ∧ Same D D' ∧ Rp D' v (.list xs) := by
  obtain ⟨a, vs, e1, h1, h2, h3, h4, h5⟩ := S.sl e h
  cases e1
  have hi : i < env.length := (List.getElem?_eq_some_iff.mp e).1
  refine ⟨upd D a (.lst vs), ⟨fun b u q => ?_, S.bh, fun b u q => ?_, by simpa using S.len, fun j s q => ?_, fun j k s t b ej ek oj ok hj hk => ?_, S.tb, fun b u q => ?_, S.nb, S.d0.trans (same_upd' h3)⟩, same_upd' h3, .lst upd_same (h2.mono (same_upd' h3))⟩
  · by_cases hb : b = a
    · subst hb; rw [upd_same] at q; cases q; exact h1
    · rw [upd_ne hb] at q; exact S.dh b u q
  · have hb : b ≠ a := ne_of_none q h4
    rw [upd_ne hb]; exact S.bd b u q
  · by_cases hj : j = i
    · subst hj
      rw [List.getElem?_set_self hi] at q
      cases q
      exact ⟨_, h, .lst upd_same (h2.mono (same_upd' h3))⟩
    · rw [List.getElem?_set_ne (Ne.symm hj)] at q
      refine (S.slot j s q).lift (same_upd' h3) fun b eb ho => ⟨rfl, fun hn => ?_⟩
      have hb : b ≠ a := by
        rintro rfl
        exact hj (S.apart j i s _ b q e ho rfl eb h)
      rw [upd_ne hb]; exact hn
  · have nj : j ≠ i := by
      rintro rfl
      rw [List.getElem?_set_self hi] at ej; cases ej; cases oj
    have nk : k ≠ i := by
      rintro rfl
      rw [List.getElem?_set_self hi] at ek; cases ek; cases ok
    rw [List.getElem?_set_ne (Ne.symm nj)] at ej
    rw [List.getElem?_set_ne (Ne.symm nk)] at ek
    exact S.apart j k s t b ej ek oj ok hj hk
  · by_cases hb : b = a
    · subst hb; rw [upd_same] at q; cases q; rfl
    · rw [upd_ne hb] at q; exact S.nd b u q
theorem Sim.pin (S : Sim c D env σ H) (r : OVR c D σ v o) (g : pinOV env o = some (x, env')) : ∃ D', Sim c D' env' σ H ∧ Same D D' ∧ Rp D' v x := by
  cases o with
  | d y => cases g; exact ⟨D, S, Same.refl D, r⟩
  | sl i =>
    have r : (σ[i]?).join = some v := r
    simp only [pinOV] at g
    split at g
    · rename_i xs e
      cases g
      exact S.freeze e r
    · rename_i d e
      cases g
      obtain ⟨v', e1, h1⟩ := S.sl e r
      cases e1
      exact ⟨D, S, Same.refl D, h1⟩
    · cases g
  | gl n => cases g
end

def ExR (c : Cf) (D H : Hp) (x : Ex) (cls : Value) (d : Option Addr) : Prop :=
  ∃ C, cls = .ref C ∧ c.mg x.cls = some (.ref C) ∧
    match d with
    | some a => ∃ fs : List (Str × V), H a = some (.xd fs) ∧ Paired (fun (p : Str × V) (q : Str × PyData) => p.1 = q.1 ∧ Rp D p.2 q.2) fs x.fs
    | none => x.fs = []
def PostX (W : WX) (c : Cf) (D : Hp) (σ : St) (x : Ex) (env' : Nv) : Prop :=
  ∀ cls d H' D', Sim c D' env' σ H' → Same D D' → ExR c D' H' x cls d → W cls d σ H'
def PostE (W : WX) (c : Cf) (D : Hp) (σ : St) (Q : VK) : Res OV → Prop
  | .ok o env' => ∀ v H' D', Sim c D' env' σ H' → Same D D' → OVR c D' σ v o → Q v H'
  | .exc x env' => PostX W c D σ x env'
  | .stuck => False
def PostT (W : WX) (c : Cf) (D : Hp) (σ : St) (Q : Bool → Hp → Prop) : Res Bool → Prop
  | .ok b env' => ∀ H' D', Sim c D' env' σ H' → Same D D' → Q b H'
  | .exc x env' => PostX W c D σ x env'
  | .stuck => False
def PostA (W : WX) (c : Cf) (D : Hp) (σ : St) (Q : List V → Hp → Prop) : Res (List OV) → Prop
  | .ok os env' => ∀ vs H' D', Sim c D' env' σ H' → Same D D' → OVRL c D' σ vs os → Q vs H'
  | .exc x env' => PostX W c D σ x env'
  | .stuck => False
/-- a new list: its address is not tracked yet -/
def PostL (W : WX) (c : Cf) (D : Hp) (σ : St) (Q : VK) : Res (List PyData) → Prop
  | .ok xs env' => ∀ p vs H' D', Sim c D' env' σ H' → Same D D' → H' p = none → RpL D' vs xs → Q (.ref p) (upd H' p (.lst vs))
  | .exc x env' => PostX W c D σ x env'
  | .stuck => False
/-- a new dict -/
def PostK (W : WX) (c : Cf) (D : Hp) (σ : St) (Q : VK) : Res DV → Prop
  | .ok kvs env' => ∀ p o H' D', Sim c D' env' σ H' → Same D D' → H' p = none → DctOk D' (upd H' p o) p kvs → Q (.ref p) (upd H' p o)
  | .exc x env' => PostX W c D σ x env'
  | .stuck => False
def PostS (W : WX) (c : Cf) (D : Hp) (De : Ends) : SRes → Prop
  | .nx env' => ∀ σ' H' D', Sim c D' env' σ' H' → Same D D' → De.nx σ' H'
  | .bk env' => ∀ σ' H' D', Sim c D' env' σ' H' → Same D D' → De.bk σ' H'
  | .ct env' => ∀ σ' H' D', Sim c D' env' σ' H' → Same D D' → De.ct σ' H'
  | .rt x env' => ∀ v σ' H' D', Sim c D' env' σ' H' → Same D D' → Rp D' v x → De.rt v H'
  | .rtD kvs env' => ∀ p o σ' H' D', Sim c D' env' σ' H' → Same D D' → H' p = none → DctOk D' (upd H' p o) p kvs → De.rt (.ref p) (upd H' p o)
  | .exc x env' => ∀ σ', PostX W c D σ' x env'
  | .stuck => False
def EOf (W : WX) (c : Cf) (d : DE) : TE := fun σ H Q => ∃ D env, Sim c D env σ H ∧ PostE W c D σ Q (d env)
def TOf (W : WX) (c : Cf) (d : DT) : TT := fun σ H Q => ∃ D env, Sim c D env σ H ∧ PostT W c D σ Q (d env)
def AOf (W : WX) (c : Cf) (d : Nv → Res (List OV)) : TA := fun σ H Q => ∃ D env, Sim c D env σ H ∧ PostA W c D σ Q (d env)
def LOf (W : WX) (c : Cf) (d : DL) : TE := fun σ H Q => ∃ D env, Sim c D env σ H ∧ PostL W c D σ Q (d env)
def KOf' (W : WX) (c : Cf) (d : DK) : TE := fun σ H Q => ∃ D env, Sim c D env σ H ∧ PostK W c D σ Q (d env)
def SOf (W : WX) (c : Cf) (d : DS) : TS := fun De σ H => ∃ D env, Sim c D env σ H ∧ PostS W c D De (d env)

def Res.bd {α β : Type} (r : Res α) (k : α → Nv → Res β) : Res β := match r with
  | .ok a e => k a e
  | .exc x e => .exc x e
  | .stuck => .stuck
def Res.bs {α : Type} (r : Res α) (k : α → Nv → SRes) : SRes := match r with
  | .ok a e => k a e
  | .exc x e => .exc x e
  | .stuck => .stuck
def optR {α : Type} (o : Option α) (env : Nv) : Res α := match o with
  | some a => .ok a env
  | none => .stuck

section
variable {X : Cx} {e : Expr} {st : Stmt} {sts : List Stmt} {es : List Expr}
theorem _root_.L2.PE.weak {t t' : TE} (h : PE X e t) (w : ∀ σ H Q, t' σ H Q → t σ H Q) : PE X e t' := ⟨fun pins s σ H Q I q => h.run pins s σ H Q I (w σ H Q q)⟩
theorem _root_.L2.PT.weak {t t' : TT} (h : PT X e t) (w : ∀ σ H Q, t' σ H Q → t σ H Q) : PT X e t' := ⟨fun pins s σ H Q I q => h.run pins s σ H Q I (w σ H Q q)⟩
theorem _root_.L2.PA.weak {t t' : TA} (h : PA X es t) (w : ∀ σ H Q, t' σ H Q → t σ H Q) : PA X es t' := ⟨fun pos pins s σ H Q I q => h.run pos pins s σ H Q I (w σ H Q q)⟩
theorem _root_.L2.PS.weak {t t' : TS} (h : PS X st t) (w : ∀ D σ H, t' D σ H → t D σ H) : PS X st t' := ⟨fun pins s σ H D I q => h.run pins s σ H D I (w D σ H q)⟩
theorem _root_.L2.PSs.weak {t t' : TS} (h : PSs X sts t) (w : ∀ D σ H, t' D σ H → t D σ H) : PSs X sts t' := ⟨fun pins s σ H D I q => h.run pins s σ H D I (w D σ H q)⟩
end

section
variable {W : WX} {c : Cf} {D D1 : Hp} {env : Nv} {σ : St} {H : Hp} {x : Ex}
theorem PostX.mono {env' : Nv} (h : PostX W c D σ x env') (s : Same D D1) : PostX W c D1 σ x env' := fun cls d H' D' S q r => h cls d H' D' S (s.trans q) r
theorem PostE.mono {Q : VK} {r : Res OV} (h : PostE W c D σ Q r) (s : Same D D1) : PostE W c D1 σ Q r := by
  cases r with
  | ok o e => exact fun v H' D' S q r => h v H' D' S (s.trans q) r
  | exc x e => exact PostX.mono h s
  | stuck => exact h
theorem PostT.mono {Q : Bool → Hp → Prop} {r : Res Bool} (h : PostT W c D σ Q r) (s : Same D D1) : PostT W c D1 σ Q r := by
  cases r with
  | ok o e => exact fun H' D' S q => h H' D' S (s.trans q)
  | exc x e => exact PostX.mono h s
  | stuck => exact h
theorem PostA.mono {Q : List V → Hp → Prop} {r : Res (List OV)} (h : PostA W c D σ Q r) (s : Same D D1) : PostA W c D1 σ Q r := by
  cases r with
  | ok o e => exact fun v H' D' S q r => h v H' D' S (s.trans q) r
  | exc x e => exact PostX.mono h s
  | stuck => exact h
theorem PostL.mono {Q : VK} {r : Res (List PyData)} (h : PostL W c D σ Q r) (s : Same D D1) : PostL W c D1 σ Q r := by
  cases r with
  | ok o e => exact fun p vs H' D' S q r => h p vs H' D' S (s.trans q) r
  | exc x e => exact PostX.mono h s
  | stuck => exact h
theorem PostK.mono {Q : VK} {r : Res DV} (h : PostK W c D σ Q r) (s : Same D D1) : PostK W c D1 σ Q r := by
  cases r with
  | ok o e => exact fun p vs H' D' S q r => h p vs H' D' S (s.trans q) r
  | exc x e => exact PostX.mono h s
  | stuck => exact h
theorem PostS.mono {De : Ends} {r : SRes} (h : PostS W c D De r) (s : Same D D1) : PostS W c D1 De r := by
  cases r with
  | nx e => exact fun σ' H' D' S q => h σ' H' D' S (s.trans q)
  | bk e => exact fun σ' H' D' S q => h σ' H' D' S (s.trans q)
  | ct e => exact fun σ' H' D' S q => h σ' H' D' S (s.trans q)
  | rt y e => exact fun v σ' H' D' S q r => h v σ' H' D' S (s.trans q) r
  | rtD y e => exact fun p o σ' H' D' S q r => h p o σ' H' D' S (s.trans q) r
  | exc x e => exact fun σ' => PostX.mono (h σ') s
  | stuck => exact h

/-- an expression first, then what its result asks: E(xpression) into any end P -/
theorem EOf.bind {r : Res OV} {R : V → Hp → Prop} (hx : ∀ y e, r = .exc y e → PostX W c D σ y e) (hs : r ≠ .stuck)
    (h : ∀ o env1, r = .ok o env1 → ∀ v H1 D1, Sim c D1 env1 σ H1 → Same D D1 → OVR c D1 σ v o → R v H1) : PostE W c D σ R r := by
  cases r with
  | ok o e => exact fun v H1 D1 S q rr => h o e rfl v H1 D1 S q rr
  | exc y e => exact hx y e rfl
  | stuck => exact absurd rfl hs
theorem PostE.bd {r : Res OV} {k : OV → Nv → Res OV} {Q : VK} (h : PostE W c D σ Q (r.bd k)) :
    PostE W c D σ (fun v H1 => ∃ D1 env1 o, Sim c D1 env1 σ H1 ∧ Same D D1 ∧ OVR c D1 σ v o ∧ r = .ok o env1 ∧ PostE W c D1 σ Q (k o env1)) r := by
  cases r with
  | ok o e => exact fun v H1 D1 S q rr => ⟨D1, e, o, S, q, rr, rfl, PostE.mono h q⟩
  | exc y e => exact h
  | stuck => exact h
theorem PostE.bdT {r : Res OV} {k : OV → Nv → Res Bool} {Q : Bool → Hp → Prop} (h : PostT W c D σ Q (r.bd k)) :
    PostE W c D σ (fun v H1 => ∃ D1 env1 o, Sim c D1 env1 σ H1 ∧ Same D D1 ∧ OVR c D1 σ v o ∧ r = .ok o env1 ∧ PostT W c D1 σ Q (k o env1)) r := by
  cases r with
  | ok o e => exact fun v H1 D1 S q rr => ⟨D1, e, o, S, q, rr, rfl, PostT.mono h q⟩
  | exc y e => exact h
  | stuck => exact h
theorem PostE.bdA {r : Res OV} {k : OV → Nv → Res (List OV)} {Q : List V → Hp → Prop} (h : PostA W c D σ Q (r.bd k)) :
    PostE W c D σ (fun v H1 => ∃ D1 env1 o, Sim c D1 env1 σ H1 ∧ Same D D1 ∧ OVR c D1 σ v o ∧ r = .ok o env1 ∧ PostA W c D1 σ Q (k o env1)) r := by
  cases r with
  | ok o e => exact fun v H1 D1 S q rr => ⟨D1, e, o, S, q, rr, rfl, PostA.mono h q⟩
  | exc y e => exact h
  | stuck => exact h
theorem PostE.bdL {r : Res OV} {k : OV → Nv → Res (List PyData)} {Q : VK} (h : PostL W c D σ Q (r.bd k)) :
    PostE W c D σ (fun v H1 => ∃ D1 env1 o, Sim c D1 env1 σ H1 ∧ Same D D1 ∧ OVR c D1 σ v o ∧ r = .ok o env1 ∧ PostL W c D1 σ Q (k o env1)) r := by
  cases r with
  | ok o e => exact fun v H1 D1 S q rr => ⟨D1, e, o, S, q, rr, rfl, PostL.mono h q⟩
  | exc y e => exact h
  | stuck => exact h
theorem PostE.bs {r : Res OV} {k : OV → Nv → SRes} {De : Ends} (h : PostS W c D De (r.bs k)) :
    PostE W c D σ (fun v H1 => ∃ D1 env1 o, Sim c D1 env1 σ H1 ∧ Same D D1 ∧ OVR c D1 σ v o ∧ r = .ok o env1 ∧ PostS W c D1 De (k o env1)) r := by
  cases r with
  | ok o e => exact fun v H1 D1 S q rr => ⟨D1, e, o, S, q, rr, rfl, PostS.mono h q⟩
  | exc y e => exact h σ
  | stuck => exact h
theorem PostA.bd {r : Res (List OV)} {k : List OV → Nv → Res OV} {Q : VK} (h : PostE W c D σ Q (r.bd k)) :
    PostA W c D σ (fun v H1 => ∃ D1 env1 o, Sim c D1 env1 σ H1 ∧ Same D D1 ∧ OVRL c D1 σ v o ∧ r = .ok o env1 ∧ PostE W c D1 σ Q (k o env1)) r := by
  cases r with
  | ok o e => exact fun v H1 D1 S q rr => ⟨D1, e, o, S, q, rr, rfl, PostE.mono h q⟩
  | exc y e => exact h
  | stuck => exact h
theorem PostA.bdL {r : Res (List OV)} {k : List OV → Nv → Res (List PyData)} {Q : VK} (h : PostL W c D σ Q (r.bd k)) :
    PostA W c D σ (fun v H1 => ∃ D1 env1 o, Sim c D1 env1 σ H1 ∧ Same D D1 ∧ OVRL c D1 σ v o ∧ r = .ok o env1 ∧ PostL W c D1 σ Q (k o env1)) r := by
  cases r with
  | ok o e => exact fun v H1 D1 S q rr => ⟨D1, e, o, S, q, rr, rfl, PostL.mono h q⟩
  | exc y e => exact h
  | stuck => exact h
theorem PostA.bdA {r : Res (List OV)} {k : List OV → Nv → Res (List OV)} {Q : List V → Hp → Prop} (h : PostA W c D σ Q (r.bd k)) :
    PostA W c D σ (fun v H1 => ∃ D1 env1 o, Sim c D1 env1 σ H1 ∧ Same D D1 ∧ OVRL c D1 σ v o ∧ r = .ok o env1 ∧ PostA W c D1 σ Q (k o env1)) r := by
  cases r with
  | ok o e => exact fun v H1 D1 S q rr => ⟨D1, e, o, S, q, rr, rfl, PostA.mono h q⟩
  | exc y e => exact h
  | stuck => exact h
theorem PostT.bd {r : Res Bool} {k : Bool → Nv → Res OV} {Q : VK} (h : PostE W c D σ Q (r.bd k)) :
    PostT W c D σ (fun b H1 => ∃ D1 env1, Sim c D1 env1 σ H1 ∧ Same D D1 ∧ r = .ok b env1 ∧ PostE W c D1 σ Q (k b env1)) r := by
  cases r with
  | ok o e => exact fun H1 D1 S q => ⟨D1, e, S, q, rfl, PostE.mono h q⟩
  | exc y e => exact h
  | stuck => exact h
theorem PostT.bdT {r : Res Bool} {k : Bool → Nv → Res Bool} {Q : Bool → Hp → Prop} (h : PostT W c D σ Q (r.bd k)) :
    PostT W c D σ (fun b H1 => ∃ D1 env1, Sim c D1 env1 σ H1 ∧ Same D D1 ∧ r = .ok b env1 ∧ PostT W c D1 σ Q (k b env1)) r := by
  cases r with
  | ok o e => exact fun H1 D1 S q => ⟨D1, e, S, q, rfl, PostT.mono h q⟩
  | exc y e => exact h
  | stuck => exact h
theorem PostT.bs {r : Res Bool} {k : Bool → Nv → SRes} {De : Ends} (h : PostS W c D De (r.bs k)) :
    PostT W c D σ (fun b H1 => ∃ D1 env1, Sim c D1 env1 σ H1 ∧ Same D D1 ∧ r = .ok b env1 ∧ PostS W c D1 De (k b env1)) r := by
  cases r with
  | ok o e => exact fun H1 D1 S q => ⟨D1, e, S, q, rfl, PostS.mono h q⟩
  | exc y e => exact h σ
  | stuck => exact h
theorem PostL.bs {r : Res (List PyData)} {k : List PyData → Nv → SRes} {De : Ends} (h : PostS W c D De (r.bs k)) :
    PostL W c D σ (fun v H1 => ∃ D1 env1 xs p vs H', v = .ref p ∧ H1 = upd H' p (.lst vs) ∧ H' p = none ∧ RpL D1 vs xs ∧ Sim c D1 env1 σ H' ∧ Same D D1 ∧ r = .ok xs env1 ∧ PostS W c D1 De (k xs env1)) r := by
  cases r with
  | ok o e => exact fun p vs H1 D1 S q hp rr => ⟨D1, e, o, p, vs, H1, rfl, rfl, hp, rr, S, q, rfl, PostS.mono h q⟩
  | exc y e => exact h σ
  | stuck => exact h
end
end L2.Dl

namespace L2.Dl
open PySem
open PySem.Spec
open PyProof.Rows
variable [KF]

/-- read at this moment: the thing itself may be one that a slot owns -/
def Rq (D H : Hp) (v : V) (x : PyData) : Prop :=
  Rp D v x ∨ ∃ a vs ds, v = .ref a ∧ x = .list ds ∧ H a = some (.lst vs) ∧ RpL D vs ds
theorem Rq.dp {D H : Hp} {v : V} {x : PyData} (r : Rq D H v x) (s : Same D H) : Dp KF.frag H v x := by
  rcases r with r | ⟨a, vs, ds, rfl, rfl, e, r⟩
  · exact Dp.mono s (Rp.dp r)
  · exact .lst (.inl (.inl e)) (DpAll.mono s (RpL.dp r))
section
variable {c : Cf} {D D0 D' : Hp} {env env' : Nv} {σ : St} {H H' : Hp} {v : V} {o : OV} {x : PyData}
theorem Sim.getq (S : Sim c D env σ H) (r : OVR c D0 σ v o) (s : Same D0 D) (g : getOV env o = some x) : Rq D H v x := by
  cases o with
  | d y => cases g; exact .inl (r.mono s)
  | sl i =>
    have r : (σ[i]?).join = some v := r
    simp only [getOV] at g
    split at g
    · rename_i p xs e
      cases g
      obtain ⟨a, vs, e1, h1, h2, h3⟩ := S.sl e r
      cases e1
      exact .inr ⟨a, vs, xs, rfl, rfl, h1, h2⟩
    · rename_i d e
      cases g
      obtain ⟨v', e1, h1⟩ := S.sl e r
      cases e1
      exact .inl h1
    · cases g
  | gl n => cases g
end
theorem Rq.int {D H : Hp} {v : V} {i : Int} (r : Rq D H v (.int i)) : v = .int i := by
  rcases r with r | ⟨_, _, _, _, e, _⟩
  · cases r; rfl
  · cases e
theorem Rq.str {D H : Hp} {v : V} {i : Str} (r : Rq D H v (.str i)) : v = .str i := by
  rcases r with r | ⟨_, _, _, _, e, _⟩
  · cases r; rfl
  · cases e
theorem Rq.bl {D H : Hp} {v : V} {i : Bool} (r : Rq D H v (.bool i)) : v = .bl i := by
  rcases r with r | ⟨_, _, _, _, e, _⟩
  · cases r; rfl
  · cases e
theorem Rq.non {D H : Hp} {v : V} (r : Rq D H v .none) : v = .non := by
  rcases r with r | ⟨_, _, _, _, e, _⟩
  · cases r; rfl
  · cases e
theorem Rq.isNon {D H : Hp} {v : V} {x : PyData} (r : Rq D H v x) : (v = .non) ↔ x = .none := by
  rcases r with r | ⟨_, _, _, rfl, rfl, _⟩
  · cases r <;> simp
  · simp
theorem Rp.tupS {D : Hp} {v : V} {ds : List PyData} (r : Rp D v (.tuple ds)) : ∃ a vs, v = .ref a ∧ SqT KF.frag D a vs ∧ RpL D vs ds := by
  cases r with
  | tup h q => exact ⟨_, _, rfl, .of h, q⟩
  | nilK h => exact ⟨_, _, rfl, sqT_any h, .nil⟩
theorem _root_.L2.SqT.same {K : PySem.W.Frag} {D H : Hp} {a : Addr} {vs : List V} (h : SqT K D a vs) (s : Same D H) : SqT K H a vs := by
  rcases h with (h | ⟨o, h⟩) | h
  · exact .inl (.inl (s _ _ h))
  · exact .inl (.inr ⟨o, s _ _ h⟩)
  · exact .inr h
theorem Rq.tup {D H : Hp} {v : V} {ds : List PyData} (r : Rq D H v (.tuple ds)) : Rp D v (.tuple ds) ∧ ∃ a vs, v = .ref a ∧ SqT KF.frag D a vs ∧ RpL D vs ds := by
  rcases r with r | ⟨_, _, _, _, e, _⟩
  · exact ⟨r, r.tupS⟩
  · cases e
theorem Rq.lst {D H : Hp} {v : V} {ds : List PyData} (r : Rq D H v (.list ds)) (s : Same D H) : ∃ a vs, v = .ref a ∧ H a = some (.lst vs) ∧ RpL D vs ds := by
  rcases r with r | ⟨a, vs, es, rfl, e, h, q⟩
  · cases r with
    | lst h q => exact ⟨_, _, rfl, s _ _ h, q⟩
  · cases e; exact ⟨a, vs, rfl, h, q⟩

/-- a result at this moment: of the frozen part, or a new tuple -/
def NewR (D H : Hp) (v : V) (z : PyData) (H' : Hp) : Prop :=
  (H' = H ∧ Rp D v z) ∨ (∃ p vs zs, v = .ref p ∧ H p = none ∧ H' = upd H p (.tup vs) ∧ z = .tuple zs ∧ RpL D vs zs) ∨
  ∃ p vs zs, v = .ref p ∧ H p = none ∧ H' = upd H p (.lst vs) ∧ z = .list zs ∧ RpL D vs zs
theorem NewR.tup {D H : Hp} {p : Addr} {vs : List V} {zs : List PyData} (hp : H p = none) (r : RpL D vs zs) : NewR D H (.ref p) (.tuple zs) (upd H p (.tup vs)) := .inr (.inl ⟨p, vs, zs, rfl, hp, rfl, rfl, r⟩)
theorem NewR.lst {D H : Hp} {p : Addr} {vs : List V} {zs : List PyData} (hp : H p = none) (r : RpL D vs zs) : NewR D H (.ref p) (.list zs) (upd H p (.lst vs)) := .inr (.inr ⟨p, vs, zs, rfl, hp, rfl, rfl, r⟩)
theorem NewR.bool {D H H' : Hp} {v : V} {k : Bool} (n : NewR D H v (.bool k) H') : H' = H ∧ v = .bl k := by
  rcases n with ⟨e, r⟩ | ⟨_, _, _, _, _, _, e, _⟩ | ⟨_, _, _, _, _, _, e, _⟩
  · cases r; exact ⟨e, rfl⟩
  · cases e
  · cases e
theorem NewR.of {D H : Hp} {v : V} {z : PyData} (r : Rp D v z) : NewR D H v z H := .inl ⟨rfl, r⟩
section
variable {W : WX} {c : Cf} {D : Hp} {env : Nv} {σ : St} {H H' : Hp} {v : V} {z : PyData} {Q : VK}
theorem Sim.new (S : Sim c D env σ H) (n : NewR D H v z H') (p : PostE W c D σ Q (.ok (.d z) env)) : Q v H' := by
  rcases n with ⟨rfl, r⟩ | ⟨a, vs, zs, rfl, hp, rfl, rfl, r⟩ | ⟨a, vs, zs, rfl, hp, rfl, rfl, r⟩
  · exact p v H' D S (Same.refl D) r
  · have hD : D a = none := S.dh.free hp
    exact p _ _ _ (S.laid hp _) (same_upd' hD) (.tup upd_same (r.mono (same_upd' hD)))
  · have hD : D a = none := S.dh.free hp
    exact p _ _ _ (S.laid hp _) (same_upd' hD) (.lst upd_same (r.mono (same_upd' hD)))
end
/-- a two-place operation's leaf -/
def Lf (K : PySem.W.Frag) (r : R2) (g : PyData → PyData → Option PyData) : Prop :=
  ∀ (D H : Hp) (x y : V) (a b z : PyData) (Q : VK), Same D H → Rq D H x a → Rq D H y b → g a b = some z → (∀ v H', NewR D H v z H' → Q v H') → r x y H Q
def dBin (g : PyData → PyData → Option PyData) (da db : DE) : DE := fun env => (da env).bd fun a e1 => (db e1).bd fun b e2 =>
  match getOV e2 a, getOV e2 b with
  | some x, some y => match g x y with
    | some z => .ok (.d z) e2
    | none => .stuck
  | _, _ => .stuck
section
variable {X : Cx} {W : WX} {c : Cf} {a b : Expr} {da db : DE} {pos : Pos} {r : R2} {g : PyData → PyData → Option PyData}
theorem bin_core (lf : Lf c.K r g) {σ : St} {H : Hp} {Q : VK} (h : EOf W c (dBin g da db) σ H Q) : tOp r (EOf W c da) (EOf W c db) σ H Q := by
  obtain ⟨D, env, S, p⟩ := h
  refine ⟨D, env, S, ?_⟩
  have p1 := PostE.bd p
  revert p1
  cases da env with
  | stuck => exact fun z => z
  | exc y e => exact fun z => z
  | ok o1 e1 =>
    intro p1 v H1 D1 S1 s1 r1
    obtain ⟨D2, env2, o, S2, s2, r2, e, p2⟩ := p1 v H1 D1 S1 s1 r1
    cases e
    refine ⟨D2, e1, S2, ?_⟩
    have p3 := PostE.bd p2
    revert p3
    cases db e1 with
    | stuck => exact fun z => z
    | exc y e => exact fun z => z
    | ok o2 e2 =>
      intro p3 w H3 D3 S3 s3 r3
      obtain ⟨D4, env4, o4, S4, s4, r4, e, p4⟩ := p3 w H3 D3 S3 s3 r3
      cases e
      cases g1 : getOV e2 o1 with
      | none => simp only [g1] at p4; exact p4.elim
      | some x =>
        cases g2 : getOV e2 o2 with
        | none => simp only [g1, g2] at p4; exact p4.elim
        | some y =>
          simp only [g1, g2] at p4
          cases g3 : g x y with
          | none => simp only [g3] at p4; exact p4.elim
          | some z =>
            simp only [g3] at p4
            exact lf D4 H3 v w x y z Q S4.dh (S4.getq r2 s4 g1) (S4.getq r4 (Same.refl _) g2) g3 fun u H' n => S4.new n p4
theorem de_bin {op : Operator} (ho : OpR X (binaryOp op) r) (lf : Lf c.K r g) (ha : PE X a (EOf W c da)) (hb : PE X b (EOf W c db)) : PE X (.BinOp a op b pos) (EOf W c (dBin g da db)) :=
  (pe_op ho ha hb).weak fun _ _ _ h => bin_core lf h
theorem de_cmp {op : CmpOp} (ho : OpR X (compareOp op) r) (lf : Lf c.K r g) (ha : PE X a (EOf W c da)) (hb : PE X b (EOf W c db)) (hm : behindInMarks op b = false) : PE X (.Compare a [op] [b] pos) (EOf W c (dBin g da db)) :=
  (pe_cmpR ho ha hb hm).weak fun _ _ _ h => bin_core lf h
def boolOV (e : Nv) : OV → Res Bool
  | .d (.bool b) => .ok b e
  | _ => .stuck
/-- a test by an expression that comes to a bool -/
def dT (d : DE) : DT := fun env => (d env).bd fun o e => boolOV e o
theorem test_core {d : DE} {σ : St} {H : Hp} {Q : Bool → Hp → Prop} (h : TOf W c (dT d) σ H Q) : EOf W c d σ H fun x H' => ∃ k, x = .bl k ∧ Q k H' := by
  obtain ⟨D, env, S, p⟩ := h
  refine ⟨D, env, S, ?_⟩
  have p1 := PostE.bdT p
  revert p1
  cases d env with
  | stuck => exact fun z => z
  | exc y e => exact fun z => z
  | ok o1 e1 =>
    intro p1 v H1 D1 S1 s1 r1
    obtain ⟨D2, env2, o, S2, s2, r2, e, p2⟩ := p1 v H1 D1 S1 s1 r1
    cases e
    cases o1 with
    | sl i => exact p2.elim
    | gl n => exact p2.elim
    | d x =>
      cases x with
      | bool k =>
        have r2 : Rp D2 v (.bool k) := r2
        cases r2
        exact ⟨k, rfl, p2 H1 D2 S2 (Same.refl _)⟩
      | _ => exact p2.elim
theorem dt_cmp {op : CmpOp} (ho : OpR X (compareOp op) r) (lf : Lf c.K r g) (ha : PE X a (EOf W c da)) (hb : PE X b (EOf W c db)) (hm : behindInMarks op b = false) : PT X (.Compare a [op] [b] pos) (TOf W c (dT (dBin g da db))) :=
  (pt_cmpR ho ha hb hm).weak fun σ H Q h => bin_core lf (test_core h)
theorem dt_val {e : Expr} {d : DE} (h : PE X e (EOf W c d)) (he : ∀ whole, isTrue e X.env whole = (do let v ← whole; standAt e.pos; holding [v] (truthy v)) := by intro _; rfl) : PT X e (TOf W c (dT d)) :=
  (pt_val h he).weak fun σ H Q h => by
    have := test_core h
    exact this
end
def g2I (f : Int → Int → Option PyData) : PyData → PyData → Option PyData
  | .int i, .int j => f i j
  | _, _ => none
section
variable {K : PySem.W.Frag}
theorem lf_int {C : Int → Int → Prop} {h : Int → Int → V} {f : Int → Int → Option PyData} (hf : ∀ i j z, f i j = some z → C i j ∧ ∀ D, Rp D (h i j) z) : Lf KF.frag (rI C h) (g2I f) := by
  intro D H x y a b z Q s rx ry e q
  cases a <;> try (cases e; done)
  cases b <;> try (cases e; done)
  obtain ⟨h1, h2⟩ := hf _ _ _ e
  exact ⟨_, _, rx.int, ry.int, h1, q _ _ (.of (h2 D))⟩
theorem lf_int0 {h : Int → Int → V} {f : Int → Int → PyData} (hf : ∀ i j D, Rp D (h i j) (f i j)) : Lf KF.frag (rI0 h) (g2I fun i j => some (f i j)) := by
  intro D H x y a b z Q s rx ry e q
  cases a <;> try (cases e; done)
  cases b <;> try (cases e; done)
  cases e
  exact ⟨_, _, rx.int, ry.int, q _ _ (.of (hf _ _ D))⟩
def gAddI := g2I fun i j => some (.int (i + j))
def gSubI := g2I fun i j => some (.int (i - j))
def gMulI := g2I fun i j => if (-(2 ^ 64) < i ∧ i < 2 ^ 64) ∨ (-(2 ^ 64) < j ∧ j < 2 ^ 64) then some (.int (i * j)) else none
def gModI := g2I fun i j => if 0 < j then some (.int (i % j)) else none
def gDivI := g2I fun i j => if 0 < j ∧ j < 1073741824 then some (.int (i / j)) else none
def gPowI := g2I fun i j => if 0 ≤ j ∧ j ≤ 1000000 ∧ i.natAbs < 2 ^ 64 then some (.int (i ^ j.toNat)) else none
theorem lf_add : Lf KF.frag (rI0 fun i j => .int (i + j)) gAddI := lf_int0 fun _ _ _ => .int _
theorem lf_sub : Lf KF.frag (rI0 fun i j => .int (i - j)) gSubI := lf_int0 fun _ _ _ => .int _
theorem lf_mul : Lf KF.frag (rI CMul fun i j => .int (i * j)) gMulI := lf_int fun i j z e => by
  split at e
  · rename_i h; cases e; exact ⟨h, fun _ => .int _⟩
  · cases e
theorem lf_mod : Lf KF.frag (rI (fun _ j => 0 < j) fun i j => .int (i % j)) gModI := lf_int fun i j z e => by
  split at e
  · rename_i h; cases e; exact ⟨h, fun _ => .int _⟩
  · cases e
theorem lf_div : Lf KF.frag (rI CDiv fun i j => .int (i / j)) gDivI := lf_int fun i j z e => by
  split at e
  · rename_i h; cases e; exact ⟨h, fun _ => .int _⟩
  · cases e
theorem lf_pow : Lf KF.frag (rI CPow fun i j => .int (i ^ j.toNat)) gPowI := lf_int fun i j z e => by
  split at e
  · rename_i h; cases e; exact ⟨h, fun _ => .int _⟩
  · cases e
def gLtI := g2I fun i j => some (.bool (decide (i < j)))
def gLeI := g2I fun i j => some (.bool (decide (i ≤ j)))
def gGtI := g2I fun i j => some (.bool (decide (j < i)))
def gGeI := g2I fun i j => some (.bool (decide (j ≤ i)))
theorem lf_lt : Lf KF.frag (rI0 fun i j => .bl (decide (i < j))) gLtI := lf_int0 fun _ _ _ => .bl _
theorem lf_le : Lf KF.frag (rI0 fun i j => .bl (decide (i ≤ j))) gLeI := lf_int0 fun _ _ _ => .bl _
theorem lf_gt : Lf KF.frag (rI0 fun i j => .bl (decide (j < i))) gGtI := lf_int0 fun _ _ _ => .bl _
theorem lf_ge : Lf KF.frag (rI0 fun i j => .bl (decide (j ≤ i))) gGeI := lf_int0 fun _ _ _ => .bl _
/-- == of two texts, two numbers (of any size), and of data -/
def gEq : PyData → PyData → Option PyData
  | .str x, .str y => some (.bool (decide (x = y)))
  | .int x, .int y => some (.bool (decide (x = y)))
  | a, b => if SeqAt.shaped a && SeqAt.shaped b then some (.bool (PyData.eqv a b)) else none
def gNe : PyData → PyData → Option PyData
  | .str x, .str y => some (.bool (!decide (x = y)))
  | .int x, .int y => some (.bool (!decide (x = y)))
  | a, b => if SeqAt.shaped a && SeqAt.shaped b then some (.bool (!PyData.eqv a b)) else none
def rEqA (K : PySem.W.Frag) : R2 := fun x y H Q => rEq x y H Q ∨ rEqD K x y H Q
def rNeA (K : PySem.W.Frag) : R2 := fun x y H Q => rNe x y H Q ∨ rNeD K x y H Q
theorem op_eqA {X : Cx} (hu : X.A.units + 64 < cLine) : OpR X (compareOp .Eq) (rEqA X.K) := by
  intro pins s σ H x y v u Q I rx ry h
  rcases h with h | h
  · exact op_eq pins s σ H x y v u Q I rx ry h
  · exact op_eqD hu pins s σ H x y v u Q I rx ry h
theorem op_neA {X : Cx} (hu : X.A.units + 64 < cLine) : OpR X (compareOp .NotEq) (rNeA X.K) := by
  intro pins s σ H x y v u Q I rx ry h
  rcases h with h | h
  · exact op_ne pins s σ H x y v u Q I rx ry h
  · exact op_neD hu pins s σ H x y v u Q I rx ry h
theorem dec_vstr {i j : Str} : decide (V.str i = V.str j) = decide (i = j) := decide_eq_decide.mpr ⟨fun h => V.str.inj h, fun h => congrArg V.str h⟩
theorem dec_vint {i j : Int} : decide (V.int i = V.int j) = decide (i = j) := decide_eq_decide.mpr ⟨fun h => V.int.inj h, fun h => congrArg V.int h⟩
theorem lf_eq : Lf KF.frag (rEqA KF.frag) gEq := by
  intro D H x y a b z Q s rx ry e q
  unfold gEq at e
  split at e
  · cases e
    rw [rx.str, ry.str]
    refine .inl ⟨rfl, ?_⟩
    rw [dec_vstr]
    exact q _ _ (.of (.bl _))
  · cases e
    rw [rx.int, ry.int]
    refine .inl ⟨rfl, ?_⟩
    rw [dec_vint]
    exact q _ _ (.of (.bl _))
  · split at e
    · rename_i h
      rw [Bool.and_eq_true] at h
      cases e
      exact .inr ⟨_, _, rx.dp s, ry.dp s, h.1, h.2, q _ _ (.of (.bl _))⟩
    · cases e
theorem lf_ne : Lf KF.frag (rNeA KF.frag) gNe := by
  intro D H x y a b z Q s rx ry e q
  unfold gNe at e
  split at e
  · cases e
    rw [rx.str, ry.str]
    refine .inl ⟨rfl, ?_⟩
    rw [dec_vstr]
    exact q _ _ (.of (.bl _))
  · cases e
    rw [rx.int, ry.int]
    refine .inl ⟨rfl, ?_⟩
    rw [dec_vint]
    exact q _ _ (.of (.bl _))
  · split at e
    · rename_i h
      rw [Bool.and_eq_true] at h
      cases e
      exact .inr ⟨_, _, rx.dp s, ry.dp s, h.1, h.2, q _ _ (.of (.bl _))⟩
    · cases e
def gIsN : PyData → PyData → Option PyData
  | .none, .none => some (.bool true)
  | .bool _, .none | .int _, .none | .str _, .none | .list _, .none | .tuple _, .none => some (.bool false)
  | _, _ => none
def gNotN : PyData → PyData → Option PyData
  | .none, .none => some (.bool false)
  | .bool _, .none | .int _, .none | .str _, .none | .list _, .none | .tuple _, .none => some (.bool true)
  | _, _ => none
theorem lf_isN : Lf KF.frag (fun x y H Q => y = .non ∧ Q (.bl (decide (x = .non))) H) gIsN := by
  intro D H x y a b z Q s rx ry e q
  cases b <;> try (cases a <;> cases e; done)
  refine ⟨ry.non, ?_⟩
  have h := rx.isNon
  cases a <;> cases e <;> simp only [h, reduceCtorEq, decide_true, decide_false] <;> exact q _ _ (.of (.bl _))
theorem lf_notN : Lf KF.frag (fun x y H Q => y = .non ∧ Q (.bl (!decide (x = .non))) H) gNotN := by
  intro D H x y a b z Q s rx ry e q
  cases b <;> try (cases a <;> cases e; done)
  refine ⟨ry.non, ?_⟩
  have h := rx.isNon
  cases a <;> cases e <;> simp only [h, reduceCtorEq, decide_true, decide_false, Bool.not_true, Bool.not_false] <;> exact q _ _ (.of (.bl _))
end
end L2.Dl

namespace L2.Dl
open PySem
open PySem.Spec
open PyProof.Rows
variable [KF]

def gInT (a b : PyData) : Option Bool :=
  if SeqAt.shaped a && SeqAt.shaped b then match b with
    | .list ds => some (ds.any fun z => PyData.eqv z a)
    | .tuple ds => some (ds.any fun z => PyData.eqv z a)
    | _ => none
  else none
def gInB : PyData → PyData → Option Bool
  | .str x, .str z => match x.cps.toList with
    | [c] => some (decide (c ∈ z.cps.toList))
    | _ => none
  | a, b => gInT a b
def gIn (a b : PyData) : Option PyData := (gInB a b).map .bool
def gNotIn (a b : PyData) : Option PyData := (gInB a b).map fun z => .bool (!z)
def rSgn (z : Bool) : R2 := fun x y H Q => ∃ (c : Nat) (t : Str), x = .str ⟨#[c]⟩ ∧ y = .str t ∧ Q (.bl (decide (c ∈ t.cps.toList) != z)) H
def rInA (K : PySem.W.Frag) : R2 := fun x y H Q => rSgn false x y H Q ∨ ∃ d e z, Dp K H x d ∧ Dp K H y e ∧ gInT d e = some z ∧ Q (.bl z) H
def rNotInA (K : PySem.W.Frag) : R2 := fun x y H Q => rSgn true x y H Q ∨ ∃ d e z, Dp K H x d ∧ Dp K H y e ∧ gInT d e = some z ∧ Q (.bl (!z)) H
section
variable {X : Cx}
theorem op_inA (hu : X.A.units + 65 < cLine) : OpR X (compareOp .In) (rInA X.K) := by
  intro pins s σ H x y v u Q I rx ry h
  rcases h with ⟨c, t, h1, h2, q⟩ | ⟨d, e, z, hd, he, g, q⟩
  · refine op_in_sign pins s σ H x y v u Q I rx ry ⟨c, t, h1, h2, ?_⟩
    rw [show (decide (c ∈ t.cps.toList) != false) = decide (c ∈ t.cps.toList) by cases decide (c ∈ t.cps.toList) <;> rfl] at q
    exact q
  obtain ⟨as, r1⟩ := Dp.reads I d x v hd rx
  obtain ⟨bs, r2⟩ := Dp.reads I e y u he ry
  unfold gInT at g
  split at g
  · rename_i hs
    rw [Bool.and_eq_true] at hs
    split at g
    · cases g
      exact SeqAt.in_list_reads r2 r1 (SeqAt.canLay_of_shaped hs.2) (SeqAt.canLay_of_shaped hs.1) (room_in_shaped hs.1 hu) ⟨.bl _, H, I, rfl, q⟩
    · cases g
      exact SeqAt.in_tuple_reads r2 r1 (SeqAt.canLay_of_shaped hs.2) (SeqAt.canLay_of_shaped hs.1) (room_in_shaped hs.1 hu) ⟨.bl _, H, I, rfl, q⟩
    · cases g
  · cases g
theorem op_notInA (hu : X.A.units + 65 < cLine) : OpR X (compareOp .NotIn) (rNotInA X.K) := by
  intro pins s σ H x y v u Q I rx ry h
  rcases h with ⟨c, t, h1, h2, q⟩ | ⟨d, e, z, hd, he, g, q⟩
  · refine op_notIn_sign pins s σ H x y v u Q I rx ry ⟨c, t, h1, h2, ?_⟩
    rw [show (decide (c ∈ t.cps.toList) != true) = !decide (c ∈ t.cps.toList) by cases decide (c ∈ t.cps.toList) <;> rfl] at q
    exact q
  obtain ⟨as, r1⟩ := Dp.reads I d x v hd rx
  obtain ⟨bs, r2⟩ := Dp.reads I e y u he ry
  unfold gInT at g
  split at g
  · rename_i hs
    rw [Bool.and_eq_true] at hs
    split at g
    · cases g
      exact SeqAt.notIn_list_reads r2 r1 (SeqAt.canLay_of_shaped hs.2) (SeqAt.canLay_of_shaped hs.1) (room_in_shaped hs.1 hu) ⟨.bl _, H, I, rfl, q⟩
    · cases g
      exact SeqAt.notIn_tuple_reads r2 r1 (SeqAt.canLay_of_shaped hs.2) (SeqAt.canLay_of_shaped hs.1) (room_in_shaped hs.1 hu) ⟨.bl _, H, I, rfl, q⟩
    · cases g
  · cases g
end
section
variable {K : PySem.W.Frag}
theorem gIn_bool {a b z : PyData} (h : gIn a b = some z) : ∃ k, z = .bool k := by
  unfold gIn at h
  cases g : gInB a b with
  | none => rw [g] at h; cases h
  | some k => rw [g] at h; cases h; exact ⟨_, rfl⟩
theorem gNotIn_bool {a b z : PyData} (h : gNotIn a b = some z) : ∃ k, z = .bool k := by
  unfold gNotIn at h
  cases g : gInB a b with
  | none => rw [g] at h; cases h
  | some k => rw [g] at h; cases h; exact ⟨_, rfl⟩
theorem sgn_of {x : Str} {c : Nat} (h : x.cps.toList = [c]) : x = ⟨#[c]⟩ := by
  cases x with
  | mk a => congr 1; exact Array.toList_inj.mp h
theorem lf_in : Lf KF.frag (rInA KF.frag) gIn := by
  intro D H x y a b z Q s rx ry e q
  unfold gIn at e
  cases g : gInB a b with
  | none => rw [g] at e; cases e
  | some k =>
    rw [g] at e
    cases e
    unfold gInB at g
    split at g
    · split at g
      · rename_i c hc
        cases g
        have := sgn_of hc
        subst this
        refine .inl ⟨c, _, rx.str, ry.str, ?_⟩
        refine q _ _ (.of (.bl _)) |> fun h => ?_
        simpa using h
      · cases g
    · exact .inr ⟨a, b, k, rx.dp s, ry.dp s, g, q _ _ (.of (.bl _))⟩
theorem lf_notIn : Lf KF.frag (rNotInA KF.frag) gNotIn := by
  intro D H x y a b z Q s rx ry e q
  unfold gNotIn at e
  cases g : gInB a b with
  | none => rw [g] at e; cases e
  | some k =>
    rw [g] at e
    cases e
    unfold gInB at g
    split at g
    · split at g
      · rename_i c hc
        cases g
        have := sgn_of hc
        subst this
        refine .inl ⟨c, _, rx.str, ry.str, ?_⟩
        refine q _ _ (.of (.bl _)) |> fun h => ?_
        simpa using h
      · cases g
    · exact .inr ⟨a, b, k, rx.dp s, ry.dp s, g, q _ _ (.of (.bl _))⟩

abbrev lenB : Nat := 1000000
theorem lenB_le {n : Nat} (h : n ≤ lenB) : n ≤ sizeLine := by
  rw [sizeLine_eq]
  exact Nat.le_trans h (by decide)
def gAdd : PyData → PyData → Option PyData
  | .int i, .int j => some (.int (i + j))
  | .str i, .str j => if i.length + j.length ≤ lenB then some (.str (i ++ j)) else none
  | .tuple xs, .tuple ys => if xs.length + ys.length ≤ lenB then some (.tuple (xs ++ ys)) else none
  | .list xs, .list ys => if xs.length + ys.length ≤ lenB then some (.list (xs ++ ys)) else none
  | _, _ => none
def rAddA (K : PySem.W.Frag) : R2 := fun x y H Q => rI0 (fun i j => .int (i + j)) x y H Q ∨
  (∃ i j, x = .str i ∧ y = .str j ∧ i.length + j.length ≤ sizeLine ∧ Q (.str (i ++ j)) H) ∨ rCatA K x y H Q ∨ rCat x y H Q
theorem op_addA {X : Cx} : OpR X (binaryOp .Add) (rAddA X.K) := by
  intro pins s σ H x y v u Q I rx ry h
  rcases h with h | h | h | h
  · exact op_add pins s σ H x y v u Q I rx ry h
  · exact op_add_str pins s σ H x y v u Q I rx ry h
  · exact op_catA pins s σ H x y v u Q I rx ry h
  · exact op_cat pins s σ H x y v u Q I rx ry h
theorem lf_addA : Lf KF.frag (rAddA KF.frag) gAdd := by
  intro D H x y a b z Q s rx ry e q
  unfold gAdd at e
  split at e
  · cases e
    exact .inl ⟨_, _, rx.int, ry.int, q _ _ (.of (.int _))⟩
  · split at e
    · rename_i h
      cases e
      exact .inr (.inl ⟨_, _, rx.str, ry.str, lenB_le h, q _ _ (.of (.str _))⟩)
    · cases e
  · split at e
    · rename_i xs ys h
      cases e
      obtain ⟨rx', p, vs, rfl, hp, rp⟩ := rx.tup
      obtain ⟨ry', p', ws, rfl, hp', rp'⟩ := ry.tup
      refine .inr (.inr (.inl ⟨p, p', vs, ws, rfl, rfl, hp.same s, hp'.same s, ?_, fun e => ?_, fun _ e => ?_, fun _ _ n hn => ?_⟩))
      · rw [rp.length, rp'.length]; exact lenB_le h
      · subst e
        cases rp
        exact q _ _ (.of ry')
      · subst e
        cases rp'
        rw [List.append_nil] at q
        exact q _ _ (.of rx')
      · exact q _ _ (.tup hn (rp.append rp'))
    · cases e
  · split at e
    · rename_i xs ys h
      cases e
      obtain ⟨p, vs, rfl, hp, rp⟩ := rx.lst s
      obtain ⟨p', ws, rfl, hp', rp'⟩ := ry.lst s
      refine .inr (.inr (.inr ⟨p, p', vs, ws, rfl, rfl, hp, hp', ?_, fun n hn => q _ _ (.lst hn (rp.append rp'))⟩))
      rw [rp.length, rp'.length]; exact lenB_le h
    · cases e
  · cases e
end

def dVar (i : Nat) : DE := fun env => match env[i]? with
  | some (.v d) => .ok (.d d) env
  | some (.own _ _) => .ok (.sl i) env
  | some (.dct _ _) => .ok (.sl i) env
  | some (.ro _) => .ok (.sl i) env
  | some (.gl n) => .ok (.gl n) env
  | _ => .stuck
def dC (x : PyData) : DE := fun env => .ok (.d x) env
def dGl (n : Str) : DE := fun env => .ok (.gl n) env
section
variable {X : Cx} {W : WX} {c : Cf} {pos : Pos}
theorem de_var {i : Nat} {x : Str} (hN : X.N[i]? = some x) (hv : Vis X.env.scope x) (hd : (x == ("__debug__" : Str)) = false := by decide) (hcd : (x == ("__classdict__" : Str)) = false := by decide) : PE X (.Name x pos) (EOf W c (dVar i)) :=
  (pe_var hN hv hd hcd).weak fun σ H Q ⟨D, env, S, p⟩ => by
    have hj : ∀ {v : V}, (σ[i]?).join = some v → σ[i]? = some (some v) := fun {v} h => by
      cases q : σ[i]? with
      | none => rw [q] at h; cases h
      | some w => rw [q] at h; cases w <;> first | (cases h; rfl) | cases h
    unfold dVar at p
    split at p
    · rename_i d e
      obtain ⟨v, h1, h2⟩ := S.slot i _ e
      exact ⟨v, hj h1, p v H D S (Same.refl _) h2⟩
    · rename_i b xs e
      obtain ⟨a, vs, h1, h2⟩ := S.slot i _ e
      exact ⟨_, hj h1, p _ H D S (Same.refl _) h1⟩
    · rename_i b xs e
      obtain ⟨a, h1, h2⟩ := S.slot i _ e
      exact ⟨_, hj h1, p _ H D S (Same.refl _) h1⟩
    · rename_i xs e
      obtain ⟨a, vs, h1, h2⟩ := S.slot i _ e
      exact ⟨_, hj h1, p _ H D S (Same.refl _) h1⟩
    · rename_i n e
      obtain ⟨f, h1, h2⟩ := S.slot i _ e
      exact ⟨_, hj h1, p _ H D S (Same.refl _) ⟨f, rfl, h2⟩⟩
    · exact p.elim
theorem de_int {i : Int} {j pos} : PE X (.Constant (.int i) j pos) (EOf W c (dC (.int i))) := pe_int.weak fun σ H Q ⟨D, env, S, p⟩ => p _ H D S (Same.refl _) (.int i)
theorem de_bl {b : Bool} {j pos} : PE X (.Constant (.bool b) j pos) (EOf W c (dC (.bool b))) := pe_bl.weak fun σ H Q ⟨D, env, S, p⟩ => p _ H D S (Same.refl _) (.bl b)
theorem de_non {j pos} : PE X (.Constant .none j pos) (EOf W c (dC .none)) := pe_non.weak fun σ H Q ⟨D, env, S, p⟩ => p _ H D S (Same.refl _) .non
theorem de_str {x : Str} {j pos} : PE X (.Constant (.str x) j pos) (EOf W c (dC (.str x))) := pe_str.weak fun σ H Q ⟨D, env, S, p⟩ => p _ H D S (Same.refl _) (.str x)
/-- a def or a class of the module as a value -/
theorem de_gl {x : Str} {f : Addr} (hg : Gl X x) (hm : X.mg x = some (.ref f)) (hc : c.mg = X.mg) (hd : (x == ("__debug__" : Str)) = false := by decide) : PE X (.Name x pos) (EOf W c (dGl x)) :=
  (pe_glob (v := .ref f) hg hm rfl hd).weak fun σ H Q ⟨D, env, S, p⟩ => p _ H D S (Same.refl _) ⟨f, rfl, by rw [hc]; exact hm⟩
/-- a number, a text of the module -/
theorem de_glI {x : Str} {i : Int} {t : Tok} (hg : Gl X x) (hm : X.mg x = some (.int i t)) (hd : (x == ("__debug__" : Str)) = false := by decide) : PE X (.Name x pos) (EOf W c (dC (.int i))) :=
  (pe_glob (v := .int i) hg hm ⟨t, rfl⟩ hd).weak fun σ H Q ⟨D, env, S, p⟩ => p _ H D S (Same.refl _) (.int i)
theorem de_glS {x : Str} {i : Str} {t : Tok} (hg : Gl X x) (hm : X.mg x = some (.str i t)) (hd : (x == ("__debug__" : Str)) = false := by decide) : PE X (.Name x pos) (EOf W c (dC (.str i))) :=
  (pe_glob (v := .str i) hg hm ⟨t, rfl⟩ hd).weak fun σ H Q ⟨D, env, S, p⟩ => p _ H D S (Same.refl _) (.str i)
end
def dANil : Nv → Res (List OV) := fun env => .ok [] env
def dACons (d : DE) (r : Nv → Res (List OV)) : Nv → Res (List OV) := fun env => (d env).bd fun o e1 => (r e1).bd fun os e2 => .ok (o :: os) e2
section
variable {X : Cx} {W : WX} {c : Cf} {pos : Pos} {e : Expr} {es : List Expr} {d : DE} {r : Nv → Res (List OV)}
theorem da_nil : PA X [] (AOf W c dANil) := pa_nil.weak fun σ H Q ⟨D, env, S, p⟩ => p _ H D S (Same.refl _) .nil
theorem da_cons (he : PE X e (EOf W c d)) (hr : PA X es (AOf W c r)) (hs : starEach (e :: es) X.env = (false, eval e X.env) :: starEach es X.env := by rfl) : PA X (e :: es) (AOf W c (dACons d r)) :=
  (pa_cons he hr hs).weak fun σ H Q ⟨D, env, S, p⟩ => by
    refine ⟨D, env, S, ?_⟩
    have p1 := PostE.bdA p
    revert p1
    cases d env with
    | stuck => exact fun z => z
    | exc y e => exact fun z => z
    | ok o1 e1 =>
      intro p1 v H1 D1 S1 s1 r1
      obtain ⟨D2, env2, o, S2, s2, r2, e, p2⟩ := p1 v H1 D1 S1 s1 r1
      cases e
      refine ⟨D2, e1, S2, ?_⟩
      have p3 := PostA.bdA p2
      revert p3
      cases r e1 with
      | stuck => exact fun z => z
      | exc y e => exact fun z => z
      | ok o2 e2 =>
        intro p3 w H3 D3 S3 s3 r3
        obtain ⟨D4, env4, o4, S4, s4, r4, e, p4⟩ := p3 w H3 D3 S3 s3 r3
        cases e
        exact p4 _ H3 D4 S4 (Same.refl _) (.cons (r2.mono s4) r4)
end
def pinAll : List OV → Nv → Option (List PyData × Nv)
  | [], e => some ([], e)
  | o :: r, e => match pinOV e o with
    | none => none
    | some (x, e1) => match pinAll r e1 with
      | none => none
      | some (xs, e2) => some (x :: xs, e2)
theorem Sim.pinAll {c : Cf} {σ : St} {H : Hp} : ∀ {os : List OV} {D : Hp} {env env' : Nv} {vs : List V} {xs : List PyData}, Sim c D env σ H → OVRL c D σ vs os → Dl.pinAll os env = some (xs, env') → ∃ D', Sim c D' env' σ H ∧ Same D D' ∧ RpL D' vs xs
  | [], D, env, env', vs, xs, S, r, g => by
    cases r
    cases g
    exact ⟨D, S, Same.refl _, .nil⟩
  | o :: os, D, env, env', vs, xs, S, r, g => by
    cases r with
    | cons r1 r2 =>
      unfold Dl.pinAll at g
      split at g
      · cases g
      · rename_i x e1 h1
        split at g
        · cases g
        · rename_i ys e2 h2
          cases g
          obtain ⟨D1, S1, s1, q1⟩ := S.pin r1 h1
          obtain ⟨D2, S2, s2, q2⟩ := S1.pinAll (r2.mono s1) h2
          exact ⟨D2, S2, s1.trans s2, .cons (q1.mono s2) q2⟩
def tupOf (os : List OV) (e : Nv) : Res OV := match pinAll os e with
  | some (xs, e') => if xs.length ≤ lenB then .ok (.d (.tuple xs)) e' else .stuck
  | none => .stuck
def lstOf (os : List OV) (e : Nv) : Res (List PyData) := match pinAll os e with
  | some (xs, e') => if xs.length ≤ lenB then .ok xs e' else .stuck
  | none => .stuck
def dTup (r : Nv → Res (List OV)) : DE := fun env => (r env).bd tupOf
def dLst (r : Nv → Res (List OV)) : DL := fun env => (r env).bd lstOf
/-- a new list that stays as it is -/
def dFz (l : DL) : DE := fun env => (l env).bd fun xs e => .ok (.d (.list xs)) e
section
variable {X : Cx} {W : WX} {c : Cf} {pos : Pos} {e : Expr} {es : List Expr} {d : DE} {r : Nv → Res (List OV)}
theorem de_tup {x1} (h : PA X es (AOf W c r)) : PE X (.Tuple es x1 pos) (EOf W c (dTup r)) :=
  (pe_tup h).weak fun σ H Q ⟨D, env, S, p⟩ => by
    refine ⟨D, env, S, ?_⟩
    have p1 := PostA.bd p
    revert p1
    cases r env with
    | stuck => exact fun z => z
    | exc y e => exact fun z => z
    | ok o1 e1 =>
      intro p1 v H1 D1 S1 s1 r1
      obtain ⟨D2, env2, o, S2, s2, r2, e, p2⟩ := p1 v H1 D1 S1 s1 r1
      cases e
      unfold tupOf at p2
      split at p2
      · rename_i xs e' hp
        obtain ⟨D3, S3, s3, r3⟩ := S2.pinAll r2 hp
        split at p2
        · rename_i hl
          refine ⟨by rw [r3.length]; exact lenB_le hl, fun q hq => ?_⟩
          have hqD : D3 q = none := S3.dh.free hq
          exact p2 _ _ _ (S3.laid hq _) (s3.trans (same_upd' hqD)) (.tup upd_same (r3.mono (same_upd' hqD)))
        · exact p2.elim
      · exact p2.elim
theorem dl_lst (h : PA X es (AOf W c r)) : PE X (.List es pos) (LOf W c (dLst r)) :=
  (pe_lst h).weak fun σ H Q ⟨D, env, S, p⟩ => by
    refine ⟨D, env, S, ?_⟩
    have p1 := PostA.bdL p
    revert p1
    cases r env with
    | stuck => exact fun z => z
    | exc y e => exact fun z => z
    | ok o1 e1 =>
      intro p1 v H1 D1 S1 s1 r1
      obtain ⟨D2, env2, o, S2, s2, r2, e, p2⟩ := p1 v H1 D1 S1 s1 r1
      cases e
      unfold lstOf at p2
      split at p2
      · rename_i xs e' hp
        obtain ⟨D3, S3, s3, r3⟩ := S2.pinAll r2 hp
        split at p2
        · rename_i hl
          exact ⟨by rw [r3.length]; exact lenB_le hl, fun q hq => p2 q _ _ _ S3 s3 hq r3⟩
        · exact p2.elim
      · exact p2.elim
theorem de_fz {l : DL} (h : PE X e (LOf W c l)) : PE X e (EOf W c (dFz l)) :=
  h.weak fun σ H Q ⟨D, env, S, p⟩ => by
    refine ⟨D, env, S, ?_⟩
    unfold dFz at p
    cases g : l env with
    | stuck => rw [g] at p; exact p
    | exc y e => rw [g] at p; exact p
    | ok xs e1 =>
      rw [g] at p
      intro q vs H1 D1 S1 s1 hq r1
      have hqD : D1 q = none := S1.dh.free hq
      exact p _ _ _ (S1.laid hq _) (s1.trans (same_upd' hqD)) (.lst upd_same (r1.mono (same_upd' hqD)))
end
end L2.Dl

namespace L2.Dl
open PySem
open PySem.Spec
open PyProof.Rows
variable [KF]

def dNotT (t : DT) : DT := fun env => (t env).bd fun b e => .ok (!b) e
def dAndT (t u : DT) : DT := fun env => (t env).bd fun b e => if b = true then u e else .ok false e
def dOrT (t u : DT) : DT := fun env => (t env).bd fun b e => if b = true then .ok true e else u e
def dIfE (t : DT) (a b : DE) : DE := fun env => (t env).bd fun k e => if k = true then a e else b e
def boolE (k : Bool) (e : Nv) : Res OV := .ok (.d (.bool k)) e
def dNot (d : DE) : DE := fun env => (dT d env).bd fun b e => boolE (!b) e
def dAnd (a b : DE) : DE := fun env => (dT a env).bd fun k e => if k = true then b e else boolE false e
def dOr (a b : DE) : DE := fun env => (dT a env).bd fun k e => if k = true then boolE true e else b e
section
variable {X : Cx} {W : WX} {c : Cf} {pos : Pos} {a b : Expr} {rest : List Expr} {t u : DT} {da db : DE}
theorem postT_ok {D : Hp} {env : Nv} {σ : St} {k : Bool} {Q : Bool → Hp → Prop} {H : Hp} (S : Sim c D env σ H) (p : PostT W c D σ Q (.ok k env)) : Q k H := p H D S (Same.refl _)
theorem dt_not (ha : PT X a (TOf W c t)) : PT X (.UnaryOp .Not a pos) (TOf W c (dNotT t)) :=
  (pt_not ha).weak fun σ H Q ⟨D, env, S, p⟩ => by
    refine ⟨D, env, S, ?_⟩
    have p1 := PostT.bdT p
    revert p1
    cases t env with
    | stuck => exact fun z => z
    | exc y e => exact fun z => z
    | ok k e1 =>
      intro p1 H1 D1 S1 s1
      obtain ⟨D2, env2, S2, s2, e, p2⟩ := p1 H1 D1 S1 s1
      cases e
      exact postT_ok S2 p2
theorem and_core {σ : St} {H : Hp} {Q : Bool → Hp → Prop} (h : TOf W c (dAndT t u) σ H Q) : tAnd (TOf W c t) (TOf W c u) σ H Q := by
  obtain ⟨D, env, S, p⟩ := h
  refine ⟨D, env, S, ?_⟩
  have p1 := PostT.bdT p
  revert p1
  cases t env with
  | stuck => exact fun z => z
  | exc y e => exact fun z => z
  | ok k e1 =>
    intro p1 H1 D1 S1 s1
    obtain ⟨D2, env2, S2, s2, e, p2⟩ := p1 H1 D1 S1 s1
    cases e
    cases k with
    | true => exact iteT ⟨D2, e1, S2, p2⟩
    | false => exact iteF (postT_ok S2 p2)
theorem or_core {σ : St} {H : Hp} {Q : Bool → Hp → Prop} (h : TOf W c (dOrT t u) σ H Q) : tOr (TOf W c t) (TOf W c u) σ H Q := by
  obtain ⟨D, env, S, p⟩ := h
  refine ⟨D, env, S, ?_⟩
  have p1 := PostT.bdT p
  revert p1
  cases t env with
  | stuck => exact fun z => z
  | exc y e => exact fun z => z
  | ok k e1 =>
    intro p1 H1 D1 S1 s1
    obtain ⟨D2, env2, S2, s2, e, p2⟩ := p1 H1 D1 S1 s1
    cases e
    cases k with
    | false => exact iteF ⟨D2, e1, S2, p2⟩
    | true => exact iteT (postT_ok S2 p2)
theorem _root_.L2.PW.weak {e : Expr} {t t' : TT} (h : PW X e t) (w : ∀ σ H Q, t' σ H Q → t σ H Q) : PW X e t' := ⟨fun wh pins s σ H Q I q => h.run wh pins s σ H Q I (w σ H Q q)⟩
theorem dw_and1 (ha : PT X a (TOf W c t)) : PW X (.BoolOp .And [a] pos) (TOf W c t) := pw_and1 ha
theorem dw_or1 (ha : PT X a (TOf W c t)) : PW X (.BoolOp .Or [a] pos) (TOf W c t) := pw_or1 ha
theorem dw_and (ha : PT X a (TOf W c t)) (hb : PW X (.BoolOp .And (b :: rest) pos) (TOf W c u)) : PW X (.BoolOp .And (a :: b :: rest) pos) (TOf W c (dAndT t u)) := (pw_and ha hb).weak fun _ _ _ => and_core
theorem dw_or (ha : PT X a (TOf W c t)) (hb : PW X (.BoolOp .Or (b :: rest) pos) (TOf W c u)) : PW X (.BoolOp .Or (a :: b :: rest) pos) (TOf W c (dOrT t u)) := (pw_or ha hb).weak fun _ _ _ => or_core
theorem de_ifE (hc : PT X (a) (TOf W c t)) {e1 e2 : Expr} (ha : PE X e1 (EOf W c da)) (hb : PE X e2 (EOf W c db)) : PE X (.IfExp a e1 e2 pos) (EOf W c (dIfE t da db)) :=
  (pe_ifExp hc ha hb).weak fun σ H Q ⟨D, env, S, p⟩ => by
    refine ⟨D, env, S, ?_⟩
    have p1 := PostT.bd p
    revert p1
    cases t env with
    | stuck => exact fun z => z
    | exc y e => exact fun z => z
    | ok k e1 =>
      intro p1 H1 D1 S1 s1
      obtain ⟨D2, env2, S2, s2, e, p2⟩ := p1 H1 D1 S1 s1
      cases e
      cases k with
      | true => exact iteT ⟨D2, e1, S2, p2⟩
      | false => exact iteF ⟨D2, e1, S2, p2⟩
/-- the value of a bool expression, then by cases -/
theorem val_core {d : DE} {k : Bool → Nv → Res OV} {σ : St} {H : Hp} {Q : VK} {D : Hp} {env : Nv} (S : Sim c D env σ H) (p : PostE W c D σ Q ((dT d env).bd k)) :
    EOf W c d σ H fun x H1 => ∃ b, x = .bl b ∧ ∃ D1 e1, Sim c D1 e1 σ H1 ∧ PostE W c D1 σ Q (k b e1) := by
  refine ⟨D, env, S, ?_⟩
  unfold dT at p
  cases g : d env with
  | stuck => rw [g] at p; exact p
  | exc y e => rw [g] at p; exact p
  | ok o e1 =>
    rw [g] at p
    intro v H1 D1 S1 s1 r1
    cases o with
    | sl i => exact p.elim
    | gl n => exact p.elim
    | d x =>
      cases x with
      | bool b =>
        have r1 : Rp D1 v (.bool b) := r1
        cases r1
        exact ⟨b, rfl, D1, e1, S1, PostE.mono (Q := Q) p s1⟩
      | _ => exact p.elim
theorem de_not (ha : PE X a (EOf W c da)) : PE X (.UnaryOp .Not a pos) (EOf W c (dNot da)) :=
  (pe_not ha).weak fun σ H Q ⟨D, env, S, p⟩ => by
    obtain ⟨D', env', S', q⟩ := val_core S p
    refine ⟨D', env', S', ?_⟩
    revert q
    cases da env' with
    | stuck => exact fun z => z
    | exc y e => exact fun z => z
    | ok o e1 =>
      intro q v H1 D1 S1 s1 r1
      obtain ⟨b, rfl, D2, e2, S2, p2⟩ := q v H1 D1 S1 s1 r1
      exact ⟨b, rfl, p2 _ H1 D2 S2 (Same.refl _) (.bl _)⟩
theorem de_one {op} (h : PE X a (EOf W c da)) : PE X (.BoolOp op [a] pos) (EOf W c da) := pe_one h
theorem de_and (ha : PE X a (EOf W c da)) (hb : PE X (.BoolOp .And (b :: rest) pos) (EOf W c db)) : PE X (.BoolOp .And (a :: b :: rest) pos) (EOf W c (dAnd da db)) :=
  (pe_and ha hb).weak fun σ H Q ⟨D, env, S, p⟩ => by
    obtain ⟨D', env', S', q⟩ := val_core S p
    refine ⟨D', env', S', ?_⟩
    revert q
    cases da env' with
    | stuck => exact fun z => z
    | exc y e => exact fun z => z
    | ok o e1 =>
      intro q v H1 D1 S1 s1 r1
      obtain ⟨b, rfl, D2, e2, S2, p2⟩ := q v H1 D1 S1 s1 r1
      refine ⟨b, rfl, ?_⟩
      cases b with
      | true => exact iteT ⟨D2, e2, S2, p2⟩
      | false => exact iteF (p2 _ H1 D2 S2 (Same.refl _) (.bl _))
theorem de_or (ha : PE X a (EOf W c da)) (hb : PE X (.BoolOp .Or (b :: rest) pos) (EOf W c db)) : PE X (.BoolOp .Or (a :: b :: rest) pos) (EOf W c (dOr da db)) :=
  (pe_or ha hb).weak fun σ H Q ⟨D, env, S, p⟩ => by
    obtain ⟨D', env', S', q⟩ := val_core S p
    refine ⟨D', env', S', ?_⟩
    revert q
    cases da env' with
    | stuck => exact fun z => z
    | exc y e => exact fun z => z
    | ok o e1 =>
      intro q v H1 D1 S1 s1 r1
      obtain ⟨b, rfl, D2, e2, S2, p2⟩ := q v H1 D1 S1 s1 r1
      refine ⟨b, rfl, ?_⟩
      cases b with
      | false => exact iteF ⟨D2, e2, S2, p2⟩
      | true => exact iteT (p2 _ H1 D2 S2 (Same.refl _) (.bl _))
end
/-- a one-place operation's leaf -/
def Lf1 (r : V → Hp → VK → Prop) (g : PyData → Option PyData) : Prop :=
  ∀ (D H : Hp) (x : V) (a z : PyData) (Q : VK), Same D H → Rq D H x a → g a = some z → (∀ v H', NewR D H v z H' → Q v H') → r x H Q
def dUn (g : PyData → Option PyData) (da : DE) : DE := fun env => (da env).bd fun a e1 =>
  match getOV e1 a with
  | some x => match g x with
    | some z => .ok (.d z) e1
    | none => .stuck
  | none => .stuck
section
variable {X : Cx} {W : WX} {c : Cf} {pos : Pos} {a b : Expr} {da db : DE} {g : PyData → Option PyData} {r : V → Hp → VK → Prop}
theorem un_core (lf : Lf1 r g) {σ : St} {H : Hp} {Q : VK} (h : EOf W c (dUn g da) σ H Q) : EOf W c da σ H fun x H1 => r x H1 Q := by
  obtain ⟨D, env, S, p⟩ := h
  refine ⟨D, env, S, ?_⟩
  have p1 := PostE.bd p
  revert p1
  cases da env with
  | stuck => exact fun z => z
  | exc y e => exact fun z => z
  | ok o1 e1 =>
    intro p1 v H1 D1 S1 s1 r1
    obtain ⟨D2, env2, o, S2, s2, r2, e, p2⟩ := p1 v H1 D1 S1 s1 r1
    cases e
    cases g1 : getOV e1 o1 with
    | none => simp only [g1] at p2; exact p2.elim
    | some x =>
      simp only [g1] at p2
      cases g3 : g x with
      | none => simp only [g3] at p2; exact p2.elim
      | some z =>
        simp only [g3] at p2
        exact lf D2 H1 v x z Q S2.dh (S2.getq r2 (Same.refl _) g1) g3 fun u H' n => S2.new n p2
theorem de_un {op : UnaryOp} (ho : UnR X (unaryOp op) r) (lf : Lf1 r g) (ha : PE X a (EOf W c da)) : PE X (.UnaryOp op a pos) (EOf W c (dUn g da)) :=
  (pe_un ho ha).weak fun _ _ _ h => un_core lf h
def gNeg : PyData → Option PyData
  | .int i => some (.int (-i))
  | _ => none
theorem lf_neg : Lf1 (rU fun i => .int (-i)) gNeg := by
  intro D H x a z Q s rx e q
  cases a <;> try (cases e; done)
  cases e
  exact ⟨_, rx.int, q _ _ (.of (.int _))⟩
end
def dChain (g g' : PyData → PyData → Option PyData) (da db dc : DE) : DE := fun env => (da env).bd fun a e1 => (db e1).bd fun b e2 =>
  match getOV e2 a, getOV e2 b with
  | some x, some y => match g x y with
    | some (.bool true) => (dc e2).bd fun w e3 => match getOV e3 b, getOV e3 w with
      | some y', some z => match g' y' z with
        | some u => .ok (.d u) e3
        | none => .stuck
      | _, _ => .stuck
    | some (.bool false) => boolE false e2
    | _ => .stuck
  | _, _ => .stuck
section
variable {X : Cx} {W : WX} {c : Cf} {pos : Pos} {a b e3 : Expr} {da db dc : DE} {g g' : PyData → PyData → Option PyData} {r r' : R2}
/-- the leaf of a comparison whose result is a bool -/
theorem chain_core (lf : Lf c.K r g) (lf' : Lf c.K r' g') {σ : St} {H : Hp} {Q : VK} (h : EOf W c (dChain g g' da db dc) σ H Q) : tChain r r' (EOf W c da) (EOf W c db) (EOf W c dc) σ H Q := by
  obtain ⟨D, env, S, p⟩ := h
  refine ⟨D, env, S, ?_⟩
  have p1 := PostE.bd p
  revert p1
  cases da env with
  | stuck => exact fun z => z
  | exc y e => exact fun z => z
  | ok o1 e1 =>
    intro p1 v H1 D1 S1 s1 r1
    obtain ⟨D2, env2, o, S2, s2, r2, e, p2⟩ := p1 v H1 D1 S1 s1 r1
    cases e
    refine ⟨D2, e1, S2, ?_⟩
    have p3 := PostE.bd p2
    revert p3
    cases db e1 with
    | stuck => exact fun z => z
    | exc y e => exact fun z => z
    | ok o2 e2 =>
      intro p3 w H3 D3 S3 s3 r3
      obtain ⟨D4, env4, o4, S4, s4, r4, e, p4⟩ := p3 w H3 D3 S3 s3 r3
      cases e
      cases g1 : getOV e2 o1 with
      | none => simp only [g1] at p4; exact p4.elim
      | some x =>
        cases g2 : getOV e2 o2 with
        | none => simp only [g1, g2] at p4; exact p4.elim
        | some y =>
          simp only [g1, g2] at p4
          cases g3 : g x y with
          | none => simp only [g3] at p4; exact p4.elim
          | some z =>
            simp only [g3] at p4
            refine lf D4 H3 v w x y z _ S4.dh (S4.getq r2 s4 g1) (S4.getq r4 (Same.refl _) g2) g3 fun u H' n => ?_
            cases z with
            | bool k =>
              obtain ⟨rfl, rfl⟩ := n.bool
              · refine ⟨k, rfl, ?_⟩
                cases k with
                | false => exact iteF (p4 _ _ D4 S4 (Same.refl _) (.bl false))
                | true =>
                  refine iteT ⟨D4, e2, S4, ?_⟩
                  have p5 := PostE.bd p4
                  revert p5
                  cases dc e2 with
                  | stuck => exact fun z => z
                  | exc y e => exact fun z => z
                  | ok o5 e5 =>
                    intro p5 w5 H5 D5 S5 s5 r5
                    obtain ⟨D6, env6, o6, S6, s6, r6, e, p6⟩ := p5 w5 H5 D5 S5 s5 r5
                    cases e
                    cases g5 : getOV e5 o2 with
                    | none => simp only [g5] at p6; exact p6.elim
                    | some y' =>
                      cases g6 : getOV e5 o5 with
                      | none => simp only [g5, g6] at p6; exact p6.elim
                      | some z' =>
                        simp only [g5, g6] at p6
                        cases g7 : g' y' z' with
                        | none => simp only [g7] at p6; exact p6.elim
                        | some u' =>
                          simp only [g7] at p6
                          exact lf' D6 H5 w w5 y' z' u' Q S6.dh (S6.getq r4 s6 g5) (S6.getq r6 (Same.refl _) g6) g7 fun u H' n => S6.new n p6
            | _ => exact p4.elim
theorem de_chain {op op' : CmpOp} (ho : OpR X (compareOp op) r) (ho' : OpR X (compareOp op') r') (lf : Lf c.K r g) (lf' : Lf c.K r' g') (ha : PE X a (EOf W c da)) (hb : PE X b (EOf W c db)) (hc : PE X e3 (EOf W c dc))
    (hm : lastMarks [op, op'] [b, e3] = false := by with_unfolding_all rfl) : PE X (.Compare a [op, op'] [b, e3] pos) (EOf W c (dChain g g' da db dc)) := (pe_chain ho ho' ha hb hc hm).weak fun _ _ _ h => chain_core lf lf' h
theorem dt_chain {op op' : CmpOp} (ho : OpR X (compareOp op) r) (ho' : OpR X (compareOp op') r') (lf : Lf c.K r g) (lf' : Lf c.K r' g') (ha : PE X a (EOf W c da)) (hb : PE X b (EOf W c db)) (hc : PE X e3 (EOf W c dc))
    (hm : lastMarks [op, op'] [b, e3] = false := by with_unfolding_all rfl) : PT X (.Compare a [op, op'] [b, e3] pos) (TOf W c (dT (dChain g g' da db dc))) := (pt_chain ho ho' ha hb hc hm).weak fun _ _ _ h => chain_core lf lf' (test_core h)
end
theorem RpL.at {D : Hp} {vs : List V} {ds : List PyData} {i : Int} {d : PyData} (r : RpL D vs ds) (h : atI ds i = some d) : ∃ v, atI vs i = some v ∧ Rp D v d := by
  unfold atI at h ⊢
  rw [r.length]
  cases e : ixN ds.length i with
  | none => rw [e] at h; cases h
  | some j =>
    rw [e] at h
    obtain ⟨v, h1, h2⟩ := r.get' (show ds[j]? = some d from h)
    exact ⟨v, h1, h2⟩
def gIx : PyData → PyData → Option PyData
  | .list ds, .int i => atI ds i
  | .tuple ds, .int i => atI ds i
  | .str z, .int i => if z.length ≤ lenB then (match atI z.cps.toList i with | some c => some (.str ⟨#[c]⟩) | none => none) else none
  | _, _ => none
theorem lf_ix : Lf KF.frag (rIx KF.frag) gIx := by
  intro D H x y a b z Q s rx ry e q
  unfold gIx at e
  split at e
  · obtain ⟨p, vs, rfl, h1, h2⟩ := rx.lst s
    obtain ⟨v, h3, h4⟩ := h2.at e
    exact .inl ⟨p, vs, _, v, rfl, ry.int, .of h1, h3, q _ _ (.of h4)⟩
  · obtain ⟨_, p, vs, rfl, h1, h2⟩ := rx.tup
    obtain ⟨v, h3, h4⟩ := h2.at e
    exact .inr (.inl ⟨p, vs, _, v, rfl, ry.int, h1.same s, h3, q _ _ (.of h4)⟩)
  · split at e
    · rename_i h
      split at e
      · rename_i c hc
        cases e
        exact .inr (.inr ⟨_, _, c, rx.str, ry.int, lenB_le h, hc, q _ _ (.of (.str _))⟩)
      · cases e
    · cases e
  · cases e
section
variable {X : Cx} {W : WX} {c : Cf} {pos : Pos} {a b : Expr} {da db : DE}
theorem de_ix (hK : c.K = X.K) (ha : PE X a (EOf W c da)) (hb : PE X b (EOf W c db)) (hs : PlainIx b) : PE X (.Subscript a b pos) (EOf W c (dBin gIx da db)) :=
  (pe_ix (ix_seq (X := X)) ha hb hs).weak fun _ _ _ h => bin_core (by rw [← hK]; exact lf_ix) h
end
end L2.Dl

namespace L2.Dl
open PySem
open PySem.Spec
open PyProof.Rows
variable [KF]

inductive RqL (D H : Hp) : List V → List PyData → Prop
  | nil : RqL D H [] []
  | cons {v : V} {vs : List V} {x : PyData} {xs : List PyData} : Rq D H v x → RqL D H vs xs → RqL D H (v :: vs) (x :: xs)
def getAll (e : Nv) : List OV → Option (List PyData)
  | [] => some []
  | o :: r => match getOV e o with
    | none => none
    | some x => match getAll e r with
      | none => none
      | some xs => some (x :: xs)
theorem Sim.getAll {c : Cf} {D : Hp} {σ : St} {H : Hp} {env : Nv} (S : Sim c D env σ H) : ∀ {os : List OV} {vs : List V} {xs : List PyData}, OVRL c D σ vs os → Dl.getAll env os = some xs → RqL D H vs xs
  | [], vs, xs, r, g => by
    cases r
    cases g
    exact .nil
  | o :: os, vs, xs, r, g => by
    cases r with
    | cons r1 r2 =>
      unfold Dl.getAll at g
      split at g
      · cases g
      · rename_i x h1
        split at g
        · cases g
        · rename_i ys h2
          cases g
          exact .cons (S.getq r1 (Same.refl _) h1) (S.getAll r2 h2)
/-- a builtin's leaf -/
def LfA (r : List V → Hp → VK → Prop) (g : List PyData → Option PyData) : Prop :=
  ∀ (D H : Hp) (vs : List V) (xs : List PyData) (z : PyData) (Q : VK), Same D H → RqL D H vs xs → g xs = some z → (∀ v H', NewR D H v z H' → Q v H') → r vs H Q
/-- .. whose result is a new list -/
def LfN (r : List V → Hp → VK → Prop) (g : List PyData → Option (List PyData)) : Prop :=
  ∀ (D H : Hp) (vs : List V) (xs : List PyData) (zs : List PyData) (Q : VK), Same D H → RqL D H vs xs → g xs = some zs → (∀ p ws, H p = none → RpL D ws zs → Q (.ref p) (upd H p (.lst ws))) → r vs H Q
def dCallB (g : List PyData → Option PyData) (r : Nv → Res (List OV)) : DE := fun env => (r env).bd fun os e => match getAll e os with
  | some xs => match g xs with
    | some z => .ok (.d z) e
    | none => .stuck
  | none => .stuck
def dCallN (g : List PyData → Option (List PyData)) (r : Nv → Res (List OV)) : DL := fun env => (r env).bd fun os e => match getAll e os with
  | some xs => match g xs with
    | some z => .ok z e
    | none => .stuck
  | none => .stuck
section
variable {X : Cx} {W : WX} {c : Cf} {pos p : Pos} {e : Expr} {es : List Expr} {ra : Nv → Res (List OV)} {g : List PyData → Option PyData} {gn : List PyData → Option (List PyData)} {r : List V → Hp → VK → Prop} {id T : String} {x : Str}
theorem callB_core (lf : LfA r g) {σ : St} {H : Hp} {Q : VK} (h : EOf W c (dCallB g ra) σ H Q) : tCB r (AOf W c ra) σ H Q := by
  obtain ⟨D, env, S, p⟩ := h
  refine ⟨D, env, S, ?_⟩
  have p1 := PostA.bd p
  revert p1
  cases ra env with
  | stuck => exact fun z => z
  | exc y e => exact fun z => z
  | ok o1 e1 =>
    intro p1 v H1 D1 S1 s1 r1
    obtain ⟨D2, env2, o, S2, s2, r2, e, p2⟩ := p1 v H1 D1 S1 s1 r1
    cases e
    cases g1 : getAll e1 o1 with
    | none => simp only [g1] at p2; exact p2.elim
    | some xs =>
      simp only [g1] at p2
      cases g3 : g xs with
      | none => simp only [g3] at p2; exact p2.elim
      | some z =>
        simp only [g3] at p2
        exact lf D2 H1 v xs z Q S2.dh (S2.getAll r2 g1) g3 fun u H' n => S2.new n p2
theorem callN_core (lf : LfN r gn) {σ : St} {H : Hp} {Q : VK} (h : LOf W c (dCallN gn ra) σ H Q) : tCB r (AOf W c ra) σ H Q := by
  obtain ⟨D, env, S, p⟩ := h
  refine ⟨D, env, S, ?_⟩
  have p1 := PostA.bdL p
  revert p1
  cases ra env with
  | stuck => exact fun z => z
  | exc y e => exact fun z => z
  | ok o1 e1 =>
    intro p1 v H1 D1 S1 s1 r1
    obtain ⟨D2, env2, o, S2, s2, r2, e, p2⟩ := p1 v H1 D1 S1 s1 r1
    cases e
    cases g1 : getAll e1 o1 with
    | none => simp only [g1] at p2; exact p2.elim
    | some xs =>
      simp only [g1] at p2
      cases g3 : gn xs with
      | none => simp only [g3] at p2; exact p2.elim
      | some z =>
        simp only [g3] at p2
        exact lf D2 H1 v xs z Q S2.dh (S2.getAll r2 g1) g3 fun q ws hq rq => p2 q ws H1 D2 S2 (Same.refl _) hq rq
theorem de_callB (hc : CallR X (.builtin id) r) (lf : LfA r g) (hg : Gl X x) (hm : X.mg x = none) (hv : bootBuiltins x = some (.builtin id)) (ha : PA X (e :: es) (AOf W c ra)) (hn : x ≠ "__name__" := by decide) (hdb : (x == ("__debug__" : Str)) = false := by decide)
    (he : starEach (e :: es) X.env = (false, eval e X.env) :: starEach es X.env := by rfl) (hpl : (backTo pos (starEach es X.env)).any (·.1) = false := by rfl) : PE X (.Call (.Name x p) (e :: es) [] pos) (EOf W c (dCallB g ra)) :=
  (pe_callB hc hg hm hv ha hn hdb he hpl).weak fun _ _ _ h => callB_core lf h
theorem de_callTy (hc : CallR X (.type T) r) (lf : LfA r g) (hg : Gl X x) (hm : X.mg x = none) (hv : bootBuiltins x = some (.type T)) (ha : PA X (e :: es) (AOf W c ra)) (hn : x ≠ "__name__" := by decide) (hdb : (x == ("__debug__" : Str)) = false := by decide)
    (he : starEach (e :: es) X.env = (false, eval e X.env) :: starEach es X.env := by rfl) (hpl : (backTo pos (starEach es X.env)).any (·.1) = false := by rfl) : PE X (.Call (.Name x p) (e :: es) [] pos) (EOf W c (dCallB g ra)) :=
  (pe_callTy hc hg hm hv ha hn hdb he hpl).weak fun _ _ _ h => callB_core lf h
theorem dl_callB (hc : CallR X (.builtin id) r) (lf : LfN r gn) (hg : Gl X x) (hm : X.mg x = none) (hv : bootBuiltins x = some (.builtin id)) (ha : PA X (e :: es) (AOf W c ra)) (hn : x ≠ "__name__" := by decide) (hdb : (x == ("__debug__" : Str)) = false := by decide)
    (he : starEach (e :: es) X.env = (false, eval e X.env) :: starEach es X.env := by rfl) (hpl : (backTo pos (starEach es X.env)).any (·.1) = false := by rfl) : PE X (.Call (.Name x p) (e :: es) [] pos) (LOf W c (dCallN gn ra)) :=
  (pe_callB hc hg hm hv ha hn hdb he hpl).weak fun _ _ _ h => callN_core lf h
theorem dl_callTy (hc : CallR X (.type T) r) (lf : LfN r gn) (hg : Gl X x) (hm : X.mg x = none) (hv : bootBuiltins x = some (.type T)) (ha : PA X (e :: es) (AOf W c ra)) (hn : x ≠ "__name__" := by decide) (hdb : (x == ("__debug__" : Str)) = false := by decide)
    (he : starEach (e :: es) X.env = (false, eval e X.env) :: starEach es X.env := by rfl) (hpl : (backTo pos (starEach es X.env)).any (·.1) = false := by rfl) : PE X (.Call (.Name x p) (e :: es) [] pos) (LOf W c (dCallN gn ra)) :=
  (pe_callTy hc hg hm hv ha hn hdb he hpl).weak fun _ _ _ h => callN_core lf h
end
theorem RqL.one {D H : Hp} {vs : List V} {x : PyData} (r : RqL D H vs [x]) : ∃ v, vs = [v] ∧ Rq D H v x := by
  cases r with
  | cons h t => cases t; exact ⟨_, rfl, h⟩
theorem RqL.two {D H : Hp} {vs : List V} {x y : PyData} (r : RqL D H vs [x, y]) : ∃ v w, vs = [v, w] ∧ Rq D H v x ∧ Rq D H w y := by
  cases r with
  | cons h t =>
    obtain ⟨w, rfl, h2⟩ := RqL.one t
    exact ⟨_, _, rfl, h, h2⟩
def gLen : List PyData → Option PyData
  | [.list xs] => some (.int xs.length)
  | [.tuple xs] => some (.int xs.length)
  | [.str z] => if z.length ≤ lenB then some (.int z.length) else none
  | _ => none
def rLenA (K : PySem.W.Frag) : List V → Hp → VK → Prop := fun xs H Q =>
  (∃ p ys, xs = [.ref p] ∧ (SqL K H p ys ∨ SqT K H p ys) ∧ Q (.int ys.length) H) ∨ ∃ z, xs = [.str z] ∧ z.length ≤ sizeLine ∧ Q (.int z.length) H
theorem cr_lenA {X : Cx} : CallR X (.builtin "len") (rLenA X.K) := call_len_seq.or call_len_str
theorem lf_len : LfA (rLenA KF.frag) gLen := by
  intro D H vs xs z Q s r e q
  unfold gLen at e
  split at e
  · cases e
    obtain ⟨v, rfl, h⟩ := r.one
    obtain ⟨p, ws, rfl, h1, h2⟩ := h.lst s
    exact .inl ⟨p, ws, rfl, .inl (.of h1), by rw [h2.length]; exact q _ _ (.of (.int _))⟩
  · cases e
    obtain ⟨v, rfl, h⟩ := r.one
    obtain ⟨_, p, ws, rfl, h1, h2⟩ := h.tup
    exact .inl ⟨p, ws, rfl, .inr (h1.same s), by rw [h2.length]; exact q _ _ (.of (.int _))⟩
  · split at e
    · rename_i hl
      cases e
      obtain ⟨v, rfl, h⟩ := r.one
      rw [h.str]
      exact .inr ⟨_, rfl, lenB_le hl, q _ _ (.of (.int _))⟩
    · cases e
  · cases e
def gListOf : List PyData → Option (List PyData)
  | [.list xs] => some xs
  | [.tuple xs] => some xs
  | _ => none
theorem lf_listOf : LfN (fun xs H Q => ∃ p ys, xs = [.ref p] ∧ (SqL KF.frag H p ys ∨ SqT KF.frag H p ys) ∧ ∀ l, H l = none → Q (.ref l) (upd H l (.lst ys))) gListOf := by
  intro D H vs xs z Q s r e q
  unfold gListOf at e
  split at e
  · cases e
    obtain ⟨v, rfl, h⟩ := r.one
    obtain ⟨p, ws, rfl, h1, h2⟩ := h.lst s
    exact ⟨p, ws, rfl, .inl (.of h1), fun l hl => q l ws hl h2⟩
  · cases e
    obtain ⟨v, rfl, h⟩ := r.one
    obtain ⟨_, p, ws, rfl, h1, h2⟩ := h.tup
    exact ⟨p, ws, rfl, .inr (h1.same s), fun l hl => q l ws hl h2⟩
  · cases e
def gTupleOf : List PyData → Option PyData
  | [.list xs] => some (.tuple xs)
  | [.tuple xs] => some (.tuple xs)
  | _ => none
theorem lf_tupleOf : LfA (fun xs H Q => ∃ p ys, xs = [.ref p] ∧ ((SqL KF.frag H p ys ∧ ∀ l, H l = none → Q (.ref l) (upd H l (.tup ys))) ∨ (SqT KF.frag H p ys ∧ Q (.ref p) H))) gTupleOf := by
  intro D H vs xs z Q s r e q
  unfold gTupleOf at e
  split at e
  · cases e
    obtain ⟨v, rfl, h⟩ := r.one
    obtain ⟨p, ws, rfl, h1, h2⟩ := h.lst s
    exact ⟨p, ws, rfl, .inl ⟨.of h1, fun l hl => q _ _ (.tup hl h2)⟩⟩
  · cases e
    obtain ⟨v, rfl, h⟩ := r.one
    obtain ⟨h', p, ws, rfl, h1, h2⟩ := h.tup
    exact ⟨p, ws, rfl, .inr ⟨h1.same s, q _ _ (.of h')⟩⟩
  · cases e
/-- the bools, the ints of a list -/
def boolsOf : List PyData → Option (List Bool)
  | [] => some []
  | .bool b :: r => match boolsOf r with
    | some bs => some (b :: bs)
    | none => none
  | _ :: _ => none
def intsOf : List PyData → Option (List Int)
  | [] => some []
  | .int b :: r => match intsOf r with
    | some bs => some (b :: bs)
    | none => none
  | _ :: _ => none
theorem RpL.bools {D : Hp} : ∀ {vs : List V} {xs : List PyData} {bs : List Bool}, RpL D vs xs → boolsOf xs = some bs → vs = bs.map V.bl
  | [], [], bs, .nil, e => by cases e; rfl
  | _ :: _, x :: xs, bs, .cons h r, e => by
    cases x with
    | bool b =>
      cases h
      unfold boolsOf at e
      split at e
      · rename_i cs hc; cases e; rw [RpL.bools r hc]; rfl
      · cases e
    | _ => cases e
theorem RpL.ints {D : Hp} : ∀ {vs : List V} {xs : List PyData} {bs : List Int}, RpL D vs xs → intsOf xs = some bs → vs = bs.map V.int
  | [], [], bs, .nil, e => by cases e; rfl
  | _ :: _, x :: xs, bs, .cons h r, e => by
    cases x with
    | int b =>
      cases h
      unfold intsOf at e
      split at e
      · rename_i cs hc; cases e; rw [RpL.ints r hc]; rfl
      · cases e
    | _ => cases e
def gAll : List PyData → Option PyData
  | [.list xs] => match boolsOf xs with
    | some bs => some (.bool (bs.all id))
    | none => none
  | _ => none
def gAny : List PyData → Option PyData
  | [.list xs] => match boolsOf xs with
    | some bs => some (.bool (bs.any id))
    | none => none
  | _ => none
def gSum : List PyData → Option PyData
  | [.list xs] => match intsOf xs with
    | some bs => some (.int bs.sum)
    | none => none
  | _ => none
theorem lf_all : LfA (rAll KF.frag) gAll := by
  intro D H vs xs z Q s r e q
  unfold gAll at e
  split at e
  · split at e
    · rename_i xs bs hb
      cases e
      obtain ⟨v, rfl, h⟩ := r.one
      obtain ⟨p, ws, rfl, h1, h2⟩ := h.lst s
      exact ⟨p, bs, rfl, by rw [← h2.bools hb]; exact .of h1, q _ _ (.of (.bl _))⟩
    · cases e
  · cases e
theorem lf_any : LfA (rAny KF.frag) gAny := by
  intro D H vs xs z Q s r e q
  unfold gAny at e
  split at e
  · split at e
    · rename_i xs bs hb
      cases e
      obtain ⟨v, rfl, h⟩ := r.one
      obtain ⟨p, ws, rfl, h1, h2⟩ := h.lst s
      exact ⟨p, bs, rfl, by rw [← h2.bools hb]; exact .of h1, q _ _ (.of (.bl _))⟩
    · cases e
  · cases e
theorem lf_sum : LfA (rSum KF.frag) gSum := by
  intro D H vs xs z Q s r e q
  unfold gSum at e
  split at e
  · split at e
    · rename_i xs bs hb
      cases e
      obtain ⟨v, rfl, h⟩ := r.one
      obtain ⟨p, ws, rfl, h1, h2⟩ := h.lst s
      exact ⟨p, bs, rfl, by rw [← h2.ints hb]; exact .of h1, q _ _ (.of (.int _))⟩
    · cases e
  · cases e
def gMax2 : List PyData → Option PyData
  | [.int i, .int j] => some (.int (if j > i then j else i))
  | _ => none
def gMin2 : List PyData → Option PyData
  | [.int i, .int j] => some (.int (if j < i then j else i))
  | _ => none
theorem lf_max2 : LfA (fun xs H Q => ∃ i j, xs = [V.int i, V.int j] ∧ Q (.int (if j > i then j else i)) H) gMax2 := by
  intro D H vs xs z Q s r e q
  unfold gMax2 at e
  split at e
  · cases e
    obtain ⟨v, w, rfl, h, h'⟩ := r.two
    rw [h.int, h'.int]
    exact ⟨_, _, rfl, q _ _ (.of (.int _))⟩
  · cases e
theorem lf_min2 : LfA (fun xs H Q => ∃ i j, xs = [V.int i, V.int j] ∧ Q (.int (if j < i then j else i)) H) gMin2 := by
  intro D H vs xs z Q s r e q
  unfold gMin2 at e
  split at e
  · cases e
    obtain ⟨v, w, rfl, h, h'⟩ := r.two
    rw [h.int, h'.int]
    exact ⟨_, _, rfl, q _ _ (.of (.int _))⟩
  · cases e
/-- the greatest, the least of ints -/
def maxL : List Int → Int
  | [] => 0
  | [x] => x
  | x :: r => max x (maxL r)
def minL : List Int → Int
  | [] => 0
  | [x] => x
  | x :: r => min x (minL r)
theorem maxL_spec : ∀ ns : List Int, ns ≠ [] → maxL ns ∈ ns ∧ ∀ y ∈ ns, y ≤ maxL ns
  | [], h => absurd rfl h
  | [x], _ => by simp [maxL]
  | x :: y :: r, _ => by
    obtain ⟨h1, h2⟩ := maxL_spec (y :: r) (by simp)
    have e : maxL (x :: y :: r) = max x (maxL (y :: r)) := rfl
    rw [e]
    constructor
    · by_cases h : x ≤ maxL (y :: r)
      · rw [Int.max_eq_right h]; exact List.mem_cons_of_mem _ h1
      · rw [Int.max_eq_left (by omega)]; exact List.mem_cons_self
    · intro z hz
      rcases List.mem_cons.mp hz with rfl | hz
      · exact Int.le_max_left _ _
      · exact Int.le_trans (h2 z hz) (Int.le_max_right _ _)
theorem minL_spec : ∀ ns : List Int, ns ≠ [] → minL ns ∈ ns ∧ ∀ y ∈ ns, minL ns ≤ y
  | [], h => absurd rfl h
  | [x], _ => by simp [minL]
  | x :: y :: r, _ => by
    obtain ⟨h1, h2⟩ := minL_spec (y :: r) (by simp)
    have e : minL (x :: y :: r) = min x (minL (y :: r)) := rfl
    rw [e]
    constructor
    · by_cases h : x ≤ minL (y :: r)
      · rw [Int.min_eq_left h]; exact List.mem_cons_self
      · rw [Int.min_eq_right (by omega)]; exact List.mem_cons_of_mem _ h1
    · intro z hz
      rcases List.mem_cons.mp hz with rfl | hz
      · exact Int.min_le_left _ _
      · exact Int.le_trans (Int.min_le_right _ _) (h2 z hz)
def gMaxL : List PyData → Option PyData
  | [.list xs] => match intsOf xs with
    | some (b :: bs) => some (.int (maxL (b :: bs)))
    | _ => none
  | _ => none
def gMinL : List PyData → Option PyData
  | [.list xs] => match intsOf xs with
    | some (b :: bs) => some (.int (minL (b :: bs)))
    | _ => none
  | _ => none
theorem lf_maxL : LfA (rMax KF.frag) gMaxL := by
  intro D H vs xs z Q s r e q
  unfold gMaxL at e
  split at e
  · split at e
    · rename_i xs b bs hb
      cases e
      obtain ⟨v, rfl, h⟩ := r.one
      obtain ⟨p, ws, rfl, h1, h2⟩ := h.lst s
      refine ⟨p, b :: bs, rfl, by rw [← h2.ints hb]; exact .of h1, by simp, fun m hm hy => ?_⟩
      obtain ⟨k1, k2⟩ := maxL_spec (b :: bs) (by simp)
      have : m = maxL (b :: bs) := Int.le_antisymm (k2 m hm) (hy _ k1)
      rw [this]
      exact q _ _ (.of (.int _))
    · cases e
  · cases e
theorem lf_minL : LfA (rMin KF.frag) gMinL := by
  intro D H vs xs z Q s r e q
  unfold gMinL at e
  split at e
  · split at e
    · rename_i xs b bs hb
      cases e
      obtain ⟨v, rfl, h⟩ := r.one
      obtain ⟨p, ws, rfl, h1, h2⟩ := h.lst s
      refine ⟨p, b :: bs, rfl, by rw [← h2.ints hb]; exact .of h1, by simp, fun m hm hy => ?_⟩
      obtain ⟨k1, k2⟩ := minL_spec (b :: bs) (by simp)
      have : m = minL (b :: bs) := Int.le_antisymm (hy _ k1) (k2 m hm)
      rw [this]
      exact q _ _ (.of (.int _))
    · cases e
  · cases e
end L2.Dl

namespace L2.Dl
open PySem
open PySem.Spec
open PyProof.Rows
variable [KF]

def tyName : PyData → String
  | .none => "NoneType"
  | .bool _ => "bool"
  | .int _ => "int"
  | .str _ => "str"
  | .list _ => "list"
  | .tuple _ => "tuple"
  | .dict _ => "dict"
def gIsi (T : String) (x : PyData) : Option PyData := (kitB (tyName x) T).map PyData.bool
theorem Rq.ty {D H : Hp} {v : V} {x : PyData} (r : Rq D H v x) (s : Same D H) : TyX KF.frag H v (.type (tyName x)) := by
  rcases r with r | ⟨a, vs, ds, rfl, rfl, e, r⟩
  · cases r with
    | non => exact .base .non
    | bl b => exact .base (.bl b)
    | int i => exact .base (.int i)
    | str i => exact .base (.str i)
    | lst h _ => exact .base (.lst (s _ _ h))
    | tup h _ => exact .base (.tup (s _ _ h))
    | nilK h =>
      rcases h with (h | ⟨o, h⟩) | ⟨o, its, n, hk, hc, _⟩
      · cases h
      · cases h
      · exact .kTuple hk hc
  · exact .base (.lst e)
section
variable {X : Cx} {W : WX} {c : Cf} {pos p p2 : Pos} {a : Expr} {da : DE} {T : String} {tn : Str}
theorem de_isi (hK : c.K = X.K) (ha : PE X a (EOf W c da)) (hg : Gl X "isinstance") (hm : X.mg "isinstance" = none) (hg2 : Gl X tn) (hm2 : X.mg tn = none) (hv : bootBuiltins tn = some (.type T)) (hn : tn ≠ "__name__" := by decide) (hdb : (tn == ("__debug__" : Str)) = false := by decide)
    (he : starEach [a, .Name tn p2] X.env = (false, eval a X.env) :: starEach [.Name tn p2] X.env := by rfl) (he2 : starEach [.Name tn p2] X.env = (false, eval (.Name tn p2) X.env) :: starEach [] X.env := by rfl)
    (hpl : (backTo pos (starEach [.Name tn p2] X.env)).any (·.1) = false := by rfl) : PE X (.Call (.Name "isinstance" p) [a, .Name tn p2] [] pos) (EOf W c (dUn (gIsi T) da)) :=
  (pe_callB call_isi hg hm boot_isinstance (pa_cons ha (pa_cons (pe_bltn (v := .ty T) hg2 hm2 hv rfl hn hdb) pa_nil he2) he) (by decide) (by decide) he hpl).weak fun σ H Q h => by
    have h2 := un_core (r := fun x H1 Q => rIsi X.K [x, .ty T] H1 Q) (g := gIsi T) (fun D H x a z Q s rx e q => by
      unfold gIsi at e
      cases k : kitB (tyName a) T with
      | none => rw [k] at e; cases e
      | some b =>
        rw [k] at e
        cases e
        exact ⟨x, .ty T, _, _, b, rfl, .ty T, hK ▸ rx.ty s, kit_ty k, q _ _ (.of (.bl b))⟩) h
    exact h2
end
def gRepr : List PyData → Option PyData
  | [d] => if d.showable = true ∧ d.shown.length ≤ lenB ∧ d.depth ≤ 100 ∧ d.hasDict = false then some (.str d.shown) else none
  | _ => none
def rReprD (K : PySem.W.Frag) : List V → Hp → VK → Prop := fun xs H Q => ∃ x d, xs = [x] ∧ Dp K H x d ∧ d.showable = true ∧ d.shown.length ≤ sizeLine ∧ d.depth ≤ 100 ∧ d.hasDict = false ∧ Q (.str d.shown) H
theorem call_reprD {X : Cx} (hg : X.A.guards = some []) (hu : X.A.units + 110 < cLine) : CallR X (.builtin "repr") (rReprD X.K) := by
  intro pins s σ H xs us Q I r h
  obtain ⟨x, d, rfl, hd, h1, h2, h3, h4, q⟩ := h
  obtain ⟨u, rfl, ru⟩ := Vals.one r
  obtain ⟨as, rd⟩ := Dp.reads I d x u hd ru
  have hsm := PyData.noDict_hsm (d := d) (as := as) h4
  have fin : ∀ (h' : Heap) (t : Tok) (tk : Nat), (∀ b o, s.heap.get? b = some o → h'.get? b = some o) → EP X pins σ Q (.str d.shown t) { s with heap := h', toks := tk } := fun h' t tk hk =>
    ⟨.str d.shown, H, I.kept hk, ⟨t, rfl⟩, q⟩
  cases hd with
  | non => cases ru; exact PySem.P.repr_of_none (fin _ _ _ fun _ _ e => e)
  | bl b => cases ru; exact PySem.P.repr_of_bool (fin _ _ _ fun _ _ e => e)
  | int i => obtain ⟨t, rfl⟩ := ru; exact PySem.P.repr_of_int (of_decide_eq_true h1) (fin _ _ _ fun _ _ e => e)
  | str i => obtain ⟨t, rfl⟩ := ru; exact PySem.P.repr_of_str (fin _ _ _ fun _ _ e => e) h2
  | lst h r' =>
    cases ru
    exact repr_of_reads' rd h1 hsm hg (by omega) (fun _ _ e => e) (fun h' t tk hk => fin h' t tk hk) h2
  | tup h r' =>
    cases ru
    exact repr_of_reads' rd h1 hsm hg (by omega) (fun _ _ e => e) (fun h' t tk hk => fin h' t tk hk) h2
theorem lf_repr : LfA (rReprD KF.frag) gRepr := by
  intro D H vs xs z Q s r e q
  unfold gRepr at e
  split at e
  · split at e
    · rename_i h
      cases e
      obtain ⟨v, rfl, h'⟩ := r.one
      exact ⟨v, _, rfl, h'.dp s, h.1, lenB_le h.2.1, h.2.2.1, h.2.2.2, q _ _ (.of (.str _))⟩
    · cases e
  · cases e
end L2.Dl

namespace L2.Dl
open PySem
open PySem.Spec
open PyProof.Rows
variable [KF]

def Slot.par : Slot → Bool
  | .own p _ => p
  | .dct p _ => p
  | _ => false
def freeAt (env : Nv) (i : Nat) : Bool := match env[i]? with
  | some s => !s.par
  | none => false
def setS (env : Nv) (i : Nat) (s : Slot) : SRes := if freeAt env i = true then .nx (env.set i s) else .stuck
section
variable {c : Cf} {D D' : Hp} {env env' : Nv} {σ : St} {H H' : Hp} {v : V} {s : Slot}
theorem freeAt_lt {i : Nat} (h : freeAt env i = true) : i < env.length := by
  unfold freeAt at h
  split at h
  · rename_i s e; exact (List.getElem?_eq_some_iff.mp e).1
  · cases h
theorem join_set_self {i : Nat} (h : i < σ.length) : ((σ.set i (some v))[i]?).join = some v := by
  rw [List.getElem?_set_self h] <;> rfl
theorem join_set_ne {i j : Nat} (h : i ≠ j) : ((σ.set i (some v))[j]?).join = (σ[j]?).join := by
  rw [List.getElem?_set_ne h]
/-- a slot that is made: what it holds is its own alone -/
def NewSlot (c : Cf) (D : Hp) (env : Nv) (σ : St) (H : Hp) (v : V) (s : Slot) : Prop :=
  SlotOk c D H 0 (some v) s ∧ s.par = false ∧ (s.owns = true → ∀ (j : Nat) (t : Slot) (a : Addr), env[j]? = some t → t.owns = true → (σ[j]?).join = some (V.ref a) → v ≠ .ref a)
theorem SlotOk.anyIx {i j : Nat} {x : Option V} (h : SlotOk c D H i x s) (p : s.par = false) : SlotOk c D H j x s := by
  cases s with
  | own q xs =>
    obtain ⟨a, vs, e, h1, h2, h3, h4, h5⟩ := h
    cases (show q = false from p)
    exact ⟨a, vs, e, h1, h2, h3, h4, fun z => nomatch z⟩
  | dct q kvs =>
    obtain ⟨a, e, h1, h3, h4, h5⟩ := h
    cases (show q = false from p)
    exact ⟨a, e, h1, h3, h4, fun z => nomatch z⟩
  | un => trivial
  | v d => exact h
  | gl n => exact h
  | ro xs => exact h
  | la => exact h
theorem Sim.setS (S : Sim c D env σ H) {i : Nat} (hi : i < env.length) (n : NewSlot c D env σ H v s) : Sim c D (env.set i s) (σ.set i (some v)) H := by
  have hl : i < σ.length := by rw [← S.len]; exact hi
  refine ⟨S.dh, S.bh, S.bd, by simpa using S.len, fun j t q => ?_, fun j k t u b ej ek oj ok hj hk => ?_, S.tb, S.nd, S.nb, S.d0⟩
  · by_cases hj : i = j
    · subst hj
      rw [List.getElem?_set_self hi] at q
      cases q
      rw [join_set_self hl]
      exact n.1.anyIx n.2.1
    · rw [List.getElem?_set_ne hj] at q
      rw [join_set_ne hj]
      exact S.slot j t q
  · by_cases h1 : i = j
    · by_cases h2 : i = k
      · exact h1.symm.trans h2
      · subst h1
        rw [List.getElem?_set_self hi] at ej
        cases ej
        rw [join_set_self hl] at hj
        rw [List.getElem?_set_ne h2] at ek
        rw [join_set_ne h2] at hk
        exact absurd (Option.some.inj hj) (n.2.2 oj k u b ek ok hk)
    · by_cases h2 : i = k
      · subst h2
        rw [List.getElem?_set_self hi] at ek
        cases ek
        rw [join_set_self hl] at hk
        rw [List.getElem?_set_ne h1] at ej
        rw [join_set_ne h1] at hj
        exact absurd (Option.some.inj hk) (n.2.2 ok j t b ej oj hj)
      · rw [List.getElem?_set_ne h1] at ej
        rw [join_set_ne h1] at hj
        rw [List.getElem?_set_ne h2] at ek
        rw [join_set_ne h2] at hk
        exact S.apart j k t u b ej ek oj ok hj hk
theorem NewSlot.ofV {x : PyData} (r : Rp D v x) : NewSlot c D env σ H v (.v x) := ⟨⟨v, rfl, r⟩, rfl, fun z => nomatch z⟩
theorem NewSlot.gl {n : Str} {f : Addr} (h : c.mg n = some (.ref f)) : NewSlot c D env σ H (.ref f) (.gl n) := ⟨⟨f, rfl, h⟩, rfl, fun z => nomatch z⟩
theorem Sim.apartNew (S : Sim c D env σ H) {p : Addr} (hp : H p = none) : ∀ (j : Nat) (t : Slot) (a : Addr), env[j]? = some t → t.owns = true → (σ[j]?).join = some (V.ref a) → V.ref p ≠ .ref a := fun j t a ej oj hj e => by
  cases e
  obtain ⟨a', u, e1, e2, _⟩ := (S.slot j t ej).tracked oj
  rw [hj] at e1; cases e1
  rw [hp] at e2; cases e2
theorem Sim.newOwn (S : Sim c D env σ H) {p : Addr} {vs : List V} {xs : List PyData} (hp : H p = none) (r : RpL D vs xs) : NewSlot c D env σ (upd H p (.lst vs)) (.ref p) (.own false xs) :=
  ⟨⟨p, vs, rfl, upd_same, r, S.dh.free hp, S.bh.free hp, fun z => nomatch z⟩, rfl, fun _ => S.apartNew hp⟩
theorem Sim.newDct (S : Sim c D env σ H) {p : Addr} {o : HO} {kvs : DV} (hp : H p = none) (r : DctOk D (upd H p o) p kvs) : NewSlot c D env σ (upd H p o) (.ref p) (.dct false kvs) :=
  ⟨⟨p, rfl, r, S.dh.free hp, S.bh.free hp, fun z => nomatch z⟩, rfl, fun _ => S.apartNew hp⟩
/-- an owned list is changed -/
theorem Sim.putOwn (S : Sim c D env σ H) {i : Nat} {p : Bool} {xs ys : List PyData} {a : Addr} {ws : List V} (e : env[i]? = some (.own p xs)) (ha : (σ[i]?).join = some (.ref a)) (r : RpL D ws ys) :
    Sim c D (env.set i (.own p ys)) σ (upd H a (.lst ws)) := by
  have hi : i < env.length := (List.getElem?_eq_some_iff.mp e).1
  obtain ⟨a', vs, e1, h1, h2, h3, h4, h5⟩ := S.sl e ha
  cases e1
  refine ⟨fun b u q => ?_, fun b u q => ?_, S.bd, by simpa using S.len, fun j t q => ?_, fun j k t u b ej ek oj ok hj hk => ?_, tabs_put S.tb h1 rfl, S.nd, S.nb, S.d0⟩
  · have hb : b ≠ a := ne_of_none q h3
    rw [upd_ne hb]; exact S.dh b u q
  · have hb : b ≠ a := ne_of_none q h4
    rw [upd_ne hb]; exact S.bh b u q
  · by_cases hj : i = j
    · subst hj
      rw [List.getElem?_set_self hi] at q
      cases q
      exact ⟨a, ws, ha, upd_same, r, h3, h4, h5⟩
    · rw [List.getElem?_set_ne hj] at q
      refine (S.slot j t q).lift (Same.refl D) fun b eb ho => ⟨upd_ne ?_, fun z => z⟩
      rintro rfl
      exact hj (S.apart i j _ _ b e q rfl ho ha eb)
  · have key : ∀ (j : Nat) (t : Slot), (env.set i (.own p ys))[j]? = some t → t.owns = true → ∃ t', env[j]? = some t' ∧ t'.owns = true := fun j t ej oj => by
      by_cases h : i = j
      · subst h; exact ⟨_, e, rfl⟩
      · rw [List.getElem?_set_ne h] at ej; exact ⟨t, ej, oj⟩
    obtain ⟨t', e1, o1⟩ := key j t ej oj
    obtain ⟨u', e2, o2⟩ := key k u ek ok
    exact S.apart j k t' u' b e1 e2 o1 o2 hj hk
/-- an owned dict is changed -/
theorem Sim.putDct (S : Sim c D env σ H) {i : Nat} {p : Bool} {xs ys : DV} {a : Addr} {o : HO} (e : env[i]? = some (.dct p xs)) (ha : (σ[i]?).join = some (.ref a)) (r : DctOk D (upd H a o) a ys) :
    Sim c D (env.set i (.dct p ys)) σ (upd H a o) := by
  have hi : i < env.length := (List.getElem?_eq_some_iff.mp e).1
  obtain ⟨a', e1, h1, h3, h4, h5⟩ := S.sl e ha
  cases e1
  obtain ⟨u0, hu0, hok0⟩ := h1.trackedO
  refine ⟨fun b u q => ?_, fun b u q => ?_, S.bd, by simpa using S.len, fun j t q => ?_, fun j k t u b ej ek oj ok hj hk => ?_, tabs_put S.tb hu0 hok0, S.nd, S.nb, S.d0⟩
  · have hb : b ≠ a := ne_of_none q h3
    rw [upd_ne hb]; exact S.dh b u q
  · have hb : b ≠ a := ne_of_none q h4
    rw [upd_ne hb]; exact S.bh b u q
  · by_cases hj : i = j
    · subst hj
      rw [List.getElem?_set_self hi] at q
      cases q
      exact ⟨a, ha, r, h3, h4, h5⟩
    · rw [List.getElem?_set_ne hj] at q
      refine (S.slot j t q).lift (Same.refl D) fun b eb ho => ⟨upd_ne ?_, fun z => z⟩
      rintro rfl
      exact hj (S.apart i j _ _ b e q rfl ho ha eb)
  · have key : ∀ (j : Nat) (t : Slot), (env.set i (.dct p ys))[j]? = some t → t.owns = true → ∃ t', env[j]? = some t' ∧ t'.owns = true := fun j t ej oj => by
      by_cases h : i = j
      · subst h; exact ⟨_, e, rfl⟩
      · rw [List.getElem?_set_ne h] at ej; exact ⟨t, ej, oj⟩
    obtain ⟨t', e1, o1⟩ := key j t ej oj
    obtain ⟨u', e2, o2⟩ := key k u ek ok
    exact S.apart j k t' u' b e1 e2 o1 o2 hj hk
end

abbrev DR := Nv → Res Slot
def PostR (W : WX) (c : Cf) (D : Hp) (σ : St) (Q : VK) : Res Slot → Prop
  | .ok s env' => ∀ v H' D', Sim c D' env' σ H' → Same D D' → NewSlot c D' env' σ H' v s → Q v H'
  | .exc x env' => PostX W c D σ x env'
  | .stuck => False
def ROf (W : WX) (c : Cf) (d : DR) : TE := fun σ H Q => ∃ D env, Sim c D env σ H ∧ PostR W c D σ Q (d env)
def slotOf (e : Nv) : OV → Res Slot
  | .gl n => .ok (.gl n) e
  | o => match pinOV e o with
    | some (x, e') => .ok (.v x) e'
    | none => .stuck
def rE (d : DE) : DR := fun env => (d env).bd fun o e => slotOf e o
def rL (d : DL) : DR := fun env => (d env).bd fun xs e => .ok (.own false xs) e
def rK (d : DK) : DR := fun env => (d env).bd fun xs e => .ok (.dct false xs) e
section
variable {X : Cx} {W : WX} {c : Cf} {e : Expr} {d : DE} {l : DL} {k : DK}
theorem dr_e (h : PE X e (EOf W c d)) : PE X e (ROf W c (rE d)) := h.weak fun σ H Q ⟨D, env, S, p⟩ => by
  refine ⟨D, env, S, ?_⟩
  unfold rE at p
  cases g : d env with
  | stuck => rw [g] at p; exact p
  | exc y e => rw [g] at p; exact p
  | ok o e1 =>
    rw [g] at p
    intro v H1 D1 S1 s1 r1
    cases o with
    | gl n =>
      obtain ⟨f, rfl, h⟩ := r1
      exact p _ H1 D1 S1 s1 (.gl h)
    | d x =>
      exact p _ H1 D1 S1 s1 (.ofV r1)
    | sl i =>
      have p : PostR W c D σ Q (match pinOV e1 (.sl i) with | some (x, e') => .ok (.v x) e' | none => .stuck) := p
      split at p
      · rename_i x e' hp
        obtain ⟨D2, S2, s2, r2⟩ := S1.pin r1 hp
        exact p _ H1 D2 S2 (s1.trans s2) (.ofV r2)
      · exact p.elim
theorem dr_l (h : PE X e (LOf W c l)) : PE X e (ROf W c (rL l)) := h.weak fun σ H Q ⟨D, env, S, p⟩ => by
  refine ⟨D, env, S, ?_⟩
  unfold rL at p
  cases g : l env with
  | stuck => rw [g] at p; exact p
  | exc y e => rw [g] at p; exact p
  | ok xs e1 =>
    rw [g] at p
    exact fun q vs H1 D1 S1 s1 hq r1 => p _ _ D1 (S1.grow hq _) s1 (S1.newOwn hq r1)
theorem dr_k (h : PE X e (KOf' W c k)) : PE X e (ROf W c (rK k)) := h.weak fun σ H Q ⟨D, env, S, p⟩ => by
  refine ⟨D, env, S, ?_⟩
  unfold rK at p
  cases g : k env with
  | stuck => rw [g] at p; exact p
  | exc y e => rw [g] at p; exact p
  | ok xs e1 =>
    rw [g] at p
    exact fun q o H1 D1 S1 s1 hq r1 => p _ _ D1 (S1.grow hq _) s1 (S1.newDct hq r1)
end
end L2.Dl

namespace L2.Dl
open PySem
open PySem.Spec
open PyProof.Rows
variable [KF]

def SRes.sq (r : SRes) (k : DS) : SRes := match r with
  | .nx e => k e
  | r => r
def dNext : DS := .nx
def dSeq (a b : DS) : DS := fun env => (a env).sq b
def dExp (d : DE) : DS := fun env => (d env).bs fun _ e => .nx e
def dExpL (d : DL) : DS := fun env => (d env).bs fun _ e => .nx e
def retOf (o : OV) (e : Nv) : SRes := match pinOV e o with
  | some (x, e') => .rt x e'
  | none => .stuck
def dRet (d : DE) : DS := fun env => (d env).bs retOf
def dRetK (d : DK) : DS := fun env => (d env).bs fun kvs e => .rtD kvs e
def dRetN : DS := fun env => .rt .none env
def dIfS (t : DT) (a b : DS) : DS := fun env => (t env).bs fun k e => if k = true then a e else b e
def dSet (i : Nat) (d : DR) : DS := fun env => (d env).bs fun s e => setS e i s
def dBrk : DS := .bk
def dCnt : DS := .ct
def dStuck : DS := fun _ => .stuck
section
variable {X : Cx} {W : WX} {c : Cf} {pos : Pos} {e : Expr} {st : Stmt} {sts : List Stmt} {a b : DS} {d : DE} {l : DL} {k : DK} {r : DR} {t : DT}
theorem PostR.bs {D : Hp} {σ : St} {r : Res Slot} {k : Slot → Nv → SRes} {De : Ends} (h : PostS W c D De (r.bs k)) :
    PostR W c D σ (fun v H1 => ∃ D1 env1 s, Sim c D1 env1 σ H1 ∧ Same D D1 ∧ NewSlot c D1 env1 σ H1 v s ∧ r = .ok s env1 ∧ PostS W c D1 De (k s env1)) r := by
  cases r with
  | ok o e => exact fun v H1 D1 S q rr => ⟨D1, e, o, S, q, rr, rfl, PostS.mono h q⟩
  | exc y e => exact h σ
  | stuck => exact h
theorem PostK.bs {D : Hp} {σ : St} {r : Res DV} {k : DV → Nv → SRes} {De : Ends} (h : PostS W c D De (r.bs k)) :
    PostK W c D σ (fun v H1 => ∃ D1 env1 kvs p o H', v = .ref p ∧ H1 = upd H' p o ∧ H' p = none ∧ DctOk D1 (upd H' p o) p kvs ∧ Sim c D1 env1 σ H' ∧ Same D D1 ∧ r = .ok kvs env1 ∧ PostS W c D1 De (k kvs env1)) r := by
  cases r with
  | ok kvs e => exact fun p o H1 D1 S q hp rr => ⟨D1, e, kvs, p, o, H1, rfl, rfl, hp, rr, S, q, rfl, PostS.mono h q⟩
  | exc y e => exact h σ
  | stuck => exact h
theorem dss_nil : PSs X [] (SOf W c dNext) := pss_nil.weak fun De σ H ⟨D, env, S, p⟩ => p σ H D S (Same.refl _)
theorem seq_core {De : Ends} {σ : St} {H : Hp} (h : SOf W c (dSeq a b) De σ H) : tSeq (SOf W c a) (SOf W c b) De σ H := by
  obtain ⟨D, env, S, p⟩ := h
  refine ⟨D, env, S, ?_⟩
  have p : PostS W c D De ((a env).sq b) := p
  show PostS W c D { De with nx := SOf W c b De } (a env)
  cases g : a env with
  | nx e1 =>
    rw [g] at p
    exact fun σ' H' D' S' s' => ⟨D', e1, S', PostS.mono (r := b e1) p s'⟩
  | bk e1 => rw [g] at p; exact p
  | ct e1 => rw [g] at p; exact p
  | rt x e1 => rw [g] at p; exact p
  | rtD x e1 => rw [g] at p; exact p
  | exc x e1 => rw [g] at p; exact p
  | stuck => rw [g] at p; exact p
theorem dss_cons (h1 : PS X st (SOf W c a)) (h2 : PSs X sts (SOf W c b)) : PSs X (st :: sts) (SOf W c (dSeq a b)) := (pss_cons h1 h2).weak fun _ _ _ => seq_core
theorem dss_one (h1 : PS X st (SOf W c a)) : PSs X [st] (SOf W c a) := pss_one h1
theorem ds_exp (he : PE X e (EOf W c d)) (hs : swapsWith e none pos.line X.env = pure false := by rfl) : PS X (.Expr e pos) (SOf W c (dExp d)) :=
  (ps_expr he hs).weak fun De σ H ⟨D, env, S, p⟩ => by
    refine ⟨D, env, S, ?_⟩
    have p1 := PostE.bs (σ := σ) p
    revert p1
    cases d env with
    | stuck => exact fun z => z
    | exc y e => exact fun z => z
    | ok o1 e1 =>
      intro p1 v H1 D1 S1 s1 r1
      obtain ⟨D2, env2, o, S2, s2, r2, e, p2⟩ := p1 v H1 D1 S1 s1 r1
      cases e
      exact p2 σ H1 D2 S2 (Same.refl _)
theorem ds_expL (he : PE X e (LOf W c l)) (hs : swapsWith e none pos.line X.env = pure false := by rfl) : PS X (.Expr e pos) (SOf W c (dExpL l)) :=
  (ps_expr he hs).weak fun De σ H ⟨D, env, S, p⟩ => by
    refine ⟨D, env, S, ?_⟩
    have p1 := PostL.bs (σ := σ) p
    revert p1
    cases l env with
    | stuck => exact fun z => z
    | exc y e => exact fun z => z
    | ok o1 e1 =>
      intro p1 v vs H1 D1 S1 s1 hp r1
      obtain ⟨D2, env2, xs, q, ws, H', e1, e2, hq, r2, S2, s2, e, p2⟩ := p1 v vs H1 D1 S1 s1 hp r1
      cases e
      rw [e2]
      exact p2 σ _ D2 (S2.grow hq _) (Same.refl _)
theorem ds_ret (he : PE X e (EOf W c d)) : PS X (.Return (some e) pos) (SOf W c (dRet d)) :=
  (ps_ret he).weak fun De σ H ⟨D, env, S, p⟩ => by
    refine ⟨D, env, S, ?_⟩
    have p1 := PostE.bs (σ := σ) p
    revert p1
    cases d env with
    | stuck => exact fun z => z
    | exc y e => exact fun z => z
    | ok o1 e1 =>
      intro p1 v H1 D1 S1 s1 r1
      obtain ⟨D2, env2, o, S2, s2, r2, e, p2⟩ := p1 v H1 D1 S1 s1 r1
      cases e
      unfold retOf at p2
      split at p2
      · rename_i x e' hp
        obtain ⟨D3, S3, s3, r3⟩ := S2.pin r2 hp
        exact p2 v σ H1 D3 S3 s3 r3
      · exact p2.elim
theorem ds_retK (he : PE X e (KOf' W c k)) : PS X (.Return (some e) pos) (SOf W c (dRetK k)) :=
  (ps_ret he).weak fun De σ H ⟨D, env, S, p⟩ => by
    refine ⟨D, env, S, ?_⟩
    have p1 := PostK.bs (σ := σ) p
    revert p1
    cases k env with
    | stuck => exact fun z => z
    | exc y e => exact fun z => z
    | ok o1 e1 =>
      intro p1 q o H1 D1 S1 s1 hq r1
      obtain ⟨D2, env2, kvs, q', o', H', e1, e2, hq', r2, S2, s2, e, p2⟩ := p1 q o H1 D1 S1 s1 hq r1
      cases e
      rw [e1, e2]
      exact p2 q' o' σ H' D2 S2 (Same.refl _) hq' r2
theorem ds_retN : PS X (.Return none pos) (SOf W c dRetN) := ps_retN.weak fun De σ H ⟨D, env, S, p⟩ => p .non σ H D S (Same.refl _) .non
theorem ds_if {x : Expr} {sa sb : List Stmt} (hc : PT X x (TOf W c t)) (ha : PSs X sa (SOf W c a)) (hb : PSs X sb (SOf W c b)) : PS X (.If x sa sb pos) (SOf W c (dIfS t a b)) :=
  (ps_if hc ha hb).weak fun De σ H ⟨D, env, S, p⟩ => by
    refine ⟨D, env, S, ?_⟩
    have p1 := PostT.bs (σ := σ) p
    revert p1
    cases t env with
    | stuck => exact fun z => z
    | exc y e => exact fun z => z
    | ok k e1 =>
      intro p1 H1 D1 S1 s1
      obtain ⟨D2, env2, S2, s2, e, p2⟩ := p1 H1 D1 S1 s1
      cases e
      cases k with
      | true => exact iteT ⟨D2, e1, S2, p2⟩
      | false => exact iteF ⟨D2, e1, S2, p2⟩
theorem ds_pass : PS X (.Pass pos) (SOf W c dNext) := ps_pass.weak fun De σ H ⟨D, env, S, p⟩ => p σ H D S (Same.refl _)
theorem ds_brk : PS X (.Break pos) (SOf W c dBrk) := ps_break.weak fun De σ H ⟨D, env, S, p⟩ => p σ H D S (Same.refl _)
theorem ds_cnt : PS X (.Continue pos) (SOf W c dCnt) := ps_continue.weak fun De σ H ⟨D, env, S, p⟩ => p σ H D S (Same.refl _)
theorem ds_stuck : PS X st (SOf W c dStuck) := ps_never.weak fun De σ H ⟨D, env, S, p⟩ => p
theorem dss_stuck : PSs X sts (SOf W c dStuck) := pss_never.weak fun De σ H ⟨D, env, S, p⟩ => p
/-- storing a slot's value -/
theorem set_core {De : Ends} {σ : St} {H : Hp} {i : Nat} (h : SOf W c (dSet i r) De σ H) : tAsg (ROf W c r) (gName i) De σ H := by
  obtain ⟨D, env, S, p⟩ := h
  refine ⟨D, env, S, ?_⟩
  have p1 := PostR.bs (σ := σ) p
  revert p1
  cases r env with
  | stuck => exact fun z => z
  | exc y e => exact fun z => z
  | ok s e1 =>
    intro p1 v H1 D1 S1 s1 n1
    obtain ⟨D2, env2, s', S2, s2, n2, e, p2⟩ := p1 v H1 D1 S1 s1 n1
    cases e
    unfold Dl.setS at p2
    split at p2
    · rename_i hf
      exact p2 _ H1 D2 (S2.setS (freeAt_lt hf) n2) (Same.refl _)
    · exact p2.elim
theorem ds_set {i : Nat} {x : Str} {pos' : Pos} (hN : X.N.Nodup) (hi : X.N[i]? = some x) (hx : Loc X.env.scope x) (he : PE X e (ROf W c r)) (hs : swapsWith e (some (.Name x pos')) pos.line X.env = pure false := by rfl) (hf : X.fn x = true ∨ X.env.scope.names.lookup x = some .local := by first | exact .inl rfl | exact .inr rfl | assumption) :
    PS X (.Assign [.Name x pos'] e pos) (SOf W c (dSet i r)) := (ps_set hN hi hx he hs hf).weak fun _ _ _ => set_core
end
def dPar (i j : Nat) (r q : DR) : DS := fun env => (r env).bs fun s e => (q e).bs fun t e1 => if i ≠ j ∧ freeAt e1 i = true ∧ freeAt e1 j = true then .nx ((e1.set i s).set j t) else .stuck
def Cf.withB (c : Cf) (B : Hp) : Cf := { c with B := B }
section
variable {W : WX} {c : Cf} {D : Hp} {env : Nv} {σ : St} {H : Hp} {v : V} {s : Slot}
theorem Sim.ofB {B : Hp} (S : Sim (c.withB B) D env σ H) (hB : Same c.B B) : Sim c D env σ H := by
  refine ⟨S.dh, hB.trans S.bh, fun a o e => S.bd a o (hB a o e), S.len, fun i s e => ?_, S.apart, S.tb, S.nd, fun a o e => S.nb a o (hB a o e), S.d0⟩
  have h := S.slot i s e
  cases s with
  | un => trivial
  | v d => exact h
  | own p xs => obtain ⟨a, vs, e, h1, h2, h3, h4, h5⟩ := h; exact ⟨a, vs, e, h1, h2, h3, hB.free h4, h5⟩
  | dct p kvs => obtain ⟨a, e, h1, h3, h4, h5⟩ := h; exact ⟨a, e, h1, h3, hB.free h4, h5⟩
  | gl n => exact h
  | ro xs => exact h
  | la => exact h
theorem Sim.toB (S : Sim c D env σ H) {a : Addr} {o : HO} (h1 : H a = some o) (h2 : D a = none) (h3 : ∀ (j : Nat) (t : Slot) (b : Addr), env[j]? = some t → t.owns = true → (σ[j]?).join = some (V.ref b) → V.ref a ≠ .ref b) (ho : okB o = true := by rfl) : Sim (c.withB (upd c.B a o)) D env σ H := by
  have key : ∀ b, b ≠ a → c.B b = none → (upd c.B a o) b = none := fun b hb e => by rw [upd_ne hb]; exact e
  refine ⟨S.dh, fun b u q => ?_, fun b u q => ?_, S.len, fun i s e => ?_, S.apart, S.tb, S.nd, fun b u q => ?_, S.d0⟩
  · have q : (upd c.B a o) b = some u := q
    by_cases hb : b = a
    · subst hb; rw [upd_same] at q; cases q; exact h1
    · rw [upd_ne hb] at q; exact S.bh b u q
  · have q : (upd c.B a o) b = some u := q
    by_cases hb : b = a
    · subst hb; exact h2
    · rw [upd_ne hb] at q; exact S.bd b u q
  · have h := S.slot i s e
    cases s with
    | un => trivial
    | v d => exact h
    | own p xs =>
      obtain ⟨b, vs, eb, k1, k2, k3, k4, k5⟩ := h
      exact ⟨b, vs, eb, k1, k2, k3, key b (fun z => h3 i _ b e rfl eb (by rw [z])) k4, k5⟩
    | dct p kvs =>
      obtain ⟨b, eb, k1, k3, k4, k5⟩ := h
      exact ⟨b, eb, k1, k3, key b (fun z => h3 i _ b e rfl eb (by rw [z])) k4, k5⟩
    | gl n => exact h
    | ro xs => exact h
    | la => exact h
  · have q : (upd c.B a o) b = some u := q
    by_cases hb : b = a
    · subst hb; rw [upd_same] at q; cases q; exact ho
    · rw [upd_ne hb] at q; exact S.nb b u q
/-- a made slot's thing is held while something else is reckoned: the B that holds it -/
theorem NewSlot.hold (S : Sim c D env σ H) (n : NewSlot c D env σ H v s) : ∃ B, Same c.B B ∧ Sim (c.withB B) D env σ H ∧
    ∀ {D' : Hp} {env' : Nv} {σ' : St} {H' : Hp}, Same D D' → Sim (c.withB B) D' env' σ' H' → NewSlot c D' env' σ' H' v s ∧ (s.owns = true → ∃ a, v = .ref a ∧ B a ≠ none) := by
  obtain ⟨h, hp, hd⟩ := n
  have triv : s.owns = false → ∃ B, Same c.B B ∧ Sim (c.withB B) D env σ H ∧
      ∀ {D' : Hp} {env' : Nv} {σ' : St} {H' : Hp}, Same D D' → Sim (c.withB B) D' env' σ' H' → NewSlot c D' env' σ' H' v s ∧ (s.owns = true → ∃ a, v = .ref a ∧ B a ≠ none) := fun ho =>
    ⟨c.B, Same.refl _, S, fun {D' env' σ' H'} sD S' => ⟨⟨h.lift sD (fun a _ (z : s.owns = true) => absurd (ho.symm.trans z) (by decide)), hp, fun (z : s.owns = true) => absurd (ho.symm.trans z) (by decide)⟩, fun (z : s.owns = true) => absurd (ho.symm.trans z) (by decide)⟩⟩
  cases s with
  | un => exact triv rfl
  | v d => exact triv rfl
  | gl n => exact triv rfl
  | ro xs => exact triv rfl
  | la => exact triv rfl
  | own p xs =>
    obtain ⟨a, vs, e, h1, h2, h3, h4, h5⟩ := h
    cases e
    have hB : Same c.B (upd c.B a (.lst vs)) := same_upd' h4
    refine ⟨upd c.B a (.lst vs), hB, S.toB h1 h3 (hd rfl), fun {D' env' σ' H'} sD S' => ⟨⟨⟨a, vs, rfl, S'.bh a _ upd_same, h2.mono sD, S'.bd a _ upd_same, h4, h5⟩, hp, fun _ j t b ej oj hj z => ?_⟩, fun _ => ⟨a, rfl, by rw [upd_same]; simp⟩⟩⟩
    cases z
    obtain ⟨b', u, e1, e2, e3, e4⟩ := (S'.slot j t ej).tracked oj
    rw [hj] at e1; cases e1
    rw [show (c.withB (upd c.B a (.lst vs))).B a = some (.lst vs) from upd_same] at e4
    cases e4
  | dct p kvs =>
    obtain ⟨a, e, h1, h3, h4, h5⟩ := h
    cases e
    obtain ⟨u, hu, hok⟩ := h1.trackedO
    have hB : Same c.B (upd c.B a u) := same_upd' h4
    refine ⟨upd c.B a u, hB, S.toB hu h3 (hd rfl) (okO_okB hok), fun {D' env' σ' H'} sD S' => ⟨⟨⟨a, rfl, h1.mono sD ((S'.bh a _ upd_same).trans hu.symm), S'.bd a _ upd_same, h4, h5⟩, hp, fun _ j t b ej oj hj z => ?_⟩, fun _ => ⟨a, rfl, by rw [upd_same]; simp⟩⟩⟩
    cases z
    obtain ⟨b', u', e1, e2, e3, e4⟩ := (S'.slot j t ej).tracked oj
    rw [hj] at e1; cases e1
    rw [show (c.withB (upd c.B a u)).B a = some u from upd_same] at e4
    cases e4
theorem PostX.ofB {B : Hp} {x : Ex} (h : PostX W c D σ x env) (hB : Same c.B B) : PostX W (c.withB B) D σ x env := fun cls d H' D' S s r => h cls d H' D' (S.ofB hB) s r
theorem NewSlot.ofB {B : Hp} (n : NewSlot (c.withB B) D env σ H v s) (hB : Same c.B B) : NewSlot c D env σ H v s := by
  refine ⟨?_, n.2⟩
  have h := n.1
  cases s with
  | un => trivial
  | v d => exact h
  | own p xs => obtain ⟨a, vs, e, h1, h2, h3, h4, h5⟩ := h; exact ⟨a, vs, e, h1, h2, h3, hB.free h4, h5⟩
  | dct p kvs => obtain ⟨a, e, h1, h3, h4, h5⟩ := h; exact ⟨a, e, h1, h3, hB.free h4, h5⟩
  | gl n => exact h
  | ro xs => exact h
  | la => exact h
end
section
variable {X : Cx} {W : WX} {c : Cf} {pos : Pos} {a b : Expr} {r q : DR}
/-- the reading of the second while the first is held -/
def RB (W : WX) (c : Cf) (q : DR) : TE := fun σ H Q => ∃ B, Same c.B B ∧ ROf W (c.withB B) q σ H Q
theorem dr_b (h : ∀ B, Same c.B B → PE X b (ROf W (c.withB B) q)) : PE X b (RB W c q) := ⟨fun pins s σ H Q I ⟨B, sb, z⟩ => (h B sb).run pins s σ H Q I z⟩
theorem par_core {σ : St} {H : Hp} {i j : Nat} {De : Ends} {D : Hp} {env : Nv} (S : Sim c D env σ H) (p : PostS W c D De (dPar i j r q env)) :
    ROf W c r σ H fun v H1 => RB W c q σ H1 fun w H2 => ∀ (p : Addr) (o : HO) (H3 : Hp), (H3 = H2 ∨ (H2 p = none ∧ H3 = upd H2 p o)) → De.nx ((σ.set i (some v)).set j (some w)) H3 := by
  refine ⟨D, env, S, ?_⟩
  have p : PostS W c D De ((r env).bs fun s e => (q e).bs fun t e1 => if i ≠ j ∧ freeAt e1 i = true ∧ freeAt e1 j = true then .nx ((e1.set i s).set j t) else .stuck) := p
  revert p
  cases r env with
  | stuck => exact fun z => z
  | exc y e => exact fun z => z σ
  | ok s e1 =>
    intro p v H1 D1 S1 s1 n1
    have p : PostS W c D De ((q e1).bs fun t e1 => if i ≠ j ∧ freeAt e1 i = true ∧ freeAt e1 j = true then .nx ((e1.set i s).set j t) else .stuck) := p
    obtain ⟨B, hB, SB, back⟩ := n1.hold S1
    refine ⟨B, hB, D1, e1, SB, ?_⟩
    revert p
    cases q e1 with
    | stuck => exact fun z => z
    | exc y e => exact fun z => PostX.ofB (PostX.mono (z σ) s1) hB
    | ok t e2 =>
      intro p w H3 D3 S3 s3 n3
      obtain ⟨nv, hv⟩ := back s3 S3
      have p : PostS W c D De (if i ≠ j ∧ freeAt e2 i = true ∧ freeAt e2 j = true then .nx ((e2.set i s).set j t) else .stuck) := p
      split at p
      · rename_i hf
        obtain ⟨hij, hfi, hfj⟩ := hf
        intro pa o H5 h5
        have S4 : Sim c D3 e2 σ H3 := S3.ofB hB
        have hS : Sim c D3 e2 σ H5 := by
          rcases h5 with rfl | ⟨hp, rfl⟩
          · exact S4
          · exact S4.grow hp o
        have up : ∀ {x : V} {u : Slot}, NewSlot c D3 e2 σ H3 x u → NewSlot c D3 e2 σ H5 x u := fun {x u} n => by
          rcases h5 with rfl | ⟨hp, rfl⟩
          · exact n
          · refine ⟨n.1.lift (Same.refl _) fun a ea ho => ?_, n.2⟩
            obtain ⟨a', u', k1, k2, k3, k4⟩ := n.1.tracked ho
            rw [ea] at k1; cases k1
            exact ⟨upd_ne (ne_of_none k2 hp), fun z => z⟩
        have A1 := hS.setS (freeAt_lt hfi) (up nv)
        have n4 : NewSlot c D3 (e2.set i s) (σ.set i (some v)) H5 w t := by
          obtain ⟨k1, k2, k3⟩ := up (n3.ofB hB)
          refine ⟨k1, k2, fun ho k u b ek ok hk z => ?_⟩
          by_cases hik : i = k
          · subst hik
            rw [List.getElem?_set_self (freeAt_lt hfi)] at ek
            cases ek
            rw [join_set_self (by rw [← hS.len]; exact freeAt_lt hfi)] at hk
            cases hk
            obtain ⟨a, hva, hBa⟩ := hv ok
            cases hva
            obtain ⟨a', u', m1, m2, m3, m4⟩ := n3.1.tracked ho
            cases m1
            cases z
            exact hBa m4
          · rw [List.getElem?_set_ne hik] at ek
            rw [join_set_ne hik] at hk
            exact k3 ho k u b ek ok hk z
        exact p _ _ D3 (A1.setS (by rw [List.length_set]; exact freeAt_lt hfj) n4) (s1.trans s3)
      · exact p.elim
/-- a, b = x, y, by the rule that holds where it stands -/
theorem ds_parG {i j : Nat} {stm : Stmt} (rule : ∀ {ta : TA}, PA X [a, b] ta → PS X stm (tPar i j ta)) (ha : PE X a (ROf W c r)) (hb : ∀ B, Same c.B B → PE X b (ROf W (c.withB B) q))
    (he : starEach [a, b] X.env = (false, eval a X.env) :: starEach [b] X.env) (he2 : starEach [b] X.env = (false, eval b X.env) :: starEach [] X.env) : PS X stm (SOf W c (dPar i j r q)) :=
  (rule (pa_cons ha (pa_cons (dr_b hb) pa_nil he2) he)).weak fun De σ H ⟨D, env, S, p⟩ => by
    have := par_core S p
    obtain ⟨D', env', S', p'⟩ := this
    refine ⟨D', env', S', ?_⟩
    revert p'
    cases r env' with
    | stuck => exact fun z => z
    | exc y e => exact fun z => z
    | ok s e1 =>
      intro p1 v H1 D1 S1 s1 n1
      obtain ⟨B, sb, D2, env2, S2, p2⟩ := p1 v H1 D1 S1 s1 n1
      refine ⟨B, sb, D2, env2, S2, ?_⟩
      revert p2
      cases q env2 with
      | stuck => exact fun z => z
      | exc y e => exact fun z => z
      | ok t e2 => exact fun p2 w H3 D3 S3 s3 n3 => ⟨v, w, rfl, p2 w H3 D3 S3 s3 n3 0 (.tup []) H3 (.inl rfl)⟩
/-- a, b = x, y: plain names of the frame, stored from the right -/
theorem ds_par {i j : Nat} {x y : Str} {px py pt : Pos} {kt k2 pt2} (hc : X.calm = true) (hN : X.N.Nodup) (hi : X.N[i]? = some x) (hj : X.N[j]? = some y) (hij : i ≠ j)
    (hx : X.env.scope.names.lookup x = some .local) (hy : X.env.scope.names.lookup y = some .local) (ha : PE X a (ROf W c r)) (hb : ∀ B, Same c.B B → PE X b (ROf W (c.withB B) q))
    (hw : swappedStores [.Tuple [.Name x px, .Name y py] kt pt] (.Tuple [a, b] k2 pt2) X.env = pure (some [x, y]))
    (hs : swapsWithSole [.Tuple [.Name x px, .Name y py] kt pt] (.Tuple [a, b] k2 pt2) pos.line X.env = pure false := by rfl)
    (he : starEach [a, b] X.env = (false, eval a X.env) :: starEach [b] X.env := by rfl) (he2 : starEach [b] X.env = (false, eval b X.env) :: starEach [] X.env := by rfl) :
    PS X (.Assign [.Tuple [.Name x px, .Name y py] kt pt] (.Tuple [a, b] k2 pt2) pos) (SOf W c (dPar i j r q)) :=
  ds_parG (fun h => ps_par hc hN hi hj hij hx hy h hw hs) ha hb he he2
theorem ds_parT {i j : Nat} {x y : Str} {px py pt : Pos} {kt k2 pt2} (hc : X.calm = true) (hN : X.N.Nodup) (hi : X.N[i]? = some x) (hj : X.N[j]? = some y)
    (hx : Loc X.env.scope x) (hy : Loc X.env.scope y) (ha : PE X a (ROf W c r)) (hb : ∀ B, Same c.B B → PE X b (ROf W (c.withB B) q)) (hf : X.fn x = true) (hf2 : X.fn y = true)
    (hs : swapsWithSole [.Tuple [.Name x px, .Name y py] kt pt] (.Tuple [a, b] k2 pt2) pos.line X.env = pure false := by rfl) (hw : swappedStores [.Tuple [.Name x px, .Name y py] kt pt] (.Tuple [a, b] k2 pt2) X.env = pure none := by rfl)
    (he : starEach [a, b] X.env = (false, eval a X.env) :: starEach [b] X.env := by rfl) (he2 : starEach [b] X.env = (false, eval b X.env) :: starEach [] X.env := by rfl) :
    PS X (.Assign [.Tuple [.Name x px, .Name y py] kt pt] (.Tuple [a, b] k2 pt2) pos) (SOf W c (dPar i j r q)) :=
  (ps_asg (pe_tup (pa_cons ha (pa_cons (dr_b hb) pa_nil he2) he)) (pg_tup (n := 2) hc (pgs_cons (pg_name hN hi hx (.inl hf)) (pgs_cons (pg_name hN hj hy (.inl hf2)) pgs_nil))) hs hw).weak fun De σ H ⟨D, env, S, p⟩ => by
    have := par_core S p
    obtain ⟨D', env', S', p'⟩ := this
    refine ⟨D', env', S', ?_⟩
    revert p'
    cases r env' with
    | stuck => exact fun z => z
    | exc y e => exact fun z => z
    | ok s e1 =>
      intro p1 v H1 D1 S1 s1 n1
      obtain ⟨B, sb, D2, env2, S2, p2⟩ := p1 v H1 D1 S1 s1 n1
      refine ⟨B, sb, D2, env2, S2, ?_⟩
      revert p2
      cases q env2 with
      | stuck => exact fun z => z
      | exc y e => exact fun z => z
      | ok t e2 => exact fun p2 w H3 D3 S3 s3 n3 => ⟨(by show 2 ≤ sizeLine; decide), fun pa hpa => ⟨pa, [v, w], rfl, .of upd_same, rfl, v, [w], rfl, w, [], rfl, rfl, p2 w H3 D3 S3 s3 n3 pa _ _ (.inr ⟨hpa, rfl⟩)⟩⟩
end
end L2.Dl

namespace L2.Dl
open PySem
open PySem.Spec
open PyProof.Rows
variable [KF]

mutual
inductive Pat where
  | nm (i : Nat)
  | st (i : Nat) (d : DE)
  | tp (ps : Pats)
inductive Pats where
  | nil
  | cons (p : Pat) (ps : Pats)
end
def Pats.len : Pats → Nat
  | .nil => 0
  | .cons _ r => r.len + 1
mutual
def asgP : Pat → PyData → Nv → Option Nv
  | .nm i, x, env => if freeAt env i = true then some (env.set i (.v x)) else none
  | .st i d, x, env => match env[i]? with
    | some (.own _ _) => match d env with
      | .ok o e1 => match getOV e1 o with
        | some (.int k) => match e1[i]? with
          | some (.own p xs) => match ixN xs.length k with
            | some j => some (e1.set i (.own p (xs.set j x)))
            | none => none
          | _ => none
        | _ => none
      | _ => none
    | _ => none
  | .tp ps, .tuple ds, env => asgPs ps ds env
  | .tp _, _, _ => none
def asgPs : Pats → List PyData → Nv → Option Nv
  | .nil, [], env => some env
  | .cons p ps, d :: ds, env => match asgP p d env with
    | some e => asgPs ps ds e
    | none => none
  | _, _, _ => none
end
theorem asgPs_len : ∀ {ps : Pats} {ds : List PyData} {env env' : Nv}, asgPs ps ds env = some env' → ds.length = ps.len
  | .nil, [], _, _, _ => rfl
  | .nil, _ :: _, _, _, h => by simp [asgPs] at h
  | .cons p ps, [], _, _, h => by simp [asgPs] at h
  | .cons p ps, d :: ds, env, env', h => by
    unfold asgPs at h
    split at h
    · exact congrArg (· + 1) (asgPs_len h)
    · cases h
mutual
def Pat.slots : Pat → List Nat
  | .nm i => [i]
  | .st _ _ => []
  | .tp ps => ps.slots
def Pats.slots : Pats → List Nat
  | .nil => []
  | .cons p ps => p.slots ++ ps.slots
end
/-- σ' is σ but for these slots -/
def Agr (l : List Nat) (σ σ' : St) : Prop := σ'.length = σ.length ∧ ∀ j, j ∉ l → σ'[j]? = σ[j]?
theorem Agr.refl {l : List Nat} {σ : St} : Agr l σ σ := ⟨rfl, fun _ _ => rfl⟩
theorem Agr.trans {l l' : List Nat} {σ σ1 σ2 : St} (a : Agr l σ σ1) (b : Agr l' σ1 σ2) : Agr (l ++ l') σ σ2 :=
  ⟨b.1.trans a.1, fun j h => (b.2 j fun z => h (List.mem_append_right _ z)).trans (a.2 j fun z => h (List.mem_append_left _ z))⟩
def GOf (c : Cf) (p : Pat) : TG := fun v σ H R => ∃ D env x env', Sim c D env σ H ∧ Rp D v x ∧ asgP p x env = some env' ∧ ∀ σ' H' D', Sim c D' env' σ' H' → Same D D' → Agr p.slots σ σ' → R σ' H'
def GsOf (c : Cf) (p : Pats) : TGs := fun vs σ H R => ∃ D env ds env', Sim c D env σ H ∧ RpL D vs ds ∧ asgPs p ds env = some env' ∧ ∀ σ' H' D', Sim c D' env' σ' H' → Same D D' → Agr p.slots σ σ' → R σ' H'
section
variable {X : Cx} {e : Expr} {es : List Expr} {pos : Pos} {c : Cf}
theorem _root_.L2.PG.weak {t t' : TG} (h : PG X e t) (w : ∀ v σ H Q, t' v σ H Q → t v σ H Q) : PG X e t' := ⟨fun pins s σ H v u Q I r q => h.run pins s σ H v u Q I r (w v σ H Q q)⟩
theorem _root_.L2.PGs.weak {t t' : TGs} (h : PGs X es t) (w : ∀ v σ H Q, t' v σ H Q → t v σ H Q) : PGs X es t' := ⟨fun pins s σ H v u Q I r q => h.run pins s σ H v u Q I r (w v σ H Q q)⟩
theorem dg_nm {i : Nat} {x : Str} (hN : X.N.Nodup) (hi : X.N[i]? = some x) (hx : Loc X.env.scope x) (hf : X.fn x = true ∨ X.env.scope.names.lookup x = some .local := by first | exact .inl rfl | exact .inr rfl | assumption) : PG X (.Name x pos) (GOf c (.nm i)) :=
  (pg_name hN hi hx hf).weak fun v σ H R ⟨D, env, x, env', S, r, g, q⟩ => by
    unfold asgP at g
    split at g
    · rename_i h
      cases g
      exact q _ H D (S.setS (freeAt_lt h) (.ofV r)) (Same.refl _) ⟨by simp, fun j hj => List.getElem?_set_ne fun z => hj (by simp [Pat.slots, z])⟩
    · cases g
theorem RpL.set {D : Hp} {v : V} {x : PyData} (h : Rp D v x) : ∀ {vs : List V} {xs : List PyData} (j : Nat), RpL D vs xs → RpL D (vs.set j v) (xs.set j x)
  | _, _, _, .nil => .nil
  | _, _, 0, .cons _ r => .cons h r
  | _, _, j + 1, .cons q r => .cons q (RpL.set h j r)
theorem dg_st {i : Nat} {x : Str} {ie : Expr} {d : DE} {p1 : Pos} (hN : X.N[i]? = some x) (hv : Vis X.env.scope x) (he : PE X ie (EOf (fun _ _ _ _ => False) c d)) (hd : (x == ("__debug__" : Str)) = false := by decide) (hcd : (x == ("__classdict__" : Str)) = false := by decide)
    (ha : ∀ v, assign (.Subscript (.Name x p1) ie pos) X.env v = (do
      let ov ← holding [v] (eval (.Name x p1) X.env)
      let iv ← holding [v, ov] (eval ie X.env)
      standAt pos
      holding [v, ov, iv] (setItem ov iv v)
      release [v, ov, iv] []) := by intro _; rfl) : PG X (.Subscript (.Name x p1) ie pos) (GOf c (.st i d)) :=
  (pg_sub (pe_var hN hv hd hcd) he set_list ha).weak fun v σ H R ⟨D, env, z, env', S, r, g, q⟩ => by
    unfold asgP at g
    split at g
    · rename_i p0 xs0 h0
      obtain ⟨a, vs0, ea, _⟩ := S.slot i _ h0
      have ej : σ[i]? = some (some (.ref a)) := by
        cases hs : σ[i]? with
        | none => rw [hs] at ea; cases ea
        | some w => rw [hs] at ea; simpa using ea
      refine ⟨.ref a, ej, D, env, S, ?_⟩
      split at g
      · rename_i o e1 hde
        rw [hde]
        intro iv H1 D1 S1 s1 r1
        split at g
        · rename_i k hk
          split at g
          · rename_i p xs he1
            split at g
            · rename_i j hj
              cases g
              have r2 := (S1.getq r1 (Same.refl _) hk).int
              subst r2
              obtain ⟨a', vs, ea', h1, h2, _⟩ := S1.slot i _ he1
              rw [ea] at ea'
              cases ea'
              exact ⟨a, vs, k, j, rfl, rfl, h1, by rw [h2.length]; exact hj, q σ _ D1 (S1.putOwn he1 ea (RpL.set (r.mono s1) j h2)) s1 .refl⟩
            · cases g
          · cases g
        · cases g
      · cases g
    · cases g
theorem dgs_nil : PGs X [] (GsOf c .nil) := pgs_nil.weak fun vs σ H R ⟨D, env, ds, env', S, r, g, q⟩ => by
  have := asgPs_len g
  cases r with
  | nil => cases g; exact ⟨rfl, q σ H D S (Same.refl _) .refl⟩
  | cons _ _ => cases this
theorem dgs_cons {p : Pat} {ps : Pats} (h1 : PG X e (GOf c p)) (h2 : PGs X es (GsOf c ps)) (hs : (assignEach (e :: es) X.env).map (·.2) = assign e X.env :: (assignEach es X.env).map (·.2) := by rfl) : PGs X (e :: es) (GsOf c (.cons p ps)) :=
  (pgs_cons h1 h2 hs).weak fun vs σ H R ⟨D, env, ds, env', S, r, g, q⟩ => by
    cases r with
    | nil => simp [asgPs] at g
    | @cons v vs d ds r1 r2 =>
      unfold asgPs at g
      split at g
      · rename_i e1 h
        exact ⟨v, vs, rfl, D, env, d, e1, S, r1, h, fun σ' H' D' S' s' a' => ⟨D', e1, ds, env', S', r2.mono s', g, fun σ2 H2 D2 S2 s2 a2 => q σ2 H2 D2 S2 (s'.trans s2) (a'.trans a2)⟩⟩
      · cases g
theorem dg_tp {k : Nat} {ps : Pats} (hK : KF.frag = X.K) (hc : X.calm = true) (h : PGs X es (GsOf c ps)) (hn : (assignEach es X.env).length = ps.len := by rfl) (hst : (assignEach es X.env).findIdx? (·.1) = none := by rfl) : PG X (.Tuple es k pos) (GOf c (.tp ps)) :=
  (pg_tup hc h hn hst).weak fun v σ H R ⟨D, env, x, env', S, r, g, q⟩ => by
    obtain ⟨ds, rfl, g⟩ : ∃ ds, x = .tuple ds ∧ asgPs ps ds env = some env' := by
      cases x <;> first
        | exact ⟨_, rfl, g⟩
        | (simp [asgP] at g)
    obtain ⟨a, vs, rfl, h1, h2⟩ := r.tupS
    exact ⟨a, vs, rfl, hK ▸ h1.same S.dh, by rw [h2.length, asgPs_len g], D, env, ds, env', S, h2, g, q⟩
end
def asgOf (p : Pat) (o : OV) (e : Nv) : SRes := match pinOV e o with
  | some (x, e1) => match asgP p x e1 with
    | some e2 => .nx e2
    | none => .stuck
  | none => .stuck
/-- target = e, the target names or nested names -/
def dAsg (p : Pat) (d : DE) : DS := fun env => (d env).bs (asgOf p)
section
variable {X : Cx} {W : WX} {c : Cf} {e tg : Expr} {pos : Pos} {d : DE} {p : Pat}
theorem ds_asg (he : PE X e (EOf W c d)) (hg : PG X tg (GOf c p)) (hs : swapsWithSole [tg] e pos.line X.env = pure false := by rfl) (hw : swappedStores [tg] e X.env = pure none := by rfl)
    (h1 : (assignEach [tg] X.env).map (·.2) = [assign tg X.env] := by rfl) : PS X (.Assign [tg] e pos) (SOf W c (dAsg p d)) :=
  (ps_asg he hg hs hw h1).weak fun De σ H ⟨D, env, S, pp⟩ => by
    refine ⟨D, env, S, ?_⟩
    have pp : PostS W c D De ((d env).bs (asgOf p)) := pp
    revert pp
    cases d env with
    | stuck => exact fun z => z
    | exc y e => exact fun z => z σ
    | ok o e1 =>
      intro pp v H1 D1 S1 s1 r1
      have pp : PostS W c D De (asgOf p o e1) := pp
      unfold asgOf at pp
      split at pp
      · rename_i x e2 hp
        obtain ⟨D2, S2, s2, r2⟩ := S1.pin r1 hp
        split at pp
        · rename_i e3 h3
          exact ⟨D2, e2, x, e3, S2, r2, h3, fun σ' H' D' S' s' _ => pp σ' H' D' S' ((s1.trans s2).trans s')⟩
        · exact pp.elim
      · exact pp.elim
end
def lookD (kvs : List (PyData × PyData)) (k : PyData) : Option PyData := (kvs.find? fun p => PyData.eqv p.1 k).map (·.2)
def putD (kvs : List (PyData × PyData)) (k v : PyData) : List (PyData × PyData) :=
  if (kvs.any fun p => PyData.eqv p.1 k) = true then kvs.map (fun p => if PyData.eqv p.1 k = true then (p.1, v) else p) else kvs ++ [(k, v)]
/-- a key: an int or a text; a tuple of them -/
def isK : PyData → Bool
  | .int _ => true
  | .str _ => true
  | _ => false
def keyOk (t : Bool) : PyData → Bool
  | .tuple xs => t && !xs.isEmpty && xs.all isK
  | x => !t && isK x
theorem isK_kD {x : PyData} (h : isK x = true) : ∃ k, x = kD k := by
  cases x <;> try (cases h; done)
  · exact ⟨.inl _, rfl⟩
  · exact ⟨.inr _, rfl⟩
theorem isK_all : ∀ {xs : List PyData}, xs.all isK = true → ∃ ks : List Key, xs = ks.map kD
  | [], _ => ⟨[], rfl⟩
  | x :: xs, h => by
    rw [List.all_cons, Bool.and_eq_true] at h
    obtain ⟨k, rfl⟩ := isK_kD h.1
    obtain ⟨ks, rfl⟩ := isK_all h.2
    exact ⟨k :: ks, rfl⟩
theorem keyOk_K {x : PyData} (h : keyOk false x = true) : ∃ k, x = kD k := by
  cases x <;> first
    | exact isK_kD (by simpa [keyOk] using h)
    | (simp [keyOk] at h)
theorem keyOk_T {x : PyData} (h : keyOk true x = true) : ∃ ks, x = kDT ks ∧ ks ≠ [] := by
  cases x <;> first
    | (simp [keyOk, isK] at h; done)
    | skip
  rename_i xs
  simp only [keyOk, Bool.true_and, Bool.and_eq_true, Bool.not_eq_true', List.isEmpty_eq_false_iff] at h
  obtain ⟨ks, rfl⟩ := isK_all h.2
  exact ⟨ks, rfl, fun z => h.1 (by rw [z]; rfl)⟩
theorem eqv_kD : ∀ a b : Key, PyData.eqv (kD a) (kD b) = decide (a = b)
  | .inl i, .inl j => by
    rw [show PyData.eqv (kD (.inl i)) (kD (.inl j)) = (i == j) by simp [kD, PyData.eqv], key_ll]
  | .inr i, .inr j => by
    rw [show PyData.eqv (kD (.inr i)) (kD (.inr j)) = (i == j) by simp [kD, PyData.eqv], key_rr]
    by_cases h : i = j
    · subst h; simp
    · rw [decide_eq_false h]; exact beq_eq_false_iff_ne.mpr h
  | .inl i, .inr j => by simp [kD, PyData.eqv]
  | .inr i, .inl j => by simp [kD, PyData.eqv]
theorem eqvAll_kD : ∀ a b : List Key, PyData.eqvAll (a.map kD) (b.map kD) = decide (a = b)
  | [], [] => by simp [PyData.eqvAll]
  | x :: a, y :: b => by
    rw [List.map_cons, List.map_cons, PyData.eqvAll, eqv_kD, eqvAll_kD a b]
    by_cases h1 : x = y <;> by_cases h2 : a = b <;> simp [h1, h2]
  | [], _ :: _ => by simp [PyData.eqvAll]
  | _ :: _, [] => by simp [PyData.eqvAll]
theorem eqv_kDT (a b : List Key) : PyData.eqv (kDT a) (kDT b) = decide (a = b) := by
  rw [← eqvAll_kD a b]; rfl
section
variable {κ : Type} [DecidableEq κ] {D : Hp} {f : κ → PyData} (hf : ∀ a b, PyData.eqv (f a) (f b) = decide (a = b))
include hf
theorem look_kv : ∀ {kv : List (κ × V)} {kvs : List (PyData × PyData)} {k : κ}, Paired (fun (p : κ × V) (q : PyData × PyData) => q.1 = f p.1 ∧ Rp D p.2 q.2) kv kvs →
    (valV kv k = none ∧ lookD kvs (f k) = none) ∨ ∃ v x, valV kv k = some v ∧ lookD kvs (f k) = some x ∧ Rp D v x
  | _, _, k, .nil => .inl ⟨rfl, rfl⟩
  | _, _, k, .cons (a := p) (b := q) (l₁ := kv) (l₂ := kvs) h t => by
    obtain ⟨h1, h2⟩ := h
    by_cases e : p.1 = k
    · refine .inr ⟨p.2, q.2, valV_pos e, ?_, h2⟩
      unfold lookD
      rw [List.find?_cons_of_pos (by rw [h1, hf, e]; simp)]
      rfl
    · have e1 : valV (p :: kv) k = valV kv k := by simp [valV, List.find?_cons, e]
      have e2 : lookD (q :: kvs) (f k) = lookD kvs (f k) := by
        unfold lookD
        rw [List.find?_cons_of_neg (by rw [h1, hf]; simp [e])]
      rw [e1, e2]
      exact look_kv t
theorem any_kv : ∀ {kv : List (κ × V)} {kvs : List (PyData × PyData)} {k : κ}, Paired (fun (p : κ × V) (q : PyData × PyData) => q.1 = f p.1 ∧ Rp D p.2 q.2) kv kvs →
    (kv.any fun p => decide (p.1 = k)) = kvs.any fun p => PyData.eqv p.1 (f k)
  | _, _, k, .nil => rfl
  | _, _, k, .cons (a := p) (b := q) (l₁ := kv) (l₂ := kvs) h t => by
    rw [List.any_cons, List.any_cons, any_kv t, h.1, hf]
theorem map_kv {v : V} {x : PyData} (r : Rp D v x) : ∀ {kv : List (κ × V)} {kvs : List (PyData × PyData)} {k : κ}, Paired (fun (p : κ × V) (q : PyData × PyData) => q.1 = f p.1 ∧ Rp D p.2 q.2) kv kvs →
    Paired (fun (p : κ × V) (q : PyData × PyData) => q.1 = f p.1 ∧ Rp D p.2 q.2) (kv.map fun p => if p.1 = k then (p.1, v) else p) (kvs.map fun p => if PyData.eqv p.1 (f k) = true then (p.1, x) else p)
  | _, _, k, .nil => .nil
  | _, _, k, .cons (a := p) (b := q) (l₁ := kv) (l₂ := kvs) h t => by
    rw [List.map_cons, List.map_cons]
    refine .cons ?_ (map_kv r t)
    by_cases e : p.1 = k
    · rw [if_pos e, if_pos (by rw [h.1, hf, e]; simp)]
      exact ⟨h.1, r⟩
    · rw [if_neg e, if_neg (by rw [h.1, hf]; simp [e])]
      exact h
theorem put_kv {v : V} {x : PyData} (r : Rp D v x) {kv : List (κ × V)} {kvs : List (PyData × PyData)} {k : κ} (h : Paired (fun (p : κ × V) (q : PyData × PyData) => q.1 = f p.1 ∧ Rp D p.2 q.2) kv kvs) :
    Paired (fun (p : κ × V) (q : PyData × PyData) => q.1 = f p.1 ∧ Rp D p.2 q.2) (putK kv k v) (putD kvs (f k) x) := by
  unfold putK putD
  rw [any_kv hf (k := k) h]
  split
  · exact map_kv hf r h
  · exact h.snoc ⟨rfl, r⟩
end
theorem keysV {D : Hp} : ∀ {ks : List Key} {vs : List V}, RpL D vs (ks.map kD) → vs = ks.map kV
  | [], _, .nil => rfl
  | k :: ks, _, .cons q1 q2 => by
    rw [keysV q2, List.map_cons]
    cases k <;> (cases q1; rfl)
/-- the dict's answer at a key that is fit for it -/
theorem DctOk.get {D H : Hp} {a : Addr} {d : DV} {y : V} {k : PyData} (h : DctOk D H a d) (s : Same D H) (r : Rp D y k) (hk : keyOk d.t k = true) :
    ∃ o, DGet H a y o ∧ ((o = none ∧ lookD d.kvs k = none) ∨ ∃ v x, o = some v ∧ lookD d.kvs k = some x ∧ Rp D v x) := by
  rcases h with ⟨h0, kv, h1, h2⟩ | ⟨h0, kv, h1, h2⟩
  · rw [h0] at hk
    obtain ⟨k', rfl⟩ := keyOk_K hk
    have hy : y = kV k' := by
      cases k' <;> (cases r; rfl)
    subst hy
    refine ⟨_, .k h1, ?_⟩
    rcases look_kv eqv_kD (k := k') h2 with ⟨e1, e2⟩ | ⟨v, x, e1, e2, e3⟩
    · exact .inl ⟨e1, e2⟩
    · exact .inr ⟨v, x, e1, e2, e3⟩
  · rw [h0] at hk
    obtain ⟨ks, rfl, hne⟩ := keyOk_T hk
    have hr : ∃ b vs, y = .ref b ∧ D b = some (.tup vs) ∧ RpL D vs (ks.map kD) := by
      generalize hx : kDT ks = x at r
      cases r with
      | tup e1 e2 => cases hx; exact ⟨_, _, rfl, e1, e2⟩
      | nilK _ => cases ks with
        | nil => exact absurd rfl hne
        | cons _ _ => cases hx
      | _ => cases hx
    obtain ⟨b, vs, rfl, e1, e2⟩ := hr
    clear r
    have hv : vs = ks.map kV := keysV e2
    subst hv
    refine ⟨_, .t h1 (s _ _ e1), ?_⟩
    rcases look_kv eqv_kDT (k := ks) h2 with ⟨e1, e2⟩ | ⟨v, x, e1, e2, e3⟩
    · exact .inl ⟨e1, e2⟩
    · exact .inr ⟨v, x, e1, e2, e3⟩
theorem DctOk.put {D H : Hp} {a : Addr} {d : DV} {y v : V} {k x : PyData} (h : DctOk D H a d) (s : Same D H) (r : Rp D y k) (rv : Rp D v x) (hk : keyOk d.t k = true) (hl : d.kvs.length < lenB) :
    ∃ o, DPut H a y v (upd H a o) ∧ DctOk D (upd H a o) a ⟨d.t, putD d.kvs k x⟩ := by
  have hz : ∀ n, n < lenB → n < sizeLine := fun n h => Nat.lt_of_lt_of_le h (lenB_le (Nat.le_refl _))
  rcases h with ⟨h0, kv, h1, h2⟩ | ⟨h0, kv, h1, h2⟩
  · rw [h0] at hk
    obtain ⟨k', rfl⟩ := keyOk_K hk
    have hy : y = kV k' := by
      cases k' <;> (cases r; rfl)
    subst hy
    exact ⟨_, .k h1 (hz _ (by rw [h2.length]; exact hl)), .inl ⟨h0, _, upd_same, put_kv eqv_kD rv h2⟩⟩
  · rw [h0] at hk
    obtain ⟨ks, rfl, hne⟩ := keyOk_T hk
    have hr : ∃ b vs, y = .ref b ∧ D b = some (.tup vs) ∧ RpL D vs (ks.map kD) := by
      generalize hx : kDT ks = x at r
      cases r with
      | tup e1 e2 => cases hx; exact ⟨_, _, rfl, e1, e2⟩
      | nilK _ => cases ks with
        | nil => exact absurd rfl hne
        | cons _ _ => cases hx
      | _ => cases hx
    obtain ⟨b, vs, rfl, e1, e2⟩ := hr
    clear r
    have hv : vs = ks.map kV := keysV e2
    subst hv
    exact ⟨_, .t h1 (s _ _ e1) (hz _ (by rw [h2.length]; exact hl)), .inr ⟨h0, _, upd_same, put_kv eqv_kDT rv h2⟩⟩
end L2.Dl

namespace L2.Dl
open PySem
open PySem.Spec
open PyProof.Rows
variable [KF]

theorem join_some {σ : St} {i : Nat} {v : V} (h : (σ[i]?).join = some v) : σ[i]? = some (some v) := by
  cases q : σ[i]? with
  | none => rw [q] at h; cases h
  | some w => rw [q] at h; cases w <;> first | (cases h; rfl) | cases h
def dctAt (env : Nv) (i : Nat) : Option (Bool × DV) := match env[i]? with
  | some (.dct p d) => some (p, d)
  | _ => none
def ownAt (env : Nv) (i : Nat) : Option (Bool × List PyData) := match env[i]? with
  | some (.own p d) => some (p, d)
  | _ => none
theorem dctAt_eq {env : Nv} {i : Nat} {p : Bool} {d : DV} (h : dctAt env i = some (p, d)) : env[i]? = some (.dct p d) := by
  unfold dctAt at h
  split at h
  · rename_i e; cases h; exact e
  · cases h
theorem ownAt_eq {env : Nv} {i : Nat} {p : Bool} {d : List PyData} (h : ownAt env i = some (p, d)) : env[i]? = some (.own p d) := by
  unfold ownAt at h
  split at h
  · rename_i e; cases h; exact e
  · cases h
/-- a key (or a value) that stays, then the dict of slot i as it is then -/
def withKey (i : Nat) (o : OV) (e : Nv) (k : Bool → DV → PyData → Nv → Res OV) : Res OV := match pinOV e o with
  | some (x, e1) => match dctAt e1 i with
    | some (p, d) => if keyOk d.t x = true then k p d x e1 else .stuck
    | none => .stuck
  | none => .stuck
def dDGet (i : Nat) (dk : DE) : DE := fun env => match dctAt env i with
  | some _ => (dk env).bd fun o e => withKey i o e fun _ d x e1 => match lookD d.kvs x with
    | some y => .ok (.d y) e1
    | none => .stuck
  | none => .stuck
def dDIn (i : Nat) (neg : Bool) (dk : DE) : DE := fun env => (dk env).bd fun o e => withKey i o e fun _ d x e1 => .ok (.d (.bool ((lookD d.kvs x).isSome != neg))) e1
def dDGet2 (i : Nat) (dk dx : DE) : DE := fun env => match dctAt env i with
  | some _ => (dk env).bd fun o e => match pinOV e o with
    | some (x, e1) => (dx e1).bd fun o2 e2 => match pinOV e2 o2 with
      | some (z, e3) => match dctAt e3 i with
        | some (_, d) => if keyOk d.t x = true then .ok (.d ((lookD d.kvs x).getD z)) e3 else .stuck
        | none => .stuck
      | none => .stuck
    | none => .stuck
  | none => .stuck
/-- d[k] = v: v first, then k -/
def dDPut (i : Nat) (dk dv : DE) : DS := fun env => (dv env).bs fun o e => match pinOV e o with
  | some (z, e1) => match dctAt e1 i with
    | some _ => (dk e1).bs fun o2 e2 => match pinOV e2 o2 with
      | some (x, e3) => match dctAt e3 i with
        | some (p, d) => if keyOk d.t x = true ∧ d.kvs.length < lenB then .nx (e3.set i (.dct p ⟨d.t, putD d.kvs x z⟩)) else .stuck
        | none => .stuck
      | none => .stuck
    | none => .stuck
  | none => .stuck
section
variable {X : Cx} {W : WX} {c : Cf} {pos p1 : Pos} {k e : Expr} {dk dx dv : DE} {i : Nat} {x : Str}
theorem Sim.dctSlot {D : Hp} {env : Nv} {σ : St} {H : Hp} {p : Bool} {d : DV} (S : Sim c D env σ H) (h : dctAt env i = some (p, d)) : ∃ a, σ[i]? = some (some (.ref a)) ∧ (σ[i]?).join = some (.ref a) ∧ DctOk D H a d := by
  obtain ⟨a, e1, h1, _⟩ := S.slot i _ (dctAt_eq h)
  exact ⟨a, join_some e1, e1, h1⟩
theorem Sim.ownSlot {D : Hp} {env : Nv} {σ : St} {H : Hp} {p : Bool} {d : List PyData} (S : Sim c D env σ H) (h : ownAt env i = some (p, d)) : ∃ a vs, σ[i]? = some (some (.ref a)) ∧ (σ[i]?).join = some (.ref a) ∧ H a = some (.lst vs) ∧ RpL D vs d := by
  obtain ⟨a, vs, e1, h1, h2, _⟩ := S.slot i _ (ownAt_eq h)
  exact ⟨a, vs, join_some e1, e1, h1, h2⟩
theorem de_dget (hu : X.A.units + 1 < cLine) (hN : X.N[i]? = some x) (hv : Vis X.env.scope x) (hk : PE X k (EOf W c dk)) (hs : NoSl k) (hd : (x == ("__debug__" : Str)) = false := by decide) (hcd : (x == ("__classdict__" : Str)) = false := by decide) :
    PE X (.Subscript (.Name x p1) k pos) (EOf W c (dDGet i dk)) :=
  (pe_dget hu (pe_var hN hv hd hcd) hk hs).weak fun σ H Q ⟨D, env, S, p⟩ => by
    have p : PostE W c D σ Q (dDGet i dk env) := p
    unfold dDGet at p
    split at p
    · rename_i d0 h0
      obtain ⟨a, ea, ja, _⟩ := S.dctSlot (p := d0.1) (d := d0.2) h0
      refine ⟨_, ea, D, env, S, ?_⟩
      revert p
      cases dk env with
      | stuck => exact fun z => z
      | exc y e => exact fun z => z
      | ok o e1 =>
        intro p v H1 D1 S1 s1 r1
        have p : PostE W c D σ Q (withKey i o e1 _) := p
        unfold withKey at p
        split at p
        · rename_i y e2 hp
          obtain ⟨D2, S2, s2, r2⟩ := S1.pin r1 hp
          split at p
          · rename_i pp d hd2
            split at p
            · rename_i hk2
              dsimp only at p
              split at p
              · rename_i z hz
                obtain ⟨a', ea', ja', hd3⟩ := S2.dctSlot hd2
                rw [ja] at ja'; cases ja'
                obtain ⟨o', g1, g2⟩ := hd3.get S2.dh r2 hk2
                rcases g2 with ⟨_, g2⟩ | ⟨w, z', rfl, g2, g3⟩
                · rw [hz] at g2; cases g2
                · rw [hz] at g2; cases g2
                  exact ⟨a, w, rfl, g1, p w H1 D2 S2 (s1.trans s2) g3⟩
              · exact p.elim
            · exact p.elim
          · exact p.elim
        · exact p.elim
    · exact p.elim
theorem din_core {neg : Bool} {σ : St} {H : Hp} {Q : VK} (h : EOf W c (dDIn i neg dk) σ H Q) : EOf W c dk σ H fun y H1 => ∃ v, σ[i]? = some (some v) ∧ ∃ a o, v = .ref a ∧ DGet H1 a y o ∧ Q (.bl (o.isSome != neg)) H1 := by
  obtain ⟨D, env, S, p⟩ := h
  refine ⟨D, env, S, ?_⟩
  have p : PostE W c D σ Q ((dk env).bd _) := p
  revert p
  cases dk env with
  | stuck => exact fun z => z
  | exc y e => exact fun z => z
  | ok o e1 =>
    intro p v H1 D1 S1 s1 r1
    have p : PostE W c D σ Q (withKey i o e1 _) := p
    unfold withKey at p
    split at p
    · rename_i y e2 hp
      obtain ⟨D2, S2, s2, r2⟩ := S1.pin r1 hp
      split at p
      · rename_i pp d hd2
        split at p
        · rename_i hk2
          obtain ⟨a', ea', ja', hd3⟩ := S2.dctSlot hd2
          obtain ⟨o', g1, g2⟩ := hd3.get S2.dh r2 hk2
          refine ⟨_, ea', a', o', rfl, g1, ?_⟩
          have : o'.isSome = (lookD d.kvs y).isSome := by
            rcases g2 with ⟨rfl, g2⟩ | ⟨w, z', rfl, g2, g3⟩ <;> rw [g2] <;> rfl
          rw [this]
          exact p _ H1 D2 S2 (s1.trans s2) (.bl _)
        · exact p.elim
      · exact p.elim
    · exact p.elim
theorem de_din (hu : X.A.units + 1 < cLine) (hN : X.N[i]? = some x) (hv : Vis X.env.scope x) (hk : PE X k (EOf W c dk)) (hm : behindInMarks .In (.Name x p1) = false := by rfl) (hd : (x == ("__debug__" : Str)) = false := by decide) (hcd : (x == ("__classdict__" : Str)) = false := by decide) :
    PE X (.Compare k [.In] [.Name x p1] pos) (EOf W c (dDIn i false dk)) :=
  (pe_cmp (pc_din hu hk (pe_var hN hv hd hcd)) hm).weak fun σ H Q h => by
    have := din_core h
    simp only [Bool.bne_false] at this
    exact this
theorem de_dnotin (hu : X.A.units + 1 < cLine) (hN : X.N[i]? = some x) (hv : Vis X.env.scope x) (hk : PE X k (EOf W c dk)) (hm : behindInMarks .NotIn (.Name x p1) = false := by rfl) (hd : (x == ("__debug__" : Str)) = false := by decide) (hcd : (x == ("__classdict__" : Str)) = false := by decide) :
    PE X (.Compare k [.NotIn] [.Name x p1] pos) (EOf W c (dDIn i true dk)) :=
  (pe_cmp (pc_dnotin hu hk (pe_var hN hv hd hcd)) hm).weak fun σ H Q h => by
    have := din_core h
    simp only [Bool.bne_true] at this
    exact this
theorem dt_din (hu : X.A.units + 1 < cLine) (hN : X.N[i]? = some x) (hv : Vis X.env.scope x) (hk : PE X k (EOf W c dk)) (hm : behindInMarks .In (.Name x p1) = false := by rfl) (hd : (x == ("__debug__" : Str)) = false := by decide) (hcd : (x == ("__classdict__" : Str)) = false := by decide) :
    PT X (.Compare k [.In] [.Name x p1] pos) (TOf W c (dT (dDIn i false dk))) :=
  (pt_cmp (pc_din hu hk (pe_var hN hv hd hcd)) hm).weak fun σ H Q h => by
    have := din_core (test_core h)
    simp only [Bool.bne_false] at this
    exact this
theorem dt_dnotin (hu : X.A.units + 1 < cLine) (hN : X.N[i]? = some x) (hv : Vis X.env.scope x) (hk : PE X k (EOf W c dk)) (hm : behindInMarks .NotIn (.Name x p1) = false := by rfl) (hd : (x == ("__debug__" : Str)) = false := by decide) (hcd : (x == ("__classdict__" : Str)) = false := by decide) :
    PT X (.Compare k [.NotIn] [.Name x p1] pos) (TOf W c (dT (dDIn i true dk))) :=
  (pt_cmp (pc_dnotin hu hk (pe_var hN hv hd hcd)) hm).weak fun σ H Q h => by
    have := din_core (test_core h)
    simp only [Bool.bne_true] at this
    exact this
theorem de_dget2 {apos : Pos} (hu : X.A.units + 1 < cLine) (hN : X.N[i]? = some x) (hv : Vis X.env.scope x) (hk : PE X k (EOf W c dk)) (he : PE X e (EOf W c dx)) (m : M2 X (.Name x p1) "get" apos k e pos) (hd : (x == ("__debug__" : Str)) = false := by decide) (hcd : (x == ("__classdict__" : Str)) = false := by decide) :
    PE X (.Call (.Attribute (.Name x p1) "get" apos) [k, e] [] pos) (EOf W c (dDGet2 i dk dx)) :=
  (pe_dget2 hu (pe_var hN hv hd hcd) hk he m).weak fun σ H Q ⟨D, env, S, p⟩ => by
    have p : PostE W c D σ Q (dDGet2 i dk dx env) := p
    unfold dDGet2 at p
    split at p
    · rename_i d0 h0
      obtain ⟨a, ea, ja, hd0⟩ := S.dctSlot (p := d0.1) (d := d0.2) h0
      have isd : ∀ {D H : Hp} {d : DV}, DctOk D H a d → IsD H a := fun {D H d} h => by
        rcases h with ⟨_, kv, h, _⟩ | ⟨_, kv, h, _⟩
        · exact .inl ⟨kv, .inl h⟩
        · exact .inr ⟨kv, .inl h⟩
      refine ⟨_, ea, a, rfl, isd hd0, D, env, S, ?_⟩
      revert p
      cases dk env with
      | stuck => exact fun z => z
      | exc y e => exact fun z => z
      | ok o e1 =>
        intro p v H1 D1 S1 s1 r1
        simp only [Res.bd] at p
        split at p
        · rename_i y e2 hp
          obtain ⟨D2, S2, s2, r2⟩ := S1.pin r1 hp
          refine ⟨D2, e2, S2, ?_⟩
          revert p
          cases dx e2 with
          | stuck => exact fun z => z
          | exc y e => exact fun z => PostX.mono z (s1.trans s2)
          | ok o2 e3 =>
            intro p w H3 D3 S3 s3 r3
            simp only [Res.bd] at p
            split at p
            · rename_i z e4 hp2
              obtain ⟨D4, S4, s4, r4⟩ := S3.pin r3 hp2
              split at p
              · rename_i pp d hd2
                split at p
                · rename_i hk2
                  obtain ⟨a', ea', ja', hd3⟩ := S4.dctSlot hd2
                  rw [ja] at ja'; cases ja'
                  obtain ⟨o', g1, g2⟩ := hd3.get S4.dh (r2.mono (s3.trans s4)) hk2
                  refine ⟨o', g1, ?_⟩
                  have sD := (s1.trans s2).trans (s3.trans s4)
                  rcases g2 with ⟨rfl, g2⟩ | ⟨w', z', rfl, g2, g3⟩
                  · rw [g2] at p; exact p _ H3 D4 S4 sD r4
                  · rw [g2] at p; exact p _ H3 D4 S4 sD g3
                · exact p.elim
              · exact p.elim
            · exact p.elim
        · exact p.elim
    · exact p.elim
theorem ds_dput {value : Expr} {pos' : Pos} (hu : X.A.units + 1 < cLine) (hN : X.N[i]? = some x) (hv : Vis X.env.scope x) (hk : PE X k (EOf W c dk)) (he : PE X value (EOf W c dv)) (hs : swapsWith value (some (.Subscript (.Name x p1) k pos')) pos.line X.env = pure false := by rfl) (hd : (x == ("__debug__" : Str)) = false := by decide) (hcd : (x == ("__classdict__" : Str)) = false := by decide) :
    PS X (.Assign [.Subscript (.Name x p1) k pos'] value pos) (SOf W c (dDPut i dk dv)) :=
  (ps_dput hu (pe_var hN hv hd hcd) hk he hs).weak fun De σ H ⟨D, env, S, p⟩ => by
    refine ⟨D, env, S, ?_⟩
    have p : PostS W c D De ((dv env).bs _) := p
    revert p
    cases dv env with
    | stuck => exact fun z => z
    | exc y e => exact fun z => z σ
    | ok o e1 =>
      intro p v H1 D1 S1 s1 r1
      simp only [Res.bs] at p
      split at p
      · rename_i z e2 hp
        obtain ⟨D2, S2, s2, r2⟩ := S1.pin r1 hp
        split at p
        · rename_i d0 h0
          obtain ⟨a, ea, ja, hd0⟩ := S2.dctSlot (p := d0.1) (d := d0.2) h0
          refine ⟨_, ea, D2, e2, S2, ?_⟩
          revert p
          cases dk e2 with
          | stuck => exact fun z => z
          | exc y e => exact fun z => PostX.mono (z σ) (s1.trans s2)
          | ok o2 e3 =>
            intro p y H3 D3 S3 s3 r3
            simp only [Res.bs] at p
            split at p
            · rename_i kx e4 hp2
              obtain ⟨D4, S4, s4, r4⟩ := S3.pin r3 hp2
              split at p
              · rename_i pp d hd2
                split at p
                · rename_i hk2
                  obtain ⟨a', ea', ja', hd3⟩ := S4.dctSlot hd2
                  rw [ja] at ja'; cases ja'
                  obtain ⟨ho, g1, g2⟩ := hd3.put S4.dh r4 (r2.mono (s3.trans s4)) hk2.1 hk2.2
                  exact ⟨a, _, rfl, g1, p _ _ D4 (S4.putDct (dctAt_eq hd2) ja g2) ((s1.trans s2).trans (s3.trans s4))⟩
                · exact p.elim
              · exact p.elim
            · exact p.elim
        · exact p.elim
      · exact p.elim
def dNewD (t : Bool) : DK := fun env => .ok ⟨t, []⟩ env
theorem dk_newK : PE X (.Dict [] [] pos) (KOf' W c (dNewD false)) := pe_dnewK.weak fun σ H Q ⟨D, env, S, p⟩ q hq =>
  p q _ H D S (Same.refl _) hq (.inl ⟨rfl, [], upd_same, .nil⟩)
theorem dk_newT : PE X (.Dict [] [] pos) (KOf' W c (dNewD true)) := pe_dnewT.weak fun σ H Q ⟨D, env, S, p⟩ q hq =>
  p q _ H D S (Same.refl _) hq (.inr ⟨rfl, [], upd_same, .nil⟩)
end
def dPairs : List (Key × DE) → Nv → Res (List (PyData × PyData))
  | [], env => .ok [] env
  | (k, d) :: r, env => (d env).bd fun o e => match pinOV e o with
    | some (x, e1) => (dPairs r e1).bd fun ps e2 => .ok ((kD k, x) :: ps) e2
    | none => .stuck
def dDisp (ps : List (Key × DE)) : DK := fun env => (dPairs ps env).bd fun kvs e => if kvs.length ≤ 15 ∧ (ps.map (·.1)).Nodup then .ok ⟨false, kvs⟩ e else .stuck
/-- the values of a display, one by one -/
def EB (W : WX) (c : Cf) (d : DE) : TE := fun σ H Q => ∃ B, EOf W (c.withB B) d σ H Q
structure Pr (X : Cx) (W : WX) (c : Cf) (pos : Pos) (keys : List (Option Expr)) (values : List Expr) (ps : List (Key × DE)) : Prop where
  all : PPs X pos keys values (ps.map fun p => (tC (kV p.1), EB W c p.2))
section
variable {X : Cx} {W : WX} {c : Cf} {pos : Pos} {keys : List (Option Expr)} {values : List Expr} {ps : List (Key × DE)}
theorem pr_nil : Pr X W c pos [] [] [] := ⟨pps_nil⟩
theorem pr_str {s : Str} {j : Nat} {p1 : Pos} {v : Expr} {d : DE} (hv : ∀ B, PE X v (EOf W (c.withB B) d)) (h : Pr X W c pos keys values ps) : Pr X W c pos (some (.Constant (.str s) j p1) :: keys) (v :: values) ((.inr s, d) :: ps) :=
  ⟨pps_cons (pe_str (x := s)) ⟨fun pins s σ H Q I ⟨B, z⟩ => (hv B).run pins s σ H Q I z⟩ h.all⟩
theorem pairs_core {B : Hp} {σ : St} : ∀ {ps : List (Key × DE)} {D : Hp} {env : Nv} {H : Hp} {R : List (V × V) → Hp → Prop}, Sim (c.withB B) D env σ H →
    (∀ kvs env', dPairs ps env = .ok kvs env' → ∀ kv H' D', Sim (c.withB B) D' env' σ H' → Same D D' → Paired (fun (p : Key × V) (q : PyData × PyData) => q.1 = kD p.1 ∧ Rp D' p.2 q.2) kv kvs → kv.map (·.1) = ps.map (·.1) → R (kv.map fun p => (kV p.1, p.2)) H') →
    (∀ y e, dPairs ps env = .exc y e → PostX W (c.withB B) D σ y e) → dPairs ps env ≠ .stuck → tPairs (ps.map fun p => (tC (kV p.1), EB W c p.2)) σ H R
  | [], D, env, H, R, S, ok, ex, ns => ok [] env rfl [] H D S (Same.refl _) .nil rfl
  | (k, d) :: r, D, env, H, R, S, ok, ex, ns => by
    refine ⟨B, D, env, S, ?_⟩
    show PostE W (c.withB B) D σ _ (d env)
    unfold dPairs at ok ex ns
    revert ok ex ns
    cases d env with
    | stuck => exact fun _ _ z => absurd rfl z
    | exc y e => exact fun _ z _ => z y e rfl
    | ok o e1 =>
      simp only [Res.bd]
      cases hp : pinOV e1 o with
      | none => exact fun _ _ z => absurd rfl z
      | some xe =>
        obtain ⟨x, e2⟩ := xe
        intro ok ex ns v H1 D1 S1 s1 r1
        obtain ⟨D2, S2, s2, r2⟩ := S1.pin r1 hp
        refine pairs_core S2 (fun kvs env' g kv H' D' S' s' q hm => ?_) (fun y e g => ?_) fun g => ?_
        · exact ok ((kD k, x) :: kvs) env' (by simp only [g]) ((k, v) :: kv) H' D' S' ((s1.trans s2).trans s') (.cons ⟨rfl, r2.mono s'⟩ q) (by rw [List.map_cons, List.map_cons, hm])
        · exact PostX.mono (ex y e (by simp only [g])) (s1.trans s2)
        · exact ns (by simp only [g])
theorem putK_new {κ : Type} [DecidableEq κ] {kvs : List (κ × V)} {k : κ} {v : V} (h : k ∉ kvs.map (·.1)) : putK kvs k v = kvs ++ [(k, v)] := by
  unfold putK
  rw [if_neg]
  intro z
  obtain ⟨p, hp, e⟩ := List.any_eq_true.mp z
  exact h (List.mem_map.mpr ⟨p, hp, of_decide_eq_true e⟩)
theorem mergeK_nodup : ∀ (more kvs : List (Key × V)), ((kvs ++ more).map (·.1)).Nodup → mergeK kvs more = kvs ++ more
  | [], kvs, _ => by simp [mergeK]
  | p :: r, kvs, h => by
    have h1 : p.1 ∉ kvs.map (·.1) := by
      rw [List.map_append, List.map_cons] at h
      intro z
      exact (List.nodup_append.mp h).2.2 _ z _ List.mem_cons_self rfl
    have e : mergeK kvs (p :: r) = mergeK (putK kvs p.1 p.2) r := rfl
    rw [e, putK_new h1, mergeK_nodup r (kvs ++ [(p.1, p.2)]) (by simpa using h)]
    simp
def hole (H : Hp) (q : Addr) : Hp := fun b => if b = q then none else H b
theorem hole_ne {H : Hp} {q b : Addr} (h : b ≠ q) : hole H q b = H b := if_neg h
theorem hole_same {H : Hp} {q : Addr} : hole H q q = none := if_pos rfl
theorem hole_upd {H : Hp} {q : Addr} {o : HO} : upd (hole H q) q o = upd H q o := by
  funext b
  by_cases hb : b = q
  · subst hb; rw [upd_same, upd_same]
  · rw [upd_ne hb, upd_ne hb, hole_ne hb]
theorem tabs_hole {T : List (Addr × Str)} {H : Hp} {a : Addr} {u : HO} (t : LamX.Tabs T H) (h : H a = some u) (hu : okO u = true) : LamX.Tabs T (hole H a) := fun p hp => by
  obtain ⟨ps, h1, h2, h3⟩ := t p hp
  have e1 : p.1 ≠ a := fun z => by
    rw [z, h] at h1
    cases h1
    cases hu
  refine ⟨ps, by rw [hole_ne e1]; exact h1, h2, fun pos cv hc => ?_⟩
  obtain ⟨c, e, hc2⟩ := h3 pos cv hc
  have e2 : c ≠ a := fun z => by
    rw [z, h] at hc2
    cases hc2
    cases hu
  exact ⟨c, e, by rw [hole_ne e2]; exact hc2⟩
theorem dk_disp (h : Pr X W c pos keys values ps) (hall : keys.all (·.isSome) = true) (hl : keys.length = values.length) (h0 : keys ≠ []) (h15 : keys.length ≤ 15) : PE X (.Dict keys values pos) (KOf' W c (dDisp ps)) :=
  (pe_disp h.all hall hl h0 h15).weak fun σ H Q ⟨D, env, S, p⟩ q hq => by
    have hB : Same c.B (upd c.B q (.dK [])) := same_upd' (S.bh.free hq)
    have S1 : Sim (c.withB (upd c.B q (.dK []))) D env σ (upd H q (.dK [])) := (S.grow hq _).toB upd_same (S.dh.free hq) (S.apartNew hq)
    have p : PostK W c D σ Q ((dPairs ps env).bd fun kvs e => if kvs.length ≤ 15 ∧ (ps.map (·.1)).Nodup then .ok ⟨false, kvs⟩ e else .stuck) := p
    refine pairs_core S1 (fun kvs env' g kv H' D' S' s' r hm => ?_) (fun y e g => ?_) fun g => ?_
    · rw [g] at p
      simp only [Res.bd] at p
      split at p
      · rename_i hh
        have e1 : H' q = some (.dK []) := S'.bh q _ upd_same
        have e2 : D' q = none := S'.bd q _ upd_same
        refine ⟨e1, kv, rfl, by rw [r.length]; exact hh.1, ?_⟩
        have nd : ((([] : List (Key × V)) ++ kv).map (·.1)).Nodup := by rw [List.nil_append, hm]; exact hh.2
        rw [mergeK_nodup kv [] nd, List.nil_append]
        -- the heap without the new dict
        rw [← hole_upd]
        have S2 : Sim c D' env' σ (hole H' q) := by
          have S3 := S'.ofB hB
          refine ⟨fun a o e => ?_, fun a o e => ?_, S3.bd, S3.len, fun i s e => (S3.slot i s e).lift (Same.refl _) fun a ea ho => ⟨?_, fun z => z⟩, S3.apart, tabs_hole S3.tb e1 rfl, S3.nd, S3.nb, S3.d0⟩
          · rw [hole_ne (ne_of_none e e2)]; exact S3.dh a o e
          · rw [hole_ne (ne_of_none e (S.bh.free hq))]; exact S3.bh a o e
          · apply hole_ne
            rintro rfl
            obtain ⟨a', u, k1, k2, k3, k4⟩ := (S'.slot i s e).tracked ho
            rw [ea] at k1; cases k1
            have k5 := (upd_same (H := c.B) (a := a) (o := .dK [])).symm.trans k4
            cases k5
        exact p q _ _ D' S2 s' hole_same (.inl ⟨rfl, kv, upd_same, r⟩)
      · exact p.elim
    · rw [g] at p
      exact PostX.ofB p hB
    · rw [g] at p
      exact p
end
end L2.Dl

namespace L2.Dl
open PySem
open PySem.Spec
open PyProof.Rows
variable [KF]

def cutG {α : Type} (xs : List α) (lo hi : Option Int) : List α := (xs.drop (HT.sIx xs.length 0 lo)).take (HT.sIx xs.length xs.length hi - HT.sIx xs.length 0 lo)
theorem RpL.drop {D : Hp} : ∀ {vs : List V} {ds : List PyData} (n : Nat), RpL D vs ds → RpL D (vs.drop n) (ds.drop n)
  | _, _, 0, r => r
  | _, _, _ + 1, .nil => .nil
  | _, _, n + 1, .cons _ r => RpL.drop n r
theorem RpL.take {D : Hp} : ∀ {vs : List V} {ds : List PyData} (n : Nat), RpL D vs ds → RpL D (vs.take n) (ds.take n)
  | _, _, 0, _ => .nil
  | _, _, _ + 1, .nil => .nil
  | _, _, n + 1, .cons h r => .cons h (RpL.take n r)
theorem RpL.cut {D : Hp} {vs : List V} {ds : List PyData} (r : RpL D vs ds) (lo hi : Option Int) : RpL D (cutV vs lo hi) (cutG ds lo hi) := by
  unfold cutV cutG
  rw [r.length]
  exact (r.drop _).take _
theorem RpL.reverse {D : Hp} : ∀ {vs : List V} {ds : List PyData}, RpL D vs ds → RpL D vs.reverse ds.reverse
  | _, _, .nil => .nil
  | _, _, .cons h r => by
    rw [List.reverse_cons, List.reverse_cons]
    exact (RpL.reverse r).append (.cons h .nil)
abbrev DP := Nv → Res (Option Int)
def PostP (W : WX) (c : Cf) (D : Hp) (σ : St) (Q : Option Int → Hp → Prop) : Res (Option Int) → Prop
  | .ok b env' => ∀ H' D', Sim c D' env' σ H' → Same D D' → Q b H'
  | .exc x env' => PostX W c D σ x env'
  | .stuck => False
def POf (W : WX) (c : Cf) (d : DP) : TO := fun σ H Q => ∃ D env, Sim c D env σ H ∧ PostP W c D σ Q (d env)
def intOV (e : Nv) (o : OV) : Res (Option Int) := match getOV e o with
  | some (.int i) => .ok (some i) e
  | _ => .stuck
def dP0 : DP := fun env => .ok none env
def dP (d : DE) : DP := fun env => (d env).bd fun o e => intOV e o
section
variable {X : Cx} {W : WX} {c : Cf} {e : Expr} {d : DE}
theorem _root_.L2.PO.weak {x : Option Expr} {t t' : TO} (h : PO X x t) (w : ∀ σ H Q, t' σ H Q → t σ H Q) : PO X x t' := ⟨fun pins s σ H Q I q => h.run pins s σ H Q I (w σ H Q q)⟩
theorem dp_none : PO X none (POf W c dP0) := po_none.weak fun σ H Q ⟨D, env, S, p⟩ => p H D S (Same.refl _)
theorem dp_some (he : PE X e (EOf W c d)) : PO X (some e) (POf W c (dP d)) := (po_some he).weak fun σ H Q ⟨D, env, S, p⟩ => by
  refine ⟨D, env, S, ?_⟩
  have p : PostP W c D σ Q ((d env).bd fun o e => intOV e o) := p
  revert p
  cases d env with
  | stuck => exact fun z => z
  | exc y e => exact fun z => z
  | ok o e1 =>
    intro p v H1 D1 S1 s1 r1
    have p : PostP W c D σ Q (intOV e1 o) := p
    unfold intOV at p
    split at p
    · rename_i i g
      have := (S1.getq r1 (Same.refl _) g).int
      exact ⟨i, this, p H1 D1 S1 s1⟩
    · exact p.elim
end
def gSl (x : PyData) (lo hi : Option Int) : Option PyData := match x with
  | .list ds => some (.list (cutG ds lo hi))
  | .tuple ds => some (.tuple (cutG ds lo hi))
  | .str z => if z.length ≤ lenB then some (.str (cutS z lo hi)) else none
  | _ => none
def dSl (dx : DE) (lo hi : DP) : DE := fun env => (dx env).bd fun o e1 => (lo e1).bd fun l e2 => (hi e2).bd fun h e3 => match getOV e3 o with
  | some x => match gSl x l h with
    | some z => .ok (.d z) e3
    | none => .stuck
  | none => .stuck
def dSlL (dx : DE) (lo hi : DP) : DL := fun env => (dx env).bd fun o e1 => (lo e1).bd fun l e2 => (hi e2).bd fun h e3 => match getOV e3 o with
  | some (.list xs) => .ok (cutG xs l h) e3
  | _ => .stuck
def rSlX (K : PySem.W.Frag) : V → Option Int → Option Int → Hp → VK → Prop := fun x lo hi H Q => rSlL K x lo hi H Q ∨ rSlA K x lo hi H Q ∨ rSlS x lo hi H Q
section
variable {X : Cx} {W : WX} {c : Cf} {e : Expr} {d : DE} {lo hi : Option Expr} {l h : DP} {p2 pos : Pos}
theorem sl_X : SlR X (rSlX X.K) := sl_list.or (sl_tupA.or sl_str)
theorem cutG_all {α : Type} (ds : List α) (lo hi : Option Int) (h : HT.sIx ds.length 0 lo = 0 ∧ HT.sIx ds.length ds.length hi = ds.length) : cutG ds lo hi = ds := by
  unfold cutG
  rw [h.1, h.2]
  simp
theorem de_sl (hK : c.K = X.K) (he : PE X e (EOf W c d)) (hl : PO X lo (POf W c l)) (hh : PO X hi (POf W c h)) : PE X (.Subscript e (.Slice lo hi none p2) pos) (EOf W c (dSl d l h)) :=
  (pe_slice sl_X he hl hh).weak fun σ H Q ⟨D, env, S, p⟩ => by
    refine ⟨D, env, S, ?_⟩
    have p : PostE W c D σ Q ((d env).bd _) := p
    revert p
    cases d env with
    | stuck => exact fun z => z
    | exc y e => exact fun z => z
    | ok o e1 =>
      intro p v H1 D1 S1 s1 r1
      have p : PostE W c D σ Q ((l e1).bd _) := p
      refine ⟨D1, e1, S1, ?_⟩
      revert p
      cases l e1 with
      | stuck => exact fun z => z
      | exc y e => exact fun z => PostX.mono z s1
      | ok lo' e2 =>
        intro p H2 D2 S2 s2
        have p : PostE W c D σ Q ((h e2).bd _) := p
        refine ⟨D2, e2, S2, ?_⟩
        revert p
        cases h e2 with
        | stuck => exact fun z => z
        | exc y e => exact fun z => PostX.mono z (s1.trans s2)
        | ok hi' e3 =>
          intro p H3 D3 S3 s3
          simp only [Res.bd] at p
          split at p
          · rename_i x g
            split at p
            · rename_i z gz
              have rq := S3.getq r1 (s2.trans s3) g
              have fin : ∀ {v' : V} {H' : Hp}, NewR D3 H3 v' z H' → Q v' H' := fun n => S3.new n (PostE.mono p ((s1.trans s2).trans s3))
              rw [← hK]
              unfold gSl at gz
              split at gz
              · cases gz
                obtain ⟨a, vs, rfl, k1, k2⟩ := rq.lst S3.dh
                exact .inl ⟨a, vs, rfl, .of k1, fun q hq => fin (.lst hq (k2.cut _ _))⟩
              · cases gz
                rename_i ds
                obtain ⟨rt, a, vs, rfl, k1, k2⟩ := rq.tup
                refine .inr (.inl ⟨a, vs, rfl, k1.same S3.dh, fun hw => ?_, fun _ q hq => fin (.tup hq (k2.cut _ _))⟩)
                rw [k2.length] at hw
                rw [cutG_all ds _ _ hw] at fin
                exact fin (.of rt)
              · split at gz
                · rename_i hz
                  cases gz
                  rw [rq.str]
                  exact .inr (.inr ⟨_, rfl, lenB_le hz, fin (.of (.str _))⟩)
                · cases gz
              · cases gz
            · exact p.elim
          · exact p.elim
theorem dl_sl (hK : c.K = X.K) (he : PE X e (EOf W c d)) (hl : PO X lo (POf W c l)) (hh : PO X hi (POf W c h)) : PE X (.Subscript e (.Slice lo hi none p2) pos) (LOf W c (dSlL d l h)) :=
  (pe_slice sl_list he hl hh).weak fun σ H Q ⟨D, env, S, p⟩ => by
    refine ⟨D, env, S, ?_⟩
    have p : PostL W c D σ Q ((d env).bd _) := p
    revert p
    cases d env with
    | stuck => exact fun z => z
    | exc y e => exact fun z => z
    | ok o e1 =>
      intro p v H1 D1 S1 s1 r1
      have p : PostL W c D σ Q ((l e1).bd _) := p
      refine ⟨D1, e1, S1, ?_⟩
      revert p
      cases l e1 with
      | stuck => exact fun z => z
      | exc y e => exact fun z => PostX.mono z s1
      | ok lo' e2 =>
        intro p H2 D2 S2 s2
        have p : PostL W c D σ Q ((h e2).bd _) := p
        refine ⟨D2, e2, S2, ?_⟩
        revert p
        cases h e2 with
        | stuck => exact fun z => z
        | exc y e => exact fun z => PostX.mono z (s1.trans s2)
        | ok hi' e3 =>
          intro p H3 D3 S3 s3
          simp only [Res.bd] at p
          split at p
          · rename_i xs g
            obtain ⟨a, vs, rfl, k1, k2⟩ := (S3.getq r1 (s2.trans s3) g).lst S3.dh
            exact ⟨a, vs, rfl, .of k1, fun q hq => p q _ H3 D3 S3 ((s1.trans s2).trans s3) hq (k2.cut _ _)⟩
          · exact p.elim
/-- a slice of a list that is only read (the script) -/
def dSlRo (i : Nat) (l h : DP) : DE := fun env => match env[i]? with
  | some (.ro _) => (l env).bd fun l' e2 => (h e2).bd fun h' e3 => match e3[i]? with
    | some (.ro xs) => .ok (.d (.list (cutG xs l' h'))) e3
    | _ => .stuck
  | _ => .stuck
theorem de_slRo {i : Nat} {x : Str} {p1 : Pos} (hK : c.K = X.K) (hN : X.N[i]? = some x) (hv : Vis X.env.scope x) (hl : PO X lo (POf W c l)) (hh : PO X hi (POf W c h)) (hd : (x == ("__debug__" : Str)) = false := by decide) (hcd : (x == ("__classdict__" : Str)) = false := by decide) :
    PE X (.Subscript (.Name x p1) (.Slice lo hi none p2) pos) (EOf W c (dSlRo i l h)) :=
  (pe_slice sl_list (pe_var hN hv hd hcd) hl hh).weak fun σ H Q ⟨D, env, S, p⟩ => by
    have p : PostE W c D σ Q (dSlRo i l h env) := p
    unfold dSlRo at p
    split at p
    · rename_i xs e0
      obtain ⟨a, vs, ea, _⟩ := S.slot i _ e0
      refine ⟨_, join_some ea, D, env, S, ?_⟩
      revert p
      cases l env with
      | stuck => exact fun z => z
      | exc y e => exact fun z => z
      | ok lo' e2 =>
        intro p H2 D2 S2 s2
        have p : PostE W c D σ Q ((h e2).bd _) := p
        refine ⟨D2, e2, S2, ?_⟩
        revert p
        cases h e2 with
        | stuck => exact fun z => z
        | exc y e => exact fun z => PostX.mono z s2
        | ok hi' e3 =>
          intro p H3 D3 S3 s3
          simp only [Res.bd] at p
          split at p
          · rename_i ys e4
            obtain ⟨a', ws, ea', k1, k2⟩ := S3.slot i _ e4
            rw [ea] at ea'; cases ea'
            rw [← hK]
            exact ⟨a, ws, rfl, S3.dh.seq k1, fun q hq => S3.new (.lst hq (k2.cut _ _)) (PostE.mono p (s2.trans s3))⟩
          · exact p.elim
    · exact p.elim
end
def dApp (i : Nat) (d : DE) : DE := fun env => match ownAt env i with
  | some _ => (d env).bd fun o e => match pinOV e o with
    | some (x, e1) => match ownAt e1 i with
      | some (p, xs) => if xs.length < lenB then .ok (.d .none) (e1.set i (.own p (xs ++ [x]))) else .stuck
      | none => .stuck
    | none => .stuck
  | none => .stuck
def gExt : PyData → Option (List PyData)
  | .list ys => some ys
  | .tuple ys => some ys
  | _ => none
def dExt (i : Nat) (d : DE) : DE := fun env => match ownAt env i with
  | some _ => (d env).bd fun o e => match (getOV e o).bind gExt with
    | some ys => match ownAt e i with
      | some (p, xs) => if xs.length + ys.length ≤ lenB then .ok (.d .none) (e.set i (.own p (xs ++ ys))) else .stuck
      | none => .stuck
    | none => .stuck
  | none => .stuck
def dPop (i : Nat) : DE := fun env => match ownAt env i with
  | some (p, xs) => match xs[xs.length - 1]? with
    | some x => .ok (.d x) (env.set i (.own p xs.dropLast))
    | none => .stuck
  | none => .stuck
def dPopAt (i : Nat) (d : DE) : DE := fun env => match ownAt env i with
  | some _ => (d env).bd fun o e => match getOV e o with
    | some (.int j) => match ownAt e i with
      | some (p, xs) => if 0 ≤ j ∧ xs.length ≤ lenB then match xs[j.toNat]? with
        | some x => .ok (.d x) (e.set i (.own p (xs.eraseIdx j.toNat)))
        | none => .stuck else .stuck
      | none => .stuck
    | _ => .stuck
  | none => .stuck
theorem list_extend_list_tup (l : Addr) (items : Array Value) (n : Nat) (b : Addr) (items2 : Array Value) (n2 : Nat) (dd : Option Addr) (sl : Array (Option Value)) (hs0 : ¬(!items.isEmpty && Builtin.List.listTooLong (items.size + items2.size)) = true) (hs1 : items.size ≤ sizeLine) (hs2 : items.size + items2.size ≤ sizeLine + 1) :
    Meets (Builtin.«list.extend» ⟨[.ref l, .ref b], []⟩) (fun _ R s => s.heap.get? l = some { cls := .type "list", dict := none, data := .seq items n, slots := #[] } ∧ s.heap.get? b = some { cls := .type "tuple", dict := dd, data := .seq items2 n2, slots := sl } ∧ R (.ok (.ret Value.none)) { s with heap := s.heap.update l (Obj.mapSeq fun x => x ++ items2), toks := s.toks }) :=
  .of_wp fun prog w A R s h => by
    obtain ⟨hp, g, d, tk, os⟩ := s; obtain ⟨hl, hb, h⟩ := h; have f1 := PySem.AutoSeq1.idx_int; have f2 := PySem.AutoSeq1.sub_tuple_tuple; have f3 := PySem.AutoSeq1.sub_list_list; have f4 := PySem.AutoSeq1.sub_tuple_list; have f5 := PySem.AutoSeq1.sub_list_tuple
    have hz' : (items ++ items2).size ≤ sizeLine + 1 := by rw [Array.size_append]; exact hs2
    wp_walk using (wpAny_updateSeq hl rfl (hz := hs1) (_hz' := hz')), PySem.AutoSeq1.wpAny_loadPart' hl, PySem.AutoSeq1.wpAny_loadPart' hb; exact ⟨_, rfl, h⟩
def rExtT (K : PySem.W.Frag) : V → List V → Hp → VK → Prop := fun x vs H Q => ∃ l b xs zs, x = .ref l ∧ vs = [.ref b] ∧ H l = some (.lst xs) ∧ (H b = some (.lst zs) ∨ SqT K H b zs) ∧ xs.length + zs.length ≤ sizeLine ∧ Q .non (upd H l (.lst (xs ++ zs)))
theorem mt_extT {X : Cx} : MtM X "list.extend" (rExtT X.K) := by
  intro pins s σ H x vs v us Q I rx rv h
  obtain ⟨l, b, xs, zs, rfl, rfl, hH, hB, hz, q⟩ := h
  rcases hB with hB | hB
  · exact mt_extend pins s σ H _ _ v us Q I rx rv ⟨l, b, xs, zs, rfl, rfl, hH, hB, hz, q⟩
  cases rx
  obtain ⟨u, rfl, ru⟩ := rv.one
  cases ru
  obtain ⟨z, its, n, r, hl, e⟩ := I.lstM hH
  obtain ⟨its2, r2, ht, hz2⟩ := I.tuple hB
  have hl2 := r2.length
  obtain ⟨⟨cls2, dd2, data2, sl2⟩, ho2, hc2, n2, hd2⟩ := id ht
  simp only at hc2 hd2
  subst hc2 hd2
  have hsz : its.toArray.size + its2.toArray.size ≤ sizeLine := by rw [List.size_toArray, List.size_toArray]; omega
  have hlong : ¬ (!its.toArray.isEmpty && Builtin.List.listTooLong (its.toArray.size + its2.toArray.size)) = true := by
    rw [notLongL hsz, Bool.and_false]
    exact Bool.false_ne_true
  refine call_meets PySem.F.slot_list_extend ⟨_, e, rfl⟩ PySem.F.entry_list_extend (PySem.F.args_list_extend_2 _ _)
    (list_extend_list_tup l its.toArray n b its2.toArray n2 dd2 sl2 hlong (by rw [List.size_toArray]; omega) (by omega)) ⟨e, ho2, ?_⟩
  refine ⟨.non, _, I.lset (its' := its ++ its2) hH e (by simp) (r.append r2) ?_, rfl, q⟩
  rw [List.length_append]
  omega
theorem RpL.dropLast {D : Hp} {vs : List V} {ds : List PyData} (r : RpL D vs ds) : RpL D vs.dropLast ds.dropLast := by
  rw [List.dropLast_eq_take, List.dropLast_eq_take, r.length]
  exact r.take _
theorem RpL.eraseIdx {D : Hp} : ∀ {vs : List V} {ds : List PyData} (n : Nat), RpL D vs ds → RpL D (vs.eraseIdx n) (ds.eraseIdx n)
  | _, _, _, .nil => .nil
  | _, _, 0, .cons _ r => r
  | _, _, n + 1, .cons h r => .cons h (RpL.eraseIdx n r)
section
variable {X : Cx} {W : WX} {c : Cf} {e : Expr} {d : DE} {i : Nat} {x : Str} {p1 apos pos : Pos}
theorem tyL {K : PySem.W.Frag} {H : Hp} {a : Addr} {vs : List V} (h : H a = some (.lst vs)) : tyV K "list" (.ref a) H := .inl ⟨rfl, vs, .of h⟩
theorem de_app (hN : X.N[i]? = some x) (hv : Vis X.env.scope x) (he : PE X e (EOf W c d)) (hd : (x == ("__debug__" : Str)) = false := by decide) (hcd : (x == ("__classdict__" : Str)) = false := by decide)
    (hbase : attributeBase (.Name x p1) "append" X.env (eval (.Name x p1) X.env) = eval (.Name x p1) X.env := by rfl)
    (hfew : ((backTo pos (starEach [e] X.env)).all (fun x => !x.1) && (backToKw pos (keywordEach [] X.env)).all (fun x => x.1.isSome)
      && decide (([e] : List Expr).length + ([] : List Keyword).length + (if ([] : List Keyword).isEmpty then 0 else 1) < 30)) = true := by rfl)
    (hline : (apos.endLine == pos.line) = true := by rfl) (hs : starEach [e] X.env = (false, eval e X.env) :: starEach [] X.env := by rfl) (hpl : (backTo pos (starEach [] X.env)).any (·.1) = false := by rfl) :
    PE X (.Call (.Attribute (.Name x p1) "append" apos) [e] [] pos) (EOf W c (dApp i d)) :=
  (pe_bm PySem.F.plainAttrs_list PySem.F.slot_list_append PySem.F.type_list_append mt_append (pe_var hN hv hd hcd) (pa_cons he pa_nil hs) hbase hfew hline hs hpl).weak fun σ H Q ⟨D, env, S, p⟩ => by
    have p : PostE W c D σ Q (dApp i d env) := p
    unfold dApp at p
    split at p
    · rename_i d0 h0
      obtain ⟨a, vs0, ea, ja, hh0, _⟩ := S.ownSlot (p := d0.1) (d := d0.2) h0
      refine ⟨_, ea, tyL hh0, D, env, S, ?_⟩
      revert p
      cases d env with
      | stuck => exact fun z => z
      | exc y e => exact fun z => z
      | ok o e1 =>
        intro p v H1 D1 S1 s1 r1
        simp only [Res.bd] at p
        split at p
        · rename_i z e2 hp
          obtain ⟨D2, S2, s2, r2⟩ := S1.pin r1 hp
          split at p
          · rename_i pp xs ho
            split at p
            · rename_i hl
              obtain ⟨a', vs, ea', ja', k1, k2⟩ := S2.ownSlot ho
              rw [ja] at ja'; cases ja'
              exact ⟨a, vs, v, rfl, rfl, k1, by rw [k2.length]; exact Nat.lt_of_lt_of_le hl (lenB_le (Nat.le_refl _)), p _ _ D2 (S2.putOwn (ownAt_eq ho) ja (k2.append (.cons r2 .nil))) (s1.trans s2) .non⟩
            · exact p.elim
          · exact p.elim
        · exact p.elim
    · exact p.elim
theorem de_ext (hK : c.K = X.K) (hN : X.N[i]? = some x) (hv : Vis X.env.scope x) (he : PE X e (EOf W c d)) (hd : (x == ("__debug__" : Str)) = false := by decide) (hcd : (x == ("__classdict__" : Str)) = false := by decide)
    (hbase : attributeBase (.Name x p1) "extend" X.env (eval (.Name x p1) X.env) = eval (.Name x p1) X.env := by rfl)
    (hfew : ((backTo pos (starEach [e] X.env)).all (fun x => !x.1) && (backToKw pos (keywordEach [] X.env)).all (fun x => x.1.isSome)
      && decide (([e] : List Expr).length + ([] : List Keyword).length + (if ([] : List Keyword).isEmpty then 0 else 1) < 30)) = true := by rfl)
    (hline : (apos.endLine == pos.line) = true := by rfl) (hs : starEach [e] X.env = (false, eval e X.env) :: starEach [] X.env := by rfl) (hpl : (backTo pos (starEach [] X.env)).any (·.1) = false := by rfl) :
    PE X (.Call (.Attribute (.Name x p1) "extend" apos) [e] [] pos) (EOf W c (dExt i d)) :=
  (pe_bm PySem.F.plainAttrs_list PySem.F.slot_list_extend PySem.F.type_list_extend mt_extT (pe_var hN hv hd hcd) (pa_cons he pa_nil hs) hbase hfew hline hs hpl).weak fun σ H Q ⟨D, env, S, p⟩ => by
    have p : PostE W c D σ Q (dExt i d env) := p
    unfold dExt at p
    split at p
    · rename_i d0 h0
      obtain ⟨a, vs0, ea, ja, hh0, _⟩ := S.ownSlot (p := d0.1) (d := d0.2) h0
      refine ⟨_, ea, tyL hh0, D, env, S, ?_⟩
      revert p
      cases d env with
      | stuck => exact fun z => z
      | exc y e => exact fun z => z
      | ok o e1 =>
        intro p v H1 D1 S1 s1 r1
        simp only [Res.bd] at p
        split at p
        · rename_i ys hg
          obtain ⟨b, ws, rfl, m1, m2⟩ : ∃ b ws, v = .ref b ∧ (H1 b = some (.lst ws) ∨ SqT X.K H1 b ws) ∧ RpL D1 ws ys := by
            cases h0 : getOV e1 o with
            | none => rw [h0] at hg; cases hg
            | some y =>
              rw [h0] at hg
              have rq := S1.getq r1 (Same.refl _) h0
              cases y with
              | list zs =>
                cases hg
                obtain ⟨b, ws, rfl, m1, m2⟩ := rq.lst S1.dh
                exact ⟨b, ws, rfl, .inl m1, m2⟩
              | tuple zs =>
                cases hg
                obtain ⟨_, b, ws, rfl, m1, m2⟩ := rq.tup
                rw [show KF.frag = X.K from hK] at m1
                exact ⟨b, ws, rfl, .inr (m1.same S1.dh), m2⟩
              | _ => cases hg
          split at p
          · rename_i pp xs ho
            split at p
            · rename_i hl
              obtain ⟨a', vs, ea', ja', k1, k2⟩ := S1.ownSlot ho
              rw [ja] at ja'; cases ja'
              exact ⟨a, b, vs, ws, rfl, rfl, k1, m1, by rw [k2.length, m2.length]; exact lenB_le hl, p _ _ D1 (S1.putOwn (ownAt_eq ho) ja (k2.append m2)) s1 .non⟩
            · exact p.elim
          · exact p.elim
        · exact p.elim
    · exact p.elim
theorem de_popAt (hN : X.N[i]? = some x) (hv : Vis X.env.scope x) (he : PE X e (EOf W c d)) (hd : (x == ("__debug__" : Str)) = false := by decide) (hcd : (x == ("__classdict__" : Str)) = false := by decide)
    (hbase : attributeBase (.Name x p1) "pop" X.env (eval (.Name x p1) X.env) = eval (.Name x p1) X.env := by rfl)
    (hfew : ((backTo pos (starEach [e] X.env)).all (fun x => !x.1) && (backToKw pos (keywordEach [] X.env)).all (fun x => x.1.isSome)
      && decide (([e] : List Expr).length + ([] : List Keyword).length + (if ([] : List Keyword).isEmpty then 0 else 1) < 30)) = true := by rfl)
    (hline : (apos.endLine == pos.line) = true := by rfl) (hs : starEach [e] X.env = (false, eval e X.env) :: starEach [] X.env := by rfl) (hpl : (backTo pos (starEach [] X.env)).any (·.1) = false := by rfl) :
    PE X (.Call (.Attribute (.Name x p1) "pop" apos) [e] [] pos) (EOf W c (dPopAt i d)) :=
  (pe_bm PySem.F.plainAttrs_list PySem.F.slot_list_pop PySem.F.type_list_pop mt_popAt (pe_var hN hv hd hcd) (pa_cons he pa_nil hs) hbase hfew hline hs hpl).weak fun σ H Q ⟨D, env, S, p⟩ => by
    have p : PostE W c D σ Q (dPopAt i d env) := p
    unfold dPopAt at p
    split at p
    · rename_i d0 h0
      obtain ⟨a, vs0, ea, ja, hh0, _⟩ := S.ownSlot (p := d0.1) (d := d0.2) h0
      refine ⟨_, ea, tyL hh0, D, env, S, ?_⟩
      revert p
      cases d env with
      | stuck => exact fun z => z
      | exc y e => exact fun z => z
      | ok o e1 =>
        intro p v H1 D1 S1 s1 r1
        simp only [Res.bd] at p
        split at p
        · rename_i j hg
          have hv := (S1.getq r1 (Same.refl _) hg).int
          subst hv
          split at p
          · rename_i pp xs ho
            split at p
            · rename_i hl
              split at p
              · rename_i y hy
                obtain ⟨a', vs, ea', ja', k1, k2⟩ := S1.ownSlot ho
                rw [ja] at ja'; cases ja'
                obtain ⟨w, hw, rw'⟩ := k2.get' hy
                have hj : j.toNat < xs.length := (List.getElem?_eq_some_iff.mp hy).1
                have hb : (lenB : Int) < 2 ^ 63 := by decide
                refine ⟨a, vs, j, j.toNat, w, rfl, rfl, k1, by omega, by omega, ?_, hw, p _ _ D1 (S1.putOwn (ownAt_eq ho) ja (k2.eraseIdx _)) s1 rw'⟩
                rw [k2.length]
                exact seqIndex_of hl.1 (by omega)
              · exact p.elim
            · exact p.elim
          · exact p.elim
        · exact p.elim
    · exact p.elim
theorem de_pop (hN : X.N[i]? = some x) (hv : Vis X.env.scope x) (hd : (x == ("__debug__" : Str)) = false := by decide) (hcd : (x == ("__classdict__" : Str)) = false := by decide)
    (hbase : attributeBase (.Name x p1) "pop" X.env (eval (.Name x p1) X.env) = eval (.Name x p1) X.env := by rfl) (hline : (apos.endLine == pos.line) = true := by rfl) :
    PE X (.Call (.Attribute (.Name x p1) "pop" apos) [] [] pos) (EOf W c (dPop i)) :=
  (pe_bm0 PySem.F.plainAttrs_list PySem.F.slot_list_pop PySem.F.type_list_pop mt_pop (pe_var hN hv hd hcd) hbase hline).weak fun σ H Q ⟨D, env, S, p⟩ => by
    have p : PostE W c D σ Q (dPop i env) := p
    unfold dPop at p
    split at p
    · rename_i pp xs h0
      obtain ⟨a, vs, ea, ja, hh0, k2⟩ := S.ownSlot h0
      split at p
      · rename_i y hy
        obtain ⟨w, hw, rw'⟩ := k2.get' hy
        exact ⟨_, ea, tyL hh0, a, vs, w, rfl, rfl, hh0, by rw [k2.length]; exact hw, p _ _ D (S.putOwn (ownAt_eq h0) ja k2.dropLast) (Same.refl _) rw'⟩
      · exact p.elim
    · exact p.elim
end
def dAug (i : Nat) (g : PyData → PyData → Option PyData) (d : DE) : DS := fun env => match env[i]? with
  | some (.v x) => (d env).bs fun o e => match getOV e o with
    | some y => match g x y with
      | some z => setS e i (.v z)
      | none => .stuck
    | none => .stuck
  | _ => .stuck
section
variable {X : Cx} {W : WX} {c : Cf} {e : Expr} {d : DE} {i : Nat} {x : Str} {pos' pos : Pos}
theorem aug_core {f : Int → Int → Int} {σ : St} {H : Hp} {De : Ends} (h : SOf W c (dAug i (g2I fun i j => some (.int (f i j))) d) De σ H) : tAug i (EOf W c d) (ipI f) De σ H := by
  obtain ⟨D, env, S, p⟩ := h
  have p : PostS W c D De (dAug i _ d env) := p
  unfold dAug at p
  split at p
  · rename_i x0 e0
    obtain ⟨v0, ev, rv⟩ := S.slot i _ e0
    refine ⟨v0, join_some ev, D, env, S, ?_⟩
    revert p
    cases d env with
    | stuck => exact fun z => z
    | exc y e => exact fun z => z σ
    | ok o e1 =>
      intro p v H1 D1 S1 s1 r1
      simp only [Res.bs] at p
      split at p
      · rename_i y hg
        split at p
        · rename_i z hz
          cases x0 <;> try (cases hz; done)
          cases y <;> try (cases hz; done)
          cases hz
          cases rv
          have := (S1.getq r1 (Same.refl _) hg).int
          subst this
          unfold setS at p
          split at p
          · rename_i hf
            exact ⟨_, _, rfl, rfl, p _ H1 D1 (S1.setS (freeAt_lt hf) (.ofV (.int _))) s1⟩
          · exact p.elim
        · exact p.elim
      · exact p.elim
  · exact p.elim
theorem ds_augAdd (hN : X.N.Nodup) (hi : X.N[i]? = some x) (hx : Loc X.env.scope x) (he : PE X e (EOf W c d)) (hf : X.fn x = true ∨ X.env.scope.names.lookup x = some .local := by first | exact .inl rfl | exact .inr rfl | assumption) :
    PS X (.AugAssign (.Name x pos') .Add e pos) (SOf W c (dAug i gAddI d)) := (ps_aug hN hi hx he ip_add hf).weak fun _ _ _ => aug_core
theorem ds_augSub (hN : X.N.Nodup) (hi : X.N[i]? = some x) (hx : Loc X.env.scope x) (he : PE X e (EOf W c d)) (hf : X.fn x = true ∨ X.env.scope.names.lookup x = some .local := by first | exact .inl rfl | exact .inr rfl | assumption) :
    PS X (.AugAssign (.Name x pos') .Sub e pos) (SOf W c (dAug i gSubI d)) := (ps_aug hN hi hx he ip_sub hf).weak fun _ _ _ => aug_core
end
section
variable {t : Addr} {xs : Array Value} {n : Nat} {dd : Option Addr} {sl : Array (Option Value)} {k : Int} {u : Tok}
theorem mul_self (c0 : (decide (k < -(2 ^ 63)) || decide (k ≥ 2 ^ 63)) = false) (c1 : (xs.isEmpty || k == 1) = true) :
    Meets (Builtin.«tuple.__mul__» ⟨[.ref t, .int k u], []⟩) (fun _ R s => s.heap.get? t = some { cls := .type "tuple", dict := dd, data := .seq xs n, slots := sl } ∧ R (.ok (.ret (Value.ref t))) s) :=
  .of_wp fun prog w A R s h => by
    obtain ⟨hp, g, d, tk, os⟩ := s
    obtain ⟨at1, fin⟩ := h
    have f1 := AutoSeq1.idx_int
    wp_walk using wpAny_loadPart' at1
    refine wpAny_ite_false (decide_eq_false (by rw [c0]; decide)) ?_
    wp_walk using wpAny_loadPart' at1
    exact ⟨_, rfl, fin⟩
theorem mul_none (c0 : (decide (k < -(2 ^ 63)) || decide (k ≥ 2 ^ 63)) = false) (c1 : (xs.isEmpty || k == 1) = false) (c2 : (decide (k ≤ 0) || xs.isEmpty) = true) :
    Meets (Builtin.«tuple.__mul__» ⟨[.ref t, .int k u], []⟩) (fun _ R s => s.heap.get? t = some { cls := .type "tuple", dict := dd, data := .seq xs n, slots := sl } ∧
      R (.ok (.ret (Value.ref s.heap.objs.size))) { s with heap := s.heap.push { cls := Value.type "tuple", data := Data.seq #[] }, toks := s.toks }) :=
  .of_wp fun prog w A R s h => by
    obtain ⟨hp, g, d, tk, os⟩ := s
    obtain ⟨at1, fin⟩ := h
    have f1 := AutoSeq1.idx_int
    wp_walk using wpAny_loadPart' at1
    refine wpAny_ite_false (decide_eq_false (by rw [c0]; decide)) ?_
    wp_walk using wpAny_loadPart' at1
    first
    | exact ⟨_, rfl, fin⟩
    | (wp_walk using wpAny_loadPart' at1; exact ⟨_, rfl, fin⟩)
def rRepS (K : PySem.W.Frag) : R2 := fun x y H Q => ∃ l k xs, x = .ref l ∧ y = .int k ∧ SqT K H l xs ∧ (xs = [] ∨ k = 1) ∧ 0 ≤ k ∧ k ≤ 1000 ∧ Q (.ref l) H
def rRepN (K : PySem.W.Frag) : R2 := fun x y H Q => ∃ l xs, x = .ref l ∧ y = .int 0 ∧ SqT K H l xs ∧ xs ≠ [] ∧ ∀ p, H p = none → Q (.ref p) (upd H p (.tup []))
theorem op_repS {X : Cx} : OpR X (binaryOp .Mult) (rRepS X.K) := by
  intro pins s σ H x y v u Q I rx ry h
  obtain ⟨l, k, xs, rfl, rfl, hT, hk, k0, k1, q⟩ := h
  cases rx
  obtain ⟨t, rfl⟩ := ry
  obtain ⟨its, r, ⟨⟨cls, dd, data, sl⟩, ho, hc, n, hd⟩, hs⟩ := I.tuple hT
  simp only at hc hd
  subst hc hd
  have e1 : (its.toArray.isEmpty || k == 1) = true := by
    rcases hk with e | e
    · subst e
      have : its = [] := by
        cases r
        rfl
      rw [this]
      rfl
    · rw [e]
      simp
  refine wpAny_binaryOp_repeat_ref (T := "tuple") (U := "int") (by decide) ⟨_, ho, rfl⟩ (fun s' => typeIs_int s' k t) noFill_tuple_mul
    F.fills_int_mul F.slot_int_rmul repeat_tuple F.slot_int_index.lookup (call_meets F.slot_int_rmul (typeIs_int s k t) F.entry_int_rmul
      (F.args_int_rmul_2 _ _) (int_rmul_tuple k t l its.toArray n dd sl) ⟨ho, rfl, ⟨_, ho, rfl⟩, call_meets F.slot_tuple_mul ⟨_, ho, rfl⟩ F.entry_tuple_mul
        (F.args_tuple_mul_2 _ _) (mul_self (by rw [decide_eq_false (by omega), decide_eq_false (by omega)]; rfl) e1) ⟨ho, ?_⟩⟩)
  exact ⟨.ref l, H, I, rfl, q⟩
theorem op_repN {X : Cx} : OpR X (binaryOp .Mult) (rRepN X.K) := by
  intro pins s σ H x y v u Q I rx ry h
  obtain ⟨l, xs, rfl, rfl, hT, ne, q⟩ := h
  cases rx
  obtain ⟨t, rfl⟩ := ry
  obtain ⟨its, r, ⟨⟨cls, dd, data, sl⟩, ho, hc, n, hd⟩, hs⟩ := I.tuple hT
  simp only at hc hd
  subst hc hd
  have e1 : (its.toArray.isEmpty || (0 : Int) == 1) = false := by
    cases r with
    | nil => exact absurd rfl ne
    | cons _ _ => rfl
  refine wpAny_binaryOp_repeat_ref (T := "tuple") (U := "int") (by decide) ⟨_, ho, rfl⟩ (fun s' => typeIs_int s' 0 t) noFill_tuple_mul
    F.fills_int_mul F.slot_int_rmul repeat_tuple F.slot_int_index.lookup (call_meets F.slot_int_rmul (typeIs_int s 0 t) F.entry_int_rmul
      (F.args_int_rmul_2 _ _) (int_rmul_tuple 0 t l its.toArray n dd sl) ⟨ho, rfl, ⟨_, ho, rfl⟩, call_meets F.slot_tuple_mul ⟨_, ho, rfl⟩ F.entry_tuple_mul
        (F.args_tuple_mul_2 _ _) (mul_none rfl e1 rfl) ⟨ho, ?_⟩⟩)
  exact ⟨.ref s.heap.objs.size, _, I.laid (t' := s.toks) (o := .tup []) (fun b ob e => Heap.get?_push_of_some _ e) (Nat.le_refl _) ⟨Nat.zero_le _, _, .nil, IsTup.new _ _⟩, rfl, q _ (I.hok.fresh (Nat.le_refl _))⟩
end
def gMul : PyData → PyData → Option PyData
  | .int i, .int j => if (-(2 ^ 64) < i ∧ i < 2 ^ 64) ∨ (-(2 ^ 64) < j ∧ j < 2 ^ 64) then some (.int (i * j)) else none
  | .list xs, .int k => if 0 ≤ k ∧ k ≤ 1000 ∧ xs.length ≤ 1000 then some (.list (List.replicate k.toNat xs).flatten) else none
  | .tuple xs, .int k => if 0 ≤ k ∧ k ≤ 1000 ∧ xs.length ≤ 1000 then some (.tuple (List.replicate k.toNat xs).flatten) else none
  | _, _ => none
def rMulA (K : PySem.W.Frag) : R2 := fun x y H Q => rI CMul (fun i j => .int (i * j)) x y H Q ∨ rRep x y H Q ∨ rRepS K x y H Q ∨ rRepN K x y H Q ∨ rRepT K x y H Q
theorem op_mulA {X : Cx} : OpR X (binaryOp .Mult) (rMulA X.K) := by
  intro pins s σ H x y v u Q I rx ry h
  rcases h with h | h | h | h | h
  · exact op_mul pins s σ H x y v u Q I rx ry h
  · exact op_rep pins s σ H x y v u Q I rx ry h
  · exact op_repS pins s σ H x y v u Q I rx ry h
  · exact op_repN pins s σ H x y v u Q I rx ry h
  · exact op_repT pins s σ H x y v u Q I rx ry h
theorem RpL.rep {D : Hp} {vs : List V} {ds : List PyData} (r : RpL D vs ds) : ∀ n : Nat, RpL D (List.replicate n vs).flatten (List.replicate n ds).flatten
  | 0 => .nil
  | n + 1 => by
    rw [List.replicate_succ, List.replicate_succ, List.flatten_cons, List.flatten_cons]
    exact r.append (RpL.rep r n)
theorem lf_mulA : Lf KF.frag (rMulA KF.frag) gMul := by
  intro D H x y a b z Q s rx ry e q
  unfold gMul at e
  split at e
  · split at e
    · rename_i h
      cases e
      exact .inl ⟨_, _, rx.int, ry.int, h, q _ _ (.of (.int _))⟩
    · cases e
  · split at e
    · rename_i xs k h
      cases e
      obtain ⟨a, vs, rfl, h1, h2⟩ := rx.lst s
      refine .inr (.inl ⟨a, k, vs, rfl, ry.int, h1, by omega, by omega, ?_, fun p hp => q _ _ (.lst hp (h2.rep _))⟩)
      rw [h2.length, sizeLine_eq]
      calc xs.length * k.toNat ≤ 1000 * 1000 := Nat.mul_le_mul h.2.2 (by omega)
        _ ≤ 16777216 := by decide
    · cases e
  · split at e
    · rename_i xs k h
      cases e
      obtain ⟨h', p, ws, rfl, h1, h2⟩ := rx.tup
      have hT := h1.same s
      have hl := h2.length
      by_cases c : ws = [] ∨ k = 1
      · refine .inr (.inr (.inl ⟨p, k, ws, rfl, ry.int, hT, c, h.1, h.2.1, q _ _ (.of ?_)⟩))
        have : (List.replicate k.toNat xs).flatten = xs := by
          rcases c with c | c
          · subst c
            have : xs = [] := List.eq_nil_of_length_eq_zero (by rw [← hl]; rfl)
            rw [this]
            simp
          · rw [c]
            simp
        rw [this]
        exact h'
      · have c1 : ws ≠ [] := fun z => c (.inl z)
        have c2 : k ≠ 1 := fun z => c (.inr z)
        by_cases z : k = 0
        · subst z
          exact .inr (.inr (.inr (.inl ⟨p, ws, rfl, ry.int, hT, c1, fun p hp => q _ _ (.tup hp .nil)⟩)))
        · exact .inr (.inr (.inr (.inr ⟨p, k, ws, rfl, ry.int, hT, c1, by omega, by omega, by omega, fun p hp => q _ _ (.tup hp (h2.rep _))⟩)))
    · cases e
  · cases e
end L2.Dl

namespace L2.Dl
open PySem
open PySem.Spec
open PyProof.Rows
variable [KF]

def whileN (t : DT) (b : DS) : Nat → DS
  | 0, _ => .stuck
  | n + 1, env => (t env).bs fun k e => if k = true then (match b e with
    | .nx e' => whileN t b n e'
    | .ct e' => whileN t b n e'
    | .bk e' => .nx e'
    | r => r) else .nx e
def fuel : Nat := 1000000
def dWhile (t : DT) (b : DS) : DS := whileN t b fuel
section
variable {X : Cx} {W : WX} {c : Cf} {pos : Pos} {x : Expr} {body : List Stmt} {t : DT} {b : DS}
theorem while_core {De : Ends} {σ : St} {H : Hp} {D : Hp} {env : Nv} {n : Nat} (S : Sim c D env σ H) (p : PostS W c D De (whileN t b n env)) : tWhile (TOf W c t) (SOf W c b) De σ H := by
  refine ⟨fun m σ H => ∃ D env, Sim c D env σ H ∧ PostS W c D De (whileN t b m env), ⟨n, D, env, S, p⟩, fun m σ H ⟨D, env, S, p⟩ => ?_⟩
  cases m with
  | zero => exact p.elim
  | succ m =>
    refine ⟨D, env, S, ?_⟩
    unfold whileN at p
    revert p
    cases t env with
    | stuck => exact fun z => z
    | exc y e => exact fun z => z σ
    | ok k e1 =>
      intro p H1 D1 S1 s1
      cases k with
      | false => exact iteF (p σ H1 D1 S1 s1)
      | true =>
        refine iteT ⟨fun σ H => ∃ D env, Sim c D env σ H ∧ PostS W c D De (whileN t b m env), fun σ' H' h => ⟨m, Nat.lt_succ_self m, h⟩, D1, e1, S1, ?_⟩
        have p : PostS W c D De (match b e1 with
          | .nx e' => whileN t b m e'
          | .ct e' => whileN t b m e'
          | .bk e' => .nx e'
          | r => r) := p
        have p := p.mono s1
        revert p
        cases b e1 with
        | nx e' => exact fun p σ' H' D' S' s' => ⟨D', e', S', PostS.mono (r := whileN t b m e') p s'⟩
        | ct e' => exact fun p σ' H' D' S' s' => ⟨D', e', S', PostS.mono (r := whileN t b m e') p s'⟩
        | bk e' => exact fun p => p
        | rt x e' => exact fun p => p
        | rtD x e' => exact fun p => p
        | exc x e' => exact fun p => p
        | stuck => exact fun p => p
theorem ds_while (hp : PassesOwn (model X.prog X.w) X.A X.env X.xe) (hc : PT X x (TOf W c t)) (hb : PSs X body (SOf W c b)) : PS X (.While x body [] pos) (SOf W c (dWhile t b)) :=
  (ps_while hp hc hb).weak fun De σ H ⟨D, env, S, p⟩ => while_core S p
end
/-- the walk J draws the items xs while the frozen part D stands -/
structure Drw (c : Cf) (D0 : Hp) (J : It) (xs : List PyData) : Prop where
  ex : ∃ (G : Hp → Prop) (Y : Nat → Hp → V → Hp → Prop), Walk J xs.length G Y ∧ (∀ D env σ H, Same D0 D → Sim c D env σ H → G H) ∧
    ∀ i H v H1 D env σ, i < xs.length → Same D0 D → Sim c D env σ H → Y i H v H1 → ∃ x, xs[i]? = some x ∧ NewR D H v x H1
abbrev DI := Nv → Res (List PyData)
def PostI (W : WX) (c : Cf) (D : Hp) (σ : St) (R : It → Hp → Prop) : Res (List PyData) → Prop
  | .ok xs env' => ∀ J H' D', Sim c D' env' σ H' → Same D D' → Drw c D' J xs → R J H'
  | .exc x env' => PostX W c D σ x env'
  | .stuck => False
def IOf (W : WX) (c : Cf) (d : DI) : TI := fun σ H R => ∃ D env, Sim c D env σ H ∧ PostI W c D σ R (d env)
theorem PostI.mono {W : WX} {c : Cf} {D D1 : Hp} {σ : St} {R : It → Hp → Prop} {r : Res (List PyData)} (h : PostI W c D σ R r) (s : Same D D1) : PostI W c D1 σ R r := by
  cases r with
  | ok o e => exact fun J H' D' S q r => h J H' D' S (s.trans q) r
  | exc x e => exact PostX.mono h s
  | stuck => exact h
theorem Sim.newR {c : Cf} {D : Hp} {env : Nv} {σ : St} {H H' : Hp} {v : V} {z : PyData} (S : Sim c D env σ H) (n : NewR D H v z H') : ∃ D', Sim c D' env σ H' ∧ Same D D' ∧ Rp D' v z := by
  rcases n with ⟨rfl, r⟩ | ⟨a, vs, zs, rfl, hp, rfl, rfl, r⟩ | ⟨a, vs, zs, rfl, hp, rfl, rfl, r⟩
  · exact ⟨D, S, Same.refl D, r⟩
  · have hD : D a = none := S.dh.free hp
    exact ⟨_, S.laid hp _, same_upd' hD, .tup upd_same (r.mono (same_upd' hD))⟩
  · have hD : D a = none := S.dh.free hp
    exact ⟨_, S.laid hp _, same_upd' hD, .lst upd_same (r.mono (same_upd' hD))⟩
def forL (p : Pat) (b : DS) : List PyData → DS
  | [], env => .nx env
  | x :: r, env => match asgP p x env with
    | some e => match b e with
      | .nx e' => forL p b r e'
      | .ct e' => forL p b r e'
      | .bk e' => .nx e'
      | q => q
    | none => .stuck
def dFor (it : DI) (p : Pat) (b : DS) : DS := fun env => (it env).bs fun xs e => forL p b xs e
section
variable {X : Cx} {W : WX} {c : Cf} {pos : Pos} {tg iter : Expr} {body : List Stmt} {it : DI} {b : DS} {p : Pat}
theorem for_core {De : Ends} {σ : St} {H : Hp} (h : SOf W c (dFor it p b) De σ H) : tFor (IOf W c it) (GOf c p) (SOf W c b) De σ H := by
  obtain ⟨D, env, S, q⟩ := h
  refine ⟨D, env, S, ?_⟩
  have q : PostS W c D De ((it env).bs fun xs e => forL p b xs e) := q
  revert q
  cases it env with
  | stuck => exact fun z => z
  | exc y e => exact fun z => z σ
  | ok xs e1 =>
    intro q J H1 D1 S1 s1 dr
    have q : PostS W c D1 De (forL p b xs e1) := PostS.mono (r := forL p b xs e1) q s1
    obtain ⟨G, Y, wk, hG, hY⟩ := dr.ex
    refine for_it wk (fun i σ H => ∃ D env, Sim c D env σ H ∧ Same D1 D ∧ PostS W c D De (forL p b (xs.drop i) env)) ⟨D1, e1, S1, Same.refl _, by rw [List.drop_zero]; exact q⟩ (fun i σ H _ ⟨D, env, S, s, _⟩ => hG D env σ H s S)
      (fun i v σ H H' hi ⟨D, env, S, s, q⟩ y => ?_) fun σ H ⟨D, env, S, s, q⟩ => ?_
    · obtain ⟨x, hx, n⟩ := hY i H v H' D env σ hi s S y
      obtain ⟨D2, S2, s2, r2⟩ := S.newR n
      have hd : xs.drop i = x :: xs.drop (i + 1) := by
        rw [List.drop_eq_getElem_cons hi]
        have : xs[i] = x := by
          rw [List.getElem?_eq_getElem hi] at hx; exact Option.some.inj hx
        rw [this]
      rw [hd] at q
      unfold forL at q
      have q := PostS.mono (r := _) q s2
      revert q
      cases g : asgP p x env with
      | none => exact fun z => z.elim
      | some e2 =>
        intro q
        refine ⟨D2, env, x, e2, S2, r2, g, fun σ' H'' D' S' s' _ => ⟨D', e2, S', ?_⟩⟩
        have q := PostS.mono (W := W) (c := c) (De := De) (r := _) q s'
        have sD := (s.trans s2).trans s'
        revert q
        simp only []
        cases b e2 with
        | nx e' => exact fun q σ' H' D' S' s' => ⟨D', e', S', sD.trans s', PostS.mono (r := forL p b _ e') q s'⟩
        | ct e' => exact fun q σ' H' D' S' s' => ⟨D', e', S', sD.trans s', PostS.mono (r := forL p b _ e') q s'⟩
        | bk e' => exact fun q => q
        | rt x e' => exact fun q => q
        | rtD x e' => exact fun q => q
        | exc x e' => exact fun q => q
        | stuck => exact fun q => q
    · rw [List.drop_length] at q
      exact q σ H D S (Same.refl _)
theorem ds_for (hp : PassesOwn (model X.prog X.w) X.A X.env X.xe) (hc : X.calm = true) (hi : PI X tg iter (IOf W c it)) (hg : PG X tg (GOf c p)) (hb : PSs X body (SOf W c b)) (hs : ∀ x, foldedSetIterable iter X.env x = pure x := by intro _; rfl) : PS X (.For tg iter body [] pos) (SOf W c (dFor it p b)) :=
  (ps_for hp hc hi hg hb hs).weak fun De σ H h => for_core h
theorem _root_.L2.PI.weak {t t' : TI} (h : PI X tg iter t) (w : ∀ σ H Q, t' σ H Q → t σ H Q) : PI X tg iter t' := ⟨fun pins s σ H R I q => h.run pins s σ H R I (w σ H R q)⟩
theorem _root_.L2.PI.or {t t' : TI} (h : PI X tg iter t) (h' : PI X tg iter t') : PI X tg iter (fun σ H R => t σ H R ∨ t' σ H R) := ⟨fun pins s σ H R I q => q.elim (h.run pins s σ H R I) (h'.run pins s σ H R I)⟩
end
/-- a list or a tuple that stays -/
def itOf (o : OV) (e : Nv) : Res (List PyData) := match pinOV e o with
  | some (.list xs, e') => .ok xs e'
  | some (.tuple xs, e') => .ok xs e'
  | _ => .stuck
/-- the signs of a text -/
def signs (z : Str) : List PyData := z.cps.toList.map fun c => .str ⟨#[c]⟩
def itOfS (o : OV) (e : Nv) : Res (List PyData) := match pinOV e o with
  | some (.list xs, e') => .ok xs e'
  | some (.tuple xs, e') => .ok xs e'
  | some (.str z, e') => .ok (signs z) e'
  | _ => .stuck
def dIt (d : DE) : DI := fun env => (d env).bd itOfS
theorem drw_str {c : Cf} {D : Hp} {z : Str} : Drw c D (Its z) (signs z) :=
  ⟨_, _, by rw [show (signs z).length = z.cps.size by simp [signs]]; exact walk_str, fun _ _ _ _ _ _ => True.intro, fun i H v H1 D' env σ hi s S y => by
    obtain ⟨rfl, ch, hc, rfl⟩ := y
    exact ⟨.str ⟨#[ch]⟩, by simp [signs, hc], NewR.of (.str _)⟩⟩
theorem drw_list {c : Cf} {K : PySem.W.Frag} {D : Hp} {a : Addr} {vs : List V} {xs : List PyData} (h : D a = some (.lst vs)) (r : RpL D vs xs) : Drw c D (Itl K a) xs :=
  ⟨_, _, by rw [← r.length]; exact walk_list, fun D' env σ H s S => SqL.of (S.dh _ _ (s _ _ h)), fun i H v H1 D' env σ hi s S y => by
    obtain ⟨rfl, e⟩ := y
    obtain ⟨x, e1, e2⟩ := (r.mono s).get e
    exact ⟨x, e1, NewR.of e2⟩⟩
theorem drw_tup {c : Cf} {D : Hp} {a : Addr} {vs : List V} {xs : List PyData} (h : SqT KF.frag D a vs) (r : RpL D vs xs) : Drw c D (Itt KF.frag a) xs :=
  ⟨_, _, by rw [← r.length]; exact walk_tup, fun D' env σ H s S => (h.same s).same S.dh, fun i H v H1 D' env σ hi s S y => by
    obtain ⟨rfl, e⟩ := y
    obtain ⟨x, e1, e2⟩ := (r.mono s).get e
    exact ⟨x, e1, NewR.of e2⟩⟩
def rangeL (lo : Int) (n : Nat) : List PyData := (List.range n).map fun i => .int (lo + (i : Nat))
theorem rangeL_len (lo : Int) (n : Nat) : (rangeL lo n).length = n := by simp [rangeL]
theorem drw_range {c : Cf} {D : Hp} {lo : Int} {n : Nat} : Drw c D (Itr lo n) (rangeL lo n) :=
  ⟨_, _, by rw [rangeL_len]; exact walk_range, fun _ _ _ _ _ _ => True.intro, fun i H v H1 D' env σ hi s S y => by
    obtain ⟨rfl, rfl⟩ := y
    rw [rangeL_len] at hi
    exact ⟨.int (lo + (i : Nat)), by simp [rangeL, hi], NewR.of (.int _)⟩⟩
def inLong (i : Int) : Bool := decide (-1000000000 ≤ i ∧ i ≤ 1000000000)
theorem inLong_ok {i : Int} (h : inLong i = true) : -(2 ^ 62) ≤ i ∧ i < 2 ^ 62 := by
  have h := of_decide_eq_true h
  omega
def range1 (os : List OV) (e : Nv) : Res (List PyData) := match getAll e os with
  | some [.int j] => if inLong j = true then .ok (rangeL 0 j.toNat) e else .stuck
  | _ => .stuck
def range2 (os : List OV) (e : Nv) : Res (List PyData) := match getAll e os with
  | some [.int i, .int j] => if inLong i = true ∧ inLong j = true then .ok (rangeL i (j - i).toNat) e else .stuck
  | _ => .stuck
def dRange1 (r : Nv → Res (List OV)) : DI := fun env => (r env).bd range1
def dRange2 (r : Nv → Res (List OV)) : DI := fun env => (r env).bd range2
section
variable {X : Cx} {W : WX} {c : Cf} {tg e a b : Expr} {d : DE} {r : Nv → Res (List OV)} {p pos : Pos}
theorem di_seq (hK : KF.frag = X.K) (he : PE X e (EOf W c d)) : PI X tg e (IOf W c (dIt d)) :=
  (((pi_list he).or (pi_tup he)).or (pi_str he)).weak fun σ H R ⟨D, env, S, p⟩ => by
    have p : PostI W c D σ R ((d env).bd itOfS) := p
    cases g : d env with
    | stuck => rw [g] at p; exact p.elim
    | exc y e => rw [g] at p; exact .inl (.inl ⟨D, env, S, by rw [g]; exact p⟩)
    | ok o e1 =>
      rw [g] at p
      have p : PostI W c D σ R (itOfS o e1) := p
      unfold itOfS at p
      split at p
      · rename_i xs e2 hp
        refine .inl (.inl ⟨D, env, S, ?_⟩)
        rw [g]
        intro v H1 D1 S1 s1 r1
        obtain ⟨D2, S2, s2, r2⟩ := S1.pin r1 hp
        cases r2 with
        | @lst a vs _ k1 k2 => exact ⟨a, rfl, ⟨vs, .of (S2.dh _ _ k1)⟩, p _ H1 D2 S2 (s1.trans s2) (drw_list k1 k2)⟩
      · rename_i xs e2 hp
        refine .inl (.inr ⟨D, env, S, ?_⟩)
        rw [g]
        intro v H1 D1 S1 s1 r1
        obtain ⟨D2, S2, s2, r2⟩ := S1.pin r1 hp
        obtain ⟨a, vs, rfl, k1, k2⟩ := r2.tupS
        rw [← hK]
        exact ⟨a, rfl, ⟨vs, k1.same S2.dh⟩, p _ H1 D2 S2 (s1.trans s2) (drw_tup k1 k2)⟩
      · rename_i z e2 hp
        refine .inr ⟨D, env, S, ?_⟩
        rw [g]
        intro v H1 D1 S1 s1 r1
        obtain ⟨D2, S2, s2, r2⟩ := S1.pin r1 hp
        cases r2
        exact ⟨z, rfl, p _ H1 D2 S2 (s1.trans s2) drw_str⟩
      · exact p.elim
theorem di_range1 (hg : Gl X "range") (hm : X.mg "range" = none) (ha : PA X [a] (AOf W c r)) (hs : starEach [a] X.env = [(false, eval a X.env)] := by rfl) : PI X tg (.Call (.Name "range" p) [a] [] pos) (IOf W c (dRange1 r)) :=
  (pi_range1 hg hm ha hs).weak fun σ H R ⟨D, env, S, p⟩ => by
    refine ⟨D, env, S, ?_⟩
    have p : PostI W c D σ R ((r env).bd range1) := p
    revert p
    cases r env with
    | stuck => exact fun z => z
    | exc y e => exact fun z => z
    | ok os e1 =>
      intro p vs H1 D1 S1 s1 r1
      have p : PostI W c D σ R (range1 os e1) := p
      unfold range1 at p
      split at p
      · rename_i j g
        obtain ⟨v, rfl, h⟩ := (S1.getAll r1 g).one
        split at p
        · rename_i hj
          rw [h.int]
          exact ⟨j, rfl, (inLong_ok hj).1, (inLong_ok hj).2, p _ H1 D1 S1 s1 drw_range⟩
        · exact p.elim
      · exact p.elim
theorem di_range2 (hg : Gl X "range") (hm : X.mg "range" = none) (ha : PA X [a, b] (AOf W c r)) (hs : starEach [a, b] X.env = [(false, eval a X.env), (false, eval b X.env)] := by rfl) (hs2 : starEach [b] X.env = [(false, eval b X.env)] := by rfl) : PI X tg (.Call (.Name "range" p) [a, b] [] pos) (IOf W c (dRange2 r)) :=
  (pi_range2 hg hm ha hs hs2).weak fun σ H R ⟨D, env, S, p⟩ => by
    refine ⟨D, env, S, ?_⟩
    have p : PostI W c D σ R ((r env).bd range2) := p
    revert p
    cases r env with
    | stuck => exact fun z => z
    | exc y e => exact fun z => z
    | ok os e1 =>
      intro p vs H1 D1 S1 s1 r1
      have p : PostI W c D σ R (range2 os e1) := p
      unfold range2 at p
      split at p
      · rename_i i j g
        obtain ⟨v, w, rfl, h, h'⟩ := (S1.getAll r1 g).two
        split at p
        · rename_i hj
          rw [h.int, h'.int]
          exact ⟨i, j, rfl, ⟨(inLong_ok hj.1).1, (inLong_ok hj.1).2, (inLong_ok hj.2).1, (inLong_ok hj.2).2⟩, p _ H1 D1 S1 s1 drw_range⟩
        · exact p.elim
      · exact p.elim
end
end L2.Dl

namespace L2.Dl
open PySem
open PySem.Spec
open PyProof.Rows
variable [KF]

def wipeN (e : Nv) : List Nat → Nv
  | [] => e
  | v :: vs => (wipeN e vs).set v .un
def backN (e0 : Nv) (e : Nv) : List Nat → Nv
  | [] => e
  | v :: vs => (backN e0 e vs).set v (e0.getD v .un)
def plainAt (e : Nv) (i : Nat) : Bool := match e[i]? with
  | some (.v _) => true
  | some .un => true
  | some (.gl _) => true
  | _ => false
theorem wipeN_len (e : Nv) : ∀ vs : List Nat, (wipeN e vs).length = e.length
  | [] => rfl
  | v :: vs => by unfold wipeN; rw [List.length_set, wipeN_len e vs]
theorem backN_len (e0 e : Nv) : ∀ vs : List Nat, (backN e0 e vs).length = e.length
  | [] => rfl
  | v :: vs => by unfold backN; rw [List.length_set, backN_len e0 e vs]
theorem wipeN_get {e : Nv} {i : Nat} {s : Slot} : ∀ {vs : List Nat}, (wipeN e vs)[i]? = some s → (i ∈ vs ∧ s = .un) ∨ (i ∉ vs ∧ e[i]? = some s)
  | [], h => .inr ⟨by simp, h⟩
  | v :: vs, h => by
    unfold wipeN at h
    by_cases hi : v = i
    · subst hi
      by_cases hv : v < (wipeN e vs).length
      · rw [List.getElem?_set_self hv] at h; cases h; exact .inl ⟨List.mem_cons_self, rfl⟩
      · rw [List.getElem?_eq_none (by simpa using hv)] at h; cases h
    · rw [List.getElem?_set_ne hi] at h
      rcases wipeN_get h with ⟨h1, h2⟩ | ⟨h1, h2⟩
      · exact .inl ⟨List.mem_cons_of_mem _ h1, h2⟩
      · exact .inr ⟨by simp only [List.mem_cons, not_or]; exact ⟨fun z => hi z.symm, h1⟩, h2⟩
theorem backN_get {e0 e : Nv} {i : Nat} {s : Slot} : ∀ {vs : List Nat}, (backN e0 e vs)[i]? = some s → (i ∈ vs ∧ s = e0.getD i .un) ∨ (i ∉ vs ∧ e[i]? = some s)
  | [], h => .inr ⟨by simp, h⟩
  | v :: vs, h => by
    unfold backN at h
    by_cases hi : v = i
    · subst hi
      by_cases hv : v < (backN e0 e vs).length
      · rw [List.getElem?_set_self hv] at h; cases h; exact .inl ⟨List.mem_cons_self, rfl⟩
      · rw [List.getElem?_eq_none (by simpa using hv)] at h; cases h
    · rw [List.getElem?_set_ne hi] at h
      rcases backN_get h with ⟨h1, h2⟩ | ⟨h1, h2⟩
      · exact .inl ⟨List.mem_cons_of_mem _ h1, h2⟩
      · exact .inr ⟨by simp only [List.mem_cons, not_or]; exact ⟨fun z => hi z.symm, h1⟩, h2⟩
theorem wipe_in {σ : St} {i : Nat} : ∀ {vs : List Nat}, i ∈ vs → ((wipe σ vs)[i]?).join = none
  | v :: vs, h => by
    unfold wipe
    by_cases hi : v = i
    · subst hi
      by_cases hv : v < (wipe σ vs).length
      · rw [List.getElem?_set_self hv] <;> rfl
      · rw [List.getElem?_eq_none (by simpa using hv)] <;> rfl
    · rw [List.getElem?_set_ne hi]
      rcases List.mem_cons.mp h with z | h
      · exact absurd z.symm hi
      · exact wipe_in h
theorem wipe_ext {σ σ' : St} {vs : List Nat} (hl : σ'.length = σ.length) (h : ∀ j, j ∉ vs → σ'[j]? = σ[j]?) : wipe σ' vs = wipe σ vs := by
  apply List.ext_getElem?
  intro j
  by_cases hj : j ∈ vs
  · by_cases hb : j < σ.length
    · have a1 : j < (wipe σ' vs).length := by rw [wipe_length]; omega
      have a2 : j < (wipe σ vs).length := by rw [wipe_length]; omega
      have e1 := wipe_in (σ := σ') hj
      have e2 := wipe_in (σ := σ) hj
      rw [List.getElem?_eq_getElem a1] at e1 ⊢
      rw [List.getElem?_eq_getElem a2] at e2 ⊢
      have f1 : (wipe σ' vs)[j] = none := e1
      have f2 : (wipe σ vs)[j] = none := e2
      rw [f1, f2]
    · rw [List.getElem?_eq_none (by rw [wipe_length]; omega), List.getElem?_eq_none (by rw [wipe_length]; omega)]
  · rw [wipe_out hj, wipe_out hj, h j hj]
theorem wipe_idem {σ : St} {vs : List Nat} : wipe (wipe σ vs) vs = wipe σ vs := wipe_ext (wipe_length σ vs) fun j hj => wipe_out hj
section
variable {c : Cf} {D : Hp} {env : Nv} {σ : St} {H : Hp}
theorem Sim.wipe (S : Sim c D env σ H) (vs : List Nat) : Sim c D (wipeN env vs) (L2.wipe σ vs) H := by
  refine ⟨S.dh, S.bh, S.bd, by rw [wipeN_len, wipe_length]; exact S.len, fun i s e => ?_, fun i j s t a ei ej oi oj hi hj => ?_, S.tb, S.nd, S.nb, S.d0⟩
  · rcases wipeN_get e with ⟨_, rfl⟩ | ⟨h1, h2⟩
    · trivial
    · rw [wipe_out h1]; exact S.slot i s h2
  · rcases wipeN_get ei with ⟨_, rfl⟩ | ⟨h1, h2⟩
    · cases oi
    · rcases wipeN_get ej with ⟨_, rfl⟩ | ⟨h3, h4⟩
      · cases oj
      · rw [wipe_out h1] at hi
        rw [wipe_out h3] at hj
        exact S.apart i j s t a h2 h4 oi oj hi hj
theorem plainAt_of {e : Nv} {i : Nat} (h : plainAt e i = true) : ∃ s, e[i]? = some s ∧ e.getD i .un = s ∧ ((∃ d, s = .v d) ∨ s = .un ∨ ∃ n, s = .gl n) := by
  unfold plainAt at h
  rw [List.getD_eq_getElem?_getD]
  split at h
  · rename_i d q; exact ⟨_, q, by rw [q]; rfl, .inl ⟨d, rfl⟩⟩
  · rename_i q; exact ⟨_, q, by rw [q]; rfl, .inr (.inl rfl)⟩
  · rename_i n q; exact ⟨_, q, by rw [q]; rfl, .inr (.inr ⟨n, rfl⟩)⟩
  · cases h
/-- behind the comprehension its own slots hold what they held -/
theorem Sim.back {D0 : Hp} {e0 e : Nv} {H0 : Hp} {vs : List Nat} (S0 : Sim c D0 e0 σ H0) (S : Sim c D e (L2.wipe σ vs) H) (s : Same D0 D) (hp : ∀ i ∈ vs, plainAt e0 i = true) : Sim c D (backN e0 e vs) σ H := by
  have hl : e.length = σ.length := by rw [S.len, wipe_length]
  refine ⟨S.dh, S.bh, S.bd, by rw [backN_len]; exact hl, fun i t q => ?_, fun i j t u a ei ej oi oj hi hj => ?_, S.tb, S.nd, S.nb, S.d0⟩
  · rcases backN_get q with ⟨h1, rfl⟩ | ⟨h1, h2⟩
    · obtain ⟨t, k1, k2, k3⟩ := plainAt_of (hp i h1)
      rw [k2]
      have := S0.slot i t k1
      rcases k3 with ⟨d, rfl⟩ | rfl | ⟨n, rfl⟩
      · obtain ⟨v, e1, e2⟩ := this; exact ⟨v, e1, e2.mono s⟩
      · trivial
      · exact this
    · have := S.slot i t h2
      rw [wipe_out h1] at this
      exact this
  · have key : ∀ {i : Nat} {t : Slot}, (backN e0 e vs)[i]? = some t → t.owns = true → i ∉ vs ∧ e[i]? = some t := fun {i t} q o => by
      rcases backN_get q with ⟨h1, rfl⟩ | h
      · obtain ⟨t, k1, k2, k3⟩ := plainAt_of (hp i h1)
        rw [k2] at o
        rcases k3 with ⟨d, rfl⟩ | rfl | ⟨n, rfl⟩ <;> cases o
      · exact h
    obtain ⟨a1, a2⟩ := key ei oi
    obtain ⟨b1, b2⟩ := key ej oj
    exact S.apart i j t u a a2 b2 oi oj (by rw [wipe_out a1]; exact hi) (by rw [wipe_out b1]; exact hj)
/-- what is held is put down -/
theorem Sim.unhold {a : Addr} {o : HO} (S : Sim (c.withB (upd c.B a o)) D env σ H) (hB : c.B a = none) (hok : okO o = true := by rfl) : Sim c D env σ (hole H a) := by
  have e1 : H a = some o := S.bh a _ upd_same
  have e2 : D a = none := S.bd a _ upd_same
  have S3 := S.ofB (same_upd' hB)
  refine ⟨fun b o e => ?_, fun b o e => ?_, S3.bd, S3.len, fun i s e => (S3.slot i s e).lift (Same.refl _) fun b ea ho => ⟨?_, fun z => z⟩, S3.apart, tabs_hole S3.tb e1 hok, S3.nd, S3.nb, S3.d0⟩
  · rw [hole_ne (ne_of_none e e2)]; exact S3.dh b o e
  · rw [hole_ne (ne_of_none e hB)]; exact S3.bh b o e
  · apply hole_ne
    rintro rfl
    obtain ⟨a', u, k1, k2, k3, k4⟩ := (S.slot i s e).tracked ho
    rw [ea] at k1; cases k1
    have k5 := (upd_same (H := c.B) (a := b) (o := o)).symm.trans k4
    cases k5
theorem hole_back {a : Addr} {o : HO} (h : H a = some o) : upd (hole H a) a o = H := by
  funext b
  by_cases hb : b = a
  · subst hb; rw [upd_same, h]
  · rw [upd_ne hb, hole_ne hb]
/-- what is held is changed -/
theorem Sim.rehold {a : Addr} {o o' : HO} (S : Sim (c.withB (upd c.B a o)) D env σ H) (hB : c.B a = none) (hok : okO o = true := by rfl) (ho' : okO o' = true := by rfl) : Sim (c.withB (upd c.B a o')) D env σ (upd H a o') := by
  have e2 : D a = none := S.bd a _ upd_same
  have S1 := S.unhold hB hok
  have S2 := S1.grow (p := a) hole_same o'
  rw [hole_upd] at S2
  exact S2.toB upd_same e2 (S1.apartNew hole_same) (okO_okB ho')
end
def Res.bx {α β : Type} (r : Res α) (k : α → Nv → Res β) : Res β := match r with
  | .ok a e => k a e
  | .exc _ _ => .stuck
  | .stuck => .stuck
def dYes : DT := fun env => .ok true env
def lcL (p : Pat) (t : DT) (d : DE) (vs : List Nat) : List PyData → List PyData → Nv → Res (List PyData)
  | [], acc, e => .ok acc e
  | x :: r, acc, e => match asgP p x e with
    | none => .stuck
    | some e1 => (t e1).bx fun b e2 => if b = true then (d e2).bx fun o e3 => (match pinOV e3 o with
        | some (y, e4) => if acc.length < lenB then lcL p t d vs r (acc ++ [y]) (wipeN e4 vs) else .stuck
        | none => .stuck)
      else lcL p t d vs r acc (wipeN e2 vs)
def dLc (it : DI) (p : Pat) (t : DT) (d : DE) (vs : List Nat) : DL := fun env => (it env).bd fun xs e =>
  if vs.all (plainAt e) = true then (lcL p t d vs xs [] (wipeN e vs)).bx fun ys e' => .ok ys (backN e e' vs) else .stuck
/-- no exception may leave -/
abbrev WF : WX := fun _ _ _ _ => False
def GB (c : Cf) (p : Pat) : TG := fun v σ H R => ∃ B, GOf (c.withB B) p v σ H R
def TB (c : Cf) (t : DT) : TT := fun σ H R => ∃ B, TOf WF (c.withB B) t σ H R
section
variable {X : Cx} {W : WX} {c : Cf} {pos : Pos} {tg iter elt : Expr} {ifs : List Expr} {scope : Scope} {own : List (Str × Nat)} {it : DI} {p : Pat} {t : DT} {d : DE}
theorem dts_nil : PTs X [] (TOf WF c dYes) := ⟨fun pins s σ H Q I ⟨D, env, S, q⟩ => pts_nil.run pins s σ H Q I (q H D S (Same.refl _))⟩
theorem dts_one {e : Expr} (h : PT X e (TOf WF c t)) : PTs X [e] (TOf WF c t) := pts_one h
theorem lc_core' {vs : List Nat} (hv : ∀ i ∈ p.slots, i ∈ vs) {σ : St} {H : Hp} {Q : VK} (h : LOf W c (dLc it p t d vs) σ H Q) : tLc (IOf W c it) (GB c p) (TB c t) (EB WF c d) vs σ H Q := by
  obtain ⟨D, env, S, q⟩ := h
  refine ⟨D, env, S, ?_⟩
  have q : PostL W c D σ Q ((it env).bd _) := q
  revert q
  cases it env with
  | stuck => exact fun z => z
  | exc y e => exact fun z => z
  | ok xs e1 =>
    intro q J H1 D1 S1 s1 dr A hA
    simp only [Res.bd] at q
    split at q
    · rename_i hpl
      have hpl : ∀ i ∈ vs, plainAt e1 i = true := List.all_eq_true.mp hpl
      obtain ⟨G, Y, wk, hG, hY⟩ := dr.ex
      have hBA : c.B A = none := S1.bh.free hA
      -- what is left to do gives the end
      refine lc_it wk (fun i H => ∃ D2 env2 acc accV, Sim (c.withB (upd c.B A (.lst accV))) D2 env2 (wipe σ vs) H ∧ RpL D2 accV acc ∧ Same D1 D2 ∧
          PostL W c D σ Q ((lcL p t d vs (xs.drop i) acc env2).bx fun ys e' => .ok ys (backN e1 e' vs)))
        ⟨D1, wipeN e1 vs, [], [], ?_, .nil, Same.refl _, by rw [List.drop_zero]; exact q⟩ (fun i H _ ⟨D2, env2, acc, accV, S2, r2, s2, q2⟩ => hG D2 env2 _ H s2 (S2.ofB (same_upd' hBA)))
        (fun i v H2 H3 hi ⟨D2, env2, acc, accV, S2, r2, s2, q2⟩ y => ?_) fun H2 ⟨D2, env2, acc, accV, S2, r2, s2, q2⟩ => ?_
      · exact ((S1.wipe vs).grow hA _).toB upd_same (S1.dh.free hA) ((S1.wipe vs).apartNew hA)
      · obtain ⟨x, hx, n⟩ := hY i H2 v H3 D2 env2 _ hi s2 (S2.ofB (same_upd' hBA)) y
        obtain ⟨D3, S3, s3, r3⟩ := S2.newR n
        have hd : xs.drop i = x :: xs.drop (i + 1) := by
          rw [List.drop_eq_getElem_cons hi]
          have : xs[i] = x := by
            rw [List.getElem?_eq_getElem hi] at hx; exact Option.some.inj hx
          rw [this]
        rw [hd] at q2
        unfold lcL at q2
        revert q2
        cases g : asgP p x env2 with
        | none => exact fun z => z.elim
        | some e2 =>
          intro q2
          refine ⟨_, D3, env2, x, e2, S3, r3, g, fun σ4 H4 D4 S4 s4 a4 => ?_⟩
          have ew : wipe σ4 vs = wipe σ vs := (wipe_ext a4.1 fun j hj => a4.2 j fun z => hj (hv j z)).trans wipe_idem
          refine ⟨ew, _, D4, e2, S4, ?_⟩
          revert q2
          simp only []
          cases t e2 with
          | stuck => exact fun z => z.elim
          | exc y e => exact fun z => z.elim
          | ok b e3 =>
            intro q2 H5 D5 S5 s5
            have sD := ((s2.trans s3).trans s4).trans s5
            cases b with
            | false =>
              refine iteF ⟨D5, wipeN e3 vs, acc, accV, ?_, r2.mono ((s3.trans s4).trans s5), sD, q2⟩
              rw [← ew]
              exact S5.wipe vs
            | true =>
              refine iteT ⟨_, D5, e3, S5, ?_⟩
              revert q2
              simp only [Res.bx, if_true]
              cases d e3 with
              | stuck => exact fun z => z.elim
              | exc y e => exact fun z => z.elim
              | ok o e4 =>
                intro q2 w H6 D6 S6 s6 r6
                simp only [] at q2
                cases hp : pinOV e4 o with
                | none => rw [hp] at q2; exact q2.elim
                | some ye =>
                  obtain ⟨y, e5⟩ := ye
                  rw [hp] at q2
                  simp only [] at q2
                  obtain ⟨D7, S7, s7, r7⟩ := S6.pin r6 hp
                  by_cases hl : acc.length < lenB
                  · rw [if_pos hl] at q2
                    refine ⟨accV, S7.bh A _ upd_same, by rw [r2.length]; exact Nat.lt_of_lt_of_le hl (lenB_le (Nat.le_refl _)), D7, wipeN e5 vs, acc ++ [y], accV ++ [w], ?_, ?_, (sD.trans s6).trans s7, q2⟩
                    · rw [← ew]
                      exact (S7.wipe vs).rehold hBA
                    · exact (r2.mono ((((s3.trans s4).trans s5).trans s6).trans s7)).append (.cons r7 .nil)
                  · rw [if_neg hl] at q2; exact q2.elim
      · rw [List.drop_length] at q2
        have q2 : PostL W c D σ Q (.ok acc (backN e1 env2 vs)) := q2
        have eA : H2 A = some (.lst accV) := S2.bh A _ upd_same
        rw [← hole_back eA]
        exact q2 A accV (hole H2 A) D2 (Sim.back S1 (S2.unhold hBA) s2 hpl) (s1.trans s2) hole_same r2
    · exact q.elim
theorem dl_lc (hc : X.calm = true) (hN : X.N.Nodup) (hi : PI X tg iter (IOf W c it)) (ok : BlkOk X.N X.env.scope scope own) (hv : ∀ i ∈ p.slots, i ∈ own.map (·.2))
    (hg : ∀ (B : Hp) (s : Shared) (H : Hp) (C : Addr) (cl : List (Str × Addr)) (fp : List Addr), PG (X.blk s H scope (compEnvC scope cl C X.env) fp) tg (GOf (c.withB B) p))
    (ht : ∀ (B : Hp) (s : Shared) (H : Hp) (C : Addr) (cl : List (Str × Addr)) (fp : List Addr), PTs (X.blk s H scope (compEnvC scope cl C X.env) fp) ifs (TOf WF (c.withB B) t))
    (he : ∀ (B : Hp) (s : Shared) (H : Hp) (C : Addr) (cl : List (Str × Addr)) (fp : List Addr), PE (X.blk s H scope (compEnvC scope cl C X.env) fp) elt (EOf WF (c.withB B) d)) (hs : ∀ x, foldedSetIterable iter X.env x = pure x := by intro _; rfl) :
    PE X (.ListComp elt [⟨tg, iter, ifs, 0⟩] scope pos) (LOf W c (dLc it p t d (own.map (·.2)))) :=
  (pe_lc hc hN hi ok (g := GB c p) (tt := TB c t) (te := EB WF c d) (fun s H C cl fp => ⟨fun pins s' σ H' v u Q I r ⟨B, z⟩ => (hg B s H C cl fp).run pins s' σ H' v u Q I r z⟩)
    (fun s H C cl fp => ⟨fun pins s' σ H' Q I ⟨B, z⟩ => (ht B s H C cl fp).run pins s' σ H' Q I z⟩) (fun s H C cl fp => ⟨fun pins s' σ H' Q I ⟨B, z⟩ => (he B s H C cl fp).run pins s' σ H' Q I z⟩) hs).weak
    fun σ H Q h => lc_core' hv h
/-- name = [..] on one line -/
theorem ds_setLc {i : Nat} {y : Str} {py spos : Pos} (hc : X.calm = true) (hN : X.N.Nodup) (hy : X.N[i]? = some y) (hyl : X.env.scope.names.lookup y = some .local)
    (hsw : swapsWith (.ListComp elt [⟨tg, iter, ifs, 0⟩] scope pos) (some (.Name y py)) spos.line X.env = pure true) (hi : PI X tg iter (IOf W c it)) (ok : BlkOk X.N X.env.scope scope own) (hv : ∀ i ∈ p.slots, i ∈ own.map (·.2))
    (hg : ∀ (B : Hp) (s : Shared) (H : Hp) (C : Addr) (cl : List (Str × Addr)) (fp : List Addr), PG (X.blk s H scope (compEnvC scope cl C X.env) fp) tg (GOf (c.withB B) p))
    (ht : ∀ (B : Hp) (s : Shared) (H : Hp) (C : Addr) (cl : List (Str × Addr)) (fp : List Addr), PTs (X.blk s H scope (compEnvC scope cl C X.env) fp) ifs (TOf WF (c.withB B) t))
    (he : ∀ (B : Hp) (s : Shared) (H : Hp) (C : Addr) (cl : List (Str × Addr)) (fp : List Addr), PE (X.blk s H scope (compEnvC scope cl C X.env) fp) elt (EOf WF (c.withB B) d)) (own' : Bool) (hs : ∀ x, foldedSetIterable iter X.env x = pure x := by intro _; rfl) :
    PS X (.Assign [.Name y py] (.ListComp elt [⟨tg, iter, ifs, 0⟩] scope pos) spos) (SOf W c (dSet i (if own' then rL (dLc it p t d (own.map (·.2))) else rE (dFz (dLc it p t d (own.map (·.2))))))) :=
  (L2.ps_setLc hc hN hy hyl hsw hi ok (g := GB c p) (tt := TB c t) (te := EB WF c d) (fun s H C cl fp => ⟨fun pins s' σ H' v u Q I r ⟨B, z⟩ => (hg B s H C cl fp).run pins s' σ H' v u Q I r z⟩)
    (fun s H C cl fp => ⟨fun pins s' σ H' Q I ⟨B, z⟩ => (ht B s H C cl fp).run pins s' σ H' Q I z⟩) (fun s H C cl fp => ⟨fun pins s' σ H' Q I ⟨B, z⟩ => (he B s H C cl fp).run pins s' σ H' Q I z⟩) hs).weak
    fun De σ H h => by
      refine lc_core' (W := W) (c := c) hv ?_
      obtain ⟨D, env, S, q⟩ := h
      refine ⟨D, env, S, ?_⟩
      cases own' with
      | true =>
        have q : PostS W c D De ((rL (dLc it p t d (own.map (·.2))) env).bs fun s e => setS e i s) := q
        unfold rL at q
        revert q
        cases dLc it p t d (own.map (·.2)) env with
        | stuck => exact fun z => z
        | exc y e => exact fun z => z σ
        | ok xs e1 =>
          intro q pa ws H1 D1 S1 s1 hp r1
          have q : PostS W c D De (setS e1 i (.own false xs)) := q
          unfold setS at q
          split at q
          · rename_i hf
            exact q _ _ D1 ((S1.grow hp _).setS (freeAt_lt hf) (S1.newOwn hp r1)) s1
          · exact q.elim
      | false =>
        have q : PostS W c D De ((rE (dFz (dLc it p t d (own.map (·.2)))) env).bs fun s e => setS e i s) := q
        unfold rE dFz at q
        revert q
        cases dLc it p t d (own.map (·.2)) env with
        | stuck => exact fun z => z
        | exc y e => exact fun z => z σ
        | ok xs e1 =>
          intro q pa ws H1 D1 S1 s1 hp r1
          have q : PostS W c D De (setS e1 i (.v (.list xs))) := q
          unfold setS at q
          split at q
          · rename_i hf
            have hD : D1 pa = none := S1.dh.free hp
            exact q _ _ _ ((S1.laid hp (.lst ws)).setS (freeAt_lt hf) (.ofV (.lst upd_same (r1.mono (same_upd' hD))))) (s1.trans (same_upd' hD))
          · exact q.elim
end
end L2.Dl

namespace L2.Dl
open PySem
open PySem.Spec
open PyProof.Rows
def CXm : Bool → Program → World → CXT
  | true => L2N.CX
  | false => L2.CX
def Tk : Bool → Cx → WX → Prop
  | true => L2N.Takes
  | false => L2.Takes
theorem sky_n {B h : Heap} {l : List Env} {a L : Addr} {cls : Value} {d : Option Addr} (x : Sky B l a (L2N.Zn cls d) L h) : Sky B l a (Zc cls d) L h := by
  rcases x with ⟨h1, h2, h3, oe, vs, h4, h5, h6⟩ | h | ⟨h1, h2, h3, oe, vs, T, oT, ts, h4, h5, h6⟩
  · exact .inl ⟨h1, h2, h3, oe, vs, h4, h5.zc, h6⟩
  · exact .inr (.inl (L2H.flyingZ_imp (fun _ z => L2N.Zn.zc z) h))
  · exact .inr (.inr ⟨h1, h2, h3, oe, vs, T, oT, ts, h4, h5.zc, h6⟩)
theorem takes_n {X : Cx} {W : WX} (t : L2.Takes X W) : L2N.Takes X W := fun u s' ⟨a, B, sI, pins, σ, H, cls, d, e, I, nb, up, sky, r⟩ => t u s' ⟨a, B, sI, pins, σ, H, cls, d, e, I, nb, up, sky_n sky, r⟩
theorem Tk.n {m : Bool} {X : Cx} {W : WX} (t : Tk m X W) : Tk true X W := by
  cases m with
  | true => exact t
  | false => exact takes_n t
theorem tkF {m : Bool} {X : Cx} : Tk m X (fun _ _ _ _ => False) := by
  cases m with
  | true => exact fun _ _ ⟨_, _, _, _, _, _, _, _, _, _, _, _, _, _, _, _, w⟩ => w.elim
  | false => exact fun _ _ ⟨_, _, _, _, _, _, _, _, _, _, _, _, _, _, _, _, w⟩ => w.elim
theorem tk_pass {m : Bool} {X : Cx} {W : WX} (tk : Tk m X W) (σ : St) : PassesAt (CXm m X.prog X.w) X σ (WE W σ) := by
  cases m with
  | true => exact L2N.passAt tk σ
  | false => exact passAt tk σ
theorem tk_of {m : Bool} {X : Cx} {E : XK} (hs : X.stack = X.env :: X.outer) (hf : X.env.frame = some X.env.locals) (hex : X.ex = []) {E₁ : Value → Shared → Prop}
    (hx : X.xe = fun e s' => wpAny (model X.prog X.w) X.A (leaving X.env e) (fun _ s'' => CXm m X.prog X.w X.outer X.H_0 X.s_0 E e s'') E₁ s') : Tk m X (fun cls d _ H => E cls d H) := by
  cases m with
  | true => exact L2N.takes_of hs hf hex hx
  | false => exact L2.takes_of hs hf hex hx
theorem cxm_false {m : Bool} {P : Program} {w : World} {outer : List Env} {H : Hp} {s : Shared} {u : Value} {s' : Shared} (h : CXm m P w outer H s (fun _ _ _ => False) u s') : False := by
  cases m with
  | true => exact h.elim fun _ ⟨_, _, _, _, _, _, _, _, _, _, _, z⟩ => z
  | false => exact h.elim fun _ ⟨_, _, _, _, _, _, _, _, _, _, _, z⟩ => z
section
variable {X : Cx} {x : Str} {e : Expr} {es : List Expr} {ta : TA} {p pos : Pos}
theorem pmk_oexN {CX0 : CXT} {C fI : Addr} {k : Nat} {fd : FuncData} {ps : List Str} {sp : Sp} (T : OexC X.K C) (iC : PySem.W.findIn X.K (.ref C) "__init__" = some (some (.ref fI)))
    (tI : PySem.W.typeIn X.K (.ref fI) = some (.type "function")) (F1 : FnOk X.prog X.w X.K X.mg X.base CX0 k fI fd ps sp) (hr : Room (k + 1) X.A) (hb : Binds X.K fd ps [])
    (hx : Passes CX0 X (fun _ _ _ => False)) (hg : Gl X x) (hm : X.mg x = some (.ref C)) (ha : PA X (e :: es) ta) (hdb : (x == ("__debug__" : Str)) = false := by decide)
    (he : starEach (e :: es) X.env = (false, eval e X.env) :: starEach es X.env := by rfl) (hpl : (backTo pos (starEach es X.env)).any (·.1) = false := by rfl) :
    L2H.PMk5 X (.Call (.Name x p) (e :: es) [] pos) (tMkO C sp [] ta) := fun pins s σ H Q I h => by
  obtain ⟨_, _, _, _, bm, _, _, _, _, _, _, _, _, _, _, cl, vb⟩ := T.cls
  refine wpAny_Call_Name_kw (ld_glob I hg hm ?_ hdb)
  refine PySem.W.callWith_K (h₀ := X.base) I.ok.mod.kin T.kC ?_ he hpl
  refine thn (ha.run pos pins s σ H _ I h) fun us t ⟨vs, H1, J, rv, len, q⟩ => ⟨J.kIn, ?_⟩
  show wpAny _ _ (call (.ref C) us) _ _ _
  obtain ⟨hp, g, dr, tk, os⟩ := t
  -- the addresses of the arguments' tuple and of the exception
  generalize hA : hp.objs.size + 1 = A1 at q
  have le1 : hp.objs.size ≤ A1 := by omega
  generalize hG : (hp.push (PySem.W.kdv_tup us)).push (PySem.HandSPX.excO C hp.objs.size) = G1
  have up : ∀ b o, hp.get? b = some o → G1.get? b = some o := fun b o z => by
    rw [← hG]
    exact Heap.get?_push_of_some _ (Heap.get?_push_of_some _ z)
  have atA : G1.get? A1 = some (PySem.HandSPX.excO C hp.objs.size) := by
    rw [← hG, ← hA]
    heap_get
  have q1 := q A1 (J.hok.fresh le1)
  rw [List.append_nil] at q1
  have J1 : Inv X pins σ (upd H1 A1 (exo A1 C none)) ⟨G1, g, dr, tk, os⟩ := J.laid (t' := tk) up le1 (exo_ok atA)
  have rv1 : Vals (V.ref A1 :: vs) (Value.ref A1 :: us) := .cons rfl rv
  have n1 : (Value.ref A1 :: us ++ []).length = ps.length := by
    rw [List.append_nil, ← rv1.length]
    exact F1.len _ _ _ _ q1
  have n2 : us.length ≤ sizeLine := by
    have := Paired.length rv
    rw [sizeLine_eq]
    omega
  have bd := hb _ _ J1.kIn n1
  rw [List.append_nil] at bd
  have run := F1.run _ X.stack _ _ ⟨Value.ref A1 :: us, []⟩ (Value.ref A1 :: us) _ _ (fun _ _ _ => False) (hr.make C us []) (J1.env0.make C us []) bd rv1 q1
  subst hA hG
  refine wpAny_call (PySem.HandSPX.call_own F.excBase_ValueError (fun Y => PySem.HandSPX.refsVE_contains Y bm vb) (J.kIn _ _ cl) (PySem.W.looks_findIn J.kIn iC)
    (fun self => PySem.W.bind_fn J.kIn self tI) n2 (codeAny_mono run fun r s' z => ?_))
  match r, z with
  | .error er, z => exact hx pins σ _ _ er s' J1 z
  | .ok .next, z => exact z.elim
  | .ok .brk, z => exact z.elim
  | .ok .cont, z => exact z.elim
  | .ok (.ret u), z =>
    obtain ⟨v, H2, k1, k2, k3, k4, rv2, ev, d, fs, k5, k6, k7, fin⟩ := z
    subst ev
    obtain ⟨h2, g2, d2, t2, os2⟩ := s'
    obtain ⟨t0, G, w1, w2, w3, w4, w5⟩ := mk_end0 (d2 := d2) (t2 := t2) J le1 up k3 k4 k1 k2 k5 k6 k7
    refine ⟨rv2, ⟨_, _, _, ⟨G, g2, d2, t2, os2⟩, _, .ref C, some d, rfl, w1, w2, w3, w4, ⟨rfl, rfl, fun vs hv => ?_⟩, rfl, rfl, w5, rfl, k2, raises_own T.exC T.tyC, fin⟩, fun a oe vs ea eg ed => ?_⟩
    · cases hv
      rfl
    · cases ea
      have eg : h2.get? _ = some oe := eg
      rw [w4] at eg
      cases eg
      cases ed
      show (4 : Nat) < 6
      decide
end
end L2.Dl

namespace L2.Dl
open PySem
open PySem.Spec
open PyProof.Rows
variable [KF]

inductive Ret where
  | d (x : PyData)
  | k (d : DV)
inductive FRes where
  | ok (r : Ret) (ps : Nv)
  | exc (x : Ex) (ps : Nv)
  | stuck
abbrev Fn := Nv → FRes
def outS (e : Nv) (i : Nat) (s : Slot) : Option Slot := if s.owns = true then (match e[i]? with
  | some t => if t.owns = true ∧ t.par = true then some t else none
  | none => none) else some s
/-- the parameters behind the call: what was handed in owned, as it is then -/
def outP (e : Nv) : Nv → Nat → Option Nv
  | [], _ => some []
  | s :: r, i => match outS e i s with
    | some t => match outP e r (i + 1) with
      | some l => some (t :: l)
      | none => none
    | none => none
def outR (o : Option Nv) (k : Nv → FRes) : FRes := match o with
  | some l => k l
  | none => .stuck
def mkFn (nn : Nat) (body : DS) : Fn := fun ps => match body (ps ++ List.replicate (nn - ps.length) .un) with
  | .rt x e => outR (outP e ps 0) (.ok (.d x))
  | .nx e => outR (outP e ps 0) (.ok (.d .none))
  | .rtD d e => outR (outP e ps 0) (.ok (.k d))
  | .exc x e => outR (outP e ps 0) (.exc x)
  | _ => .stuck
def PostF (c : Cf) (D : Hp) (σ : St) (Q : VK) (E : XK) : FRes → Prop
  | .ok (.d x) ps => ∀ v H' D', Sim c D' ps σ H' → Same D D' → Rp D' v x → Q v H'
  | .ok (.k d) ps => ∀ p o H' D', Sim c D' ps σ H' → Same D D' → H' p = none → DctOk D' (upd H' p o) p d → Q (.ref p) (upd H' p o)
  | .exc x ps => ∀ cls d H' D', Sim c D' ps σ H' → Same D D' → ExR c D' H' x cls d → E cls d H'
  | .stuck => False
def allPar (ps : Nv) : Bool := ps.all fun s => !s.owns || s.par
/-- a def's promise, by what it does deeply -/
def fnSp (mg : Str → Option Value) (n : Nat) (fn : Fn) : Sp := fun vs H Q E => vs.length = n ∧ ∃ (c : Cf) (D : Hp) (ps : Nv), c.mg = mg ∧ Sim c D ps (vs.map some) H ∧ allPar ps = true ∧ PostF c D (vs.map some) Q E (fn ps)
/-- room, and nothing is being shown -/
structure GRoom (k : Nat) (A : Around) : Prop where
  r : Room k A
  g : A.guards = some []
theorem GRoom.mono {j k : Nat} {A : Around} (r : GRoom k A) (h : j ≤ k) : GRoom j A := ⟨r.r.mono h, r.g⟩
theorem GRoom.deeper {k : Nat} {A : Around} (r : GRoom (k + 1) A) (env : Env) : GRoom k (A.deeper env) := ⟨r.r.deeper env, r.g⟩
theorem GRoom.u1 {k : Nat} {A : Around} (r : GRoom k A) : A.units + 1 < cLine := by have := r.r.un; omega
theorem GRoom.u65 {k : Nat} {A : Around} (r : GRoom k A) : A.units + 65 < cLine := by have := r.r.un; omega
theorem GRoom.u64 {k : Nat} {A : Around} (r : GRoom k A) : A.units + 64 < cLine := by have := r.r.un; omega
theorem GRoom.u110 {k : Nat} {A : Around} (r : GRoom k A) : A.units + 110 < cLine := by have := r.r.un; omega
structure FnD (m : Bool) (P : Program) (w : World) (K : PySem.W.Frag) (mg : Str → Option Value) (base : Heap) (k : Nat) (f : Addr) (fd : FuncData) (ps : List Str) (sp : Sp) : Prop where
  len : ∀ vs H Q E, sp vs H Q E → vs.length = ps.length
  run : ∀ (A : Around) (outer : List Env) (s : Shared) (H : Hp) (args : Args) (us : List Value) (vs : List V) (Q : VK) (E : XK), GRoom k A → Env0 P w K mg base A outer s H → BindsTo s fd args (ps.zip us) → Vals vs us → sp vs H Q E →
    codeAny (model P w) A (.call (.ref f) args) (CR (CXm m P w) outer P w H s Q E) s
theorem FnD.mono {m : Bool} {P : Program} {w : World} {K : PySem.W.Frag} {mg : Str → Option Value} {base : Heap} {j k : Nat} {f : Addr} {fd : FuncData} {ps : List Str} {sp : Sp} (F : FnD m P w K mg base j f fd ps sp) (h : j ≤ k) : FnD m P w K mg base k f fd ps sp :=
  ⟨F.len, fun A outer s H args us vs Q E hr => F.run A outer s H args us vs Q E (hr.mono h)⟩

section
variable {c : Cf} {D D' : Hp} {ps : Nv} {vs : List V} {H H' : Hp}
theorem start_join {N : Nat} {i : Nat} : (((vs.map some ++ List.replicate N none) : St)[i]?).join = ((vs.map some)[i]?).join := by
  by_cases h : i < vs.length
  · rw [List.getElem?_append_left (by simpa using h)]
  · rw [List.getElem?_append_right (by simpa using h)]
    rw [List.getElem?_eq_none (l := vs.map some) (by simpa using h)]
    by_cases h2 : i - (vs.map some).length < N
    · rw [List.getElem?_replicate, if_pos h2] <;> rfl
    · rw [List.getElem?_replicate, if_neg h2]
/-- from the parameters to the frame -/
theorem Sim.start (S : Sim c D ps (vs.map some) H) (N : Nat) : Sim c D (ps ++ List.replicate N .un) (vs.map some ++ List.replicate N none) H := by
  have hl : ps.length = vs.length := by have := S.len; simpa using this
  have key : ∀ {i : Nat} {s : Slot}, (ps ++ List.replicate N Slot.un)[i]? = some s → ps[i]? = some s ∨ s = .un := fun {i s} e => by
    by_cases h : i < ps.length
    · rw [List.getElem?_append_left h] at e; exact .inl e
    · rw [List.getElem?_append_right (by omega), List.getElem?_replicate] at e
      split at e
      · cases e; exact .inr rfl
      · cases e
  refine ⟨S.dh, S.bh, S.bd, by simp [hl], fun i s e => ?_, fun i j s t a ei ej oi oj hi hj => ?_, S.tb, S.nd, S.nb, S.d0⟩
  · rcases key e with e | rfl
    · rw [start_join]; exact S.slot i s e
    · trivial
  · rw [start_join] at hi hj
    rcases key ei with ei | rfl
    · rcases key ej with ej | rfl
      · exact S.apart i j s t a ei ej oi oj hi hj
      · cases oj
    · cases oi
theorem outP_get {e : Nv} : ∀ {ps l : Nv} {n : Nat}, outP e ps n = some l → l.length = ps.length ∧ ∀ i s, l[i]? = some s → ∃ s0, ps[i]? = some s0 ∧ outS e (n + i) s0 = some s
  | [], l, n, h => by
    cases h
    exact ⟨rfl, fun i s e => by simp at e⟩
  | s0 :: r, l, n, h => by
    unfold outP at h
    split at h
    · rename_i t h1
      split at h
      · rename_i l' h2
        cases h
        obtain ⟨k1, k2⟩ := outP_get h2
        refine ⟨by simp [k1], fun i s e => ?_⟩
        cases i with
        | zero => simp at e; subst e; exact ⟨s0, rfl, h1⟩
        | succ i =>
          obtain ⟨s1, m1, m2⟩ := k2 i s (by simpa using e)
          exact ⟨s1, by simpa using m1, by rw [← m2]; congr 1; omega⟩
      · cases h
    · cases h
/-- an owning slot's address -/
theorem SlotOk.addr {i : Nat} {x : Option V} {s : Slot} (h : SlotOk c D H i x s) (o : s.owns = true) (p : s.par = true) : ∃ a, x = some (.ref a) ∧ c.pa i = some a := by
  cases s with
  | own q xs => obtain ⟨a, vs, e, h1, h2, h3, h4, h5⟩ := h; exact ⟨a, e, h5 p⟩
  | dct q kvs => obtain ⟨a, e, h1, h3, h4, h5⟩ := h; exact ⟨a, e, h5 p⟩
  | un => cases o
  | v d => cases o
  | gl n => cases o
  | ro xs => cases o
  | la => cases o
theorem outS_own {e : Nv} {i : Nat} {s t : Slot} (h : outS e i s = some t) : (s.owns = false ∧ t = s) ∨ (s.owns = true ∧ t.owns = true ∧ t.par = true ∧ e[i]? = some t) := by
  unfold outS at h
  split at h
  · rename_i ho
    split at h
    · rename_i u hu
      split at h
      · rename_i hp; cases h; exact .inr ⟨ho, hp.1, hp.2, hu⟩
      · cases h
    · cases h
  · rename_i ho; cases h; exact .inl ⟨by simpa using ho, rfl⟩
/-- from the frame back to the parameters -/
theorem Sim.out {σ' : St} {e : Nv} {l : Nv} (S : Sim c D ps (vs.map some) H) (ap : allPar ps = true) (S' : Sim c D' e σ' H') (s : Same D D') (h : outP e ps 0 = some l) : Sim c D' l (vs.map some) H' := by
  obtain ⟨hl, hg⟩ := outP_get h
  have hpar : ∀ {i : Nat} {s0 : Slot}, ps[i]? = some s0 → s0.owns = true → s0.par = true := fun {i s0} e o => by
    have := List.all_eq_true.mp ap s0 (List.mem_of_getElem? e)
    rw [o] at this
    simpa using this
  -- an owned one stands where it stood
  have same : ∀ {i : Nat} {s0 t : Slot}, ps[i]? = some s0 → s0.owns = true → t.owns = true → t.par = true → e[i]? = some t → (σ'[i]?).join = ((vs.map some)[i]?).join := fun {i s0 t} e0 o ot pt et => by
    obtain ⟨a, k1, k2⟩ := (S.slot i s0 e0).addr o (hpar e0 o)
    obtain ⟨b, m1, m2⟩ := (S'.slot i t et).addr ot pt
    rw [k2] at m2; cases m2
    rw [k1, m1]
  refine ⟨S'.dh, S'.bh, S'.bd, by rw [hl]; exact S.len, fun i t q => ?_, fun i j t u a ei ej oi oj hi hj => ?_, S'.tb, S'.nd, S'.nb, S'.d0⟩
  · obtain ⟨s0, e0, e1⟩ := hg i t q
    rw [Nat.zero_add] at e1
    rcases outS_own e1 with ⟨o, rfl⟩ | ⟨o, ot, pt, et⟩
    · exact (S.slot i t e0).lift s fun a _ z => absurd (o.symm.trans z) (by decide)
    · rw [← same e0 o ot pt et]; exact S'.slot i t et
  · obtain ⟨s0, e0, e1⟩ := hg i t ei
    obtain ⟨s1, f0, f1⟩ := hg j u ej
    rw [Nat.zero_add] at e1 f1
    rcases outS_own e1 with ⟨o, rfl⟩ | ⟨o, ot, pt, et⟩
    · exact absurd (o.symm.trans oi) (by decide)
    · rcases outS_own f1 with ⟨o', rfl⟩ | ⟨o', ot', pt', et'⟩
      · exact absurd (o'.symm.trans oj) (by decide)
      · exact S'.apart i j t u a et et' oi oj (by rw [same e0 o ot pt et]; exact hi) (by rw [same f0 o' ot' pt' et']; exact hj)
end
/-- THE RULE for a def: its body deeply told -/
theorem fnd_of {m : Bool} {P : Program} {w : World} {mg : Str → Option Value} {base : Heap} {k : Nat} {f : Addr} {name qual : Str} {params : Arguments} {body : List Stmt} {scope : Scope} {dV kV doc pm cdv ct oc : Value} {an od : Option Addr}
    {osl : Array (Option Value)} {N ps : List Str} {nn : Nat} {d : DS} (lk : KF.frag.lookup f = some ⟨oc, od, .func (PySem.W.fnOf name qual params body scope dV kV doc pm an cdv ct), osl⟩) (hcd : PySem.W.codeIn KF.frag cdv qual = true) (S : FnScope N ps scope) (hnn : nn = N.length)
    (hbody : ∀ (A : Around) (outer : List Env) (s : Shared) (H : Hp) (E : XK) (c : Cf), GRoom k (A.deeper (envOfC qual scope s.heap.objs.size f cdv)) → c.mg = mg →
      PSs (cxOf (CXm m P w) P w KF.frag mg base N qual scope f cdv A outer s H E) body (SOf (fun cls d _ H => E cls d H) c d)) :
    FnD m P w KF.frag mg base (k + 1) f (PySem.W.fnOf name qual params body scope dV kV doc pm an cdv ct) ps (fnSp mg ps.length (mkFn nn d)) := by
  refine ⟨fun vs H Q E h => h.1, fun A outer s H args us vs Q E hr e0 hb r hsp => ?_⟩
  obtain ⟨hl, c, D, pv, hmg, S0, ap, post⟩ := hsp
  have KX : KF.frag.In s.heap := e0.mod.kin.keeps fun b o e => (e0.bs b o e).1
  have lim : s.heap.NoLimit := e0.mod.nolimit.keeps fun b o e => (e0.bs b o e).1
  have hkind : ∀ y ∈ ps.zip us, scope.names.lookup y.1 = some .local ∨ (scope.names.lookup y.1 = some .cell ∧ ((cellsFrom (s.heap.objs.size + 1) scope.names []).lookup y.1).isSome = true) := fun ⟨n, v⟩ hy => by
    rcases S.par n (List.of_mem_zip hy).1 with q | q
    · exact .inl q
    · exact .inr ⟨q, PySem.W.cellsFrom_some _ _ _ (.inl q)⟩
  refine codeAny_call_function hr.r.depth (KX _ _ lk) rfl S.co S.gen rfl (PySem.W.codeRec_of KX hcd) (hb _ _ _ _ ?_)
  refine wpAny_newFunctionEnv_cells S.kind hkind fun env he s1 x => ?_
  subst he
  refine ⟨lim.keeps x.toInCall.keep, codeAny_func ?_⟩
  have ht := hbody A outer s H E c (hr.deeper _) hmg
  have I := inv_start (CX := CXm m P w) (E := E) S hr.r.hd e0 hl r x
  have hpl : pv.length = vs.length := by have := S0.len; simpa using this
  have S1 : Sim c D (pv ++ List.replicate (nn - pv.length) .un) (start N vs) H := by
    have := S0.start (N.length - vs.length)
    unfold L2.start
    rw [hpl, hnn]
    exact this
  have fin : ∀ {σ' : St} {H' : Hp} {v : V} {u : Value} {s' : Shared}, Inv (cxOf (CXm m P w) P w KF.frag mg base N qual scope f cdv A outer s H E) [] σ' H' s' → RelV v u → Q v H' → CE outer P w H s Q u s' :=
    fun {σ' H' v u s'} J rv q => ⟨v, H', J.os, J.bare, J.base, J.hok, rv, q⟩
  have post : PostS (fun cls d _ H => E cls d H) c D { nx := fun _ H' => Q .non H', rt := Q } (d (pv ++ List.replicate (nn - pv.length) .un)) := by
    have post : PostF c D (vs.map some) Q E (mkFn nn d pv) := post
    unfold mkFn at post
    revert post
    have outs : ∀ {e : Nv} {σ' : St} {H' D' : Hp} {l : Nv}, Sim c D' e σ' H' → Same D D' → outP e pv 0 = some l → Sim c D' l (vs.map some) H' := fun S' s' h => S0.out ap S' s' h
    cases d (pv ++ List.replicate (nn - pv.length) .un) with
    | nx e =>
      simp only []
      cases h : outP e pv 0 with
      | none => exact fun z => z.elim
      | some l => exact fun post σ' H' D' S' s' => post .non H' D' (outs S' s' h) s' .non
    | rt y e =>
      simp only []
      cases h : outP e pv 0 with
      | none => exact fun z => z.elim
      | some l => exact fun post v σ' H' D' S' s' r' => post v H' D' (outs S' s' h) s' r'
    | rtD y e =>
      simp only []
      cases h : outP e pv 0 with
      | none => exact fun z => z.elim
      | some l => exact fun post p o σ' H' D' S' s' hp r' => post p o H' D' (outs S' s' h) s' hp r'
    | exc y e =>
      simp only []
      cases h : outP e pv 0 with
      | none => exact fun z => z.elim
      | some l => exact fun post σ' cls dd H' D' S' s' r' => post cls dd H' D' (outs S' s' h) s' r'
    | bk e => exact fun z => z.elim
    | ct e => exact fun z => z.elim
    | stuck => exact fun z => z.elim
  refine wpAny_mono (ht.run [] s1 (start N vs) H _ I ⟨D, _, S1, post⟩) (fun fl s' hs => ?_) fun e s' hs => hs
  cases fl with
  | ret u =>
    obtain ⟨v, σ', H', J, rv, q⟩ := hs
    exact fin J rv q
  | next =>
    obtain ⟨σ', H', J, q⟩ := hs
    exact fin (v := V.non) (u := Value.none) J rfl q
  | brk =>
    obtain ⟨_, _, _, q⟩ := hs
    exact False.elim q
  | cont =>
    obtain ⟨_, _, _, q⟩ := hs
    exact False.elim q
end L2.Dl

namespace L2.Dl
open PySem
open PySem.Spec
open PyProof.Rows
variable [KF]

def argS (e : Nv) : OV → Option Slot
  | .d x => some (.v x)
  | .gl n => some (.gl n)
  | .sl i => match e[i]? with
    | some (.own _ xs) => some (.own true xs)
    | some (.dct _ d) => some (.dct true d)
    | some (.v d) => some (.v d)
    | some (.ro xs) => some (.ro xs)
    | _ => none
def argL (e : Nv) : List OV → Option Nv
  | [] => some []
  | o :: r => match argS e o with
    | some s => match argL e r with
      | some l => some (s :: l)
      | none => none
    | none => none
def isSl (i : Nat) : OV → Bool
  | .sl j => i == j
  | _ => false
def ownsAt (e : Nv) (i : Nat) : Bool := match e[i]? with
  | some s => s.owns
  | none => false
/-- nothing owned is handed in twice -/
def apartO (e : Nv) : List OV → Bool
  | [] => true
  | .sl i :: r => (!ownsAt e i || !r.any (isSl i)) && apartO e r
  | _ :: r => apartO e r
def posO (i : Nat) (os : List OV) : Option Nat := os.findIdx? (isSl i)
def mergeS : Slot → Slot → Option Slot
  | .own p _, .own _ ys => some (.own p ys)
  | .dct p _, .dct _ d => some (.dct p d)
  | _, _ => none
/-- the caller's slots behind the call -/
def backE (os : List OV) (l : Nv) : Nv → Nat → Option Nv
  | [], _ => some []
  | s :: r, i => match backE os l r (i + 1) with
    | none => none
    | some r' => if s.owns = true then (match posO i os with
        | none => some (s :: r')
        | some j => match l[j]? with
          | some t => match mergeS s t with
            | some u => some (u :: r')
            | none => none
          | none => none) else some (s :: r')
def backO (os : List OV) (e l : Nv) (k : Nv → Res OV) : Res OV := match backE os l e 0 with
  | some e' => k e'
  | none => .stuck
def callOV (fn : Fn) (os : List OV) (e : Nv) : Res OV := if apartO e os = true then (match argL e os with
  | some ps => match fn ps with
    | .ok (.d x) l => backO os e l (.ok (.d x))
    | .exc x l => backO os e l (.exc x)
    | _ => .stuck
  | none => .stuck) else .stuck
def callDV (fn : Fn) (os : List OV) (e : Nv) : Res DV := if apartO e os = true then (match argL e os with
  | some ps => match fn ps with
    | .ok (.k d) l => (match backE os l e 0 with
      | some e' => .ok d e'
      | none => .stuck)
    | .exc x l => (match backE os l e 0 with
      | some e' => .exc x e'
      | none => .stuck)
    | _ => .stuck
  | none => .stuck) else .stuck
section
variable {c : Cf} {D D' : Hp} {e e' : Nv} {σ : St} {H H' : Hp} {vs : List V} {os : List OV} {ps l : Nv}
theorem argL_get : ∀ {os : List OV} {ps : Nv}, argL e os = some ps → ps.length = os.length ∧ ∀ (j : Nat) (s : Slot), ps[j]? = some s → ∃ o, os[j]? = some o ∧ argS e o = some s
  | [], ps, h => by cases h; exact ⟨rfl, fun j s q => by simp at q⟩
  | o :: r, ps, h => by
    unfold argL at h
    split at h
    · rename_i s h1
      split at h
      · rename_i l h2
        cases h
        obtain ⟨k1, k2⟩ := argL_get h2
        refine ⟨by simp [k1], fun j t q => ?_⟩
        cases j with
        | zero => simp at q; subst q; exact ⟨o, rfl, h1⟩
        | succ j => obtain ⟨o', m1, m2⟩ := k2 j t (by simpa using q); exact ⟨o', by simpa using m1, m2⟩
      · cases h
    · cases h
theorem OVRL.get : ∀ {vs : List V} {os : List OV}, OVRL c D σ vs os → ∀ {j : Nat} {o : OV}, os[j]? = some o → ∃ v, vs[j]? = some v ∧ OVR c D σ v o
  | _, _, .nil, j, o, h => by simp at h
  | _, _, .cons h _, 0, o, q => by simp at q; subst q; exact ⟨_, rfl, h⟩
  | _, _, .cons _ r, j + 1, o, q => by
    obtain ⟨v, h1, h2⟩ := OVRL.get r (j := j) (o := o) (by simpa using q)
    exact ⟨v, by simpa using h1, h2⟩
theorem OVRL.length : ∀ {vs : List V} {os : List OV}, OVRL c D σ vs os → vs.length = os.length
  | _, _, .nil => rfl
  | _, _, .cons _ r => congrArg (· + 1) (OVRL.length r)
theorem isSl_eq {i : Nat} {o : OV} (h : isSl i o = true) : o = .sl i := by
  cases o with
  | sl j => simp [isSl] at h; rw [h]
  | d x => cases h
  | gl n => cases h
theorem apartO_of : ∀ {os : List OV} {j1 j2 i : Nat}, apartO e os = true → j1 < j2 → os[j1]? = some (.sl i) → os[j2]? = some (.sl i) → ownsAt e i = false
  | [], j1, _, i, _, _, h, _ => by simp at h
  | o :: r, 0, 0, i, _, h, _, _ => absurd h (Nat.lt_irrefl _)
  | o :: r, 0, j2 + 1, i, h, _, h1, h2 => by
    simp at h1
    subst h1
    unfold apartO at h
    rw [Bool.and_eq_true, Bool.or_eq_true] at h
    rcases h.1 with q | q
    · simpa using q
    · have : r.any (isSl i) = true := List.any_eq_true.mpr ⟨.sl i, List.mem_of_getElem? (show r[j2]? = some (.sl i) by simpa using h2), by simp [isSl]⟩
      rw [this] at q
      cases q
  | o :: r, j1 + 1, j2 + 1, i, h, hl, h1, h2 => by
    have h' : apartO e r = true := by
      unfold apartO at h
      split at h
      · rename_i hh; cases hh
      · rename_i hh; cases hh; rw [Bool.and_eq_true] at h; exact h.2
      · rename_i hh; cases hh; exact h
    exact apartO_of h' (Nat.lt_of_succ_lt_succ hl) (by simpa using h1) (by simpa using h2)
  | o :: r, j1 + 1, 0, i, _, h, _, _ => absurd h (Nat.not_lt_zero _)
theorem posO_some {i j : Nat} (h : posO i os = some j) : os[j]? = some (.sl i) := by
  unfold posO at h
  obtain ⟨hl, h1, _⟩ := List.findIdx?_eq_some_iff_getElem.mp h
  rw [List.getElem?_eq_getElem hl, isSl_eq h1]
theorem posO_none {i : Nat} (h : posO i os = none) : OV.sl i ∉ os := fun hm => by
  unfold posO at h
  have := List.findIdx?_eq_none_iff.mp h _ hm
  simp [isSl] at this
theorem backE_get : ∀ {e e' : Nv} {n : Nat}, backE os l e n = some e' → e'.length = e.length ∧ ∀ i t, e'[i]? = some t → ∃ s, e[i]? = some s ∧
    ((s.owns = false ∧ t = s) ∨ (s.owns = true ∧ posO (n + i) os = none ∧ t = s) ∨ (s.owns = true ∧ ∃ j u, posO (n + i) os = some j ∧ l[j]? = some u ∧ mergeS s u = some t))
  | [], e', n, h => by cases h; exact ⟨rfl, fun i t q => by simp at q⟩
  | s :: r, e', n, h => by
    unfold backE at h
    split at h
    · cases h
    · rename_i r' h1
      obtain ⟨k1, k2⟩ := backE_get h1
      have tail : ∀ {t0 : Slot} (i : Nat) (t : Slot), (t0 :: r')[i + 1]? = some t → ∃ s1, (s :: r)[i + 1]? = some s1 ∧
          ((s1.owns = false ∧ t = s1) ∨ (s1.owns = true ∧ posO (n + (i + 1)) os = none ∧ t = s1) ∨ (s1.owns = true ∧ ∃ j u, posO (n + (i + 1)) os = some j ∧ l[j]? = some u ∧ mergeS s1 u = some t)) := fun {t0} i t q => by
        obtain ⟨s1, m1, m2⟩ := k2 i t (by simpa using q)
        rw [show n + 1 + i = n + (i + 1) by omega] at m2
        exact ⟨s1, by simpa using m1, m2⟩
      split at h
      · rename_i ho
        split at h
        · rename_i hp
          cases h
          refine ⟨by simp [k1], fun i t q => ?_⟩
          cases i with
          | zero => simp at q; subst q; exact ⟨s, rfl, .inr (.inl ⟨ho, hp, rfl⟩)⟩
          | succ i => exact tail i t q
        · rename_i j hp
          split at h
          · rename_i u hu
            split at h
            · rename_i w hw
              cases h
              refine ⟨by simp [k1], fun i t q => ?_⟩
              cases i with
              | zero => simp at q; subst q; exact ⟨s, rfl, .inr (.inr ⟨ho, j, u, hp, hu, hw⟩)⟩
              | succ i => exact tail i t q
            · cases h
          · cases h
      · rename_i ho
        cases h
        refine ⟨by simp [k1], fun i t q => ?_⟩
        cases i with
        | zero => simp at q; subst q; exact ⟨s, rfl, .inl ⟨by simpa using ho, rfl⟩⟩
        | succ i => exact tail i t q
/-- who is handed in owned stands at a -/
def Handed (e : Nv) (σ : St) (os : List OV) (a : Addr) : Prop := ∃ i s, e[i]? = some s ∧ s.owns = true ∧ (σ[i]?).join = some (V.ref a) ∧ OV.sl i ∈ os
open Classical in
/-- for the callee: all else of the heap is held -/
noncomputable def cfIn (c : Cf) (D : Hp) (e : Nv) (σ : St) (H : Hp) (os : List OV) (vs : List V) : Cf where
  mg := c.mg
  B := fun a => if D a = none ∧ ¬ Handed e σ os a ∧ (∀ o, H a = some o → okB o = true) then H a else none
  pa := fun j => match vs[j]? with
    | some (.ref a) => some a
    | _ => none
  la := none
  D0 := fun _ => none
theorem cfIn_B {a : Addr} (h1 : D a = none) (h2 : ¬ Handed e σ os a) (h3 : ∀ o, H a = some o → okB o = true) : (cfIn c D e σ H os vs).B a = H a := if_pos ⟨h1, h2, h3⟩
theorem cfIn_none {a : Addr} (h : Handed e σ os a) : (cfIn c D e σ H os vs).B a = none := if_neg fun z => z.2.1 h
theorem cfIn_some {a : Addr} {o : HO} (h : (cfIn c D e σ H os vs).B a = some o) : D a = none ∧ ¬ Handed e σ os a ∧ H a = some o ∧ okB o = true := by
  by_cases q : D a = none ∧ ¬ Handed e σ os a ∧ (∀ o, H a = some o → okB o = true)
  · have := (if_pos q).symm.trans h
    exact ⟨q.1, q.2.1, this, q.2.2 o this⟩
  · have := (if_neg q).symm.trans h
    cases this
theorem Sim.cfB (S : Sim c D e σ H) : Same c.B (cfIn c D e σ H os vs).B := fun a o h => by
  have no : ¬ Handed e σ os a := fun ⟨i, s, e1, e2, e3, _⟩ => by
    obtain ⟨a', u, k1, k2, k3, k4⟩ := (S.slot i s e1).tracked e2
    rw [e3] at k1; cases k1
    rw [h] at k4; cases k4
  exact (cfIn_B (S.bd a o h) no fun o' h' => by
    rw [S.bh a o h] at h'
    cases h'
    exact S.nb a o h).trans (S.bh a o h)
theorem Sim.args (S : Sim c D e σ H) (r : OVRL c D σ vs os) (ap : apartO e os = true) (h : argL e os = some ps) : Sim (cfIn c D e σ H os vs) D ps (vs.map some) H := by
  obtain ⟨hl, hg⟩ := argL_get h
  have hv : ∀ {j : Nat} {v : V}, vs[j]? = some v → ((vs.map some)[j]?).join = some v := fun {j v} q => by rw [List.getElem?_map, q] <;> rfl
  -- what an owning parameter is
  have ow : ∀ {j : Nat} {s : Slot}, ps[j]? = some s → s.owns = true → ∃ i a s0, os[j]? = some (.sl i) ∧ e[i]? = some s0 ∧ s0.owns = true ∧ (σ[i]?).join = some (.ref a) ∧ vs[j]? = some (.ref a) ∧ argS e (.sl i) = some s := fun {j s} q o => by
    obtain ⟨ov, e1, e2⟩ := hg j s q
    obtain ⟨v, v1, v2⟩ := r.get e1
    cases ov with
    | d x => cases e2; cases o
    | gl n => cases e2; cases o
    | sl i =>
      have v2 : (σ[i]?).join = some v := v2
      have e2' := e2
      simp only [argS] at e2'
      cases q0 : e[i]? with
      | none => rw [q0] at e2'; cases e2'
      | some s0 =>
        have so : s0.owns = true := by
          rw [q0] at e2'
          cases s0 <;> simp at e2' <;> subst e2' <;> first | rfl | cases o
        obtain ⟨a, u, k1, _⟩ := (S.slot i s0 q0).tracked so
        rw [v2] at k1; cases k1
        exact ⟨i, a, s0, e1, q0, so, v2, v1, e2⟩
  refine ⟨S.dh, fun a o q => (cfIn_some q).2.2.1, fun a o q => (cfIn_some q).1, by rw [hl, List.length_map, r.length], fun j s q => ?_, fun j1 j2 s t a ej ek oj ok hj hk => ?_, S.tb, S.nd, fun a o q => (cfIn_some q).2.2.2, fun _ _ z => nomatch z⟩
  · obtain ⟨ov, e1, e2⟩ := hg j s q
    obtain ⟨v, v1, v2⟩ := r.get e1
    rw [hv v1]
    cases ov with
    | d x => cases e2; exact ⟨v, rfl, v2⟩
    | gl n => cases e2; obtain ⟨f, rfl, k⟩ := v2; exact ⟨f, rfl, k⟩
    | sl i =>
      have v2 : (σ[i]?).join = some v := v2
      simp only [argS] at e2
      cases q0 : e[i]? with
      | none => rw [q0] at e2; cases e2
      | some s0 =>
        have so := S.sl q0 v2
        rw [q0] at e2
        cases s0 with
        | un => cases e2
        | gl n => cases e2
        | la => cases e2
        | v d => cases e2; exact so
        | ro xs => cases e2; exact so
        | own p xs =>
          cases e2
          obtain ⟨a, ws, ea, k1, k2, k3, k4, k5⟩ := so
          cases ea
          exact ⟨a, ws, rfl, k1, k2, k3, cfIn_none ⟨i, _, q0, rfl, v2, List.mem_of_getElem? e1⟩, fun _ => by show (match vs[j]? with | some (.ref a) => some a | _ => none) = some a; rw [v1]⟩
        | dct p d =>
          cases e2
          obtain ⟨a, ea, k1, k3, k4, k5⟩ := so
          cases ea
          exact ⟨a, rfl, k1, k3, cfIn_none ⟨i, _, q0, rfl, v2, List.mem_of_getElem? e1⟩, fun _ => by show (match vs[j]? with | some (.ref a) => some a | _ => none) = some a; rw [v1]⟩
  · obtain ⟨i1, a1, s1, m1, m2, m3, m4, m5, _⟩ := ow ej oj
    obtain ⟨i2, a2, s2, n1, n2, n3, n4, n5, _⟩ := ow ek ok
    rw [hv m5] at hj; cases hj
    rw [hv n5] at hk; cases hk
    have : i1 = i2 := S.apart i1 i2 s1 s2 a m2 n2 m3 n3 m4 n4
    subst this
    have no : ownsAt e i1 = true := by unfold ownsAt; rw [m2]; exact m3
    rcases Nat.lt_trichotomy j1 j2 with h | h | h
    · have := apartO_of ap h m1 n1; rw [no] at this; cases this
    · exact h
    · have := apartO_of ap h n1 m1; rw [no] at this; cases this
theorem Sim.backE (S : Sim c D e σ H) (r : OVRL c D σ vs os) (S' : Sim (cfIn c D e σ H os vs) D' l (vs.map some) H') (s : Same D D') (h : Dl.backE os l e 0 = some e') : Sim c D' e' σ H' := by
  obtain ⟨hl, hg⟩ := backE_get h
  have hB := S.cfB (os := os) (vs := vs)
  have hv : ∀ {j : Nat} {v : V}, vs[j]? = some v → ((vs.map some)[j]?).join = some v := fun {j v} q => by rw [List.getElem?_map, q] <;> rfl
  have own0 : ∀ {i : Nat} {t : Slot}, e'[i]? = some t → t.owns = true → ∃ s0, e[i]? = some s0 ∧ s0.owns = true := fun {i t} q o => by
    obtain ⟨s0, e0, k⟩ := hg i t q
    rcases k with ⟨k1, rfl⟩ | ⟨k1, _⟩ | ⟨k1, _⟩
    · exact absurd (k1.symm.trans o) (by decide)
    · exact ⟨s0, e0, k1⟩
    · exact ⟨s0, e0, k1⟩
  refine ⟨S'.dh, hB.trans S'.bh, fun a o q => S'.bd a o (hB a o q), by rw [hl]; exact S.len, fun i t q => ?_, fun i j t u a ei ej oi oj hi hj => ?_, S'.tb, S'.nd, S.nb, S.d0.trans s⟩
  · obtain ⟨s0, e0, k⟩ := hg i t q
    have so := S.slot i s0 e0
    rw [Nat.zero_add] at k
    rcases k with ⟨k1, rfl⟩ | ⟨k1, k2, rfl⟩ | ⟨k1, j, u, k2, k3, k4⟩
    · exact so.lift s fun a _ z => absurd (k1.symm.trans z) (by decide)
    · refine so.lift s fun a ea ho => ?_
      obtain ⟨a', w, m1, m2, m3, m4, m5⟩ := so.trackedO ho
      rw [ea] at m1; cases m1
      have hb : (cfIn c D e σ H os vs).B a = H a := cfIn_B m3 (fun ⟨i2, s2, n1, n2, n3, n4⟩ => by
        have := S.apart i i2 t s2 a e0 n1 ho n2 ea n3
        subst this
        exact posO_none k2 n4) fun o' h' => by
          rw [m2] at h'
          cases h'
          exact okO_okB m5
      rw [m2] at hb
      exact ⟨(S'.bh a w hb).trans m2.symm, fun _ => S'.bd a w hb⟩
    · have hj := posO_some k2
      obtain ⟨v, v1, v2⟩ := r.get hj
      have v2 : (σ[i]?).join = some v := v2
      have su := S'.slot j u k3
      rw [hv v1] at su
      rw [v2] at so ⊢
      cases s0 with
      | own p xs =>
        cases u <;> try (cases k4; done)
        cases k4
        obtain ⟨a, ws, ea, m1, m2, m3, m4, m5⟩ := so
        obtain ⟨a', ws', ea', n1, n2, n3, n4, n5⟩ := su
        cases ea; cases ea'
        exact ⟨a, ws', rfl, n1, n2, n3, m4, m5⟩
      | dct p d =>
        cases u <;> try (cases k4; done)
        cases k4
        obtain ⟨a, ea, m1, m3, m4, m5⟩ := so
        obtain ⟨a', ea', n1, n3, n4, n5⟩ := su
        cases ea; cases ea'
        exact ⟨a, rfl, n1, n3, m4, m5⟩
      | un => cases k1
      | v d => cases k1
      | gl n => cases k1
      | ro xs => cases k1
      | la => cases k1
  · obtain ⟨s0, e0, o0⟩ := own0 ei oi
    obtain ⟨s1, f0, o1⟩ := own0 ej oj
    exact S.apart i j s0 s1 a e0 f0 o0 o1 hi hj
theorem argL_par (h : argL e os = some ps) : allPar ps = true := List.all_eq_true.mpr fun s hs => by
  obtain ⟨j, hj⟩ := List.mem_iff_getElem?.mp hs
  obtain ⟨o, _, e2⟩ := (argL_get h).2 j s hj
  cases o with
  | d x => cases e2; rfl
  | gl n => cases e2; rfl
  | sl i =>
    simp only [argS] at e2
    split at e2 <;> cases e2 <;> rfl
/-- the promise is kept by what the caller wants -/
theorem call_sp {mg : Str → Option Value} {n : Nat} {fn : Fn} {W : WX} {Q : VK} (hmg : c.mg = mg) (S : Sim c D e σ H) (r : OVRL c D σ vs os) (hn : vs.length = n) (p : PostE W c D σ Q (callOV fn os e)) : fnSp mg n fn vs H Q fun cls d H' => W cls d σ H' := by
  unfold callOV at p
  split at p
  · rename_i ap
    split at p
    · rename_i ps hps
      refine ⟨hn, cfIn c D e σ H os vs, D, ps, hmg, S.args r ap hps, argL_par hps, ?_⟩
      revert p
      cases fn ps with
      | ok rt l =>
        cases rt with
        | d x =>
          intro p v H' D' S' s' rx
          have p : PostE W c D σ Q (backO os e l (.ok (.d x))) := p
          unfold backO at p
          split at p
          · rename_i e' he
            exact p v H' D' (S.backE r S' s' he) s' rx
          · exact p.elim
        | k d => exact fun z => z.elim
      | exc x l =>
        intro p cls dd H' D' S' s' rx
        have p : PostE W c D σ Q (backO os e l (.exc x)) := p
        unfold backO at p
        split at p
        · rename_i e' he
          exact p cls dd H' D' (S.backE r S' s' he) s' rx
        · exact p.elim
      | stuck => exact fun z => z
    · exact p.elim
  · exact p.elim
theorem call_spK {mg : Str → Option Value} {n : Nat} {fn : Fn} {W : WX} {Q : VK} (hmg : c.mg = mg) (S : Sim c D e σ H) (r : OVRL c D σ vs os) (hn : vs.length = n) (p : PostK W c D σ Q (callDV fn os e)) : fnSp mg n fn vs H Q fun cls d H' => W cls d σ H' := by
  unfold callDV at p
  split at p
  · rename_i ap
    split at p
    · rename_i ps hps
      refine ⟨hn, cfIn c D e σ H os vs, D, ps, hmg, S.args r ap hps, argL_par hps, ?_⟩
      revert p
      cases fn ps with
      | ok rt l =>
        cases rt with
        | k d =>
          intro p q o H' D' S' s' hq rx
          simp only [] at p
          split at p
          · rename_i e' he
            exact p q o H' D' (S.backE r S' s' he) s' hq rx
          · exact p.elim
        | d x => exact fun z => z.elim
      | exc x l =>
        intro p cls dd H' D' S' s' rx
        simp only [] at p
        split at p
        · rename_i e' he
          exact p cls dd H' D' (S.backE r S' s' he) s' rx
        · exact p.elim
      | stuck => exact fun z => z
    · exact p.elim
  · exact p.elim
end
end L2.Dl

namespace L2.Dl
open PySem
open PySem.Spec
open PyProof.Rows
variable [KF]

def pick {α : Type} (ix : List Nat) (l : List α) : List α := ix.filterMap (l[·]?)
theorem Vals.get? : ∀ {vs : List V} {us : List Value}, Vals vs us → ∀ {j : Nat}, (vs[j]? = none ∧ us[j]? = none) ∨ ∃ v u, vs[j]? = some v ∧ us[j]? = some u ∧ RelV v u
  | _, _, .nil, j => .inl ⟨by simp, by simp⟩
  | _, _, .cons h r, 0 => .inr ⟨_, _, rfl, rfl, h⟩
  | _, _, .cons h r, j + 1 => by simpa using Vals.get? r (j := j)
theorem Vals.pick {vs : List V} {us : List Value} (r : Vals vs us) : ∀ ix : List Nat, Vals (pick ix vs) (pick ix us)
  | [] => .nil
  | i :: ix => by
    rcases Vals.get? r (j := i) with ⟨h1, h2⟩ | ⟨v, u, h1, h2, h3⟩
    · simp only [Dl.pick, List.filterMap_cons, h1, h2]; exact Vals.pick r ix
    · simp only [Dl.pick, List.filterMap_cons, h1, h2]; exact .cons h3 (Vals.pick r ix)
section
variable {c : Cf} {D : Hp} {σ : St}
theorem OVRL.get2 : ∀ {vs : List V} {os : List OV}, OVRL c D σ vs os → ∀ {j : Nat}, (vs[j]? = none ∧ os[j]? = none) ∨ ∃ v u, vs[j]? = some v ∧ os[j]? = some u ∧ OVR c D σ v u
  | _, _, .nil, j => .inl ⟨by simp, by simp⟩
  | _, _, .cons h r, 0 => .inr ⟨_, _, rfl, rfl, h⟩
  | _, _, .cons h r, j + 1 => by simpa using OVRL.get2 r (j := j)
theorem OVRL.pick {vs : List V} {us : List OV} (r : OVRL c D σ vs us) : ∀ ix : List Nat, OVRL c D σ (Dl.pick ix vs) (Dl.pick ix us)
  | [] => .nil
  | i :: ix => by
    rcases OVRL.get2 r (j := i) with ⟨h1, h2⟩ | ⟨v, u, h1, h2, h3⟩
    · simp only [Dl.pick, List.filterMap_cons, h1, h2]; exact OVRL.pick r ix
    · simp only [Dl.pick, List.filterMap_cons, h1, h2]; exact .cons h3 (OVRL.pick r ix)
theorem OVRL.append : ∀ {vs : List V} {os : List OV} {ws : List V} {ps : List OV}, OVRL c D σ vs os → OVRL c D σ ws ps → OVRL c D σ (vs ++ ws) (os ++ ps)
  | _, _, _, _, .nil, h => h
  | _, _, _, _, .cons h r, q => .cons h (OVRL.append r q)
end
/-- values of the defaults -/
def DfR (dvs : List V) (ods : List PyData) : Prop := ∀ (c : Cf) (D : Hp) (σ : St), OVRL c D σ dvs (ods.map .d)
theorem dfr_nil : DfR [] [] := fun _ _ _ => .nil
/-- how a call binds: n positional values, keywords ks, then the defaults ds; ix picks them in the parameters' order -/
def BD (K : PySem.W.Frag) (fd : FuncData) (ps : List Str) (n : Nat) (ks : List Str) (ix : List Nat) (ds : List Value) : Prop :=
  ∀ (s : Shared) (us ws : List Value), K.In s.heap → us.length = n → ws.length = ks.length → BindsTo s fd ⟨us, ks.zip ws⟩ (ps.zip (pick ix (us ++ ws ++ ds)))
def dCall (n : Nat) (fn : Fn) (ods : List PyData) (r : Nv → Res (List OV)) : DE := fun env => (r env).bd fun os e => if (os ++ ods.map OV.d).length = n then callOV fn (os ++ ods.map .d) e else .stuck
def dkCall (n : Nat) (fn : Fn) (ods : List PyData) (r : Nv → Res (List OV)) : DK := fun env => (r env).bd fun os e => if (os ++ ods.map OV.d).length = n then callDV fn (os ++ ods.map .d) e else .stuck
def dCallW (n : Nat) (fn : Fn) (n1 m : Nat) (ix : List Nat) (ods : List PyData) (r rk : Nv → Res (List OV)) : DE := fun env => (r env).bd fun os e => (rk e).bd fun zs e' => if os.length = n1 ∧ zs.length = m ∧ (pick ix (os ++ zs ++ ods.map .d)).length = n then callOV fn (pick ix (os ++ zs ++ ods.map .d)) e' else .stuck
def dkCallW (n : Nat) (fn : Fn) (n1 m : Nat) (ix : List Nat) (ods : List PyData) (r rk : Nv → Res (List OV)) : DK := fun env => (r env).bd fun os e => (rk e).bd fun zs e' => if os.length = n1 ∧ zs.length = m ∧ (pick ix (os ++ zs ++ ods.map .d)).length = n then callDV fn (pick ix (os ++ zs ++ ods.map .d)) e' else .stuck
theorem PostA.bdK {W : WX} {c : Cf} {D : Hp} {σ : St} {r : Res (List OV)} {k : List OV → Nv → Res DV} {Q : VK} (h : PostK W c D σ Q (r.bd k)) :
    PostA W c D σ (fun vs H => ∃ D' env os, Sim c D' env σ H ∧ Same D D' ∧ OVRL c D' σ vs os ∧ r = .ok os env ∧ PostK W c D' σ Q (k os env)) r := by
  cases r with
  | ok o e => exact fun v H' D' S s q => ⟨D', e, o, S, s, q, rfl, PostK.mono h s⟩
  | exc x e => exact h
  | stuck => exact h
section
variable {m : Bool} {X : Cx} {W : WX} {c : Cf} {k n : Nat} {f : Addr} {fd : FuncData} {ps ks : List Str} {fn : Fn} {dvs : List V} {ds : List Value} {ods : List PyData} {ix : List Nat} {x : Str} {p pos kpos : Pos} {e : Expr} {es : List Expr} {kws : List Keyword} {nm : Option Str} {r rk : Nv → Res (List OV)} {d : DE}
def tCallF (sp : Sp) (dvs : List V) (W : WX) (t : TA) : TE := fun σ H Q => t σ H fun vs H1 => sp (vs ++ dvs) H1 Q (WE W σ)
theorem run_fnF {sp : Sp} {pins : List (Addr × Obj)} {σ : St} {H : Hp} {s : Shared} {Q : VK} {us args : List Value} {kv : List (Str × Value)} {vs : List V} (F : FnD m X.prog X.w X.K X.mg X.base k f fd ps sp) (hr : GRoom k X.A) (tk : Tk m X W)
    (I : Inv X pins σ H s) (hb : BindsTo s fd ⟨args, kv⟩ (ps.zip us)) (r : Vals vs us) (h : sp vs H Q (WE W σ)) : wpAny (model X.prog X.w) X.A (call (.ref f) args kv) (EP X pins σ Q) X.xe s := by
  refine wpAny_call (codeAny_mono (F.run X.A X.stack s H ⟨args, kv⟩ us vs Q (WE W σ) hr I.env0 hb r h) fun r s' hq => ?_)
  cases r with
  | error e => exact tk_pass tk σ pins H s e s' I hq
  | ok fl =>
    cases fl with
    | ret u => exact I.after hq
    | next => exact False.elim hq
    | brk => exact False.elim hq
    | cont => exact False.elim hq
theorem pe_callF {sp : Sp} {t : TA} (F : FnD m X.prog X.w X.K X.mg X.base k f fd ps sp) (hr : GRoom k X.A) (tk : Tk m X W) (hg : Gl X x) (hm : X.mg x = some (.ref f)) (hk : PySem.W.keepIn X.K (.ref f) = true) (hb : Binds X.K fd ps ds) (hd : Vals dvs ds)
    (ha : PA X (e :: es) t) (hdb : (x == ("__debug__" : Str)) = false := by decide) (he : starEach (e :: es) X.env = (false, eval e X.env) :: starEach es X.env := by rfl) (hpl : (backTo pos (starEach es X.env)).any (·.1) = false := by rfl) :
    PE X (.Call (.Name x p) (e :: es) [] pos) (tCallF sp dvs W t) := by
  refine ⟨fun pins s σ H Q I h => ?_⟩
  refine wpAny_Call_Name_kw (ld_glob I hg hm ?_ hdb)
  refine PySem.W.callWith_K (h₀ := X.base) I.ok.mod.kin hk (thn (ha.run pos pins s σ H _ I h) fun us s1 ⟨vs, H1, I1, r, q⟩ => ⟨I1.kIn, ?_⟩) he hpl
  have r2 : Vals (vs ++ dvs) (us ++ ds) := r.append hd
  have hl : (us ++ ds).length = ps.length := by rw [← r2.length]; exact F.len _ _ _ _ q
  exact run_fnF F hr tk I1 (hb _ us I1.kIn hl) r2 q
theorem call_core (hmg : c.mg = X.mg) (hd : DfR dvs ods) {σ : St} {H : Hp} {Q : VK} (h : EOf W c (dCall n fn ods r) σ H Q) : tCallF (fnSp X.mg n fn) dvs W (AOf W c r) σ H Q := by
  obtain ⟨D, env, S, p⟩ := h
  refine ⟨D, env, S, ?_⟩
  have p1 := PostA.bd p
  revert p1
  cases r env with
  | stuck => exact fun z => z
  | exc y e => exact fun z => z
  | ok o1 e1 =>
    intro p1 v H1 D1 S1 s1 r1
    obtain ⟨D2, env2, o, S2, s2, r2, e, p2⟩ := p1 v H1 D1 S1 s1 r1
    cases e
    have r3 := r2.append (hd c D2 σ)
    split at p2
    · rename_i hl
      exact call_sp hmg S2 r3 (r3.length.trans hl) p2
    · exact p2.elim
theorem callK_core (hmg : c.mg = X.mg) (hd : DfR dvs ods) {σ : St} {H : Hp} {Q : VK} (h : KOf' W c (dkCall n fn ods r) σ H Q) : tCallF (fnSp X.mg n fn) dvs W (AOf W c r) σ H Q := by
  obtain ⟨D, env, S, p⟩ := h
  refine ⟨D, env, S, ?_⟩
  have p1 := PostA.bdK p
  revert p1
  cases r env with
  | stuck => exact fun z => z
  | exc y e => exact fun z => z
  | ok o1 e1 =>
    intro p1 v H1 D1 S1 s1 r1
    obtain ⟨D2, env2, o, S2, s2, r2, e, p2⟩ := p1 v H1 D1 S1 s1 r1
    cases e
    have r3 := r2.append (hd c D2 σ)
    split at p2
    · rename_i hl
      exact call_spK hmg S2 r3 (r3.length.trans hl) p2
    · exact p2.elim
theorem de_call (F : FnD m X.prog X.w X.K X.mg X.base k f fd ps (fnSp X.mg n fn)) (hr : GRoom k X.A) (tk : Tk m X W) (hmg : c.mg = X.mg) (hg : Gl X x) (hm : X.mg x = some (.ref f)) (hk : PySem.W.keepIn X.K (.ref f) = true) (hb : Binds X.K fd ps ds) (hd : Vals dvs ds) (hd2 : DfR dvs ods)
    (ha : PA X (e :: es) (AOf W c r)) (hdb : (x == ("__debug__" : Str)) = false := by decide) (he : starEach (e :: es) X.env = (false, eval e X.env) :: starEach es X.env := by rfl) (hpl : (backTo pos (starEach es X.env)).any (·.1) = false := by rfl) :
    PE X (.Call (.Name x p) (e :: es) [] pos) (EOf W c (dCall n fn ods r)) :=
  (pe_callF F hr tk hg hm hk hb hd ha hdb he hpl).weak fun _ _ _ h => call_core hmg hd2 h
theorem dk_call (F : FnD m X.prog X.w X.K X.mg X.base k f fd ps (fnSp X.mg n fn)) (hr : GRoom k X.A) (tk : Tk m X W) (hmg : c.mg = X.mg) (hg : Gl X x) (hm : X.mg x = some (.ref f)) (hk : PySem.W.keepIn X.K (.ref f) = true) (hb : Binds X.K fd ps ds) (hd : Vals dvs ds) (hd2 : DfR dvs ods)
    (ha : PA X (e :: es) (AOf W c r)) (hdb : (x == ("__debug__" : Str)) = false := by decide) (he : starEach (e :: es) X.env = (false, eval e X.env) :: starEach es X.env := by rfl) (hpl : (backTo pos (starEach es X.env)).any (·.1) = false := by rfl) :
    PE X (.Call (.Name x p) (e :: es) [] pos) (KOf' W c (dkCall n fn ods r)) :=
  (pe_callF F hr tk hg hm hk hb hd ha hdb he hpl).weak fun _ _ _ h => callK_core hmg hd2 h
theorem dak_nil : PK X [] (AOf W c dANil) := ⟨fun pos pins s σ H Q I ⟨D, env, S, p⟩ => pk_nil.run pos pins s σ H Q I (p _ H D S (Same.refl _) .nil)⟩
theorem dak_cons (he : PE X e (EOf W c d)) (hr : PK X kws (AOf W c r)) : PK X (⟨nm, e, kpos⟩ :: kws) (AOf W c (dACons d r)) := ⟨fun pos pins s σ H Q I ⟨D, env, S, p⟩ => (pk_cons he hr).run pos pins s σ H Q I (by
    refine ⟨D, env, S, ?_⟩
    have p1 := PostE.bdA p
    revert p1
    cases d env with
    | stuck => exact fun z => z
    | exc y e => exact fun z => z
    | ok o1 e1 =>
      intro p1 v H1 D1 S1 s1 r1
      obtain ⟨D2, env2, o, S2, s2, r2, e, p2⟩ := p1 v H1 D1 S1 s1 r1
      cases e
      refine ⟨D2, e1, S2, ?_⟩
      have p3 := PostA.bdA p2
      revert p3
      cases r e1 with
      | stuck => exact fun z => z
      | exc y e => exact fun z => z
      | ok o2 e2 =>
        intro p3 w H3 D3 S3 s3 r3
        obtain ⟨D4, env4, o4, S4, s4, r4, e, p4⟩ := p3 w H3 D3 S3 s3 r3
        cases e
        exact p4 _ H3 D4 S4 (Same.refl _) (.cons (r2.mono s4) r4))⟩
def tCallG (sp : Sp) (n m : Nat) (ix : List Nat) (dvs : List V) (W : WX) (t tk : TA) : TE := fun σ H Q => t σ H fun vs H1 => tk σ H1 fun zs H2 => vs.length = n ∧ zs.length = m ∧ sp (pick ix (vs ++ zs ++ dvs)) H2 Q (WE W σ)
/-- f(e, .., k = v, ..) -/
theorem pe_callG {sp : Sp} {t tkw : TA} (F : FnD m X.prog X.w X.K X.mg X.base k f fd ps sp) (hr : GRoom k X.A) (tk : Tk m X W) (hg : Gl X x) (hm : X.mg x = some (.ref f)) (hk : PySem.W.keepIn X.K (.ref f) = true) (hb : BD X.K fd ps n ks ix ds) (hd : Vals dvs ds)
    (ha : PA X (e :: es) t) (hkw : PK X kws tkw) (hall : (backToKw pos (keywordEach kws X.env)).all (·.1.isSome) = true := by rfl) (hks : (backToKw pos (keywordEach kws X.env)).filterMap (·.1) = ks := by rfl)
    (hdb : (x == ("__debug__" : Str)) = false := by decide) (he : starEach (e :: es) X.env = (false, eval e X.env) :: starEach es X.env := by rfl)
    (hpl : ((backTo pos (starEach (e :: es) X.env)).any (·.1) || (backToKw pos (keywordEach kws X.env)).any (·.1.isNone)) = false := by rfl) :
    PE X (.Call (.Name x p) (e :: es) kws pos) (tCallG sp n ks.length ix dvs W t tkw) := by
  refine ⟨fun pins s σ H Q I h => ?_⟩
  refine wpAny_Call_Name_kw (ld_glob I hg hm ?_ hdb)
  refine PySem.W.callWith_KW (h₀ := X.base) I.ok.mod.kin hk hall (thn (ha.run pos pins s σ H _ I h) fun us s1 ⟨vs, H1, I1, r, q⟩ => ?_) hpl he
  refine thn (hkw.run pos pins s1 σ H1 _ I1 q) fun ws s2 ⟨zs, H2, I2, rz, l1, l2, q2⟩ => ⟨I2.kIn, ?_⟩
  rw [hks]
  exact run_fnF F hr tk I2 (hb s2 us ws I2.kIn (r.length.symm.trans l1) (rz.length.symm.trans l2)) (Vals.pick ((r.append rz).append hd) ix) q2
/-- f(k = v, ..) -/
theorem pe_callG0 {sp : Sp} {tkw : TA} (F : FnD m X.prog X.w X.K X.mg X.base k f fd ps sp) (hr : GRoom k X.A) (tk : Tk m X W) (hg : Gl X x) (hm : X.mg x = some (.ref f)) (hk : PySem.W.keepIn X.K (.ref f) = true) (hb : BD X.K fd ps 0 ks ix ds) (hd : Vals dvs ds)
    (hkw : PK X kws tkw) (hall : (backToKw pos (keywordEach kws X.env)).all (·.1.isSome) = true := by rfl) (hks : (backToKw pos (keywordEach kws X.env)).filterMap (·.1) = ks := by rfl)
    (hdb : (x == ("__debug__" : Str)) = false := by decide)
    (hpl : ((backTo pos (starEach [] X.env)).any (·.1) || (backToKw pos (keywordEach kws X.env)).any (·.1.isNone)) = false := by rfl) :
    PE X (.Call (.Name x p) [] kws pos) (tCallG sp 0 ks.length ix dvs W tNil tkw) := by
  refine ⟨fun pins s σ H Q I h => ?_⟩
  refine wpAny_Call_Name_kw (ld_glob I hg hm ?_ hdb)
  refine PySem.W.callWith_KW0 (h₀ := X.base) I.ok.mod.kin hk hall ?_ hpl
  refine thn (hkw.run pos pins s σ H _ I h) fun ws s2 ⟨zs, H2, I2, rz, l1, l2, q2⟩ => ⟨I2.kIn, ?_⟩
  rw [hks]
  exact run_fnF F hr tk I2 (hb s2 [] ws I2.kIn rfl (rz.length.symm.trans l2)) (Vals.pick ((Vals.append (.nil : Vals [] []) rz).append hd) ix) q2
theorem callG_core {m n1 : Nat} (hmg : c.mg = X.mg) (hd : DfR dvs ods) {σ : St} {H : Hp} {Q : VK} (h : EOf W c (dCallW n fn n1 m ix ods r rk) σ H Q) : tCallG (fnSp X.mg n fn) n1 m ix dvs W (AOf W c r) (AOf W c rk) σ H Q := by
  obtain ⟨D, env, S, p⟩ := h
  refine ⟨D, env, S, ?_⟩
  have p1 := PostA.bd p
  revert p1
  cases r env with
  | stuck => exact fun z => z
  | exc y e => exact fun z => z
  | ok o1 e1 =>
    intro p1 v H1 D1 S1 s1 r1
    obtain ⟨D2, env2, o, S2, s2, r2, e, p2⟩ := p1 v H1 D1 S1 s1 r1
    cases e
    refine ⟨D2, e1, S2, ?_⟩
    have p3 := PostA.bd p2
    revert p3
    cases rk e1 with
    | stuck => exact fun z => z
    | exc y e => exact fun z => z
    | ok o2 e2 =>
      intro p3 w H3 D3 S3 s3 r3
      obtain ⟨D4, env4, o4, S4, s4, r4, e, p4⟩ := p3 w H3 D3 S3 s3 r3
      cases e
      split at p4
      · rename_i hl
        have r5 := OVRL.pick (((r2.mono s4).append r4).append (hd c D4 σ)) ix
        exact ⟨r2.length.trans hl.1, r4.length.trans hl.2.1, call_sp hmg S4 r5 (r5.length.trans hl.2.2) p4⟩
      · exact p4.elim
theorem callGK_core {m n1 : Nat} (hmg : c.mg = X.mg) (hd : DfR dvs ods) {σ : St} {H : Hp} {Q : VK} (h : KOf' W c (dkCallW n fn n1 m ix ods r rk) σ H Q) : tCallG (fnSp X.mg n fn) n1 m ix dvs W (AOf W c r) (AOf W c rk) σ H Q := by
  obtain ⟨D, env, S, p⟩ := h
  refine ⟨D, env, S, ?_⟩
  have p1 := PostA.bdK p
  revert p1
  cases r env with
  | stuck => exact fun z => z
  | exc y e => exact fun z => z
  | ok o1 e1 =>
    intro p1 v H1 D1 S1 s1 r1
    obtain ⟨D2, env2, o, S2, s2, r2, e, p2⟩ := p1 v H1 D1 S1 s1 r1
    cases e
    refine ⟨D2, e1, S2, ?_⟩
    have p3 := PostA.bdK p2
    revert p3
    cases rk e1 with
    | stuck => exact fun z => z
    | exc y e => exact fun z => z
    | ok o2 e2 =>
      intro p3 w H3 D3 S3 s3 r3
      obtain ⟨D4, env4, o4, S4, s4, r4, e, p4⟩ := p3 w H3 D3 S3 s3 r3
      cases e
      split at p4
      · rename_i hl
        have r5 := OVRL.pick (((r2.mono s4).append r4).append (hd c D4 σ)) ix
        exact ⟨r2.length.trans hl.1, r4.length.trans hl.2.1, call_spK hmg S4 r5 (r5.length.trans hl.2.2) p4⟩
      · exact p4.elim
theorem tnil_core {σ : St} {H : Hp} {R : List V → Hp → Prop} (h : AOf W c dANil σ H R) : tNil σ H R := by
  obtain ⟨D, env, S, p⟩ := h
  exact p [] H D S (Same.refl _) .nil
theorem de_callW {n1 : Nat} (F : FnD m X.prog X.w X.K X.mg X.base k f fd ps (fnSp X.mg n fn)) (hr : GRoom k X.A) (tk : Tk m X W) (hmg : c.mg = X.mg) (hg : Gl X x) (hm : X.mg x = some (.ref f)) (hk : PySem.W.keepIn X.K (.ref f) = true) (hb : BD X.K fd ps n1 ks ix ds) (hd : Vals dvs ds) (hd2 : DfR dvs ods)
    (ha : PA X (e :: es) (AOf W c r)) (hkw : PK X kws (AOf W c rk)) (hall : (backToKw pos (keywordEach kws X.env)).all (·.1.isSome) = true := by rfl) (hks : (backToKw pos (keywordEach kws X.env)).filterMap (·.1) = ks := by rfl)
    (hdb : (x == ("__debug__" : Str)) = false := by decide) (he : starEach (e :: es) X.env = (false, eval e X.env) :: starEach es X.env := by rfl)
    (hpl : ((backTo pos (starEach (e :: es) X.env)).any (·.1) || (backToKw pos (keywordEach kws X.env)).any (·.1.isNone)) = false := by rfl) :
    PE X (.Call (.Name x p) (e :: es) kws pos) (EOf W c (dCallW n fn n1 ks.length ix ods r rk)) :=
  (pe_callG F hr tk hg hm hk hb hd ha hkw hall hks hdb he hpl).weak fun _ _ _ h => callG_core hmg hd2 h
theorem de_callW0 (F : FnD m X.prog X.w X.K X.mg X.base k f fd ps (fnSp X.mg n fn)) (hr : GRoom k X.A) (tk : Tk m X W) (hmg : c.mg = X.mg) (hg : Gl X x) (hm : X.mg x = some (.ref f)) (hk : PySem.W.keepIn X.K (.ref f) = true) (hb : BD X.K fd ps 0 ks ix ds) (hd : Vals dvs ds) (hd2 : DfR dvs ods)
    (hkw : PK X kws (AOf W c rk)) (hall : (backToKw pos (keywordEach kws X.env)).all (·.1.isSome) = true := by rfl) (hks : (backToKw pos (keywordEach kws X.env)).filterMap (·.1) = ks := by rfl)
    (hdb : (x == ("__debug__" : Str)) = false := by decide)
    (hpl : ((backTo pos (starEach [] X.env)).any (·.1) || (backToKw pos (keywordEach kws X.env)).any (·.1.isNone)) = false := by rfl) :
    PE X (.Call (.Name x p) [] kws pos) (EOf W c (dCallW n fn 0 ks.length ix ods dANil rk)) :=
  (pe_callG0 F hr tk hg hm hk hb hd hkw hall hks hdb hpl).weak fun _ _ _ h => tnil_core (callG_core hmg hd2 h)
end
/-- inside a comprehension nothing leaves -/
theorem takesF {m : Bool} {X : Cx} : Tk m X WF := tkF
end L2.Dl

namespace L2.Dl
open PySem
open PySem.Spec
open PyProof.Rows
open PySem.W
variable [KF]

def srtLe : PyData → PyData → Bool := dataLe false id
def srtB (xs : List PyData) : Bool := xs.all (fun d => decide (d.depth ≤ 60) && xs.all fun d' => alike d d') && (xs.all (fun | .tuple (_ :: _) => true | _ => false) || xs.all (fun | .tuple _ | .none => false | _ => true))
def gSorted : List PyData → Option (List PyData)
  | [.list xs] => if decide (xs.length ≤ lenB) && srtB xs then some (xs.mergeSort srtLe) else none
  | _ => none
theorem srtB_of {xs : List PyData} (h : srtB xs = true) : (∀ d ∈ xs, d.depth ≤ 60) ∧ AllAlike xs ∧ Sortable xs := by
  unfold srtB at h
  rw [Bool.and_eq_true, Bool.or_eq_true] at h
  have h1 : ∀ d ∈ xs, d.depth ≤ 60 ∧ ∀ d' ∈ xs, alike d d' = true := fun d hd => by
    have := List.all_eq_true.mp h.1 d hd
    rw [Bool.and_eq_true] at this
    exact ⟨of_decide_eq_true this.1, List.all_eq_true.mp this.2⟩
  refine ⟨fun d hd => (h1 d hd).1, fun d hd d' hd' => (h1 d hd).2 d' hd', ?_⟩
  rcases h.2 with q | q
  · refine .inl fun d hd => ?_
    have := List.all_eq_true.mp q d hd
    split at this
    · exact ⟨_, _, rfl⟩
    · cases this
  · refine .inr fun d hd => ?_
    have := List.all_eq_true.mp q d hd
    split at this
    · cases this
    · cases this
    · rename_i h1 h2
      exact ⟨fun e => h2 e, fun ys e => h1 ys e⟩
def rSortD : List V → Hp → VK → Prop := fun vs H Q => ∃ (a : Addr) (ws : List V) (ds : List PyData), vs = [.ref a] ∧ SqL KF.frag H a ws ∧ DpAll KF.frag H ws ds ∧ ds.length ≤ lenB ∧ srtB ds = true ∧
  ∀ p (bs : List (V × PyData)), (∀ b ∈ bs, b ∈ ws.zip ds) → bs.map Prod.snd = ds.mergeSort srtLe → H p = none → Q (.ref p) (upd H p (.lst (bs.map Prod.fst)))
theorem eachIs_zip {h : Heap} : ∀ {ws : List V} {its : List Value} {ds : List PyData}, Vals ws its → ws.length = ds.length → EachIs (fun v (b : V × PyData) => RelV b.1 v) its (ws.zip ds)
  | [], [], [], _, _ => .nil
  | w :: ws, i :: its, d :: ds, r, l => by
    cases r with
    | cons r1 r2 => exact .cons r1 (eachIs_zip (h := h) r2 (by simpa using l))
  | [], _ :: _, _, r, _ => by cases r
  | _ :: _, [], _, r, _ => by cases r
  | [], [], _ :: _, _, l => by simp at l
  | _ :: _, _ :: _, [], _, l => by simp at l
theorem eachIs_reads {h : Heap} : ∀ {ws : List V} {its : List Value} {ds : List PyData} {as : List Addr}, ws.length = ds.length → ReadsAll h its ds as → EachIs (fun v (b : V × PyData) => ∃ as, Reads h v b.2 as) its (ws.zip ds)
  | [], its, [], _, _, r => by cases r; exact .nil
  | w :: ws, its, d :: ds, _, l, r => by
    cases r with
    | cons r1 r2 => exact .cons ⟨_, r1⟩ (eachIs_reads (by simpa using l) r2)
  | [], _, _ :: _, _, l, _ => by simp at l
  | _ :: _, _, [], _, l, _ => by simp at l
theorem eachIs_vals : ∀ {out : List Value} {bs : List (V × PyData)}, EachIs (fun v (b : V × PyData) => RelV b.1 v) out bs → Vals (bs.map Prod.fst) out
  | _, _, .nil => .nil
  | _, _, .cons h r => .cons h (eachIs_vals r)
theorem dpAll_length {K : PySem.W.Frag} {H : Hp} : ∀ {vs : List V} {ds : List PyData}, DpAll K H vs ds → vs.length = ds.length
  | _, _, .nil => rfl
  | _, _, .cons _ r => congrArg Nat.succ (dpAll_length r)
theorem cr_sortD {X : Cx} (hK : X.K = KF.frag) (hu : X.A.units + 64 < cLine) : CallR X (.builtin "sorted") rSortD := by
  intro pins s σ H vs us Q I r h
  obtain ⟨a, ws, ds, rfl, hs, hd, hl, hb, q⟩ := h
  rw [← hK] at hs hd
  obtain ⟨its, rv, hli, hz⟩ := I.list hs
  obtain ⟨u, rfl, ru⟩ := vals1 r
  obtain rfl : u = Value.ref a := ru
  obtain ⟨as, ra⟩ := Dp.readsAll I ds ws its hd rv
  have hlen := dpAll_length hd
  obtain ⟨h1, h2, h3⟩ := srtB_of hb
  have hmap : (ws.zip ds).map Prod.snd = ds := List.map_snd_zip (Nat.le_of_eq hlen.symm)
  refine sorted_data (enc := Prod.snd) (bs := ws.zip ds) (R := fun v b => RelV b.1 v) hli.isList (eachIs_zip (h := s.heap) rv hlen) (eachIs_reads hlen ra) (by rw [hmap]; exact h2) (by rw [hmap]; exact h3)
    (by rw [List.length_zip]; have := lenB_le hl; omega) (fun b hb => ?_) fun out ho e => ?_
  · have : b.2 ∈ ds := (List.of_mem_zip (show (b.1, b.2) ∈ ws.zip ds from hb)).2
    have := h1 _ this
    omega
  · have hv := eachIs_vals e
    have hn := sortedAll_at s.heap its (List.toArray out)
    obtain ⟨n, hn⟩ := hn
    have kp : ∀ b o, s.heap.get? b = some o → (sortedAll s.heap its (List.toArray out)).get? b = some o := fun b o e => sortedAll_old e
    refine ⟨.ref _, upd H _ (.lst _), I.laid (t' := s.toks) kp (Nat.le_succ _) ⟨?_, out, n, hv, hn⟩, rfl, q _ _ (fun b hb => (List.mergeSort_perm _ _).mem_iff.mp hb) ?_ (I.hok.fresh (Nat.le_succ _))⟩
    · rw [List.length_map, ((List.mergeSort_perm _ _).length_eq)]
      rw [List.length_zip]; have := lenB_le hl; omega
    · rw [List.map_mergeSort (r := dataLe false Prod.snd) (s := srtLe) (f := Prod.snd) fun a _ b _ => rfl, hmap]
theorem lf_sorted : LfN rSortD gSorted := by
  intro D H vs xs zs Q s r e q
  unfold gSorted at e
  split at e
  · split at e
    · rename_i xs hc
      rw [Bool.and_eq_true] at hc
      cases e
      obtain ⟨v, rfl, h⟩ := r.one
      obtain ⟨p, ws, rfl, h1, h2⟩ := h.lst s
      refine ⟨p, ws, xs, rfl, .of h1, DpAll.mono s (RpL.dp h2), of_decide_eq_true hc.1, hc.2, fun l bs m1 m2 hl => q l _ hl ?_⟩
      rw [← m2]
      have pr : ∀ {ws : List V} {ds : List PyData}, RpL D ws ds → ∀ b ∈ ws.zip ds, Rp D b.1 b.2 := fun {ws ds} r => by
        induction r using RpL.rec (motive_1 := fun _ _ _ => True) with
        | nil => intro b hb; simp at hb
        | cons h1 h2 _ ih =>
          intro b hb
          rcases List.mem_cons.mp (by simpa using hb) with e | hb
          · subst e; exact h1
          · exact ih b hb
        | _ => trivial
      have all : ∀ {bs : List (V × PyData)}, (∀ b ∈ bs, Rp D b.1 b.2) → RpL D (bs.map Prod.fst) (bs.map Prod.snd) := fun {bs} h => by
        induction bs with
        | nil => exact .nil
        | cons b bs ih => exact .cons (h b (List.mem_cons_self ..)) (ih fun b hb => h b (List.mem_cons_of_mem _ hb))
      exact all fun b hb => pr h2 b (m1 b hb)
    · cases e
  · cases e
end L2.Dl

namespace L2.Dl
open PySem
open PySem.Spec
open PyProof.Rows
variable [KF]

/-- the law's call, from the one heap that tracks the script alone -/
theorem lawD_core {m : Bool} {P : Program} {w : World} {mg mb : Str → Option Value} {k : Nat} {fa a : Addr} {fd : FuncData} {x : Str} {fn : Fn} {t : Shared} {vs : List Value} {ns : List Int} {H : Hp}
    (ht0 : KF.tabs = []) (kin : KF.frag.In t.heap) (nsM : t.heap.Ns mainGlobals mg) (nsB : t.heap.Ns builtinsNs mb) (hbb : ∀ x : Str, x ≠ "__name__" → mb x = bootBuiltins x) (hlim : t.heap.NoLimit) (gn : t.gens = #[])
    (obj : t.heap.get? a = some { cls := .type "list", data := .seq vs.toArray })
    (F : ∀ base : Heap, KF.frag.In base → base.Ns mainGlobals mg → FnD m P w KF.frag mg base k fa fd [x] (fnSp mg 1 fn)) (bnd : ∀ (s : Shared) (u : Value), BindsTo s fd ⟨[u], []⟩ [(x, u)])
    (room : GRoom k callerA) (hfn : ∃ ps, fn [.ro (ns.map .int)] = .ok (.d (.bool true)) ps)
    (only : Only H) (sq : SqL KF.frag H a (ns.map V.int)) (hok : HOk P w H t.heap) (here : ∀ b, H b ≠ none → b = a) (out : H a ≠ none → KF.frag.lookup a = none) :
    codeAny (model P w) callerA (.call (.ref fa) ⟨[.ref a], []⟩) (fun r s' => r = .ok (.ret (.bool true)) ∧ OldK t.heap s'.heap ∧ s'.os = t.os ∧ AllBare s'.gens) t := by
  have stay : ∀ {b : Addr} {o : Obj}, t.heap.get? b = some o → H b = none → (hidT t.heap H).get? b = some o := fun e n => hidT_get e n
  have notDict : ∀ {b : Addr} {o : Obj} {es : Array DictEntry} {ep : Nat}, t.heap.get? b = some o → o.data = .dict es ep → H b = none := fun {b o es ep} e d => Classical.byContradiction fun z => by
    obtain rfl := here b z
    rw [obj] at e
    cases e
    cases (show Data.seq vs.toArray _ = Data.dict es ep from d)
  have nsStay : ∀ {b : Addr} {m : Str → Option Value}, t.heap.Ns b m → (hidT t.heap H).Ns b m := fun {b m} ⟨o, es, ep, e, d, r⟩ => ⟨o, es, ep, stay e (notDict e d), d, r⟩
  have kin2 : KF.frag.In (hidT t.heap H) := fun b o e => stay (kin b o e) (Classical.byContradiction fun z => by
    obtain rfl := here b z
    rw [out z] at e
    cases e)
  obtain ⟨mc, l1, l2⟩ := hlim
  have md : Mod KF.frag mg (hidT t.heap H) := ⟨kin2, nsStay nsM, ⟨mb, nsStay nsB, hbb⟩, ⟨mc, nsStay l1, l2⟩⟩
  have e0 : Env0 P w KF.frag mg (hidT t.heap H) callerA [] t H := ⟨rfl, md, fun b o e => of_hidT e, Nat.le_of_eq (hidT_size _ _), trivial, fun b hb => (List.not_mem_nil hb).elim, hok, .of_eq gn⟩
  have sp : fnSp mg 1 fn [.ref a] H (fun v _ => v = .bl true) fun _ _ _ => False := by
    obtain ⟨ps, hps⟩ := hfn
    refine ⟨rfl, ⟨mg, fun _ => none, fun _ => none, none, fun _ => none⟩, H, [.ro (ns.map .int)], rfl, ⟨Same.refl _, fun _ _ z => (nomatch z), fun _ _ z => (nomatch z), rfl, fun i s e => ?_, fun i j s u b ei _ oi _ _ _ => ?_, by rw [ht0]; exact (fun p hp => nomatch hp), fun b o z => ?_, fun _ _ z => (nomatch z), fun _ _ z => (nomatch z)⟩, rfl, ?_⟩
    · cases i with
      | zero =>
        cases e
        refine ⟨a, ns.map V.int, rfl, sq, ?_⟩
        clear hps sq
        induction ns with
        | nil => exact .nil
        | cons n r ih => exact .cons (.int n) ih
      | succ i => cases e
    · cases i with
      | zero => cases ei; cases oi
      | succ i => cases ei
    · rcases only b with n | ⟨ob, xs, n⟩
      · rw [n] at z; cases z
      · rw [n] at z; cases z; rfl
    · rw [hps]
      intro v H' D' _ _ r
      cases r
      rfl
  refine codeAny_mono ((F _ kin2 (nsStay nsM)).run callerA [] t H ⟨[.ref a], []⟩ [.ref a] [.ref a] _ _ room e0 (bnd t (.ref a)) (.cons rfl .nil) sp) fun r s' got => ?_
  match r, got with
  | .error e, z => exact (cxm_false z).elim
  | .ok .next, z => exact False.elim z
  | .ok .brk, z => exact False.elim z
  | .ok .cont, z => exact False.elim z
  | .ok (.ret u), ⟨v, H', os, bare, un, hok', rel, z⟩ =>
    obtain rfl : v = .bl true := z
    obtain rfl : u = Value.bool true := rel
    refine ⟨rfl, OldK.of_keep fun b o e => ?_, os, bare⟩
    rcases only b with n | ⟨ob, xs, n⟩
    · exact un.keep b o e n (by intro z; exact (List.not_mem_nil (show b ∈ ([] : List Addr) from z)).elim) (by simp)
    · obtain ⟨e1, _⟩ := hok b _ n
      obtain ⟨e2, _⟩ := hok' b _ (un.frzs b ob _ n)
      exact e2.trans (e1.symm.trans e)
theorem lawD_call {m : Bool} {P : Program} {w : World} {mg mb : Str → Option Value} {k : Nat} {fa a : Addr} {fd : FuncData} {x : Str} {fn : Fn} {t : Shared} {vs : List Value} {ns : List Int}
    (ht0 : KF.tabs = []) (kin : KF.frag.In t.heap) (nsM : t.heap.Ns mainGlobals mg) (nsB : t.heap.Ns builtinsNs mb) (hbb : ∀ x : Str, x ≠ "__name__" → mb x = bootBuiltins x) (hlim : t.heap.NoLimit) (gn : t.gens = #[])
    (obj : t.heap.get? a = some { cls := .type "list", data := .seq vs.toArray }) (hi : IntsAre vs ns) (hl : ns.length ≤ sizeLine)
    (F : ∀ base : Heap, KF.frag.In base → base.Ns mainGlobals mg → FnD m P w KF.frag mg base k fa fd [x] (fnSp mg 1 fn)) (bnd : ∀ (s : Shared) (u : Value), BindsTo s fd ⟨[u], []⟩ [(x, u)])
    (room : GRoom k callerA) (hfn : ∃ ps, fn [.ro (ns.map .int)] = .ok (.d (.bool true)) ps) :
    codeAny (model P w) callerA (.call (.ref fa) ⟨[.ref a], []⟩) (fun r s' => r = .ok (.ret (.bool true)) ∧ OldK t.heap s'.heap ∧ s'.os = t.os ∧ AllBare s'.gens) t := by
  have rv := vals_ints hi
  have sz : vs.toArray.size ≤ sizeLine := by rw [List.size_toArray, hi.length]; exact hl
  by_cases hk : KF.frag.lookup a = none
  · -- a list of the caller's: known to the object
    have at_a : ∀ {b : Addr}, b ≠ a → (if b = a then some (HO.frz { cls := .type "list", data := .seq vs.toArray } (.lst (ns.map V.int))) else none) = none := fun h => if_neg h
    refine lawD_core ht0 (H := fun b => if b = a then some (.frz { cls := .type "list", data := .seq vs.toArray } (.lst (ns.map V.int))) else none) kin nsM nsB hbb hlim gn obj F bnd room hfn (fun b => ?_) (.inl (.inr ⟨_, if_pos rfl⟩)) (fun b u z => ?_) (fun b z => Classical.byContradiction fun hb => z (at_a hb)) fun _ => hk
    · by_cases hb : b = a
      · exact .inr ⟨_, _, if_pos hb⟩
      · exact .inl (at_a hb)
    · by_cases hb : b = a
      · subst hb
        cases (if_pos rfl).symm.trans z
        exact ⟨obj, by rw [List.length_map]; exact hl, vs, _, rv, obj⟩
      · cases (at_a hb).symm.trans z
  · obtain ⟨o, ho⟩ := Option.ne_none_iff_exists'.mp hk
    have e := (kin a o ho).symm.trans obj
    cases e
    exact lawD_core ht0 (H := fun _ => none) kin nsM nsB hbb hlim gn obj F bnd room hfn (fun _ => .inl rfl) (.inr ⟨_, vs.toArray, _, ho, rfl, rfl, rfl, sz, by simpa using rv⟩) (fun b u z => nomatch z) (fun b z => (z rfl).elim) fun z => (z rfl).elim
end L2.Dl
namespace L2
open PySem
open PySem.Spec
open PyProof.Rows
theorem walk_ofD {m : Bool} {l : PySem.W.OpenLaw} {n k : Nat} {q : Program} {loose : List Str} {XP : (Str → Option Value) → Heap → Prop} {YP : World → Heap → Prop} {d : DefRec} {K : Params → PySem.W.Frag} {fn : Dl.Fn} {x : Str}
    (hn : l.most = some n) (hn2 : n ≤ sizeLine) (hdf : d.params.defaults = []) (hr : Dl.GRoom k callerA)
    (hY : ∀ (w : World) (h : Heap), YP w h → (K w.params).In h)
    (F : ∀ (w : World) (mg : Str → Option Value) (fa : Addr) (h : Heap), (K w.params).In h → h.Ns mainGlobals mg → mg d.name = some (.ref fa) →
      ∃ fd : FuncData, (∀ (s : Shared) (u : Value), BindsTo s fd ⟨[u], []⟩ [(x, u)]) ∧
        ∀ base : Heap, (K w.params).In base → base.Ns mainGlobals mg → @Dl.FnD m l.prog w (K w.params) mg base k fa fd [x] (@Dl.fnSp ⟨K w.params, []⟩ mg 1 fn))
    (hfn : ∀ ns : List Int, ns.length ≤ n → ∃ ps, fn [.ro (ns.map .int)] = .ok (.d (.bool true)) ps) :
    PySem.W.WalkO q loose XP YP l.row.toRowW d [] (fun f vs => PySem.call f vs) := by
  refine Att.attach_call hn hdf fun w s₀ s₁ mg mb fa o pm cd doc a vs ns G Y ho hd hcd hmg hobj hints hlen hg => ?_
  letI : Dl.KF := ⟨K w.params, []⟩
  have kin := hY w _ Y
  obtain ⟨fd, hb, hF⟩ := F w mg fa _ kin G.T.g hmg
  exact Dl.lawD_call rfl kin G.T.g G.T.b G.T.builtins G.T.nolimit hg hobj hints (Nat.le_trans hlen hn2) hF hb hr (hfn ns hlen)
end L2

namespace L2.Dl
open PySem
open PySem.Spec
open PyProof.Rows
variable [KF]

theorem visD {sc : Scope} {x : Str} (h : (match sc.names.lookup x with | some .local => true | some .cell => true | some .free => true | _ => false) = true) : Vis sc x := by
  unfold Vis
  split at h
  · rename_i e; exact .inl e
  · rename_i e; exact .inr (.inl e)
  · rename_i e; exact .inr (.inr e)
  · cases h
theorem locD {sc : Scope} {x : Str} (h : (match sc.names.lookup x with | some .local => true | some .cell => true | _ => false) = true) : Loc sc x := by
  unfold Loc
  split at h
  · rename_i e; exact .inl e
  · rename_i e; exact .inr e
  · cases h
/-- a def without defaults, ready to be called -/
structure CD (m : Bool) (P : Program) (w : World) (mg : Str → Option Value) (base : Heap) (k : Nat) (x : Str) (st : Stmt) (ps : List Str) (fn : Fn) (a : Addr) (fd : FuncData) : Prop where
  gm : mg x = some (.ref a)
  F : Fun KF.frag x x st a fd
  fn : FnD m P w KF.frag mg base k a fd ps (fnSp mg ps.length fn)
section
variable {m : Bool} {P : Program} {w : World} {mg : Str → Option Value} {base : Heap} {k : Nat} {x : Str} {st : Stmt} {ps N : List Str} {fn : Fn} {a : Addr} {fd : FuncData} {d : DS} {nn : Nat}
theorem CD.kp (c : CD m P w mg base k x st ps fn a fd) : PySem.W.keepIn KF.frag (.ref a) = true := c.F.kp
theorem CD.kb {n : Nat} {ks : List Str} {ix : List Nat} (c : CD m P w mg base k x st ps fn a fd)
    (h : ∀ (kV doc pm : Value) (an : Option Addr) (cdv ct : Value) (us ws : List Value), us.length = n → ws.length = ks.length → bindArgs (PySem.W.fnOf x x (defArgs st) (defBody st) (defScope st) .none kV doc pm an cdv ct) ⟨us, ks.zip ws⟩ = pure (ps.zip (pick ix (us ++ ws ++ [])))) : BD KF.frag fd ps n ks ix [] := by
  obtain ⟨oc, od, kV, doc, pm, an, cdv, ct, osl, rfl, lk, hcd⟩ := c.F.ex
  exact fun s us ws _ h1 h2 => .of_eq (h kV doc pm an cdv ct us ws h1 h2)
theorem CD.pb (c : CD m P w mg base k x st ps fn a fd)
    (h : ∀ (kV doc pm : Value) (an : Option Addr) (cdv ct : Value) (us : List Value), us.length = ps.length → bindArgs (PySem.W.fnOf x x (defArgs st) (defBody st) (defScope st) .none kV doc pm an cdv ct) ⟨us, []⟩ = pure (ps.zip us)) : Binds KF.frag fd ps [] := c.F.binds h
theorem cd_mk (F : Fun KF.frag x x st a fd) (S : FnScope N ps (defScope st)) (gm : mg x = some (.ref a))
    (hb : ∀ (cdv : Value) (A : Around) (outer : List Env) (s : Shared) (H : Hp) (E : XK) (c : Cf), GRoom k (A.deeper (envOfC x (defScope st) s.heap.objs.size a cdv)) → c.mg = mg →
      PSs (cxOf (CXm m P w) P w KF.frag mg base N x (defScope st) a cdv A outer s H E) (defBody st) (SOf (fun cls d _ H => E cls d H) c d)) : CD m P w mg base (k + 1) x st ps (mkFn N.length d) a fd := by
  refine ⟨gm, F, ?_⟩
  obtain ⟨oc, od, kV, doc, pm, an, cdv, ct, osl, rfl, lk, hcd⟩ := F.ex
  exact fnd_of lk hcd S rfl fun A outer s H E c hr hmg => hb cdv A outer s H E c hr hmg
end
end L2.Dl

namespace L2.Dl
open PySem
open PySem.Spec
open PyProof.Rows

section
variable {a b : DS} {d da db : DE} {l : DL} {t : DT} {env e e1 e2 e3 : Nv} {R : SRes} {o o2 : OV} {x y z : PyData} {xs ys : List PyData} {k : Bool} {i j : Nat} {g : PyData → PyData → Option PyData}
theorem seqE (h : a env = .nx e) (h2 : b e = R) : dSeq a b env = R := by unfold dSeq; rw [h]; exact h2
theorem seqR (h : a env = .rt x e) : dSeq a b env = .rt x e := by unfold dSeq; rw [h]; rfl
theorem ifT (h : t env = .ok true e) (h2 : a e = R) : dIfS t a b env = R := by unfold dIfS; rw [h]; exact h2
theorem ifF (h : t env = .ok false e) (h2 : b e = R) : dIfS t a b env = R := by unfold dIfS; rw [h]; exact h2
theorem setE (h : d env = .ok o e) (h1 : slotOf e o = .ok (.v x) e1) (h2 : freeAt e1 i = true) : dSet i (rE d) env = .nx (e1.set i (.v x)) := by
  unfold dSet rE; rw [h]; show ((slotOf e o).bs _) = _; rw [h1]; show setS e1 i _ = _; unfold setS; rw [if_pos h2]
theorem setL (h : l env = .ok xs e) (h2 : freeAt e i = true) : dSet i (rL l) env = .nx (e.set i (.own false xs)) := by
  unfold dSet rL; rw [h]; show setS e i _ = _; unfold setS; rw [if_pos h2]
theorem binE (ha : da env = .ok o e1) (hb : db e1 = .ok o2 e2) (h1 : getOV e2 o = some x) (h2 : getOV e2 o2 = some y) (hg : g x y = some z) : dBin g da db env = .ok (.d z) e2 := by
  unfold dBin; rw [ha]; show ((db e1).bd _) = _; rw [hb]; simp only [Res.bd, h1, h2, hg]
theorem retE (h : d env = .ok o e) (h1 : pinOV e o = some (x, e1)) : dRet d env = .rt x e1 := by
  unfold dRet; rw [h]; show retOf o e = _; unfold retOf; rw [h1]
theorem tE (h : d env = .ok (.d (.bool k)) e) : dT d env = .ok k e := by
  unfold dT; rw [h]; rfl
theorem expE (h : d env = .ok o e) : dExp d env = .nx e := by unfold dExp; rw [h]; rfl
theorem putE (h : da env = .ok o e) (h1 : pinOV e o = some (z, e1)) (h2 : dctAt e1 i = some (k, v)) (h3 : db e1 = .ok o2 e2) (h4 : pinOV e2 o2 = some (x, e3)) {p : Bool} {dv : DV} (h5 : dctAt e3 i = some (p, dv)) (h6 : keyOk dv.t x = true) (h7 : dv.kvs.length < lenB) :
    dDPut i db da env = .nx (e3.set i (.dct p ⟨dv.t, putD dv.kvs x z⟩)) := by
  unfold dDPut; rw [h]; simp only [Res.bs, h1, h2, h3, h4, h5]; rw [if_pos ⟨h6, h7⟩]
theorem consE {r : Nv → Res (List OV)} {os : List OV} (h : d env = .ok o e) (h2 : r e = .ok os e1) : dACons d r env = .ok (o :: os) e1 := by
  unfold dACons; rw [h]; simp only [Res.bd, h2]
theorem callBE {gb : List PyData → Option PyData} {r : Nv → Res (List OV)} {os : List OV} (h : r env = .ok os e) (h1 : getAll e os = some xs) (h2 : gb xs = some z) : dCallB gb r env = .ok (.d z) e := by
  unfold dCallB; rw [h]; simp only [Res.bd, h1, h2]
theorem callNE {gb : List PyData → Option (List PyData)} {r : Nv → Res (List OV)} {os : List OV} (h : r env = .ok os e) (h1 : getAll e os = some xs) (h2 : gb xs = some ys) : dCallN gb r env = .ok ys e := by
  unfold dCallN; rw [h]; simp only [Res.bd, h1, h2]
theorem fzE (h : l env = .ok xs e) : dFz l env = .ok (.d (.list xs)) e := by unfold dFz; rw [h]; rfl
theorem ifeE (h : t env = .ok k e) (h2 : (if k = true then da e else db e) = .ok o e1) : dIfE t da db env = .ok o e1 := by unfold dIfE; rw [h]; exact h2
theorem callE {n : Nat} {fn : Fn} {r : Nv → Res (List OV)} {os : List OV} (h : r env = .ok os e) (hl : os.length = n) (h2 : callOV fn os e = .ok o e1) : dCall n fn [] r env = .ok o e1 := by
  unfold dCall; rw [h]; show (if _ then _ else _) = _
  rw [List.map_nil, List.append_nil, if_pos hl]; exact h2
/-- a call that hands in nothing owned but slot i's dict, and plain things -/
theorem backE_set {os : List OV} {ps' : Nv} {i j : Nat} {s t u : Slot} : ∀ {e : Nv} {n : Nat}, e[i]? = some s → s.owns = true → posO (n + i) os = some j → ps'[j]? = some t → mergeS s t = some u → (∀ m, m ≠ n + i → posO m os = none) →
    backE os ps' e n = some (e.set i u)
  | [], n, h, _, _, _, _, _ => by simp at h
  | s0 :: r, n, h, ho, hp, ht, hm, hn => by
    cases i with
    | zero =>
      simp at h; subst h
      have rest : backE os ps' r (n + 1) = some r := by
        have : ∀ (r : Nv) (q : Nat), n < q → backE os ps' r q = some r := by
          intro r
          induction r with
          | nil => intro q _; rfl
          | cons s1 r ih =>
            intro q hq
            unfold backE
            rw [ih (q + 1) (by omega)]
            simp only [hn q (by omega)]
            split <;> rfl
        exact this r (n + 1) (Nat.lt_succ_self n)
      unfold backE
      rw [rest]
      simp only [ho, if_true]
      rw [show n + 0 = n from rfl] at hp
      simp only [hp, ht, hm]
      rfl
    | succ i =>
      unfold backE
      have := backE_set (n := n + 1) (e := r) (i := i) (by simpa using h) ho (by rw [show n + 1 + i = n + (i + 1) by omega]; exact hp) ht hm (fun m hm' => hn m (by omega))
      rw [this]
      simp only [hn n (by omega)]
      split <;> rfl
theorem isSl_at {i : Nat} {o : OV} (h : isSl i o = true) : o = .sl i := by
  cases o with
  | sl j => simp [isSl] at h; rw [h]
  | d x => cases h
  | gl n => cases h
theorem posO_at {i j : Nat} {os : List OV} (h : posO i os = some j) : os[j]? = some (.sl i) := by
  unfold posO at h
  obtain ⟨hl, h1, _⟩ := List.findIdx?_eq_some_iff_getElem.mp h
  rw [List.getElem?_eq_getElem hl, isSl_at h1]
theorem posO_self {i : Nat} {r : List OV} : posO i (.sl i :: r) = some 0 := by simp [posO, isSl, List.findIdx?_cons]
theorem posO_d {i : Nat} {x : PyData} {r : List OV} (h : posO i r = none) : posO i (.d x :: r) = none := by
  unfold posO at *; rw [List.findIdx?_cons]; simp only [isSl, Bool.false_eq_true, if_false, h, Option.map_none]
theorem posO_ne {i j : Nat} {r : List OV} (hj : j ≠ i) (h : posO j r = none) : posO j (.sl i :: r) = none := by
  unfold posO at *; rw [List.findIdx?_cons]; simp only [isSl, beq_eq_false_iff_ne.mpr hj, Bool.false_eq_true, if_false, h, Option.map_none]
theorem posO_nil {i : Nat} : posO i [] = none := rfl
/-- draw(feed, many) -/
theorem call_dv {fn : Fn} {i : Nat} {p : Bool} {dv dv' : DV} {x y : PyData} {l : Nv} {q : Slot} (he : e[i]? = some (.dct p dv)) (hf : fn [.dct true dv, .v x] = .ok (.d y) [.dct true dv', q]) : callOV fn [.sl i, .d x] e = .ok (.d y) (e.set i (.dct p dv')) := by
  unfold callOV
  rw [if_pos (by simp [apartO, isSl])]
  have : argL e [.sl i, .d x] = some [.dct true dv, .v x] := by simp [argL, argS, he]
  rw [this]
  simp only [hf]
  unfold backO
  rw [backE_set (n := 0) (i := i) (j := 0) he rfl (by rw [Nat.zero_add]; exact posO_self) rfl rfl (fun m hm => posO_ne (by omega) (posO_d posO_nil))]
/-- a call that hands in nothing owned -/
theorem backE_id {os : List OV} {ps' : Nv} : ∀ {e : Nv} {n : Nat}, (∀ i s, e[i]? = some s → s.owns = true → posO (n + i) os = none) → backE os ps' e n = some e
  | [], n, h => rfl
  | s :: r, n, h => by
    unfold backE
    rw [backE_id (n := n + 1) (e := r) fun i s e o => by rw [show n + 1 + i = n + (i + 1) by omega]; exact h (i + 1) s (by simpa using e) o]
    simp only []
    split
    · rename_i ho
      have := h 0 s rfl ho
      rw [show n + 0 = n from rfl] at this
      simp only [this]
    · rfl
def plainO (e : Nv) : OV → Bool
  | .sl i => !ownsAt e i
  | _ => true
theorem call_plain {fn : Fn} {os : List OV} {ps l : Nv} {y : PyData} (hp : os.all (plainO e) = true) (ha : argL e os = some ps) (hf : fn ps = .ok (.d y) l) : callOV fn os e = .ok (.d y) e := by
  have hp' : ∀ o ∈ os, plainO e o = true := List.all_eq_true.mp hp
  have ap : ∀ {os : List OV}, (∀ o ∈ os, plainO e o = true) → apartO e os = true := by
    intro os
    induction os with
    | nil => intro _; rfl
    | cons o r ih =>
      intro h
      have h1 := h o (List.mem_cons_self ..)
      have h2 := ih fun o ho => h o (List.mem_cons_of_mem _ ho)
      cases o with
      | sl i => unfold apartO; simp only [plainO] at h1; rw [h1, h2]; rfl
      | d x => unfold apartO; exact h2
      | gl n => unfold apartO; exact h2
  unfold callOV
  rw [if_pos (ap hp'), ha]
  simp only [hf]
  unfold backO
  rw [backE_id fun i s e1 o => ?_]
  cases q : posO (0 + i) os with
  | none => rfl
  | some j =>
    have hj := posO_at q
    have := hp' _ (List.mem_of_getElem? hj)
    rw [Nat.zero_add] at this
    simp only [plainO, ownsAt, e1, o] at this
    cases this
end
section
variable {p : Pat} {b : DS} {t : DT} {it : DI} {env e e1 : Nv} {R : SRes} {xs : List PyData} {x : PyData}
theorem forE (h : it env = .ok xs e) (h2 : forL p b xs e = R) : dFor it p b env = R := by unfold dFor; rw [h]; exact h2
/-- a loop that runs through: J stands ahead of each turn -/
theorem forL_inv (J : Nat → Nv → Prop) : ∀ (xs : List PyData) (i : Nat) (env : Nv), J i env → (∀ k x e, xs[k]? = some x → J (i + k) e → ∃ e1 e2, asgP p x e = some e1 ∧ b e1 = .nx e2 ∧ J (i + k + 1) e2) → ∃ e', forL p b xs env = .nx e' ∧ J (i + xs.length) e'
  | [], i, env, h, _ => ⟨env, rfl, h⟩
  | x :: r, i, env, h, hs => by
    obtain ⟨e1, e2, k1, k2, k3⟩ := hs 0 x env rfl h
    obtain ⟨e', h1, h2⟩ := forL_inv J r (i + 1) e2 k3 fun k y e hk hj => by
      have := hs (k + 1) y e (by simpa using hk) (by rw [show i + (k + 1) = i + 1 + k by omega]; exact hj)
      rw [show i + (k + 1) = i + 1 + k by omega] at this
      exact this
    refine ⟨e', ?_, by rw [List.length_cons, show i + (r.length + 1) = i + 1 + r.length by omega]; exact h2⟩
    unfold forL
    simp only [k1, k2]
    exact h1
theorem whileF {n : Nat} (h : t env = .ok false e) : whileN t b (n + 1) env = .nx e := by unfold whileN; rw [h]; rfl
theorem whileT {n : Nat} (h : t env = .ok true e) (h2 : b e = .nx e1) (h3 : whileN t b n e1 = R) : whileN t b (n + 1) env = R := by
  unfold whileN; rw [h]; simp only [Res.bs, if_true, h2]; exact h3
theorem rangeL_get {lo : Int} {n k : Nat} {x : PyData} (h : (rangeL lo n)[k]? = some x) : k < n ∧ x = .int (lo + (k : Nat)) := by
  unfold rangeL at h
  rw [List.getElem?_map] at h
  by_cases hk : k < n
  · rw [List.getElem?_eq_getElem (by simpa using hk)] at h
    simp at h
    exact ⟨hk, h.symm⟩
  · rw [List.getElem?_eq_none (by simpa using hk)] at h
    cases h
end
end L2.Dl

namespace L2.Dl
open PySem
open PySem.Spec
open PyProof.Rows

section
variable {p : Pat} {t : DT} {d : DE} {it : DI} {env e e1 : Nv} {xs ys : List PyData} {i : Nat} {vs : List Nat}
/-- a comprehension by turns: J stands ahead of each turn, acc is what there is by then -/
theorem lcL_inv (J : Nat → List PyData → Nv → Prop) : ∀ (xs : List PyData) (i : Nat) (acc : List PyData) (e : Nv), J i acc e →
    (∀ k x acc e, xs[k]? = some x → J (i + k) acc e → ∃ e1 b e2, asgP p x e = some e1 ∧ t e1 = .ok b e2 ∧ ((b = false ∧ J (i + k + 1) acc (wipeN e2 vs)) ∨
      (b = true ∧ acc.length < lenB ∧ ∃ o e3 y e4, d e2 = .ok o e3 ∧ pinOV e3 o = some (y, e4) ∧ J (i + k + 1) (acc ++ [y]) (wipeN e4 vs)))) →
    ∃ acc' e', lcL p t d vs xs acc e = .ok acc' e' ∧ J (i + xs.length) acc' e'
  | [], i, acc, e, h, _ => ⟨acc, e, rfl, h⟩
  | x :: r, i, acc, e, h, hs => by
    have go : ∀ acc e, J (i + 1) acc e → ∃ acc' e', lcL p t d vs r acc e = .ok acc' e' ∧ J (i + (x :: r).length) acc' e' := fun acc e hj => by
      obtain ⟨a', e', h1, h2⟩ := lcL_inv J r (i + 1) acc e hj fun k y acc e hk hj => by
        have := hs (k + 1) y acc e (by simpa using hk) (by rw [show i + (k + 1) = i + 1 + k by omega]; exact hj)
        rw [show i + (k + 1) = i + 1 + k by omega] at this
        exact this
      exact ⟨a', e', h1, by rw [List.length_cons, show i + (r.length + 1) = i + 1 + r.length by omega]; exact h2⟩
    obtain ⟨e1, b, e2, k1, k2, k3⟩ := hs 0 x acc e rfl h
    rcases k3 with ⟨rfl, k3⟩ | ⟨rfl, kl, o, e3, y, e4, k3, k4, k5⟩
    · obtain ⟨a', e', h1, h2⟩ := go _ _ k3
      refine ⟨a', e', ?_, h2⟩
      unfold lcL
      simp only [k1, k2, Res.bx, Bool.false_eq_true, if_false]
      exact h1
    · obtain ⟨a', e', h1, h2⟩ := go _ _ k5
      refine ⟨a', e', ?_, h2⟩
      unfold lcL
      simp only [k1, k2, Res.bx, if_true, k3, k4, kl]
      exact h1
theorem lcE {acc' : List PyData} {e' : Nv} (h : it env = .ok xs e) (hp : vs.all (plainAt e) = true) (h2 : lcL p t d vs xs [] (wipeN e vs) = .ok acc' e') : dLc it p t d vs env = .ok acc' (backN e e' vs) := by
  unfold dLc; rw [h]; simp only [Res.bd]; rw [if_pos hp, h2]; rfl
theorem set_same {e : Nv} {i : Nat} {s : Slot} (h : e[i]? = some s) : e.set i s = e := by
  obtain ⟨hl, h⟩ := List.getElem?_eq_some_iff.mp h
  rw [← h]; exact List.set_getElem_self hl
theorem set_set {e : Nv} {i : Nat} {s u : Slot} : (e.set i s).set i u = e.set i u := List.set_set ..
theorem lcL_pure {b : PyData → Bool} {f : PyData → PyData} (he : e[i]? = some .un) : ∀ (xs acc : List PyData), (∀ x ∈ xs, t (e.set i (.v x)) = .ok (b x) (e.set i (.v x))) →
    (∀ x ∈ xs, b x = true → ∃ o, d (e.set i (.v x)) = .ok o (e.set i (.v x)) ∧ pinOV (e.set i (.v x)) o = some (f x, e.set i (.v x))) → acc.length + xs.length ≤ lenB →
    lcL (.nm i) t d [i] xs acc e = .ok (acc ++ (xs.filter b).map f) e
  | [], acc, _, _, _ => by simp [lcL]
  | x :: r, acc, ht, hd, hl => by
    rw [List.length_cons] at hl
    have back : wipeN (e.set i (.v x)) [i] = e := by
      show (e.set i (.v x)).set i .un = e
      rw [set_set, set_same he]
    have h1 : asgP (.nm i) x e = some (e.set i (.v x)) := by
      unfold asgP
      rw [if_pos (by unfold freeAt; rw [he] <;> rfl)]
    unfold lcL
    simp only [h1, ht x (List.mem_cons_self ..), Res.bx]
    cases hb : b x with
    | false =>
      simp only [Bool.false_eq_true, if_false, back]
      rw [lcL_pure he r acc (fun y hy => ht y (List.mem_cons_of_mem _ hy)) (fun y hy => hd y (List.mem_cons_of_mem _ hy)) (by omega), List.filter_cons_of_neg (by simp [hb])]
    | true =>
      obtain ⟨o, h2, h3⟩ := hd x (List.mem_cons_self ..) hb
      simp only [if_true, h2, h3, show acc.length < lenB from by omega, back]
      rw [lcL_pure he r (acc ++ [f x]) (fun y hy => ht y (List.mem_cons_of_mem _ hy)) (fun y hy => hd y (List.mem_cons_of_mem _ hy)) (by rw [List.length_append, List.length_singleton]; omega), List.filter_cons_of_pos hb]
      simp
/-- [f(x) for x in xs if b(x)], nothing else changes -/
theorem lc_pure {b : PyData → Bool} {f : PyData → PyData} (h : it env = .ok xs e) (hp : plainAt e i = true) (ht : ∀ x ∈ xs, t (e.set i (.v x)) = .ok (b x) (e.set i (.v x)))
    (hd : ∀ x ∈ xs, b x = true → ∃ o, d (e.set i (.v x)) = .ok o (e.set i (.v x)) ∧ pinOV (e.set i (.v x)) o = some (f x, e.set i (.v x))) (hl : xs.length ≤ lenB) : dLc it (.nm i) t d [i] env = .ok ((xs.filter b).map f) e := by
  have hi : i < e.length := by
    unfold plainAt at hp
    cases q : e[i]? with
    | none => rw [q] at hp; cases hp
    | some s => exact (List.getElem?_eq_some_iff.mp q).1
  have := lcE (p := .nm i) (t := t) (d := d) (vs := [i]) h (by simp [hp]) (lcL_pure (e := e.set i .un) (b := b) (f := f) (List.getElem?_set_self hi) xs [] (fun x hx => by rw [set_set]; exact ht x hx) (fun x hx hb => by rw [set_set]; exact hd x hx hb) (by simpa using hl))
  rw [this, List.nil_append]
  congr 1
  show (e.set i .un).set i (e.getD i .un) = e
  rw [set_set]
  exact set_same (by rw [List.getD_eq_getElem?_getD, List.getElem?_eq_getElem hi] <;> rfl)
end
end L2.Dl

namespace L2.Dl
open PySem
open PySem.Spec
open PyProof.Rows

theorem piled_le {b : Nat} : ∀ ts : List Str, (∀ t ∈ ts, t.length ≤ b) → piled ts ≤ (b + 2) * ts.length
  | [], _ => by simp [piled]
  | t :: r, h => by
    rw [piled_cons]
    have h1 := h t (List.mem_cons_self ..)
    have h2 := piled_le r fun t ht => h t (List.mem_cons_of_mem _ ht)
    rw [List.length_cons, Nat.mul_add, Nat.mul_one]
    omega
theorem tupleText_le (ts : List Str) : (tupleText ts).length ≤ piled ts + 3 := by
  unfold tupleText
  rw [strLen_append, strLen_append]
  have h1 : (("(" : String) : Str).length = 1 := rfl
  have h3 : ((if (ts.length == 1) = true then ",)" else ")" : String) : Str).length ≤ 2 := by
    split
    · exact Nat.le_refl 2
    · exact (by decide : 1 ≤ 2)
  have h2 : (Str.join ", " ts).length ≤ piled ts := by
    cases ts with
    | nil => exact Nat.zero_le _
    | cons t r => have := join_length_add (t :: r) (by simp); omega
  rw [h1]
  omega
theorem textFrom_le : ∀ (ts : List Str) (k : Nat) (acc : Str), (textFrom k acc ts).length ≤ acc.length + piled ts
  | [], k, acc => Nat.le_add_right _ _
  | t :: r, k, acc => by
    have ih := textFrom_le r (k + 1) (acc ++ (if k > 0 then ", " else "" : String) ++ t)
    have e : (acc ++ (if k > 0 then ", " else "" : String) ++ t).length ≤ acc.length + 2 + t.length := by
      rw [strLen_append, strLen_append]
      split
      · exact Nat.le_refl _
      · show acc.length + 0 + t.length ≤ _; omega
    rw [piled_cons]
    show (textFrom (k + 1) (acc ++ (if k > 0 then ", " else "" : String) ++ t) r).length ≤ _
    omega
theorem listText_le (ts : List Str) : (listText ts).length ≤ piled ts + 2 := by
  unfold listText
  rw [strLen_append]
  have := textFrom_le ts 0 "["
  have h1 : (("[" : String) : Str).length = 1 := rfl
  have h2 : (("]" : String) : Str).length = 1 := rfl
  omega
structure ROk (n d : Nat) (x : PyData) : Prop where
  sh : x.showable = true
  le : x.shown.length ≤ n
  dp : x.depth ≤ d
  nd : x.hasDict = false
theorem ROk.mono {n m d e : Nat} {x : PyData} (h : ROk n d x) (h1 : n ≤ m) (h2 : d ≤ e) : ROk m e x := ⟨h.sh, Nat.le_trans h.le h1, Nat.le_trans h.dp h2, h.nd⟩
theorem rok_all {n d : Nat} : ∀ {xs : List PyData}, (∀ x ∈ xs, ROk n d x) → PyData.showableAll xs = true ∧ (∀ t ∈ PyData.shownAll xs, t.length ≤ n) ∧ PyData.depthAll xs ≤ d ∧ PyData.hasDictAll xs = false ∧ (PyData.shownAll xs).length = xs.length
  | [], _ => ⟨rfl, (fun t h => nomatch h), Nat.zero_le _, rfl, rfl⟩
  | x :: r, h => by
    have h1 := h x (List.mem_cons_self ..)
    obtain ⟨a, b, c, e, f⟩ := rok_all fun y hy => h y (List.mem_cons_of_mem _ hy)
    refine ⟨?_, fun t ht => ?_, Nat.max_le.mpr ⟨h1.dp, c⟩, ?_, ?_⟩
    · show (x.showable && PyData.showableAll r) = true; rw [h1.sh, a]; rfl
    · rcases List.mem_cons.mp (show t ∈ x.shown :: PyData.shownAll r from ht) with e | ht
      · rw [e]; exact h1.le
      · exact b t ht
    · show (x.hasDict || PyData.hasDictAll r) = false; rw [h1.nd, e]; rfl
    · show (PyData.shownAll r).length + 1 = r.length + 1; rw [f]
theorem rok_tup {n d : Nat} {xs : List PyData} (h : ∀ x ∈ xs, ROk n d x) : ROk ((n + 2) * xs.length + 3) (d + 1) (.tuple xs) := by
  obtain ⟨a, b, c, e, f⟩ := rok_all h
  refine ⟨a, ?_, Nat.succ_le_succ c, e⟩
  have h1 := tupleText_le (PyData.shownAll xs)
  have h2 := piled_le _ b
  rw [f] at h2
  exact Nat.le_trans h1 (Nat.add_le_add_right h2 3)
theorem rok_lst {n d : Nat} {xs : List PyData} (h : ∀ x ∈ xs, ROk n d x) : ROk ((n + 2) * xs.length + 3) (d + 1) (.list xs) := by
  obtain ⟨a, b, c, e, f⟩ := rok_all h
  refine ⟨a, ?_, Nat.succ_le_succ c, e⟩
  have h1 := listText_le (PyData.shownAll xs)
  have h2 := piled_le _ b
  rw [f] at h2
  have : (listText (PyData.shownAll xs)).length ≤ (n + 2) * xs.length + 3 := by omega
  exact this
theorem ROk.repr {n d : Nat} {x : PyData} (h : ROk n d x) (h1 : n ≤ lenB) (h2 : d ≤ 100) : gRepr [x] = some (.str x.shown) :=
  if_pos ⟨h.sh, Nat.le_trans h.le h1, Nat.le_trans h.dp h2, h.nd⟩
section
variable {r q : DR} {t : DT} {env e e1 e2 : Nv} {s u : Slot} {i j : Nat} {o : OV} {d da : DE} {x z : PyData} {xs ys : List PyData}
theorem parE (h1 : r env = .ok s e) (h2 : q e = .ok u e1) (hij : i ≠ j) (f1 : freeAt e1 i = true) (f2 : freeAt e1 j = true) : dPar i j r q env = .nx ((e1.set i s).set j u) := by
  unfold dPar; rw [h1]; simp only [Res.bs]; rw [h2]; simp only []; rw [if_pos ⟨hij, f1, f2⟩]
theorem rEE (h : d env = .ok o e) (h1 : slotOf e o = .ok (.v x) e1) : rE d env = .ok (.v x) e1 := by unfold rE; rw [h]; exact h1
theorem extE {w : Bool × List PyData} {p : Bool} (h0 : ownAt env i = some w) (h : d env = .ok o e) (h1 : getOV e o = some (.list ys)) (h2 : ownAt e i = some (p, xs)) (h3 : xs.length + ys.length ≤ lenB) : dExt i d env = .ok (.d .none) (e.set i (.own p (xs ++ ys))) := by
  unfold dExt; simp only [h0, h, Res.bd, h1, Option.bind_some, gExt, h2, h3, if_true]
theorem callWE {n n1 m : Nat} {fn : Fn} {ix : List Nat} {ra rk : Nv → Res (List OV)} {os zs : List OV} (h : ra env = .ok os e) (h2 : rk e = .ok zs e1) (hl : os.length = n1 ∧ zs.length = m ∧ (pick ix (os ++ zs)).length = n) (h3 : callOV fn (pick ix (os ++ zs)) e1 = .ok o e2) : dCallW n fn n1 m ix [] ra rk env = .ok o e2 := by
  unfold dCallW; rw [h]; simp only [Res.bd, h2, List.map_nil, List.append_nil]
  rw [if_pos hl]; exact h3
theorem backE_gen {os : List OV} {ps' : Nv} : ∀ {e e' : Nv} {n : Nat}, e'.length = e.length → (∀ (m : Nat) (s : Slot), e[m]? = some s → s.owns = false → e'[m]? = some s) →
    (∀ (m : Nat) (s : Slot), e[m]? = some s → s.owns = true → (posO (n + m) os = none ∧ e'[m]? = some s) ∨ ∃ j u t, posO (n + m) os = some j ∧ ps'[j]? = some u ∧ mergeS s u = some t ∧ e'[m]? = some t) → backE os ps' e n = some e'
  | [], e', n, hl, _, _ => by
    obtain rfl := List.length_eq_zero_iff.mp hl
    rfl
  | s :: r, [], n, hl, _, _ => by simp at hl
  | s :: r, s' :: r', n, hl, h1, h2 => by
    have ih := backE_gen (e := r) (e' := r') (n := n + 1) (by simpa using hl) (fun m t hm => by simpa using h1 (m + 1) t (by simpa using hm)) (fun m t hm ho => by
      have := h2 (m + 1) t (by simpa using hm) ho
      rw [show n + (m + 1) = n + 1 + m by omega] at this
      simpa using this)
    unfold backE
    rw [ih]
    simp only []
    by_cases ho : s.owns = true
    · rw [if_pos ho]
      rcases h2 0 s rfl ho with ⟨k1, k2⟩ | ⟨j, u, t, k1, k2, k3, k4⟩
      · rw [show n + 0 = n from rfl] at k1
        simp at k2
        simp only [k1, k2]
      · rw [show n + 0 = n from rfl] at k1
        simp at k4
        simp only [k1, k2, k3, k4]
    · rw [if_neg ho]
      have := h1 0 s rfl (by simpa using ho)
      simp at this
      rw [this]
theorem callE2 {fn : Fn} {os : List OV} {ps l e' : Nv} {y : PyData} (ap : apartO e os = true) (ha : argL e os = some ps) (hf : fn ps = .ok (.d y) l) (hb : backE os l e 0 = some e') : callOV fn os e = .ok (.d y) e' := by
  unfold callOV
  rw [if_pos ap, ha]
  simp only [hf]
  unfold backO
  rw [hb]
end
end L2.Dl

namespace L2.Dl
open PySem
open PySem.Spec
open PyProof.Rows

theorem meetsEnum1 {v : Value} {o : Obj} {H : Heap → Prop} (B : Begins v o H) :
    Meets (Builtin.«enumerate.__new__» ⟨[.type "enumerate", v], []⟩) (fun _ R s => H s.heap ∧
      R (.ok (.ret (.ref (s.heap.push o).objs.size))) { s with heap := (s.heap.push o).push { cls := .type "enumerate", data := .fields #[.none, .bool false, .ref s.heap.objs.size, rawInt 0, .none, .none] } }) :=
  .of_wp fun prog w A R s h => by
    obtain ⟨hp, gn, d, tok, os⟩ := s
    obtain ⟨h1, h⟩ := h
    have hsub := sub_enumerate
    have iter : ∀ {A' : Around} {E : Value → Shared → Prop} {Q : Value → Shared → Prop}, Q (.ref hp.objs.size) ⟨hp.push o, gn, d, tok, os⟩ → wpAny (model prog w) A' (pyIter v) Q E ⟨hp, gn, d, tok, os⟩ :=
      fun q => B.iter prog w _ _ ⟨hp, gn, d, tok, os⟩ _ h1 q
    wp_walk using iter
    refine wpAny_stack_any fun st => wpAny_pure ?_
    split
    · rename_i k _ _ _ _ _
      cases (k == Value.type "enumerate")
      · wp_walk using iter
        exact ⟨_, rfl, h⟩
      · wp_walk using iter
        exact ⟨_, rfl, h⟩
    · wp_walk using iter
      exact ⟨_, rfl, h⟩
theorem callEnum1 {prog : Program} {w : World} {A : Around} {E : Value → Shared → Prop} {s : Shared} {v : Value} {o : Obj} {H : Heap → Prop} {Q : Value → Shared → Prop} (B : Begins v o H) (h1 : H s.heap)
    (h : ∀ h', IsEnum h' (s.heap.objs.size + 1) s.heap.objs.size 0 .none → h'.get? s.heap.objs.size = some o → h'.objs.size = s.heap.objs.size + 2 →
      (∀ b o, s.heap.get? b = some o → h'.get? b = some o) → Q (.ref (s.heap.objs.size + 1)) { s with heap := h' }) :
    wpAny (model prog w) A (call (.type "enumerate") [v]) Q E s := by
  refine callType_new F.called_enumerate (by decide) (F.typeCall_enumerate_1 _) (F.newCall_enumerate_1 _) (fun obj => F.args_object_init_2 obj _) F.entry_enumerate_new (meetsEnum1 B) ⟨h1, ?_⟩
  have size1 : (s.heap.push o).objs.size = s.heap.objs.size + 1 := Heap.size_push ..
  show _ ∧ _
  rw [size1]
  have en : IsEnum ((s.heap.push o).push { cls := .type "enumerate", data := .fields #[.none, .bool false, .ref s.heap.objs.size, rawInt 0, .none, .none] }) (s.heap.objs.size + 1) s.heap.objs.size 0 .none := by
    have e := Heap.get?_push_size (s.heap.push o) (o := { cls := .type "enumerate", data := .fields #[.none, .bool false, .ref s.heap.objs.size, rawInt 0, .none, .none] }) rfl
    rw [size1] at e
    exact e
  refine ⟨⟨_, en, rfl⟩, h _ en (Heap.get?_push_of_some _ (Heap.get?_push_size _ B.free)) (by rw [Heap.size_push, size1]) fun b u x => Heap.get?_push_of_some _ (Heap.get?_push_of_some _ x)⟩
/-- the tuple at a, each item in a new pair -/
def Itet (K : PySem.W.Frag) (a : Addr) : It :=
  ⟨fun i H => ∃ (xs : List V) (x : V), SqT K H a xs ∧ xs[i]? = some x, fun i H v H' => ∃ T x, v = .ref T ∧ H T = none ∧ H' = upd H T (.tup [.int (i : Nat), x]) ∧ ∀ xs, SqT K H a xs → xs[i]? = some x, fun i H => ∃ xs : List V, SqT K H a xs ∧ xs.length = i⟩
theorem turnEnumT {P : Program} {w : World} {K : PySem.W.Frag} {elts : List Expr} {kk : Nat} {tpos : Pos} (a e it : Addr) :
    Turn P w K (.Tuple elts kk tpos) (Itet K a) [e, it] e (fun i h => (∃ old, IsEnum h e it ((i : Nat) : Int) old) ∧ h.IsTupleIter it a i ∧ e ≠ it ∧ e ≠ a ∧ a ≠ it) where
  mem := by simp
  obj := fun i h st b hb => by
    obtain ⟨⟨old, he⟩, ⟨o, ho, hc, hd⟩, _⟩ := st
    rcases (show b = e ∨ b = it by simpa using hb) with rfl | rfl
    · exact ⟨_, he, fun v q => nomatch q⟩
    · exact ⟨o, ho, fun v q => by rw [hd] at q; cases q⟩
  keep := fun i h h' st k => let ⟨⟨old, he⟩, hi, hne⟩ := st; ⟨⟨old, k e (by simp) _ he⟩, hi.at fun o q => k it (by simp) o q, hne⟩
  item := by
    intro X hP hw hK hc i pins s σ H E I hf st hg
    subst hP hw hK
    obtain ⟨⟨old, he⟩, hit, hne, hea, hai⟩ := st
    obtain ⟨xs, x, hq, hx⟩ := hg
    obtain ⟨its, rv, p, hz⟩ := I.tuple hq
    obtain ⟨u, hu, ru⟩ := rv.get hx
    have hel : e < s.heap.objs.size := Heap.lt_size he
    have hil : it < s.heap.objs.size := by obtain ⟨_, q, _⟩ := hit; exact Heap.lt_size q
    have hin : i < its.length := (List.getElem?_eq_some_iff.mp hu).1
    refine wpAny_pyNext_enum_itemC (Draws.tuple (prog := X.prog) (w := X.w) (A := X.A.in1) (I.ok.hd hc) it a hai its.toArray) he ⟨hit, p⟩ (by simpa using hin) hne (by simp [hne, hea]) fun u' h' tk hP ho hs' hT hsz hk => ?_
    obtain rfl : u = u' := by
      have : its.toArray[i]? = some u' := hP
      rw [show its.toArray[i]? = its[i]? by simp, hu] at this
      exact Option.some.inj this
    refine ⟨_, rfl, wpAny_letOwnedTupleGo_enum (s := { s with heap := h', toks := tk + 1 }) ho fun h'' he' sb => ?_⟩
    have hT2 : h''.get? s.heap.objs.size = some { cls := .type "tuple", data := .seq #[.int i tk, u] } := (sb.2 _ (Nat.ne_of_gt hel)).trans hT
    have new : ObjOk X.prog X.w (upd H s.heap.objs.size (.tup [.int (i : Nat), x])) h'' s.heap.objs.size (.tup [.int (i : Nat), x]) :=
      ⟨by show 2 ≤ sizeLine; decide, [.int i tk, u], .cons ⟨_, rfl⟩ (.cons ru .nil), ⟨_, hT2, rfl, _, rfl⟩⟩
    have I1 : Inv X pins σ (upd H s.heap.objs.size (.tup [.int (i : Nat), x])) { s with heap := h'', toks := tk + 1 } :=
      I.turnedNew (ch := [e, it]) (fun b ob hb q => (sb.2 b (fun z => hb (by simp [z]))).trans (hk b ob (fun z => hb (by simp [z])) (fun z => hb (by simp [z])) q)) hf (Nat.le_refl _) new
    refine ⟨.ref s.heap.objs.size, _, I1, rfl, ⟨_, x, rfl, I.hok.fresh (Nat.le_refl _), rfl, fun ys hy => by rw [I.tuple_inj hy hq]; exact hx⟩, ⟨⟨u, ?_⟩, hs'.1.at fun o q => (sb.2 it (Ne.symm hne)).trans q, hne, hea, hai⟩, fun b hb => ?_⟩
    · rw [show ((i + 1 : Nat) : Int) = (i : Int) + 1 by omega]
      exact he'
    · have lt : b < s.heap.objs.size := by
        rcases (show b = e ∨ b = it by simpa using hb) with rfl | rfl
        · exact hel
        · exact hil
      rw [upd_ne (Nat.ne_of_lt lt)]
      exact (hf b hb).1
  done := by
    intro X hP hw hK hc i pins s σ H E I hf st hg
    subst hP hw hK
    obtain ⟨⟨old, he⟩, hit, hne, hea, hai⟩ := st
    obtain ⟨xs, hq, hx⟩ := hg
    obtain ⟨its, rv, p, hz⟩ := I.tuple hq
    obtain ⟨f0, f1, f2, f3, f4, f5⟩ := hf it (by simp)
    have hl : its.toArray.size = i := by rw [List.size_toArray, ← rv.length]; exact hx
    subst hl
    exact wpAny_pyNext_enum_endD (Draws.tuple (prog := X.prog) (w := X.w) (A := X.A.in1) (I.ok.hd hc) it a hai its.toArray) he ⟨hit, p⟩ fun h' eb => ⟨rfl, I.turned (t' := s.toks) (fun b o hb q => eb b o hb q) f0 f1 f3 f4 f5⟩
  self := fun A i s Q E st h => let ⟨⟨_, he⟩, _⟩ := st; wpAny_pyIter_enum he h
def iEnumT (K : PySem.W.Frag) (ta : TA) : TI := fun σ H R => ta σ H fun vs H1 => ∃ a xs, vs = [.ref a] ∧ SqT K H1 a xs ∧ R (Itet K a) H1
theorem piEnumT {X : Cx} {e : Expr} {ta : TA} {p pos tpos : Pos} {elts : List Expr} {kk : Nat} (hg : Gl X "enumerate") (hm : X.mg "enumerate" = none) (ha : PA X [e] ta) (hs : starEach [e] X.env = [(false, eval e X.env)] := by rfl) :
    PI X (.Tuple elts kk tpos) (.Call (.Name "enumerate" p) [e] [] pos) (iEnumT X.K ta) := by
  refine ⟨fun pins s σ H R I h => ?_⟩
  refine Call_ (ld_blt I hg hm boot_enumerate (PyProof.Rows.callWith_type1 (thn (ha.run pos pins s σ H _ I h) fun us s1 ⟨vs, H1, I1, r1, a, xs, ex, hq, q⟩ => ?_) hs rfl))
  subst ex
  obtain ⟨u, rfl, ru⟩ := vals1 r1
  obtain rfl : u = Value.ref a := ru
  obtain ⟨its, rv, p', hz⟩ := I1.tuple hq
  have hal : a < s1.heap.objs.size := by obtain ⟨o, e, _⟩ := p'; exact Heap.lt_size e
  refine callEnum1 (begins_tuple a its.toArray) p' fun h' he hit hsz hk => wpAny_pyIter_enum he ?_
  have I2 : Inv X pins σ H1 { s1 with heap := h' } := I1.kept (t' := s1.toks) hk
  refine ⟨s1.heap.objs.size + 1, [s1.heap.objs.size + 1, s1.heap.objs.size], _, _, H1, rfl, I2, turnEnumT a (s1.heap.objs.size + 1) s1.heap.objs.size, ⟨⟨.none, he⟩, ⟨_, hit, rfl, rfl⟩, Nat.succ_ne_self _, Nat.ne_of_gt (Nat.lt_succ_of_lt hal), Nat.ne_of_lt hal⟩, fun b hb => ?_, q⟩
  have hle : s1.heap.objs.size ≤ b := by
    rcases (show b = s1.heap.objs.size + 1 ∨ b = s1.heap.objs.size by simpa using hb) with rfl | rfl
    · exact Nat.le_add_right _ _
    · exact Nat.le_refl _
  exact I1.fpOk hle (I1.hok.fresh hle)
def enumL : Nat → List PyData → List PyData
  | _, [] => []
  | i, x :: r => .tuple [.int (i : Nat), x] :: enumL (i + 1) r
theorem enumL_len : ∀ (i : Nat) (xs : List PyData), (enumL i xs).length = xs.length
  | _, [] => rfl
  | i, x :: r => congrArg Nat.succ (enumL_len (i + 1) r)
theorem enumL_get : ∀ (xs : List PyData) (i j : Nat) (x : PyData), xs[j]? = some x → (enumL i xs)[j]? = some (.tuple [.int ((i + j : Nat) : Int), x])
  | [], _, _, _, h => by simp at h
  | y :: r, i, 0, x, h => by simp at h; subst h; rfl
  | y :: r, i, j + 1, x, h => by
    have := enumL_get r (i + 1) j x (by simpa using h)
    rw [show i + 1 + j = i + (j + 1) by omega] at this
    simpa [enumL] using this
def enumOf (o : OV) (e : Nv) : Res (List PyData) := (itOf o e).bd fun xs e' => .ok (enumL 0 xs) e'
def dEnum (d : DE) : DI := fun env => (d env).bd enumOf
theorem walkEnumT {K : PySem.W.Frag} {a : Addr} {xs : List V} : Walk (Itet K a) xs.length (fun H => SqT K H a xs) (fun i H v H' => ∃ T x, v = .ref T ∧ H T = none ∧ H' = upd H T (.tup [.int (i : Nat), x]) ∧ xs[i]? = some x) :=
  ⟨fun i _ hi q => ⟨xs, xs[i], q, by simp [hi]⟩, fun _ q => ⟨xs, q, rfl⟩, fun _ _ _ _ _ q ⟨T, x, e, h, h', y⟩ => ⟨T, x, e, h, h', y xs q⟩⟩
theorem walkEnumL {K : PySem.W.Frag} {a : Addr} {xs : List V} : Walk (Ite K a) xs.length (fun H => SqL K H a xs) (fun i H v H' => ∃ T x, v = .ref T ∧ H T = none ∧ H' = upd H T (.tup [.int (i : Nat), x]) ∧ xs[i]? = some x) :=
  ⟨fun i _ hi q => ⟨xs, xs[i], q, by simp [hi]⟩, fun _ q => ⟨xs, q, Nat.le_refl _⟩, fun _ _ _ _ _ q ⟨T, x, e, h, h', y⟩ => ⟨T, x, e, h, h', y xs q⟩⟩
section
variable [KF]
theorem drwEnum {c : Cf} {D : Hp} {J : It} {G : Hp → Prop} {vs : List V} {xs : List PyData} (w : Walk J vs.length G (fun i H v H' => ∃ T x, v = .ref T ∧ H T = none ∧ H' = upd H T (.tup [.int (i : Nat), x]) ∧ vs[i]? = some x)) (hG : ∀ D' env σ H, Same D D' → Sim c D' env σ H → G H) (r : RpL D vs xs) : Drw c D J (enumL 0 xs) :=
  ⟨_, _, by rw [enumL_len, ← r.length]; exact w, hG, fun i H v H1 D' env σ hi s S z => by
    obtain ⟨T, x, e1, e2, e3, e4⟩ := z
    obtain ⟨y, h1, h2⟩ := (r.mono s).get e4
    subst e1
    refine ⟨.tuple [.int (i : Nat), y], by rw [enumL_get xs 0 i y h1, Nat.zero_add], ?_⟩
    rw [e3]
    exact .tup e2 (.cons (.int _) (.cons h2 .nil))⟩
variable {X : Cx} {W : WX} {c : Cf} {e : Expr} {d : DE} {p pos tpos : Pos} {elts : List Expr} {kk : Nat}
theorem di_enum (hK : KF.frag = X.K) (hg : Gl X "enumerate") (hm : X.mg "enumerate" = none) (he : PE X e (EOf W c d)) (hs : starEach [e] X.env = [(false, eval e X.env)] := by rfl) : PI X (.Tuple elts kk tpos) (.Call (.Name "enumerate" p) [e] [] pos) (IOf W c (dEnum d)) :=
  ((pi_enum hg hm (pa_cons he pa_nil hs) hs).or (piEnumT hg hm (pa_cons he pa_nil hs) hs)).weak fun σ H R ⟨D, env, S, p⟩ => by
    have p : PostI W c D σ R ((d env).bd enumOf) := p
    cases g : d env with
    | stuck => rw [g] at p; exact p.elim
    | exc y e => rw [g] at p; exact .inl ⟨D, env, S, by rw [g]; exact p⟩
    | ok o e1 =>
      rw [g] at p
      have p : PostI W c D σ R ((itOf o e1).bd fun xs e' => .ok (enumL 0 xs) e') := p
      unfold itOf at p
      split at p
      · rename_i xs e2 hp
        refine .inl ⟨D, env, S, ?_⟩
        rw [g]
        intro v H1 D1 S1 s1 r1
        obtain ⟨D2, S2, s2, r2⟩ := S1.pin r1 hp
        cases r2 with
        | @lst a vs _ k1 k2 => exact ⟨a, vs, rfl, .of (S2.dh _ _ k1), p _ H1 D2 S2 (s1.trans s2) (drwEnum walkEnumL (fun D' env σ H s S => SqL.of (S.dh _ _ (s _ _ k1))) k2)⟩
      · rename_i xs e2 hp
        refine .inr ⟨D, env, S, ?_⟩
        rw [g]
        intro v H1 D1 S1 s1 r1
        obtain ⟨D2, S2, s2, r2⟩ := S1.pin r1 hp
        obtain ⟨a, vs, rfl, k1, k2⟩ := r2.tupS
        rw [← hK]
        exact ⟨a, vs, rfl, k1.same S2.dh, p _ H1 D2 S2 (s1.trans s2) (drwEnum walkEnumT (fun D' env σ H s S => (k1.same s).same S.dh) k2)⟩
      · exact p.elim
end
end L2.Dl

namespace L2.Dl
open PySem
open PySem.Spec
open PyProof.Rows
variable [KF]
/-- x is True -/
def gIsB : PyData → PyData → Option PyData
  | .bool a, .bool b => some (.bool (decide (a = b)))
  | _, _ => none
theorem lf_isB : Lf KF.frag (fun x y H Q => ∃ a b, x = .bl a ∧ y = .bl b ∧ Q (.bl (decide (a = b))) H) gIsB := by
  intro D H x y a b z Q s rx ry e q
  cases a <;> try (cases e; done)
  cases b <;> try (cases e; done)
  cases e
  exact ⟨_, _, rx.bl, ry.bl, q _ _ (.of (.bl _))⟩
theorem op_isBD {X : Cx} : OpR X (compareOp .Is) (fun x y H Q => ∃ a b, x = .bl a ∧ y = .bl b ∧ Q (.bl (decide (a = b))) H) := op_is_bl
end L2.Dl

namespace L2.Dl
open PySem
open PySem.Spec
open PyProof.Rows

section
variable {p : Pat} {t : DT} {d : DE} {it : DI} {env e e0 : Nv} {vs : List Nat} {b : PyData → Bool} {f : PyData → PyData} {fe : PyData → Nv}
theorem lcL_gen : ∀ (xs acc : List PyData), (∀ x ∈ xs, asgP p x e = some (fe x) ∧ t (fe x) = .ok (b x) (fe x) ∧ (b x = true → ∃ o, d (fe x) = .ok o (fe x) ∧ pinOV (fe x) o = some (f x, fe x)) ∧ wipeN (fe x) vs = e) → acc.length + xs.length ≤ lenB →
    lcL p t d vs xs acc e = .ok (acc ++ (xs.filter b).map f) e
  | [], acc, _, _ => by simp [lcL]
  | x :: r, acc, h, hl => by
    rw [List.length_cons] at hl
    obtain ⟨h1, h2, h3, h4⟩ := h x (List.mem_cons_self ..)
    unfold lcL
    simp only [h1, h2, Res.bx]
    cases hb : b x with
    | false =>
      simp only [Bool.false_eq_true, if_false, h4]
      rw [lcL_gen r acc (fun y hy => h y (List.mem_cons_of_mem _ hy)) (by omega), List.filter_cons_of_neg (by simp [hb])]
    | true =>
      obtain ⟨o, k2, k3⟩ := h3 hb
      simp only [if_true, k2, k3, show acc.length < lenB from by omega, h4]
      rw [lcL_gen r (acc ++ [f x]) (fun y hy => h y (List.mem_cons_of_mem _ hy)) (by rw [List.length_append, List.length_singleton]; omega), List.filter_cons_of_pos hb]
      simp
theorem lc_gen {xs : List PyData} (h : it env = .ok xs e0) (hp : vs.all (plainAt e0) = true) (he : wipeN e0 vs = e)
    (hx : ∀ x ∈ xs, asgP p x e = some (fe x) ∧ t (fe x) = .ok (b x) (fe x) ∧ (b x = true → ∃ o, d (fe x) = .ok o (fe x) ∧ pinOV (fe x) o = some (f x, fe x)) ∧ wipeN (fe x) vs = e) (hl : xs.length ≤ lenB) (hb : backN e0 e vs = e0) : dLc it p t d vs env = .ok ((xs.filter b).map f) e0 := by
  have := lcE (p := p) (t := t) (d := d) (vs := vs) h hp (by rw [he]; exact lcL_gen xs [] hx (by simpa using hl))
  rw [this, hb, List.nil_append]
end
end L2.Dl

namespace L2.Dl
open PySem
open PySem.Spec
open PyProof.Rows
variable [KF]
section
variable {X : Cx} {W : WX} {c : Cf} {pos : Pos} {tg iter elt : Expr} {ifs : List Expr} {scope : Scope} {own : List (Str × Nat)} {it : DI} {p : Pat} {t : DT} {d : DE}
theorem ds_setLcV {i : Nat} {y : Str} {py spos : Pos} (hc : X.calm = true) (hN : X.N.Nodup) (hy : X.N[i]? = some y) (hyl : X.env.scope.names.lookup y = some .local)
    (hsw : swapsWith (.ListComp elt [⟨tg, iter, ifs, 0⟩] scope pos) (some (.Name y py)) spos.line X.env = pure true) (hi : PI X tg iter (IOf W c it)) (ok : BlkOk X.N X.env.scope scope own) (hv : ∀ i ∈ p.slots, i ∈ own.map (·.2))
    (hg : ∀ (B : Hp) (s : Shared) (H : Hp) (C : Addr) (cl : List (Str × Addr)) (fp : List Addr), PG (X.blk s H scope (compEnvC scope cl C X.env) fp) tg (GOf (c.withB B) p))
    (ht : ∀ (B : Hp) (s : Shared) (H : Hp) (C : Addr) (cl : List (Str × Addr)) (fp : List Addr), PTs (X.blk s H scope (compEnvC scope cl C X.env) fp) ifs (TOf WF (c.withB B) t))
    (he : ∀ (B : Hp) (s : Shared) (H : Hp) (C : Addr) (cl : List (Str × Addr)) (fp : List Addr), PE (X.blk s H scope (compEnvC scope cl C X.env) fp) elt (EOf WF (c.withB B) d)) (hs : ∀ x, foldedSetIterable iter X.env x = pure x := by intro _; rfl) :
    PS X (.Assign [.Name y py] (.ListComp elt [⟨tg, iter, ifs, 0⟩] scope pos) spos) (SOf W c (dSet i (rE (dFz (dLc it p t d (own.map (·.2))))))) :=
  ds_setLc hc hN hy hyl hsw hi ok hv hg ht he false hs
theorem ds_setLcO {i : Nat} {y : Str} {py spos : Pos} (hc : X.calm = true) (hN : X.N.Nodup) (hy : X.N[i]? = some y) (hyl : X.env.scope.names.lookup y = some .local)
    (hsw : swapsWith (.ListComp elt [⟨tg, iter, ifs, 0⟩] scope pos) (some (.Name y py)) spos.line X.env = pure true) (hi : PI X tg iter (IOf W c it)) (ok : BlkOk X.N X.env.scope scope own) (hv : ∀ i ∈ p.slots, i ∈ own.map (·.2))
    (hg : ∀ (B : Hp) (s : Shared) (H : Hp) (C : Addr) (cl : List (Str × Addr)) (fp : List Addr), PG (X.blk s H scope (compEnvC scope cl C X.env) fp) tg (GOf (c.withB B) p))
    (ht : ∀ (B : Hp) (s : Shared) (H : Hp) (C : Addr) (cl : List (Str × Addr)) (fp : List Addr), PTs (X.blk s H scope (compEnvC scope cl C X.env) fp) ifs (TOf WF (c.withB B) t))
    (he : ∀ (B : Hp) (s : Shared) (H : Hp) (C : Addr) (cl : List (Str × Addr)) (fp : List Addr), PE (X.blk s H scope (compEnvC scope cl C X.env) fp) elt (EOf WF (c.withB B) d)) (hs : ∀ x, foldedSetIterable iter X.env x = pure x := by intro _; rfl) :
    PS X (.Assign [.Name y py] (.ListComp elt [⟨tg, iter, ifs, 0⟩] scope pos) spos) (SOf W c (dSet i (rL (dLc it p t d (own.map (·.2)))))) :=
  ds_setLc hc hN hy hyl hsw hi ok hv hg ht he true hs
end
end L2.Dl

namespace L2.Dl
open PySem
open PySem.Spec
open PyProof.Rows

section
variable {X : Cx} {e : Expr} {es : List Expr} {ta : TA} {p1 p2 pos : Pos} {x : Str} {B : Addr}
/-- Base.__init__(self, ..), Base a class of the program that has ValueError's -/
theorem pe_ginit {pl : Sem Bool} (hg : Gl X x) (hm : X.mg x = some (.ref B)) (hdb : (x == ("__debug__" : Str)) = false)
    (g1 : PySem.W.specialIn X.K (.ref B) "__getattribute__" = some (some (.builtin "type.__getattribute__"))) (tB : PySem.W.typeIn X.K (.ref B) = some (.type "type")) (rB : PySem.W.readsIn X.K B (.type "type") = true)
    (vB : PySem.W.findCls X.K (.ref B) (.type "type") "__init__" = some (.val (.builtin "ValueError.__init__"))) (ha : PA X (e :: es) ta)
    (hc : eval (.Call (.Attribute (.Name x p1) "__init__" p2) (e :: es) [] pos) X.env = (do
      let ov ← eval (.Name x p1) X.env
      standAt p2.atName
      let (f, first) ← holding [ov] (getMethod ov "__init__" pl)
      callWith pos f first (backTo pos (starEach (e :: es) X.env)) (backToKw pos (keywordEach [] X.env))) := by rfl)
    (he : starEach (e :: es) X.env = (false, eval e X.env) :: starEach es X.env := by rfl) (hpl : (backTo pos (starEach es X.env)).any (·.1) = false := by rfl) :
    PE X (.Call (.Attribute (.Name x p1) "__init__" p2) (e :: es) [] pos) (tVeI X.K ta) := by
  refine ⟨fun pins s σ H Q I h => ?_⟩
  refine PySem.W.methodCall_KW (ld_glob I hg hm ?_ hdb) hc
  obtain ⟨m, fr⟩ := I.fr
  refine PySem.W.method_of_cls fr I.ok.mod.kin g1 (PySem.W.cls_val fr I.ok.mod.kin tB rB vB (by decide +kernel) ?_)
  show wpAny _ _ (callWith pos (Value.builtin "ValueError.__init__") [] (backTo pos (starEach (e :: es) X.env)) []) _ _ _
  refine PyProof.Rows.callWith_method1 (thn (ha.run pos pins _ σ H _ (I.tok _) h) fun us s1 ⟨vs, H1, I1, r1, a, C, ws, ev, hl, T, ea, q⟩ => ?_) he hpl
  subst ev
  cases r1 with
  | @cons _ u0 _ ur ra rw' =>
    obtain rfl : u0 = Value.ref a := ra
    have hlen : ur.length ≤ sizeLine := by
      rw [← Paired.length rw', sizeLine_eq]
      omega
    exact oinit_ok T I1 ea hlen fun s' J => ⟨.non, H1, J, rfl, q⟩
end
/-- what such an __init__ does: fields fs, in their order -/
def spInit (C : Addr) (fs : List Str) : Sp := fun vs H Q _ => ∃ (a : Addr) (ys : List V), vs = .ref a :: ys ∧ ys.length = fs.length ∧ H a = some (exo a C none) ∧
  ∀ dx H', H dx = none → dx ≠ a → H' a = some (exo a C (some dx)) → H' dx = some (exd dx (fs.zip ys).reverse) → (∀ b, b ≠ a → b ≠ dx → H' b = H b) → Q .non H'
def clsBody (s : Stmt) : List Stmt := match s with
  | .ClassDef _ _ _ b _ _ _ _ _ _ _ => b
  | _ => []
def clsInit (s : Stmt) : Stmt := (clsBody s).getD 0 (.Pass ⟨0, 0, 0, 0⟩)
section
variable {P : Program} {w : World} {K : PySem.W.Frag} {mg : Str → Option Value} {base : Heap} {C B fI : Addr} {q b f g : Str} {st : Stmt} {fd : FuncData} {m : Str}
/-- a field -/
theorem ok_init1 {st1 st2 : Stmt} (F : Fun K "__init__" q st fI fd) (S : FnScope ["self", f] ["self", f] (defScope st)) (hb : defBody st = [st1, st2]) (T : OexC K C) (hno : PySem.W.findIn K (.ref C) f = some none)
    (h1 : ∀ (cdv : Value) (A : Around) (outer : List Env) (s : Shared) (H : Hp) (E : XK), PS (cxOf (L2.CX P w) P w K mg base ["self", f] q (defScope st) fI cdv A outer s H E) st1 (tDrop (tVeI K (tCons (tVar 0) (tCons (tC (.str m)) tNil)))))
    (h2 : ∀ (cdv : Value) (A : Around) (outer : List Env) (s : Shared) (H : Hp) (E : XK), PS (cxOf (L2.CX P w) P w K mg base ["self", f] q (defScope st) fI cdv A outer s H E) st2 (tOst K f (tVar 0) (tVar 1))) : FnOk P w K mg base (L2.CX P w) 1 fI fd ["self", f] (spInit C [f]) := by
  refine F.okX S (fun vs H Q E ⟨a, ys, e, l, _⟩ => by rw [e, List.length_cons, l] <;> rfl) fun cdv A outer s H vs Q E hr h => ?_
  obtain ⟨a, ys, rfl, hl, ha, h⟩ := h
  obtain ⟨y, rfl⟩ : ∃ y, ys = [y] := by
    match ys, hl with
    | [y], _ => exact ⟨y, rfl⟩
  rw [hb]
  refine ⟨_, pss_cons (h1 cdv A outer s H E) (pss_one (h2 cdv A outer s H E)), ?_⟩
  refine ⟨.ref a, rfl, a, C, [.str m], rfl, (show 1 ≤ 1000 by decide), T, ha, ?_⟩
  refine ⟨y, rfl, .ref a, rfl, a, C, rfl, T, hno, .inl ⟨ha, fun dx n ne => ?_⟩⟩
  exact h dx _ n ne upd_same (by rw [upd_ne ne, upd_same] <;> rfl) fun c h1 h2 => by rw [upd_ne h1, upd_ne h2]
/-- two fields -/
theorem ok_init2 {st1 st2 st3 : Stmt} (F : Fun K "__init__" q st fI fd) (S : FnScope ["self", f, g] ["self", f, g] (defScope st)) (hb : defBody st = [st1, st2, st3]) (T : OexC K C) (hno : PySem.W.findIn K (.ref C) f = some none) (hno2 : PySem.W.findIn K (.ref C) g = some none)
    (h1 : ∀ (cdv : Value) (A : Around) (outer : List Env) (s : Shared) (H : Hp) (E : XK), PS (cxOf (L2.CX P w) P w K mg base ["self", f, g] q (defScope st) fI cdv A outer s H E) st1 (tDrop (tVeI K (tCons (tVar 0) (tCons (tC (.str m)) tNil)))))
    (h2 : ∀ (cdv : Value) (A : Around) (outer : List Env) (s : Shared) (H : Hp) (E : XK), PS (cxOf (L2.CX P w) P w K mg base ["self", f, g] q (defScope st) fI cdv A outer s H E) st2 (tOst K f (tVar 0) (tVar 1)))
    (h3 : ∀ (cdv : Value) (A : Around) (outer : List Env) (s : Shared) (H : Hp) (E : XK), PS (cxOf (L2.CX P w) P w K mg base ["self", f, g] q (defScope st) fI cdv A outer s H E) st3 (tOst K g (tVar 0) (tVar 2))) : FnOk P w K mg base (L2.CX P w) 1 fI fd ["self", f, g] (spInit C [f, g]) := by
  refine F.okX S (fun vs H Q E ⟨a, ys, e, l, _⟩ => by rw [e, List.length_cons, l] <;> rfl) fun cdv A outer s H vs Q E hr h => ?_
  obtain ⟨a, ys, rfl, hl, ha, h⟩ := h
  obtain ⟨y, z, rfl⟩ : ∃ y z, ys = [y, z] := by
    match ys, hl with
    | [y, z], _ => exact ⟨y, z, rfl⟩
  rw [hb]
  refine ⟨_, pss_cons (h1 cdv A outer s H E) (pss_cons (h2 cdv A outer s H E) (pss_one (h3 cdv A outer s H E))), ?_⟩
  refine ⟨.ref a, rfl, a, C, [.str m], rfl, (show 1 ≤ 1000 by decide), T, ha, ?_⟩
  refine ⟨y, rfl, .ref a, rfl, a, C, rfl, T, hno, .inl ⟨ha, fun dx n ne => ?_⟩⟩
  refine ⟨z, rfl, .ref a, rfl, a, C, rfl, T, hno2, .inr ⟨dx, [(f, y)], upd_same, by rw [upd_ne ne, upd_same], (show 1 ≤ 900 by decide), ?_⟩⟩
  exact h dx _ n ne (by rw [upd_ne (Ne.symm ne), upd_same]) (by rw [upd_same] <;> rfl) fun c h1 h2 => by rw [upd_ne h2, upd_ne h1, upd_ne h2]
end
section
variable [KF]
/-- raise C(x, ..): the fields fns -/
def raiseOf (cls : Str) (fns : List Str) (os : List OV) (e : Nv) : SRes := match pinAll os e with
  | some (xs, e') => if xs.length = fns.length ∧ fns.length ≤ 1000 then .exc ⟨cls, (fns.zip xs).reverse⟩ e' else .stuck
  | none => .stuck
def dRaise (cls : Str) (fns : List Str) (r : Nv → Res (List OV)) : DS := fun env => (r env).bs (raiseOf cls fns)
theorem PostA.bs {W : WX} {c : Cf} {D : Hp} {σ : St} {De : Ends} {r : Res (List OV)} {k : List OV → Nv → SRes} (h : PostS W c D De (r.bs k)) :
    PostA W c D σ (fun vs H => ∃ D' env os, Sim c D' env σ H ∧ Same D D' ∧ OVRL c D' σ vs os ∧ r = .ok os env ∧ PostS W c D' De (k os env)) r := by
  cases r with
  | ok o e => exact fun v H' D' S s q => ⟨D', e, o, S, s, q, rfl, PostS.mono h s⟩
  | exc x e => exact h σ
  | stuck => exact h
theorem paired_snoc {α β : Type} {R : α → β → Prop} {x : α} {y : β} (h : R x y) : ∀ {xs : List α} {ys : List β}, Paired R xs ys → Paired R (xs ++ [x]) (ys ++ [y])
  | _, _, .nil => .cons h .nil
  | _, _, .cons a r => .cons a (paired_snoc h r)
theorem paired_rev {α β : Type} {R : α → β → Prop} : ∀ {xs : List α} {ys : List β}, Paired R xs ys → Paired R xs.reverse ys.reverse
  | _, _, .nil => .nil
  | _, _, .cons a r => by
    rw [List.reverse_cons, List.reverse_cons]
    exact paired_snoc a (paired_rev r)
theorem paired_zip {D : Hp} : ∀ {fns : List Str} {vs : List V} {xs : List PyData}, RpL D vs xs → xs.length = fns.length → Paired (fun (p : Str × V) (q : Str × PyData) => p.1 = q.1 ∧ Rp D p.2 q.2) (fns.zip vs) (fns.zip xs)
  | [], _, _, .nil, _ => .nil
  | f :: fns, _, _, .cons h r, l => .cons ⟨rfl, h⟩ (paired_zip r (by simpa using l))
  | [], _, _, .cons _ _, l => by simp at l
  | _ :: _, _, _, .nil, l => by simp at l
theorem raise_core {W : WX} {c : Cf} {C : Addr} {cls : Str} {fns : List Str} {r : Nv → Res (List OV)} {De : Ends} {σ : St} {H : Hp} (hm : c.mg cls = some (.ref C)) (h : SOf W c (dRaise cls fns r) De σ H) :
    tMkO C (spInit C fns) [] (AOf W c r) σ H fun k d H' => W k d σ H' := by
  obtain ⟨D, env, S, p⟩ := h
  refine ⟨D, env, S, ?_⟩
  have p1 := PostA.bs (σ := σ) p
  revert p1
  cases r env with
  | stuck => exact fun z => z
  | exc y e => exact fun z => z
  | ok o1 e1 =>
    intro p1 vs H1 D1 S1 s1 r1
    obtain ⟨D2, env2, os, S2, s2, r2, e, p2⟩ := p1 vs H1 D1 S1 s1 r1
    cases e
    have p2 : PostS W c D2 De (raiseOf cls fns o1 e1) := p2
    unfold raiseOf at p2
    split at p2
    · rename_i xs e3 hp
      split at p2
      · rename_i hl
        obtain ⟨D3, S3, s3, r3⟩ := S2.pinAll r2 hp
        have lv : vs.length = fns.length := by rw [r3.length, hl.1]
        refine ⟨by rw [lv]; exact hl.2, fun a ha => ⟨a, vs, by rw [List.append_nil], lv, upd_same, fun dx H' hdx ne e1' e2 e3' => ?_⟩⟩
        have hd1 : H1 dx = none := by rw [upd_ne ne] at hdx; exact hdx
        refine ⟨rfl, dx, _, e1', e2, hd1, ?_⟩
        have eh : upd (del H' a) dx (.xd (fns.zip vs).reverse) = upd H1 dx (.xd (fns.zip vs).reverse) := by
          funext b
          by_cases h1 : b = dx
          · subst h1; rw [upd_same, upd_same]
          · rw [upd_ne h1, upd_ne h1]
            by_cases h2 : b = a
            · subst h2; rw [del_same, ha]
            · rw [del_ne h2, e3' b h2 h1, upd_ne h2]
        rw [eh]
        exact p2 σ _ _ _ D3 (S3.grow hd1 _) s3 ⟨C, rfl, hm, _, upd_same, paired_rev (paired_zip r3 hl.1)⟩
      · exact p2.elim
    · exact p2.elim
/-- raise C(x, ..) -/
theorem ds_raise {m : Bool} {X : Cx} {W : WX} {c : Cf} {C fI : Addr} {fd : FuncData} {k : Nat} {x : Str} {fns ps : List Str} {e : Expr} {es : List Expr} {r : Nv → Res (List OV)} {p pos pos' : Pos} (hc : X.calm = true) (tk : Tk m X W) (hcm : c.mg = X.mg) (T : OexC X.K C) (iC : PySem.W.findIn X.K (.ref C) "__init__" = some (some (.ref fI))) (tI : PySem.W.typeIn X.K (.ref fI) = some (.type "function"))
    (F1 : FnOk X.prog X.w X.K X.mg X.base (L2.CX X.prog X.w) k fI fd ps (spInit C fns)) (hr : Room (k + 1) X.A) (hb : Binds X.K fd ps []) (hg : Gl X x) (hm : X.mg x = some (.ref C)) (ha : PA X (e :: es) (AOf W c r))
    (hdb : (x == ("__debug__" : Str)) = false := by decide) (he : starEach (e :: es) X.env = (false, eval e X.env) :: starEach es X.env := by rfl) (hpl : (backTo pos (starEach es X.env)).any (·.1) = false := by rfl) :
    PS X (.Raise (some (.Call (.Name x p) (e :: es) [] pos)) none pos') (SOf W c (dRaise x fns r)) :=
  match m, tk with
  | true, tk => (L2N.ps_raise hc tk (pmk_oexN T iC tI F1 hr hb (passes_call (W := WF) (fun _ _ ⟨_, _, _, _, _, _, _, _, _, _, _, _, _, _, _, _, w⟩ => w.elim) fun _ _ _ _ z => z) hg hm ha hdb he hpl).pmk).weak fun De σ H h => raise_core (by rw [hcm]; exact hm) h
  | false, tk => (ps_raise hc tk (pmk_oex T iC tI F1 hr hb .nil (passes_call (W := WF) (fun _ _ ⟨_, _, _, _, _, _, _, _, _, _, _, _, _, _, _, _, w⟩ => w.elim) fun _ _ _ _ z => z) hg hm ha hdb he hpl)).weak fun De σ H h => raise_core (by rw [hcm]; exact hm) h
end
end L2.Dl

namespace L2.Dl
open PySem
open PySem.Spec
open PyProof.Rows
variable [KF]

/-- what the clause says of an exception's class, by its name: caught, or not -/
def Caught (K : PySem.W.Frag) (mg : Str → Option Value) (hc : Value) (ca : Str → Option Bool) : Prop := ∀ n k C, ca n = some k → mg n = some (.ref C) → PySem.W.exmOne K (.ref C) hc = some k
def tryOf (ca : Str → Option Bool) (s u : DS) (r : SRes) : SRes := match r with
  | .exc x e => match ca x.cls with
    | some true => s e
    | some false => .exc x e
    | none => .stuck
  | .nx e => u e
  | r => r
def dTry (ca : Str → Option Bool) (b s u : DS) : DS := fun env => tryOf ca s u (b env)
section
variable {X : Cx} {W : WX} {c : Cf} {D : Hp} {De : Ends} {ca : Str → Option Bool} {b s u : DS} {hcv : Value} {x : Str} {body suite orelse : List Stmt} {b₀ : Stmt} {np pos pos' : Pos}
theorem try_core {σ : St} {H : Hp} (hmg : c.mg = X.mg) (hca : Caught X.K X.mg hcv ca) (h : SOf W c (dTry ca b s u) De σ H) :
    SOf (wOnly X.K hcv (fun _ _ _ => SOf W c s) W De) c b { De with nx := SOf W c u De } σ H := by
  obtain ⟨D, env, S, p⟩ := h
  refine ⟨D, env, S, ?_⟩
  have p : PostS W c D De (tryOf ca s u (b env)) := p
  revert p
  cases b env with
  | stuck => exact fun z => z
  | nx e => exact fun p σ' H' D' S' s' => ⟨D', e, S', PostS.mono p s'⟩
  | rt y e => exact fun z => z
  | rtD y e => exact fun z => z
  | bk e => exact fun z => z
  | ct e => exact fun z => z
  | exc y e =>
    intro p σ' cls d H' D' S' s' r
    obtain ⟨C, rfl, hC, hd⟩ := id r
    rw [hmg] at hC
    have p : PostS W c D De (match ca y.cls with | some true => s e | some false => .exc y e | none => .stuck) := p
    cases hk : ca y.cls with
    | none => rw [hk] at p; exact p.elim
    | some k =>
      rw [hk] at p
      refine ⟨k, hca _ _ _ hk hC, fun ht a _ => ?_, fun hf => ?_⟩
      · subst ht
        exact ⟨D', e, S', PostS.mono p s'⟩
      · subst hf
        exact p σ' _ _ H' D' S' s' r
theorem ds_try (hs : X.stack = X.env :: X.outer) (hf : X.env.frame = some X.env.locals) (hN : Names X x hcv) (tk : Tk false X W) (hmg : c.mg = X.mg) (hca : Caught X.K X.mg hcv ca)
    (hb : ∀ (V : WX) (pn : List (Addr × Obj)) (xe : Value → Shared → Prop), Tk false (X.tr pn xe) V → PassesOwn (model X.prog X.w) X.A X.env xe → PSs (X.tr pn xe) body (SOf V c b))
    (hsu : ∀ (a : Addr) (oe : Obj) (cls : Value) (d : Option Addr) (pn : List (Addr × Obj)), Zc cls d oe → (∃ vs, oe.data = .fields vs) → PSs (X.suite a ((a, oe) :: pn)) (b₀ :: suite) (SOf W c s)) :
    PS X (.Try body [.ExceptHandler (some (.Name x np)) none (b₀ :: suite) pos'] [] [] pos) (SOf W c (dTry ca b s dNext)) :=
  (ps_try_only (c := hcv) (tb := fun V => SOf V c b) (ts := fun _ _ _ => SOf W c s) hs hf hN tk hb hsu).weak fun De σ H h => by
    obtain ⟨D, env, S, p⟩ := try_core (X := X) hmg hca h
    refine ⟨D, env, S, ?_⟩
    revert p
    cases b env with
    | nx e =>
      intro p σ1 H1 D1 S1 s1
      obtain ⟨D2, e2, S2, p2⟩ := p σ1 H1 D1 S1 s1
      exact p2 σ1 H1 D2 S2 (Same.refl _)
    | stuck => exact fun z => z
    | rt y e => exact fun z => z
    | rtD y e => exact fun z => z
    | bk e => exact fun z => z
    | ct e => exact fun z => z
    | exc y e => exact fun z => z
theorem ds_tryE (ho : PSs X orelse (SOf W c u)) (hs : X.stack = X.env :: X.outer) (hf : X.env.frame = some X.env.locals) (hN : Names X x hcv) (tk : Tk false X W) (hmg : c.mg = X.mg) (hca : Caught X.K X.mg hcv ca)
    (hb : ∀ (V : WX) (pn : List (Addr × Obj)) (xe : Value → Shared → Prop), Tk false (X.tr pn xe) V → PassesOwn (model X.prog X.w) X.A X.env xe → PSs (X.tr pn xe) body (SOf V c b))
    (hsu : ∀ (a : Addr) (oe : Obj) (cls : Value) (d : Option Addr) (pn : List (Addr × Obj)), Zc cls d oe → (∃ vs, oe.data = .fields vs) → PSs (X.suite a ((a, oe) :: pn)) (b₀ :: suite) (SOf W c s)) :
    PS X (.Try body [.ExceptHandler (some (.Name x np)) none (b₀ :: suite) pos'] orelse [] pos) (SOf W c (dTry ca b s u)) :=
  (ps_try_onlyE (c := hcv) (tb := fun V => SOf V c b) (ts := fun _ _ _ => SOf W c s) ho hs hf hN tk hb hsu).weak fun De σ H h => try_core hmg hca h
end
end L2.Dl

namespace L2.Dl
open PySem
open PySem.Spec
open PyProof.Rows
variable [KF]

structure XD (P : Program) (w : World) (mg : Str → Option Value) (base : Heap) (x : Str) (fns : List Str) (C fI : Addr) (fd : FuncData) : Prop where
  gm : mg x = some (.ref C)
  T : OexC KF.frag C
  iC : PySem.W.findIn KF.frag (.ref C) "__init__" = some (some (.ref fI))
  tI : PySem.W.typeIn KF.frag (.ref fI) = some (.type "function")
  F : FnOk P w KF.frag mg base (L2.CX P w) 1 fI fd ("self" :: fns) (spInit C fns)
  bd : Binds KF.frag fd ("self" :: fns) []
theorem oex_mk {K : PySem.W.Frag} {C N : Addr} {nm q : Str} {bs bm : List Value} {sn : List Str} {sub : List Value} {ab : Bool} {col : Option Bool} {dd : Option Addr} {k0 k1 k2 k3 k5 : Option Value}
    (e2 : K.lookup C = some (excClassObj nm q C N bs bm true sn sub ab col dd k0 k1 k2 k3 k5 "ValueError.__new__")) (e3 : PySem.HandSPX.refsVE bm = true) (e4 : PySem.W.findIn K (.ref C) "__setattr__" = some (some (.builtin "object.__setattr__")))
    (e5 : PySem.W.subIn K (.ref C) (.type "BaseException") = some true) (e6 : PySem.W.typeIn K (.ref C) = some (.type "type")) (e7 : PySem.W.keepIn K (.ref C) = true) : OexC K C := ⟨⟨nm, q, N, bs, bm, sn, sub, ab, col, dd, k0, k1, k2, k3, k5, e2, e3⟩, e4, e5, e6, e7⟩
theorem ds_raiseX {m : Bool} {X : Cx} {W : WX} {c : Cf} {C fI : Addr} {fd : FuncData} {x : Str} {fns : List Str} {e : Expr} {es : List Expr} {r : Nv → Res (List OV)} {p pos pos' : Pos} (x1 : XD X.prog X.w X.mg X.base x fns C fI fd) (hc : X.calm = true) (tk : Tk m X W) (hcm : c.mg = X.mg) (hK : X.K = KF.frag) (hr : Room 2 X.A) (hg : Gl X x)
    (ha : PA X (e :: es) (AOf W c r)) (hdb : (x == ("__debug__" : Str)) = false := by decide) (he : starEach (e :: es) X.env = (false, eval e X.env) :: starEach es X.env := by rfl) (hpl : (backTo pos (starEach es X.env)).any (·.1) = false := by rfl) :
    PS X (.Raise (some (.Call (.Name x p) (e :: es) [] pos)) none pos') (SOf W c (dRaise x fns r)) :=
  ds_raise hc tk hcm (hK ▸ x1.T) (hK ▸ x1.iC) (hK ▸ x1.tI) (hK ▸ x1.F) hr (hK ▸ x1.bd) hg x1.gm ha hdb he hpl
theorem caught_of {K : PySem.W.Frag} {mg : Str → Option Value} {hc : Value} : ∀ {l : List (Str × Bool)}, (∀ p ∈ l, ∃ C, mg p.1 = some (.ref C) ∧ PySem.W.exmOne K (.ref C) hc = some p.2) → Caught K mg hc (fun n => l.lookup n)
  | [], _ => fun n k C h _ => nomatch h
  | (m, b) :: l, hl => fun n k C h hm => by
    have h : (if (n == m) = true then some b else l.lookup n) = some k := by
      simp only [List.lookup] at h
      split at h
      · rename_i e; rw [if_pos e]; exact h
      · rename_i e; rw [if_neg (by rw [e]; decide)]; exact h
    by_cases e : (n == m) = true
    · rw [if_pos e] at h
      cases h
      obtain ⟨C', h1, h2⟩ := hl _ (List.mem_cons_self ..)
      rw [beq_iff_eq.mp e] at hm
      rw [h1] at hm
      cases hm
      exact h2
    · rw [if_neg e] at h
      exact caught_of (l := l) (fun p hp => hl p (List.mem_cons_of_mem _ hp)) n k C h hm
theorem de_ifE2 {X : Cx} {W : WX} {c : Cf} {a e1 e2 : Expr} {pos : Pos} {t : DT} {da db : DE} (hc : PT X a (TOf W c t)) (ha : PE X e1 (EOf W c da)) (hb : PE X e2 (EOf W c db)) : PE X (.IfExp a e1 e2 pos) (EOf W c (dIfE t da db)) := de_ifE hc ha hb
end L2.Dl

namespace L2.Dl
open PySem
open PySem.Spec
open PyProof.Rows
variable [KF]

def dCallL (i : Nat) (tb : Str → Option (Nat × Fn)) (r : Nv → Res (List OV)) : DE := fun env => match env[i]? with
  | some (.gl n) => (match tb n with
    | some (k, fn) => dCall k fn [] r env
    | none => .stuck)
  | _ => .stuck
theorem de_callL {m : Bool} {X : Cx} {W : WX} {c : Cf} {i : Nat} {x : Str} {p pos : Pos} {e : Expr} {es : List Expr} {r : Nv → Res (List OV)} {tb : Str → Option (Nat × Fn)} (tk : Tk m X W) (hmg : c.mg = X.mg) (hN : X.N[i]? = some x) (hv : Vis X.env.scope x)
    (htb : ∀ n k fn, tb n = some (k, fn) → ∃ lv f fd ps, FnD m X.prog X.w X.K X.mg X.base lv f fd ps (fnSp X.mg k fn) ∧ GRoom lv X.A ∧ X.mg n = some (.ref f) ∧ PySem.W.keepIn X.K (.ref f) = true ∧ Binds X.K fd ps [])
    (ha : PA X (e :: es) (AOf W c r)) (hd : (x == ("__debug__" : Str)) = false := by decide) (hcd : (x == ("__classdict__" : Str)) = false := by decide) (he : starEach (e :: es) X.env = (false, eval e X.env) :: starEach es X.env := by rfl) (hpl : (backTo pos (starEach es X.env)).any (·.1) = false := by rfl) :
    PE X (.Call (.Name x p) (e :: es) [] pos) (EOf W c (dCallL i tb r)) := by
  refine ⟨fun pins s σ H Q I h => ?_⟩
  obtain ⟨D, env, S, q⟩ := h
  have q : PostE W c D σ Q (match env[i]? with | some (.gl n) => (match tb n with | some (k, fn) => dCall k fn [] r env | none => .stuck) | _ => .stuck) := q
  split at q
  · rename_i n hn
    obtain ⟨f, e1, e2⟩ := S.slot i _ hn
    rw [hmg] at e2
    refine wpAny_Call_Name_kw (thn ((pe_var hN hv hd hcd).run pins s σ H (fun v H' => v = .ref f ∧ H' = H) I ⟨.ref f, join_some e1, rfl, rfl⟩) fun u s1 hh => ?_)
    obtain ⟨v, H1, I1, rv, ev, eH⟩ := hh
    subst ev eH
    obtain rfl : u = Value.ref f := rv
    cases ht : tb n with
    | none => rw [ht] at q; exact q.elim
    | some kf =>
      obtain ⟨k, fn⟩ := kf
      rw [ht] at q
      obtain ⟨lv, f2, fd, ps, F, hr, hm, hk, hb⟩ := htb n k fn ht
      rw [hm] at e2
      cases e2
      have hc : EOf W c (dCall k fn [] r) σ H1 Q := ⟨D, env, S, q⟩
      have h2 := call_core (X := X) (dvs := []) (ods := []) hmg dfr_nil hc
      refine PySem.W.callWith_K (h₀ := X.base) I1.ok.mod.kin hk (thn (ha.run pos pins s1 σ H1 _ I1 h2) fun us s2 ⟨vs, H2, I2, r2, q2⟩ => ⟨I2.kIn, ?_⟩) he hpl
      have q2 : fnSp X.mg k fn (vs ++ []) H2 Q (WE W σ) := q2
      rw [List.append_nil] at q2
      have hl : (us ++ []).length = ps.length := by rw [List.append_nil, ← r2.length]; exact F.len _ _ _ _ q2
      have b := hb _ us I2.kIn hl
      rw [List.append_nil] at b
      exact run_fnF F hr tk I2 b r2 q2
  · exact q.elim
end L2.Dl

namespace L2.Dl
open PySem
open PySem.Spec
open PyProof.Rows
variable [KF]
def TbOk (m : Bool) (X : Cx) (n : Str) (k : Nat) (fn : Fn) : Prop := ∃ lv f fd ps, FnD m X.prog X.w X.K X.mg X.base lv f fd ps (fnSp X.mg k fn) ∧ GRoom lv X.A ∧ X.mg n = some (.ref f) ∧ PySem.W.keepIn X.K (.ref f) = true ∧ Binds X.K fd ps []
theorem tb_nil {m : Bool} {X : Cx} : ∀ n k fn, (([] : List (Str × (Nat × Fn))).lookup n) = some (k, fn) → TbOk m X n k fn := fun n k fn h => nomatch h
theorem tb_cons {m : Bool} {X : Cx} {y0 : Str} {k0 : Nat} {f0 : Fn} {l : List (Str × (Nat × Fn))} (h0 : TbOk m X y0 k0 f0) (h : ∀ n k fn, (l.lookup n) = some (k, fn) → TbOk m X n k fn) : ∀ n k fn, (((y0, (k0, f0)) :: l).lookup n) = some (k, fn) → TbOk m X n k fn := fun n k fn e => by
  simp only [List.lookup] at e
  split at e
  · rename_i q
    cases e
    rw [beq_iff_eq.mp q]
    exact h0
  · exact h n k fn e
theorem tb_ok {m : Bool} {X : Cx} {lv : Nat} {x : Str} {st : Stmt} {ps : List Str} {fn : Fn} {a : Addr} {fd : FuncData} (c : CD m X.prog X.w X.mg X.base lv x st ps fn a fd) (hK : X.K = KF.frag) (hr : GRoom lv X.A)
    (h : ∀ (kV doc pm : Value) (an : Option Addr) (cdv ct : Value) (us : List Value), us.length = ps.length → bindArgs (PySem.W.fnOf x x (defArgs st) (defBody st) (defScope st) .none kV doc pm an cdv ct) ⟨us, []⟩ = pure (ps.zip us)) : TbOk m X x ps.length fn :=
  ⟨lv, a, fd, ps, hK ▸ c.fn, hr, c.gm, hK ▸ c.kp, hK ▸ c.pb h⟩
end L2.Dl

namespace HT
open PySem
open PySem.Spec
open PyProof.Rows
open L2
section
variable {prog : Program} {w : World} {A : Around} {E : Value → Shared → Prop} {s : Shared}
theorem sliceApplied_rev {sl : Addr} {vl vu vs : Value} {n : Nat} {Q : Int × Int × Nat → Shared → Prop} (hs : s.heap.IsSliceOf sl vl vu vs) (pl : IsPart vl none) (pu : IsPart vu none) (ps : IsPart vs (some (-1)))
    (h : Q ((n : Int) - 1, -1, n) s) : wpAny (model prog w) A (Builtin.Slice.sliceApplied (.ref sl) (pure (n : Int))) Q E s := by
  obtain ⟨os, hos, hcs, hds⟩ := id hs
  unfold Builtin.Slice.sliceApplied Builtin.Slice.sliceFields
  refine wpAny_bind (wpAny_bind (wpAny_field hos hds (x := vl) rfl (wpAny_bind (wpAny_field hos hds (x := vu) rfl (wpAny_bind (wpAny_field hos hds (x := vs) rfl (wpAny_pure ?_)))))))
  refine wpAny_bind (slicePart_ ps ?_)
  show wpAny _ _ (if ((-1 : Int) == 0) = true then _ else _) _ _ s
  rw [if_neg (by decide)]
  refine wpAny_bind (slicePart_ pl (wpAny_bind (slicePart_ pu (wpAny_bind (wpAny_pure ?_)))))
  have e : Builtin.Slice.sliceAdjust none none (-1) (n : Int) = ((n : Int) - 1, -1) := rfl
  have e2 : Builtin.Slice.slicePlaces ((n : Int) - 1) (-1) (-1) = n := by
    unfold Builtin.Slice.slicePlaces
    rw [if_neg (by decide)]
    by_cases h0 : (n : Int) - 1 > -1
    · rw [if_pos h0]
      simp only [Int.neg_neg, Int.ediv_one]
      omega
    · rw [if_neg h0]
      omega
  show wpAny _ _ (match Builtin.Slice.sliceAdjust none none (-1) (n : Int) with | (lo, hi) => pure (lo, (-1 : Int), Builtin.Slice.slicePlaces lo hi (-1))) _ _ s
  rw [e]
  show wpAny _ _ (pure ((n : Int) - 1, (-1 : Int), Builtin.Slice.slicePlaces ((n : Int) - 1) (-1) (-1))) _ _ s
  rw [e2]
  exact wpAny_pure h
theorem pick_rev (xs : Array Value) : ((List.range xs.size).filterMap fun (m : Nat) => xs[(((xs.size : Int) - 1) + (m : Int) * -1).toNat]?).toArray = xs.toList.reverse.toArray := by
  have e : ∀ (l : List Value), ((List.range l.length).filterMap fun (m : Nat) => l[(((l.length : Int) - 1) + (m : Int) * -1).toNat]?) = l.reverse := fun l => by
    have h1 : ((List.range l.length).filterMap fun (m : Nat) => l[(((l.length : Int) - 1) + (m : Int) * -1).toNat]?) = (List.range l.length).filterMap fun m => l.reverse[m]? := by
      have gen : ∀ (r : List Nat) (f g : Nat → Option Value), (∀ m ∈ r, f m = g m) → r.filterMap f = r.filterMap g := fun r f g hr => by
        induction r with
        | nil => rfl
        | cons x r ih =>
          rw [List.filterMap_cons, List.filterMap_cons, hr x (List.mem_cons_self ..), ih fun m hm => hr m (List.mem_cons_of_mem _ hm)]
      refine gen _ _ _ fun m hm => ?_
      have hm := List.mem_range.mp hm
      rw [List.getElem?_reverse hm]
      congr 1
      omega
    rw [h1]
    have h2 : ∀ (r : List Value), (List.range r.length).filterMap (fun m => r[m]?) = r := fun r => by
      have : (List.range r.length).filterMap (fun m => r[m]?) = ((List.range r.length).map (fun m => r[m]?)).filterMap id := by rw [List.filterMap_map]; rfl
      rw [this]
      have h3 : (List.range r.length).map (fun m => r[m]?) = r.map some := by
        apply List.ext_getElem
        · simp
        · intro i h1 h2
          simp at h1 h2
          simp [h1]
      rw [h3, List.filterMap_map]
      simp
    have := h2 l.reverse
    rw [List.length_reverse] at this
    exact this
  have := e xs.toList
  rw [Array.length_toList] at this
  have e3 : (fun (m : Nat) => xs[(((xs.size : Int) - 1) + (m : Int) * -1).toNat]?) = fun (m : Nat) => xs.toList[(((xs.size : Int) - 1) + (m : Int) * -1).toNat]? := by
    funext m
    simp
  rw [e3, this]
theorem getItem_tuple_rev {t sl : Addr} {items : Array Value} {vl vu vs : Value} {Q : Value → Shared → Prop} (ht : IsTup s.heap t items) (hs : s.heap.IsSliceOf sl vl vu vs) (pl : IsPart vl none) (pu : IsPart vu none) (ps : IsPart vs (some (-1)))
    (h : Q (.ref s.heap.objs.size) { s with heap := s.heap.push { cls := .type "tuple", data := .seq items.toList.reverse.toArray } })
    (hsz : items.size ≤ sizeLine) : wpAny (model prog w) A (getItem (.ref t) (.ref sl)) Q E s := by
  have htake : sizeOk (.seq items.toList.reverse.toArray) := by
    show items.toList.reverse.toArray.size ≤ sizeLine
    rw [List.size_toArray, List.length_reverse, Array.length_toList]
    exact hsz
  obtain ⟨os, hos, hcs, hds⟩ := id hs
  have hTs : s.TypeIs (.ref sl) "slice" := ⟨os, hos, hcs⟩
  unfold getItem
  try with_reducible refine wpAny_holding ?_
  first | refine wpAny_bind (wpAny_pure ?_) | skip
  refine wpAny_bind (wpAny_sequenceKey ht.typeIs (by decide) ?_)
  refine wpAny_bind (wpAny_callSpecial?_slot (name := Str.ofString "__getitem__") ht.typeIs PyProof.Rows.slot_tuple_getitem
    (wpAny_call_entry PyProof.Rows.slot_tuple_getitem ht.typeIs entry_tuple_getitem ?_ (args_tuple_getitem _ _)))
  show wpAny _ _ (Builtin.Tuple.tupleItemsOf (.ref t) >>= _) _ _ s
  refine wpAny_bind (tupleItemsOf_ ht ?_)
  refine wpAny_bind (wpAny_typeOf hTs ?_)
  rw [if_pos (by decide)]
  refine wpAny_bind (sliceApplied_rev hs pl pu ps ?_)
  have hno : ¬ ((((items.size : Int) - 1) == 0 && (-1 : Int) == 1 && items.size == items.size) = true) := by
    intro q
    rw [Bool.and_eq_true, Bool.and_eq_true] at q
    have q1 : (-1 : Int) = 1 := eq_of_beq q.1.2
    omega
  show wpAny _ _ (if (((items.size : Int) - 1) == 0 && (-1 : Int) == 1 && items.size == items.size) = true then _ else _) _ _ s
  rw [if_neg hno, pick_rev]
  first
    | exact wpAny_bind (m := Builtin.Tuple.tupleExact _) (wpAny_newObj_type (wpAny_pure ⟨_, rfl, wpAny_pure h⟩) htake)
    | exact wpAny_bind (m := Builtin.Tuple.tupleExact _) (wpAny_newObj_type (wpAny_bind (wpAny_pure (wpAny_pure ⟨_, rfl, wpAny_pure h⟩))) htake)
    | exact wpAny_bind (wpAny_bind (m := Builtin.Tuple.tupleExact _) (wpAny_newObj_type (wpAny_pure (wpAny_pure ⟨_, rfl, wpAny_pure h⟩)) htake))
    | exact wpAny_bind (wpAny_bind (m := Builtin.Tuple.tupleExact _) (wpAny_newObj_type (wpAny_pure ⟨_, rfl, wpAny_pure h⟩) htake))
end
end HT
namespace L2
open PySem
open PySem.Spec
open PyProof.Rows
def tRevA (K : PySem.W.Frag) (te : TE) : TE := fun σ H Q => te σ H fun x H1 => (∃ a xs, x = .ref a ∧ SqL K H1 a xs ∧ ∀ p, H1 p = none → Q (.ref p) (upd H1 p (.lst xs.reverse))) ∨ (∃ a xs, x = .ref a ∧ SqT K H1 a xs ∧ ∀ p, H1 p = none → Q (.ref p) (upd H1 p (.tup xs.reverse)))
theorem pe_revA {X : Cx} {e : Expr} {te : TE} {k : Nat} {p1 p2 p3 pos : Pos} (he : PE X e te) : PE X (.Subscript e (.Slice none none (some (.UnaryOp .USub (.Constant (.int 1) k p1) p2)) p3) pos) (tRevA X.K te) := by
  refine ⟨fun pins s σ H Q I h => ?_⟩
  refine Subscript_ (thn (he.run pins s σ H _ I h) fun v s1 ⟨x, H1, I1, r1, q1⟩ => ?_)
  have hst : PO X (some (.UnaryOp .USub (.Constant (.int 1) k p1) p2)) (tPart (tUn (rU fun i => .int (-i)) (tC (.int 1)))) := po_some (pe_un un_neg pe_int)
  refine wpAny_Slice (thn (po_none.run pins s1 σ H1 (fun o H2 => o = none ∧ H2 = H1) I1 ⟨rfl, rfl⟩) fun vl s2 ⟨l, H2, I2, pl, el, e2⟩ => ?_)
  subst el e2
  refine thn (po_none.run pins s2 σ H2 (fun o H3 => o = none ∧ H3 = H2) I2 ⟨rfl, rfl⟩) fun vu s3 ⟨u, H3, I3, pu, eu, e3⟩ => ?_
  subst eu e3
  refine thn (hst.run pins s3 σ H3 (fun o H4 => o = some (-1) ∧ H4 = H3) I3 ⟨1, rfl, -1, rfl, rfl, rfl⟩) fun vs s4 ⟨o, H4, I4, ps, eo, e4⟩ => ?_
  subst eo e4
  have I5 : Inv X pins σ H4 { s4 with heap := s4.heap.push { cls := .type "slice", data := .fields #[vl, vu, vs] } } := I4.kept (t' := s4.toks) fun b ob q => Heap.get?_push_of_some _ q
  rcases q1 with ⟨a, xs, ex, hx, q⟩ | ⟨a, xs, ex, hx, q⟩
  · subst ex
    cases r1
    obtain ⟨its, r, ht, hz⟩ := I5.list hx
    have hlen := r.length
    show wpAny (model X.prog X.w) X.A (subscriptTail e (.Slice none none (some (.UnaryOp .USub (.Constant (.int 1) k p1) p2)) p3) (.ref a) (.ref s4.heap.objs.size)) (EP X pins σ Q) X.xe { s4 with heap := s4.heap.push { cls := .type "slice", data := .fields #[vl, vu, vs] } }
    refine tail_any (ops := [.ref a, .ref s4.heap.objs.size]) ht.isList.typeIs (PySem.slot_list_getitem.lookup) ?_ (by with_unfolding_all rfl)
    refine wpAny_getItem_list_slice ht.isList (Heap.IsSliceOf.new _ vl vu vs) pl pu ps (by decide) ?_ (by rw [List.size_toArray]; omega)
    rw [PySem.W.krv_pick]
    refine ⟨.ref _, _, I5.laid (t' := s4.toks) (o := .lst xs.reverse) (fun b ob q => Heap.get?_push_of_some _ q) (Nat.le_refl _) ?_, rfl, q _ (I5.hok.fresh (Nat.le_refl _))⟩
    exact ⟨by rw [List.length_reverse]; exact hz, _, 0, r.reverse, Heap.get?_push_size _ rfl⟩
  · subst ex
    cases r1
    obtain ⟨its, r, ht, hz⟩ := I5.tuple hx
    have hlen : its.toArray.size = xs.length := by rw [List.size_toArray]; exact r.length.symm
    show wpAny (model X.prog X.w) X.A (subscriptTail e (.Slice none none (some (.UnaryOp .USub (.Constant (.int 1) k p1) p2)) p3) (.ref a) (.ref s4.heap.objs.size)) (EP X pins σ Q) X.xe { s4 with heap := s4.heap.push { cls := .type "slice", data := .fields #[vl, vu, vs] } }
    refine tail_any (ops := [.ref a, .ref s4.heap.objs.size]) ht.typeIs (PyProof.Rows.slot_tuple_getitem.lookup) ?_ (by with_unfolding_all rfl)
    refine HT.getItem_tuple_rev ht (Heap.IsSliceOf.new _ vl vu vs) pl pu ps ?_ (by rw [hlen]; exact hz)
    refine ⟨.ref _, _, I5.laid (t' := s4.toks) (o := .tup xs.reverse) (fun b ob q => Heap.get?_push_of_some _ q) (Nat.le_refl _) ?_, rfl, q _ (I5.hok.fresh (Nat.le_refl _))⟩
    exact ⟨by rw [List.length_reverse]; exact hz, _, r.reverse, IsTup.new _ _⟩
end L2
namespace L2.Dl
open PySem
open PySem.Spec
open PyProof.Rows
variable [KF]
def gRev : PyData → Option PyData
  | .list xs => some (.list xs.reverse)
  | .tuple xs => some (.tuple xs.reverse)
  | _ => none
theorem de_rev {X : Cx} {W : WX} {c : Cf} {e : Expr} {d : DE} {k : Nat} {p1 p2 p3 pos : Pos} (hK : c.K = X.K) (he : PE X e (EOf W c d)) : PE X (.Subscript e (.Slice none none (some (.UnaryOp .USub (.Constant (.int 1) k p1) p2)) p3) pos) (EOf W c (dUn gRev d)) := by
  refine (pe_revA he).weak fun σ H Q h => ?_
  have lf : Lf1 (fun x H1 Q => (∃ a xs, x = .ref a ∧ SqL KF.frag H1 a xs ∧ ∀ p, H1 p = none → Q (.ref p) (upd H1 p (.lst xs.reverse))) ∨ (∃ a xs, x = .ref a ∧ SqT KF.frag H1 a xs ∧ ∀ p, H1 p = none → Q (.ref p) (upd H1 p (.tup xs.reverse)))) gRev := fun D H x a z Q s r hg q => by
    cases a with
    | list ds =>
      cases hg
      obtain ⟨b, vs, rfl, h1, h2⟩ := r.lst s
      exact .inl ⟨b, vs, rfl, .inl (.inl h1), fun p hp => q _ _ (.lst hp h2.reverse)⟩
    | tuple ds =>
      cases hg
      obtain ⟨_, b, vs, rfl, h1, h2⟩ := r.tup
      exact .inr ⟨b, vs, rfl, h1.same s, fun p hp => q _ _ (.tup hp h2.reverse)⟩
    | _ => cases hg
  have := un_core lf h
  rw [← hK]
  exact this
end L2.Dl

namespace L2.Dl
open PySem
open PySem.Spec
open PyProof.Rows
variable [KF]
/-- a def's run, from what is known at this very call -/
theorem fnd_run {m : Bool} {P : Program} {w : World} {mg : Str → Option Value} {base : Heap} {k : Nat} {f : Addr} {name qual : Str} {params : Arguments} {body : List Stmt} {scope : Scope} {dV kV doc pm cdv ct oc : Value} {an od : Option Addr}
    {osl : Array (Option Value)} {N ps : List Str} {nn : Nat} {d : DS} (lk : KF.frag.lookup f = some ⟨oc, od, .func (PySem.W.fnOf name qual params body scope dV kV doc pm an cdv ct), osl⟩) (hcd : PySem.W.codeIn KF.frag cdv qual = true) (S : FnScope N ps scope) (hnn : nn = N.length)
    {A : Around} {outer : List Env} {s : Shared} {H : Hp} {args : Args} {us : List Value} {vs : List V} {Q : VK} {E : XK} {c : Cf} {D : Hp} {pv : Nv} (hr : GRoom (k + 1) A) (e0 : Env0 P w KF.frag mg base A outer s H)
    (hb : BindsTo s (PySem.W.fnOf name qual params body scope dV kV doc pm an cdv ct) args (ps.zip us)) (r : Vals vs us) (hl : vs.length = ps.length) (S0 : Sim c D pv (vs.map some) H) (ap : allPar pv = true) (post : PostF c D (vs.map some) Q E (mkFn nn d pv))
    (hbody : GRoom k (A.deeper (envOfC qual scope s.heap.objs.size f cdv)) → PSs (cxOf (CXm m P w) P w KF.frag mg base N qual scope f cdv A outer s H E) body (SOf (fun cls d _ H => E cls d H) c d)) :
    codeAny (model P w) A (.call (.ref f) args) (CR (CXm m P w) outer P w H s Q E) s := by
  have KX : KF.frag.In s.heap := e0.mod.kin.keeps fun b o e => (e0.bs b o e).1
  have lim : s.heap.NoLimit := e0.mod.nolimit.keeps fun b o e => (e0.bs b o e).1
  have hkind : ∀ y ∈ ps.zip us, scope.names.lookup y.1 = some .local ∨ (scope.names.lookup y.1 = some .cell ∧ ((cellsFrom (s.heap.objs.size + 1) scope.names []).lookup y.1).isSome = true) := fun ⟨n, v⟩ hy => by
    rcases S.par n (List.of_mem_zip hy).1 with q | q
    · exact .inl q
    · exact .inr ⟨q, PySem.W.cellsFrom_some _ _ _ (.inl q)⟩
  refine codeAny_call_function hr.r.depth (KX _ _ lk) rfl S.co S.gen rfl (PySem.W.codeRec_of KX hcd) (hb _ _ _ _ ?_)
  refine wpAny_newFunctionEnv_cells S.kind hkind fun env he s1 x => ?_
  subst he
  refine ⟨lim.keeps x.toInCall.keep, codeAny_func ?_⟩
  have ht := hbody (hr.deeper _)
  have I := inv_start (CX := CXm m P w) (E := E) S hr.r.hd e0 hl r x
  have hpl : pv.length = vs.length := by have := S0.len; simpa using this
  have S1 : Sim c D (pv ++ List.replicate (nn - pv.length) .un) (start N vs) H := by
    have := S0.start (N.length - vs.length)
    unfold L2.start
    rw [hpl, hnn]
    exact this
  have fin : ∀ {σ' : St} {H' : Hp} {v : V} {u : Value} {s' : Shared}, Inv (cxOf (CXm m P w) P w KF.frag mg base N qual scope f cdv A outer s H E) [] σ' H' s' → RelV v u → Q v H' → CE outer P w H s Q u s' :=
    fun {σ' H' v u s'} J rv q => ⟨v, H', J.os, J.bare, J.base, J.hok, rv, q⟩
  have post : PostS (fun cls d _ H => E cls d H) c D { nx := fun _ H' => Q .non H', rt := Q } (d (pv ++ List.replicate (nn - pv.length) .un)) := by
    have post : PostF c D (vs.map some) Q E (mkFn nn d pv) := post
    unfold mkFn at post
    revert post
    have outs : ∀ {e : Nv} {σ' : St} {H' D' : Hp} {l : Nv}, Sim c D' e σ' H' → Same D D' → outP e pv 0 = some l → Sim c D' l (vs.map some) H' := fun S' s' h => S0.out ap S' s' h
    cases d (pv ++ List.replicate (nn - pv.length) .un) with
    | nx e =>
      simp only []
      cases h : outP e pv 0 with
      | none => exact fun z => z.elim
      | some l => exact fun post σ' H' D' S' s' => post .non H' D' (outs S' s' h) s' .non
    | rt y e =>
      simp only []
      cases h : outP e pv 0 with
      | none => exact fun z => z.elim
      | some l => exact fun post v σ' H' D' S' s' r' => post v H' D' (outs S' s' h) s' r'
    | rtD y e =>
      simp only []
      cases h : outP e pv 0 with
      | none => exact fun z => z.elim
      | some l => exact fun post p o σ' H' D' S' s' hp r' => post p o H' D' (outs S' s' h) s' hp r'
    | exc y e =>
      simp only []
      cases h : outP e pv 0 with
      | none => exact fun z => z.elim
      | some l => exact fun post σ' cls dd H' D' S' s' r' => post cls dd H' D' (outs S' s' h) s' r'
    | bk e => exact fun z => z.elim
    | ct e => exact fun z => z.elim
    | stuck => exact fun z => z.elim
  refine wpAny_mono (ht.run [] s1 (start N vs) H _ I ⟨D, _, S1, post⟩) (fun fl s' hs => ?_) fun e s' hs => hs
  cases fl with
  | ret u =>
    obtain ⟨v, σ', H', J, rv, q⟩ := hs
    exact fin J rv q
  | next =>
    obtain ⟨σ', H', J, q⟩ := hs
    exact fin (v := V.non) (u := Value.none) J rfl q
  | brk =>
    obtain ⟨_, _, _, q⟩ := hs
    exact False.elim q
  | cont =>
    obtain ⟨_, _, _, q⟩ := hs
    exact False.elim q

inductive ARes where
  | ok (x : PyData)
  | exc (x : Ex)
  | no
def hide : Slot → Slot
  | .v d => .v d
  | .gl n => .gl n
  | .ro xs => .ro xs
  | _ => .un
/-- what the lambda comes to where it is made -/
def actOf : Res OV → ARes
  | .ok (.d x) _ => .ok x
  | .exc x _ => .exc x
  | _ => .no
/-- a(), a the def's parameter that holds the lambda -/
def dAct (i : Nat) (r : ARes) : DE := fun env => match env[i]? with
  | some .la => (match r with
    | .ok x => .ok (.d x) env
    | .exc x => .exc x env
    | .no => .stuck)
  | _ => .stuck
/-- g(lambda: ..) -/
def dLam (nn : Nat) (gm : ARes → DS) (db : DE) : DE := fun env => match mkFn nn (gm (actOf (db (env.map hide)))) [.la] with
  | .ok (.d x) _ => .ok (.d x) env
  | .exc x _ => .exc x env
  | _ => .stuck
open Classical in
noncomputable def restB (D H : Hp) : Hp := fun a => if D a = none ∧ (∀ o, H a = some o → okB o = true) then H a else none
theorem restB_some {D H : Hp} {a : Addr} {o : HO} (h : restB D H a = some o) : D a = none ∧ H a = some o ∧ okB o = true := by
  by_cases q : D a = none ∧ (∀ o, H a = some o → okB o = true)
  · have := (if_pos q).symm.trans h
    exact ⟨q.1, this, q.2 o this⟩
  · have := (if_neg q).symm.trans h
    cases this
theorem restB_of {D H : Hp} {a : Addr} {o : HO} (h1 : D a = none) (h2 : H a = some o) (h3 : okB o = true) : restB D H a = some o :=
  (if_pos ⟨h1, fun o' h' => by rw [h2] at h'; cases h'; exact h3⟩).trans h2
/-- for the def that gets the lambda -/
noncomputable def cfLa (c : Cf) (D H : Hp) (f k : Addr) (q : Str) : Cf where
  mg := c.mg
  B := restB D H
  pa := fun _ => none
  la := some (f, k, q)
  D0 := D
/-- for the lambda's own body -/
noncomputable def cfAc (c : Cf) (D H : Hp) : Cf where
  mg := c.mg
  B := restB D H
  pa := fun _ => none
  la := none
  D0 := fun _ => none
section
variable {c c' : Cf} {D D' D1 D2 : Hp} {env e e1 e2 : Nv} {σ σ1 σ2 : St} {H H' H1 H2 : Hp} {f k : Addr} {q : Str}
theorem Sim.over (S : Sim c D e σ H) (dh : Same D' H') (bh : Same (restB D H) H') (bd : ∀ a o, restB D H a = some o → D' a = none) (s : Same D D') (tb : LamX.Tabs KF.tabs H') (nd : ∀ a o, D' a = some o → okO o = true) : Sim c D' e σ H' := by
  have hB : ∀ a o, c.B a = some o → restB D H a = some o := fun a o h => restB_of (S.bd a o h) (S.bh a o h) (S.nb a o h)
  refine ⟨dh, fun a o h => bh a o (hB a o h), fun a o h => bd a o (hB a o h), S.len, fun i t h => (S.slot i t h).lift s fun a ea ho => ?_, S.apart, tb, nd, S.nb, S.d0.trans s⟩
  obtain ⟨a', u, k1, k2, k3, k4, k5⟩ := (S.slot i t h).trackedO ho
  rw [ea] at k1
  cases k1
  have := restB_of k3 k2 (okO_okB k5)
  exact ⟨(bh a u this).trans k2.symm, fun _ => bd a u this⟩
theorem Sim.extN (S : Sim c D e σ H) (x : LamX.ExtN H H1) (t : LamX.Tabs KF.tabs H1) : Sim c D e σ H1 := by
  refine S.over (fun a o h => x a o (S.dh a o h) fun ps z => ?_) (fun a o h => ?_) (fun a o h => (restB_some h).1) (Same.refl _) t S.nd
  · have := S.nd a o h
    rw [z] at this
    cases this
  · obtain ⟨h1, h2, h3⟩ := restB_some h
    exact x a o h2 fun ps z => by rw [z] at h3; cases h3
theorem Sim.toLa (S : Sim c D e σ H) : Sim (cfLa c D H f k q) D [.la] ([V.ref f].map some) H := by
  refine ⟨S.dh, fun a o h => (restB_some h).2.1, fun a o h => (restB_some h).1, rfl, fun i s h => ?_, fun i j s t a ei _ oi _ _ _ => ?_, S.tb, S.nd, fun a o h => (restB_some h).2.2, Same.refl _⟩
  · cases i with
    | zero => cases h; exact ⟨f, k, q, rfl, rfl⟩
    | succ i => simp at h
  · cases i with
    | zero => cases ei; cases oi
    | succ i => simp at ei
theorem Sim.ofLa (S : Sim c D e σ H) (S' : Sim (cfLa c D H f k q) D' e1 σ1 H') (s : Same D D') : Sim c D' e σ H' := S.over S'.dh S'.bh S'.bd s S'.tb S'.nd
theorem Sim.acL (S : Sim c D env σ H) (S1 : Sim (cfLa c D H f k q) D1 e1 σ1 H1) : Sim (cfAc c D1 H1) D1 (env.map hide) σ H1 := by
  have s : Same D D1 := S1.d0
  have un : ∀ (i : Nat) (t : Slot), (env.map hide)[i]? = some t → ∃ t0, env[i]? = some t0 ∧ t = hide t0 := fun i t h => by
    rw [List.getElem?_map] at h
    cases h0 : env[i]? with
    | none => rw [h0] at h; cases h
    | some t0 => rw [h0] at h; cases h; exact ⟨t0, rfl, rfl⟩
  have no : ∀ t : Slot, (hide t).owns = false := fun t => by cases t <;> rfl
  refine ⟨S1.dh, fun a o h => (restB_some h).2.1, fun a o h => (restB_some h).1, by rw [List.length_map]; exact S.len, fun i t h => ?_, fun i j t u a ei _ oi _ _ _ => ?_, S1.tb, S1.nd, fun a o h => (restB_some h).2.2, fun _ _ z => nomatch z⟩
  · obtain ⟨t0, h0, rfl⟩ := un i t h
    have so := S.slot i t0 h0
    cases t0 with
    | v d => obtain ⟨v, h1, h2⟩ := so; exact ⟨v, h1, h2.mono s⟩
    | gl n => exact so
    | ro xs => obtain ⟨a, vs, h1, h2, h3⟩ := so; exact ⟨a, vs, h1, s.seq h2, h3.mono s⟩
    | _ => trivial
  · obtain ⟨t0, h0, rfl⟩ := un i t ei
    rw [no] at oi
    cases oi
theorem Sim.acB (S1 : Sim c' D1 e1 σ1 H1) (S2 : Sim (cfAc c D1 H1) D2 e2 σ2 H2) (s : Same D1 D2) : Sim c' D2 e1 σ1 H2 := S1.over S2.dh S2.bh S2.bd s S2.tb S2.nd
end
end L2.Dl

namespace L2.Dl
open PySem
open PySem.Spec
open PyProof.Rows
open LamX
variable [KF]
/-- the context of a lambda's body, by the mode of what it lets out -/
def lamCxM (m : Bool) (X : Cx) (A : Around) (outer : List Env) (s : Shared) (H : Hp) (E : XK) (scope : Scope) (f c' : Addr) : Cx :=
  { lamCx X A outer s H E scope f c' with xe := fun e s' => wpAny (model X.prog X.w) (A.deeper (lamEnv X scope s.heap.objs.size f c')) (leaving (lamEnv X scope s.heap.objs.size f c') e) (fun _ s'' => CXm m X.prog X.w outer H s E e s'') (fun e' s'' => CXm m X.prog X.w outer H s E e' s'') s' }
section
variable {X : Cx} {c : Cf} {D : Hp} {env : Nv} {σ : St} {H : Hp} {s : Shared} {pins : List (Addr × Obj)} {W : WX}
theorem lamJ {m : Bool} {A : Around} {outer : List Env} {E : XK} {scope : Scope} {f c' : Addr} {s0 s' : Shared} {H0 HZ : Hp} {σZ : St} (J : Inv (lamCx X A outer s0 H0 E scope f c') [] σZ HZ s') : Inv (lamCxM m X A outer s0 H0 E scope f c') [] σZ HZ s' :=
  Inv.unwish (X := lamCxM m X A outer s0 H0 E scope f c') (E := (lamCx X A outer s0 H0 E scope f c').xe) J
/-- a(): the lambda's body, at what its maker's slots hold -/
theorem de_act {m : Bool} {Eg : XK} {Ng : List Str} {qg : Str} {sg : Scope} {g f k : Addr} {cdg pm ctv : Value} {params : Arguments} {body : Expr} {scope : Scope} {kl i : Nat} {a : Str} {pn : List (Addr × Obj)} {xe : Value → Shared → Prop} {db : DE} {p1 p2 : Pos}
    (I : Inv X pins σ H s) (S : Sim c D env σ H) (hmg : c.mg = X.mg) (L : LamS X.env.scope scope) (hf : s.heap.get? f = some (PySem.W.kla_obj "<lambda>" (X.env.qual ++ "<lambda>") params body scope (cloFrom X.env.cells scope.names []) pm k ctv)) (hfn : H f = none) (hfr : f ∉ frs X.stack)
    (hco : H k = some (CodeO k (X.env.qual ++ "<lambda>")))
    (hbind : bindArgs (PySem.W.kla_fn "<lambda>" (X.env.qual ++ "<lambda>") params body scope (cloFrom X.env.cells scope.names []) pm (.ref k) ctv) ⟨[], []⟩ = pure [])
    (tk : Tk m ((cxOf (CXm m X.prog X.w) X.prog X.w X.K X.mg X.base Ng qg sg g cdg X.A X.stack s H Eg).tr pn xe) W) (hr : GRoom (kl + 1) (X.A.deeper (envOfC qg sg s.heap.objs.size g cdg)))
    (hbody : ∀ (A : Around) (outer : List Env) (s : Shared) (H : Hp) (E : XK) (c' : Cf), GRoom kl (A.deeper (lamEnv X scope s.heap.objs.size f k)) → c'.mg = X.mg → PE (lamCxM m X A outer s H E scope f k) body (EOf (fun cls d _ H => E cls d H) c' db))
    (hN : Ng[i]? = some a) (hv : Vis sg a) (hd : (a == ("__debug__" : Str)) = false := by decide) (hcd : (a == ("__classdict__" : Str)) = false := by decide) :
    PE ((cxOf (CXm m X.prog X.w) X.prog X.w X.K X.mg X.base Ng qg sg g cdg X.A X.stack s H Eg).tr pn xe) (.Call (.Name a p1) [] [] p2)
      (EOf W (cfLa c D H f k (X.env.qual ++ "<lambda>")) (dAct i (actOf (db (env.map hide))))) := by
  refine ⟨fun pinsZ sZ σZ HZ Q IZ h => ?_⟩
  obtain ⟨D1, envZ, S1, p⟩ := h
  have p : PostE W (cfLa c D H f k (X.env.qual ++ "<lambda>")) D1 σZ Q (dAct i (actOf (db (env.map hide))) envZ) := p
  unfold dAct at p
  split at p
  · rename_i he
    obtain ⟨f', k', q', e1, e2⟩ := S1.slot i _ he
    cases e1
    have hs : σZ[i]? = some (some (.ref f)) := join_some e2
    have nk : D k = none := by
      cases hD : D k with
      | none => rfl
      | some o =>
        have h1 := S.dh k o hD
        have h2 := S.nd k o hD
        rw [hco] at h1
        cases h1
        cases h2
    have hkZ : HZ k = some (CodeO k (X.env.qual ++ "<lambda>")) := S1.bh k _ (restB_of nk hco rfl)
    have want : EOf (fun cls d _ H => WE W σZ cls d H) (cfAc c D1 HZ) db σ HZ Q := by
      refine ⟨D1, env.map hide, S.acL S1, ?_⟩
      revert p
      cases hdb : db (env.map hide) with
      | stuck => exact fun z => z
      | exc x e2 => exact fun p cls d H2 D2 S2 s2 er => p cls d H2 D2 (S1.acB S2 s2) s2 er
      | ok o e2 =>
        cases o with
        | d x => exact fun p v H2 D2 S2 s2 r2 => p v H2 D2 (S1.acB S2 s2) s2 r2
        | sl j => exact fun z => z.elim
        | gl n => exact fun z => z.elim
    refine wpAny_Call_Name_kw (thn ((pe_var (pos := p1) (i := i) hN hv hd hcd).run pinsZ sZ σZ HZ (fun v H1 => v = .ref f ∧ H1 = HZ) IZ ⟨.ref f, hs, rfl, rfl⟩) fun u s1 ⟨v, H1, I1, r1, q1⟩ => ?_)
    obtain ⟨ev, eH⟩ := q1
    subst ev
    rw [eH] at I1
    obtain rfl : u = Value.ref f := r1
    have here : s1.heap.get? f = some (PySem.W.kla_obj "<lambda>" (X.env.qual ++ "<lambda>") params body scope (cloFrom X.env.cells scope.names []) pm k ctv) := I1.base.keep f _ hf hfn hfr (fun z => nomatch (show f ∈ ([] : List Addr) from z))
    refine PySem.W.callWith_F0 ⟨_, _, _, _, here⟩ ?_
    have un : Un (frs X.stack) [] H HZ s.heap s1.heap := I1.base
    obtain ⟨⟨oc, vs, t, hoc, hdc, hvc⟩, _, _⟩ := I1.hok k _ hkZ
    have run : codeAny (model X.prog X.w) (X.A.deeper (envOfC qg sg s.heap.objs.size g cdg)) (.call (.ref f) ⟨[], []⟩) (CR (CXm m X.prog X.w) (envOfC qg sg s.heap.objs.size g cdg :: X.stack) X.prog X.w HZ s1 Q (WE W σZ)) s1 := by
      refine PySem.W.kla_callFunE hr.r.depth here rfl L.co L.gen rfl ⟨k, oc, vs, t, rfl, hoc, hdc, hvc⟩ ?_
      rw [hbind]
      refine wpAny_pure (wpAny_newFunctionEnv (fun y hy => (L.own y hy).2) (fun y hy => absurd hy (by simp)) (fun h₁ hns hsb => ⟨I1.nolimit.fresh _ hsb, ?_⟩) L.kind)
      show codeAny _ _ (.expr body (lamEnv X scope s1.heap.objs.size f k)) _ _
      have kept : ∀ b o, s1.heap.get? b = some o → h₁.get? b = some o := fun b o e => hsb.extBut b o (Nat.ne_of_lt (Heap.lt_size e)) (Heap.get?_push_of_some _ e)
      have J := lamJ (m := m) <| lam_start2 (A := X.A.deeper (envOfC qg sg s.heap.objs.size g cdg)) (outer := envOfC qg sg s.heap.objs.size g cdg :: X.stack) (E := WE W σZ) (f := f) (c' := k) (h₁ := h₁) (tk := s1.toks + ([] : List (Str × Value)).length) I L I1.env0 hr.r.hd un hns kept
      refine PySem.W.kla_codeExpr (wpAny_mono ((hbody _ _ s1 HZ (WE W σZ) (cfAc c D1 HZ) (hr.deeper _) hmg).run [] _ _ HZ Q J want) (fun v s' hq => ?_) fun e s' hq => hq)
      obtain ⟨w', H', J', rv, q⟩ := hq
      exact ⟨w', H', J'.os, J'.bare, J'.base, J'.hok, rv, q⟩
    refine wpAny_call (codeAny_mono run fun r s' hq => ?_)
    cases r with
    | error e => exact tk_pass tk σZ pinsZ HZ s1 e s' I1 hq
    | ok fl =>
      cases fl with
      | ret u => exact I1.after hq
      | next => exact False.elim hq
      | brk => exact False.elim hq
      | cont => exact False.elim hq
  · exact p.elim
/-- what the making of lambdas asks of the def around, for the whole of its run -/
structure TabI (X : Cx) where
  c : Addr
  P : Addr
  TB : TabB X.base X.mg c P
  code : X.env.code = .ref c
  mem : (P, X.env.qual ++ "<lambda>") ∈ KF.tabs
  only : ∀ p ∈ KF.tabs, p.1 = P → p.2 = X.env.qual ++ "<lambda>"
/-- x(lambda: body) -/
theorem de_lam {m : Bool} {x a : Str} {g : Addr} {fd : FuncData} {st : Stmt} {Ng : List Str} {nn : Nat} {params : Arguments} {body : Expr} {scope : Scope} {kg kl : Nat} {db : DE} {gm : ARes → DS} {p lpos pos : Pos}
    (hmg : c.mg = X.mg) (hK : KF.frag = X.K) (hg : Gl X x) (hm : X.mg x = some (.ref g)) (hk : PySem.W.keepIn X.K (.ref g) = true) (F : Fun KF.frag x x st g fd) (Sg : FnScope Ng [a] (defScope st)) (hnn : nn = Ng.length) (hb : L2.Binds X.K fd [a] [])
    (hr : GRoom (kg + 1) X.A) (hkl : kl + 2 ≤ kg + 1) (T : TabI X) (L : LamS X.env.scope scope) (hdef : defaultsOf params X.env = ([], [])) (tk : Tk m X W)
    (hbind : ∀ (q : Str) (cl : List (Str × Addr)) (pm cv ctv : Value), bindArgs (PySem.W.kla_fn "<lambda>" q params body scope cl pm cv ctv) ⟨[], []⟩ = pure [])
    (hbody : ∀ (A : Around) (outer : List Env) (s : Shared) (H : Hp) (E : XK) (f k : Addr) (c' : Cf), GRoom kl (A.deeper (lamEnv X scope s.heap.objs.size f k)) → c'.mg = X.mg → PE (lamCxM m X A outer s H E scope f k) body (EOf (fun cls d _ H => E cls d H) c' db))
    (hG : ∀ (r : ARes) (cdv : Value) (s : Shared) (H : Hp) (E : XK) (c' : Cf), GRoom kg (X.A.deeper (envOfC x (defScope st) s.heap.objs.size g cdv)) → c'.mg = X.mg →
      (∀ (W' : WX) (pn : List (Addr × Obj)) (xe : Value → Shared → Prop) (i : Nat) (p1 p2 : Pos), Tk m ((cxOf (CXm m X.prog X.w) X.prog X.w X.K X.mg X.base Ng x (defScope st) g cdv X.A X.stack s H E).tr pn xe) W' → Ng[i]? = some a → Vis (defScope st) a → (a == ("__debug__" : Str)) = false → (a == ("__classdict__" : Str)) = false →
        PE ((cxOf (CXm m X.prog X.w) X.prog X.w X.K X.mg X.base Ng x (defScope st) g cdv X.A X.stack s H E).tr pn xe) (.Call (.Name a p1) [] [] p2) (EOf W' c' (dAct i r))) →
      PSs (cxOf (CXm m X.prog X.w) X.prog X.w X.K X.mg X.base Ng x (defScope st) g cdv X.A X.stack s H E) (defBody st) (SOf (fun cls d _ H => E cls d H) c' (gm r)))
    (hdb : (x == ("__debug__" : Str)) = false := by decide) :
    PE X (.Call (.Name x p) [.Lambda params body scope lpos] [] pos) (EOf W c (dLam nn gm db)) := by
  refine ⟨fun pins s σ H Q I h => ?_⟩
  obtain ⟨D, env, S, post⟩ := h
  refine wpAny_Call_Name_kw (ld_glob I hg hm ?_ hdb)
  refine PySem.W.callWith_K (h₀ := X.base) I.ok.mod.kin hk ?_ (by rfl) (by rfl)
  show wpAny _ _ (spliced ((false, eval (.Lambda params body scope lpos) X.env) :: backTo pos (starEach [] X.env))) _ _ s
  refine Calls.spliced_cons (lam_make2 I T.TB T.code T.mem T.only S.tb hdef (L.has I.ok) fun f k pm' ctv H1 s' I1 eN T1 hf hfn hfr hco => ?_)
  refine Calls.spliced_nil ⟨I1.kIn, ?_⟩
  have S1 := S.extN eN T1
  obtain ⟨oc, od, kV, doc, pm2, an, cdv, ct, osl, rfl, lk, hcd⟩ := F.ex
  have e0 : Env0 X.prog X.w KF.frag X.mg X.base X.A X.stack s' H1 := by rw [hK]; exact I1.env0
  have post : PostE W c D σ Q (dLam nn gm db env) := post
  have run : codeAny (model X.prog X.w) X.A (.call (.ref g) ⟨[.ref f], []⟩) (CR (CXm m X.prog X.w) X.stack X.prog X.w H1 s' Q (WE W σ)) s' := by
    refine fnd_run (k := kg) (N := Ng) (nn := nn) (us := [.ref f]) (vs := [.ref f]) (c := cfLa c D H1 f k (X.env.qual ++ "<lambda>")) (D := D) (pv := [.la]) (d := gm (actOf (db (env.map hide)))) lk hcd Sg hnn hr e0 (hb s' [.ref f] I1.kIn rfl) (.cons rfl .nil) rfl S1.toLa rfl ?_ fun hr' => ?_
    · revert post
      unfold dLam
      cases mkFn nn (gm (actOf (db (env.map hide)))) [.la] with
      | stuck => exact fun z => z
      | exc x l => exact fun post cls d H2 D2 S2 s2 er => post cls d H2 D2 (S1.ofLa S2 s2) s2 er
      | ok r l =>
        cases r with
        | k d => exact fun z => z.elim
        | d x => exact fun post v H2 D2 S2 s2 r2 => post v H2 D2 (S1.ofLa S2 s2) s2 r2
    · rw [hK]
      exact hG _ cdv s' H1 (WE W σ) _ hr' hmg fun W' pn xe i p1 p2 tk' hN hv h1 h2 =>
        de_act I1 S1 hmg L hf hfn hfr hco (hbind _ _ _ _ _) tk' (hr'.mono (by omega)) (fun A outer s H E c' hr2 hm2 => hbody A outer s H E f k c' hr2 hm2) hN hv h1 h2
  refine wpAny_call (codeAny_mono run fun r s2 hq => ?_)
  cases r with
  | error e => exact tk_pass tk σ pins H1 s' e s2 I1 hq
  | ok fl =>
    cases fl with
    | ret u => exact I1.after hq
    | next => exact False.elim hq
    | brk => exact False.elim hq
    | cont => exact False.elim hq
end
end L2.Dl

namespace PySem.W
open PySem
open PySem.Spec
open PyProof.Rows
section
variable {K : Frag} {prog : Program} {w : World} {A : Around} {E : Value → Shared → Prop} {s : Shared} {x D : Addr} {ox : Obj} {od : Option Obj}
theorem findObj_dataD {C : Addr} {name : Str} {a g : Value} (hc : (clsIn K C).isSome = true) (ha : findIn K (.ref C) name = some (some a)) (hg : specialIn K a "__get__" = some (some g)) (ht : takesIn K a = some true) : findObj K C od name = some (.bind g a) := by
  obtain ⟨cd, hc⟩ := Option.isSome_iff_exists.mp hc
  unfold findObj
  simp only [hc, Option.bind_some, ha, hg, ht]
/-- e.__class__, e an exception with fields -/
theorem exc_classD {Q : Option Value → Shared → Prop} (T : L2.ExcC K D) (X : K.In s.heap) (I : InstAt s.heap x ox D od) (h : Q (some (.ref D)) { s with toks := s.toks + 1 }) : wpAny (model prog w) A (getAttr? (.ref x) "__class__") Q E s := by
  have hf : findObj K D od "__class__" = some (.bind (.builtin "getset_descriptor.__get__") (.builtin "object.__class__")) := findObj_dataD (by obtain ⟨cd, hc, _⟩ := any_some T.hd; rw [hc]; rfl) T.ha T.hn T.ht
  obtain ⟨hp, g, d, t, os⟩ := s
  have a0 := I.type (M := model prog w)
  have a1 := looks_findIn (M := model prog w) X T.hg
  have a2 := looks_findIn (M := model prog w) X T.hk
  have a3 := looks_find (M := model prog w) X I hf
  have below : Looks (model prog w) hp (isInstance (.ref x) (.type "BaseException")) true := a0.andThen (looks_subIn X T.hs)
  have c1 : (Value.builtin "BaseException.__getattribute__" == Value.builtin "object.__getattribute__") = false := by decide +kernel
  have c2 : (onTheHeap (Value.ref D) && Value.builtin "BaseException.__getattribute__" == Value.builtin "object.__getattribute__") = false := by rw [c1]; rfl
  have c3 : (false && onTheHeap (Value.builtin "BaseException.__getattribute__")) = false := rfl
  unfold getAttr? getAttrBy? getAttrBy
  refine wpAny_bind (wpAny_mkText (wpAny_bind (wpAny_attempt (wpAny_holding (wpAny_bind (a0.at (wpAny_bind (a1.at ?_))))))))
  show wpAny _ _ (if (onTheHeap (Value.ref D) && Value.builtin "BaseException.__getattribute__" == Value.builtin "object.__getattribute__") = true then _ else _) _ _ _
  rw [c2, if_neg Bool.false_ne_true]
  unfold getAttrByItsOwn hookBefore
  refine wpAny_bind ?_
  rw [if_pos (show onTheHeap (Value.ref D) = true from rfl)]
  refine a2.at (wpAny_bind (wpAny_attempt (wpAny_holding ?_)))
  unfold callGetattribute
  rw [c3, if_neg Bool.false_ne_true]
  unfold boundAndCalled
  rw [PySem.F.excAttr_ValueError.ga.bind (.ref x)]
  refine wpAny_bind (wpAny_pure ?_)
  show wpAny _ _ (call (.builtin "BaseException.__getattribute__") [.ref x, .str "__class__" t]) _ _ _
  refine wpAny_call (codeAny_call_builtin PySem.F.excAttr_ValueError.ga.plain PySem.F.entry_bexc_ga ?_)
  refine @check_slot (model prog w) _ _ ⟨hp, g, d, t + 1, os⟩ "BaseException.__getattribute__" "BaseException" "__getattribute__" (.ref x) [.str "__class__" t] [] _ (by decide +kernel) (by decide +kernel) below (PySem.F.args_bexc_ga (.ref x) (.str "__class__" t)) ?_
  unfold Builtin.«object.__getattribute__»
  refine wpAny_bind (wpAny_of_eq (a := ((Value.ref x : Value), [Value.str "__class__" t])) (by first | rfl | (simp only [slotArgs]; rfl)) ?_)
  refine wpAny_bind (wpAny_pure (wpAny_bind (a0.at (wpAny_bind (a3.at ?_)))))
  show wpAny _ _ (holding [Value.builtin "object.__class__"] (call (.builtin "getset_descriptor.__get__") [.builtin "object.__class__", .ref x, .ref D]) >>= ret) _ _ _
  refine wpAny_bind (wpAny_holding (wpAny_call (class_get (s := ⟨hp, g, d, t + 1, os⟩) (ox := ox) (od := od) X I T.hm ?_)))
  refine wpAny_pure ?_
  show wpAny _ _ (handedOut (.ref D)) _ _ _
  rw [handedOut_of (v := .ref D) rfl]
  first
    | exact wpAny_pure (wpAny_pure h)
    | exact wpAny_pure h
    | exact wpAny_pure (wpAny_bind (wpAny_pure (wpAny_pure h)))
theorem kitx_excD (T : L2.ExcC K D) : KitX K (.ref x) (.ref D) (fun h => InstAt h x ox D od) where
  ty := fun _ _ _ I => I.type
  it := fun _ _ X _ => by
    obtain ⟨cdD, hcD, _⟩ := any_some T.hd
    unfold clsIn at hcD
    split at hcD
    · rename_i c' d' cd' sl' ho
      intro A' Q' E' s' k q
      unfold isType loadHead
      exact wpAny_bind (wpAny_loadPart (k _ _ (X _ _ ho)) (wpAny_pure q))
    · cases hcD
  ne := fun h tp dd its n sl X htp => by
    obtain ⟨cdD, hcD, _⟩ := any_some T.hd
    cases hq : (Value.ref D == Value.ref tp) with
    | false => rfl
    | true =>
      obtain rfl : D = tp := Value.ref.inj (beq_iff_eq.mp hq)
      unfold clsIn at hcD
      split at hcD
      · rename_i c' d' cd' sl' ho
        cases (X _ _ ho).symm.trans htp
      · cases hcD
  ca := fun X I k => exc_classD T X I k
end
end PySem.W

namespace L2.Dl
open PySem
open PySem.Spec
open PyProof.Rows
variable [KF]
def dropLa : Slot → Slot
  | .la => .un
  | s => s
def isLa : Slot → Bool
  | .la => true
  | _ => false
def noLa (env : Nv) (i : Nat) : Bool := decide (i < env.length) && (env.set i .un).all fun s => !isLa s
/-- the name is gone behind the suite -/
def endAs (i : Nat) : SRes → SRes
  | .nx e => if noLa e i = true then .nx (e.set i .un) else .stuck
  | .rt v e => if noLa e i = true then .rt v (e.set i .un) else .stuck
  | .bk e => if noLa e i = true then .bk (e.set i .un) else .stuck
  | .ct e => if noLa e i = true then .ct (e.set i .un) else .stuck
  | _ => .stuck
def tryAsOf (ca : Str → Option Bool) (i : Nat) (s : Ex → DS) (r : SRes) : SRes := match r with
  | .exc x e => match ca x.cls with
    | some true => if freeAt e i = true ∧ x.fs.isEmpty = false then endAs i (s x ((e.map dropLa).set i .la)) else .stuck
    | some false => .exc x e
    | none => .stuck
  | r => r
def dTryAs (ca : Str → Option Bool) (i : Nat) (b : DS) (s : Ex → DS) : DS := fun env => tryAsOf ca i s (b env)
/-- while the suite holds the exception at a, its dict at dd -/
def Cf.forEx (c : Cf) (D : Hp) (a dd : Addr) (fs : List (Str × V)) : Cf := { c with B := upd c.B dd (.xd fs), la := some (a, a, ("" : Str)), D0 := D }
section
variable {c : Cf} {D D' : Hp} {env : Nv} {σ : St} {H H' : Hp} {a dd : Addr} {fs : List (Str × V)} {i : Nat}
theorem xd_same (S : Sim c D env σ H) (h : H dd = some (.xd fs)) : Same c.B (upd c.B dd (.xd fs)) := fun b o e => by
  by_cases hb : b = dd
  · subst hb
    have := S.bh b o e
    rw [h] at this
    cases this
    exact upd_same
  · rw [upd_ne hb]
    exact e
theorem Sim.toEx (S : Sim c D env σ H) (h : H dd = some (.xd fs)) (hf : freeAt env i = true) : Sim (c.forEx D a dd fs) D ((env.map dropLa).set i .la) (σ.set i (some (.ref a))) H := by
  have hi : i < env.length := freeAt_lt hf
  have hl : i < σ.length := by rw [← S.len]; exact hi
  have nd : D dd = none := by
    cases hD : D dd with
    | none => rfl
    | some o =>
      have h1 := S.dh dd o hD
      have h2 := S.nd dd o hD
      rw [h] at h1
      cases h1
      cases h2
  have drop : ∀ (j : Nat) (t : Slot), (env.map dropLa)[j]? = some t → ∃ t0, env[j]? = some t0 ∧ t = dropLa t0 := fun j t q => by
    rw [List.getElem?_map] at q
    cases h0 : env[j]? with
    | none => rw [h0] at q; cases q
    | some t0 => rw [h0] at q; cases q; exact ⟨t0, rfl, rfl⟩
  have keep : ∀ b u, H b = some u → okO u = true → c.B b = none → (upd c.B dd (.xd fs)) b = none := fun b u hb hu hn => by
    have : b ≠ dd := fun z => by
      rw [z, h] at hb
      cases hb
      cases hu
    rw [upd_ne this]
    exact hn
  refine ⟨S.dh, fun b o q => ?_, fun b o q => ?_, by rw [List.length_set, List.length_map, List.length_set]; exact S.len, fun j t q => ?_, fun j k t u b ej ek oj ok hj hk => ?_, S.tb, S.nd, fun b o q => ?_, Same.refl _⟩
  · have q : (upd c.B dd (.xd fs)) b = some o := q
    by_cases hb : b = dd
    · subst hb; rw [upd_same] at q; cases q; exact h
    · rw [upd_ne hb] at q; exact S.bh b o q
  · have q : (upd c.B dd (.xd fs)) b = some o := q
    by_cases hb : b = dd
    · subst hb; exact nd
    · rw [upd_ne hb] at q; exact S.bd b o q
  · by_cases hj : i = j
    · subst hj
      rw [List.getElem?_set_self (by rw [List.length_map]; exact hi)] at q
      cases q
      rw [join_set_self hl]
      exact ⟨a, a, ("" : Str), rfl, rfl⟩
    · rw [List.getElem?_set_ne hj] at q
      rw [join_set_ne hj]
      obtain ⟨t0, e0, rfl⟩ := drop j t q
      have so := S.slot j t0 e0
      cases t0 with
      | un => trivial
      | la => trivial
      | v d => exact so
      | gl n => exact so
      | ro xs => exact so
      | own p xs => obtain ⟨b, vs, k1, k2, k3, k4, k5, k6⟩ := so; exact ⟨b, vs, k1, k2, k3, k4, keep b _ k2 rfl k5, k6⟩
      | dct p kvs =>
        obtain ⟨b, k1, k2, k4, k5, k6⟩ := so
        obtain ⟨u, hu, ho⟩ := k2.trackedO
        exact ⟨b, k1, k2, k4, keep b u hu ho k5, k6⟩
  · have nj : ∀ {j : Nat} {t : Slot}, ((env.map dropLa).set i .la)[j]? = some t → t.owns = true → i ≠ j ∧ ∃ t0, env[j]? = some t0 ∧ t0.owns = true := fun {j t} q o => by
      by_cases hj : i = j
      · subst hj
        rw [List.getElem?_set_self (by rw [List.length_map]; exact hi)] at q
        cases q
        cases o
      · rw [List.getElem?_set_ne hj] at q
        obtain ⟨t0, e0, rfl⟩ := drop j t q
        refine ⟨hj, t0, e0, ?_⟩
        cases t0 <;> first | exact o | cases o
    obtain ⟨h1, t0, e0, o0⟩ := nj ej oj
    obtain ⟨h2, u0, f0, p0⟩ := nj ek ok
    rw [join_set_ne h1] at hj
    rw [join_set_ne h2] at hk
    exact S.apart j k t0 u0 b e0 f0 o0 p0 hj hk
  · have q : (upd c.B dd (.xd fs)) b = some o := q
    by_cases hb : b = dd
    · subst hb; rw [upd_same] at q; cases q; rfl
    · rw [upd_ne hb] at q; exact S.nb b o q
theorem Sim.ofEx {D0 : Hp} (S : Sim (c.forEx D0 a dd fs) D env σ H) (hB : Same c.B (upd c.B dd (.xd fs))) (h0 : Same c.D0 D0) (hn : noLa env i = true) : Sim c D (env.set i .un) (σ.set i none) H := by
  unfold noLa at hn
  rw [Bool.and_eq_true] at hn
  have hi : i < env.length := of_decide_eq_true hn.1
  have hn := hn.2
  have hj : ∀ {j : Nat}, i ≠ j → ((σ.set i none)[j]?).join = (σ[j]?).join := fun {j} h => by rw [List.getElem?_set_ne h]
  refine ⟨S.dh, hB.trans S.bh, fun b o q => S.bd b o (hB b o q), by rw [List.length_set, List.length_set]; exact S.len, fun j t q => ?_, fun j k t u b ej ek oj ok h1 h2 => ?_, S.tb, S.nd, fun b o q => S.nb b o (hB b o q), h0.trans S.d0⟩
  · by_cases e : i = j
    · subst e
      rw [List.getElem?_set_self hi] at q
      cases q
      trivial
    · have nl : isLa t = false := by
        have := List.all_eq_true.mp hn t (List.mem_of_getElem? q)
        simpa using this
      rw [List.getElem?_set_ne e] at q
      rw [hj e]
      have so := S.slot j t q
      cases t with
      | un => trivial
      | la => cases nl
      | v d => exact so
      | gl n => exact so
      | ro xs => exact so
      | own p xs => obtain ⟨b, vs, k1, k2, k3, k4, k5, k6⟩ := so; exact ⟨b, vs, k1, k2, k3, k4, hB.free k5, k6⟩
      | dct p kvs => obtain ⟨b, k1, k2, k4, k5, k6⟩ := so; exact ⟨b, k1, k2, k4, hB.free k5, k6⟩
  · have key : ∀ {j : Nat} {t : Slot}, (env.set i .un)[j]? = some t → t.owns = true → i ≠ j ∧ env[j]? = some t := fun {j t} q o => by
      by_cases e : i = j
      · subst e
        rw [List.getElem?_set_self hi] at q
        cases q
        cases o
      · rw [List.getElem?_set_ne e] at q
        exact ⟨e, q⟩
    obtain ⟨n1, e1⟩ := key ej oj
    obtain ⟨n2, e2⟩ := key ek ok
    rw [hj n1] at h1
    rw [hj n2] at h2
    exact S.apart j k t u b e1 e2 oj ok h1 h2
end
/-- what is known in the suite -/
structure ExI (X : Cx) (c : Cf) (a : Addr) (oe : Obj) (x : Ex) : Prop where
  mg : c.mg = X.mg
  la : c.la = some (a, a, ("" : Str))
  hf : ∃ vs, oe.data = .fields vs
  at' : ∃ (C dd : Addr) (fs : List (Str × V)), X.mg x.cls = some (.ref C) ∧ Zc (.ref C) (some dd) oe ∧ c.B dd = some (.xd fs) ∧ Paired (fun (p : Str × V) (q : Str × PyData) => p.1 = q.1 ∧ Rp c.D0 p.2 q.2) fs x.fs
section
variable {X : Cx} {W : WX} {c : Cf} {ca : Str → Option Bool} {b : DS} {s : Ex → DS} {hcv : Value} {x n : Str} {body suite : List Stmt} {b₀ : Stmt} {np pos pos' : Pos} {i : Nat}
def tsAs (X : Cx) (c : Cf) (s : Ex → DS) (oe : Obj → Prop) (a : Addr) (cls : Value) (d : Option Addr) : TS := fun De σ H => ∃ (x : Ex) (c' : Cf), (∀ oe, Zc cls d oe → (∃ vs, oe.data = .fields vs) → ExI X c' a oe x) ∧ SOf (fun _ _ _ _ => False) c' (s x) De σ H
theorem tryAs_core {σ : St} {H : Hp} {De : Ends} (hmg : c.mg = X.mg) (hca : Caught X.K X.mg hcv ca) (h : SOf W c (dTryAs ca i b s) De σ H) : SOf (wAs X.K hcv i (tsAs X c s fun _ => True) W De) c b De σ H := by
    obtain ⟨D, env, S, p⟩ := h
    refine ⟨D, env, S, ?_⟩
    have p : PostS W c D De (tryAsOf ca i s (b env)) := p
    revert p
    cases b env with
    | stuck => exact fun z => z
    | nx e => exact fun z => z
    | rt y e => exact fun z => z
    | rtD y e => exact fun z => z
    | bk e => exact fun z => z
    | ct e => exact fun z => z
    | exc y e =>
      intro p σ' cls d H' D' S' s' r
      obtain ⟨C, rfl, hCy, hd⟩ := id r
      rw [hmg] at hCy
      have p : PostS W c D De (match ca y.cls with
        | some true => if freeAt e i = true ∧ y.fs.isEmpty = false then endAs i (s y ((e.map dropLa).set i .la)) else .stuck
        | some false => .exc y e
        | none => .stuck) := p
      cases hk : ca y.cls with
      | none => rw [hk] at p; exact p.elim
      | some k =>
        rw [hk] at p
        refine ⟨k, hca _ _ _ hk hCy, fun ht a _ => ?_, fun hf' => ?_⟩
        · subst ht
          have p : PostS W c D De (if freeAt e i = true ∧ y.fs.isEmpty = false then endAs i (s y ((e.map dropLa).set i .la)) else .stuck) := p
          split at p
          · rename_i hc
            cases d with
            | none =>
              have hd : y.fs = [] := hd
              rw [hd] at hc
              cases hc.2
            | some dd =>
              obtain ⟨fs, h1, h2⟩ := hd
              have hB := xd_same S' h1
              have SE := S'.toEx (a := a) (i := i) h1 hc.1
              have hlen : i < σ'.length := by rw [← S'.len]; exact freeAt_lt hc.1
              refine ⟨y, c.forEx D' a dd fs, fun oe hz hv => ⟨hmg, rfl, hv, C, dd, fs, hCy, hz, upd_same, h2⟩, D', _, SE, ?_⟩
              have p2 := PostS.mono p s'
              have back : ∀ {e1 : Nv} {σ1 : St} {H1 D1 : Hp}, noLa e1 i = true → Sim (c.forEx D' a dd fs) D1 e1 σ1 H1 → Sim c D1 (e1.set i .un) (σ1.set i none) H1 := fun {e1 σ1 H1 D1} hn S1 =>
                S1.ofEx hB S'.d0 hn
              revert p2
              cases s y ((e.map dropLa).set i .la) with
              | stuck => exact fun z => z
              | exc _ _ => exact fun z => z.elim
              | rtD _ _ => exact fun z => z.elim
              | nx e1 =>
                show PostS W c D' De (if noLa e1 i = true then .nx (e1.set i .un) else .stuck) → _
                split
                · rename_i hn
                  exact fun p2 σ1 H1 D1 S1 s1 => p2 _ H1 D1 (back hn S1) s1
                · exact fun z => z.elim
              | rt v e1 =>
                show PostS W c D' De (if noLa e1 i = true then .rt v (e1.set i .un) else .stuck) → _
                split
                · rename_i hn
                  exact fun p2 w σ1 H1 D1 S1 s1 r1 => p2 w _ H1 D1 (back hn S1) s1 r1
                · exact fun z => z.elim
              | bk e1 =>
                show PostS W c D' De (if noLa e1 i = true then .bk (e1.set i .un) else .stuck) → _
                split
                · rename_i hn
                  exact fun p2 σ1 H1 D1 S1 s1 => p2 _ H1 D1 (back hn S1) s1
                · exact fun z => z.elim
              | ct e1 =>
                show PostS W c D' De (if noLa e1 i = true then .ct (e1.set i .un) else .stuck) → _
                split
                · rename_i hn
                  exact fun p2 σ1 H1 D1 S1 s1 => p2 _ H1 D1 (back hn S1) s1
                · exact fun z => z.elim
          · exact p.elim
        · subst hf'
          exact p σ' _ _ H' D' S' s' r
theorem ds_tryAs (hs : X.stack = X.env :: X.outer) (hf : X.env.frame = some X.env.locals) (hN : X.N.Nodup) (hi : X.N[i]? = some n) (hln : X.env.kindOf n = some .local) (hC : Names X x hcv) (tk : Tk false X W) (hmg : c.mg = X.mg) (hca : Caught X.K X.mg hcv ca)
    (hb : ∀ (V : WX) (pn : List (Addr × Obj)) (xe : Value → Shared → Prop), Tk false (X.tr pn xe) V → PassesOwn (model X.prog X.w) X.A X.env xe → PSs (X.tr pn xe) body (SOf V c b))
    (hsu : ∀ (a : Addr) (oe : Obj) (pn : List (Addr × Obj)) (x : Ex) (c' : Cf), ExI X c' a oe x → PSs (X.suite a ((a, oe) :: pn)) (b₀ :: suite) (SOf (fun _ _ _ _ => False) c' (s x))) :
    PS X (.Try body [.ExceptHandler (some (.Name x np)) (some n) (b₀ :: suite) pos'] [] [] pos) (SOf W c (dTryAs ca i b s)) :=
  (ps_try_as (c := hcv) (tb := fun V => SOf V c b) (ts := tsAs X c s fun _ => True) hs hf hN hi hln hC tk hb fun a oe cls d pn hz hv => ⟨fun pins s' σ H De I h => by
    obtain ⟨y, c', h1, h2⟩ := h
    exact (hsu a oe pn y c' (h1 oe hz hv)).run pins s' σ H De I h2⟩).weak fun De σ H h => tryAs_core hmg hca h
end
end L2.Dl

namespace L2.Dl
open PySem
open PySem.Spec
open PyProof.Rows
variable [KF]
def dExIs (i : Nat) (b : Option Bool) : DE := fun env => match env[i]? with
  | some .la => (match b with
    | some k => .ok (.d (.bool k)) env
    | none => .stuck)
  | _ => .stuck
def dExF (i : Nat) (v : Option PyData) : DE := fun env => match env[i]? with
  | some .la => (match v with
    | some x => .ok (.d x) env
    | none => .stuck)
  | _ => .stuck
/-- what the table says of a class, by the exception's class -/
def IsT (X : Cx) (cv : Value) (ca : Str → Option Bool) : Prop := ∀ n k C, ca n = some k → X.mg n = some (.ref C) → ExcC X.K C ∧ PySem.W.kitOne X.K (.ref C) cv = some k
def IsTs (X : Cx) (cvs : List Value) (ca : Str → Option Bool) : Prop := ∀ n k C, ca n = some k → X.mg n = some (.ref C) → ExcC X.K C ∧ PySem.W.kitAny X.K (.ref C) cvs = some k
/-- a field that no class bears itself -/
def FdT (X : Cx) (f : Str) (ns : List Str) : Prop := ∀ n C, n ∈ ns → X.mg n = some (.ref C) → ExcC X.K C ∧ PySem.W.findIn X.K (.ref C) f = some none
section
variable {X : Cx} {W : WX} {c : Cf} {a : Addr} {oe : Obj} {x : Ex} {pn : List (Addr × Obj)} {i : Nat} {n : Str} {p p1 pos : Pos} {ca : Str → Option Bool} {cv : Value} {v : V} {tn : Expr}
theorem ExI.inst (E : ExI X c a oe x) {C dd : Addr} {fs : List (Str × V)} (hz : Zc (.ref C) (some dd) oe) (hb : c.B dd = some (.xd fs)) {D : Hp} {env : Nv} {σ : St} {H : Hp} (S : Sim c D env σ H) {pins : List (Addr × Obj)} {s : Shared}
    {pn : List (Addr × Obj)} {σ2 : St} (I : Inv (X.suite a ((a, oe) :: pn)) pins σ2 H s) : ∃ od, PySem.W.InstAt s.heap a oe C (some od) := by
  obtain ⟨ha, _⟩ := I.pin (a, oe) (List.mem_append_left _ List.mem_cons_self)
  obtain ⟨vs, hd⟩ := E.hf
  have hx : ObjOk X.prog X.w H s.heap dd (.xd fs) := I.hok dd _ (S.bh dd _ hb)
  obtain ⟨mA, hns, hr⟩ := hx
  obtain ⟨od, ho, hl⟩ := lookIn_ns hns
  exact ⟨od, ⟨ha, hz.1, by unfold PySem.W.notCls; rw [hd] <;> rfl, by rw [hz.2]; exact ho⟩⟩
/-- what isinstance asks of a caught exception that has fields -/
def rIsX (X : Cx) (C a dd : Addr) (cv : Value) (b : Bool) : List V → Hp → VK → Prop := fun xs H Q => ∃ v fs, xs = [.ref a, v] ∧ (∀ u, RelV v u → u = cv) ∧ H dd = some (.xd fs) ∧ Q (.bl b) H
theorem call_isX {C dd : Addr} {b : Bool} (T : ExcC X.K C) (hz : Zc (.ref C) (some dd) oe) (hf : ∃ vs, oe.data = .fields vs) (hk : PySem.W.kitOne X.K (.ref C) cv = some b) : CallR (X.suite a ((a, oe) :: pn)) (.builtin "isinstance") (rIsX X C a dd cv b) := by
  intro pins s σ H xs us Q I r h
  obtain ⟨v, fs, rfl, hcv, hH, q⟩ := h
  obtain ⟨u1, u2, rfl, r1, r2⟩ : ∃ u1 u2, us = [u1, u2] ∧ RelV (.ref a) u1 ∧ RelV v u2 := by
    cases r with
    | cons r1 rr => cases rr with
      | cons r2 r3 => cases r3; exact ⟨_, _, rfl, r1, r2⟩
  cases r1
  obtain rfl := hcv _ r2
  obtain ⟨ha, _⟩ := I.pin (a, oe) (List.mem_append_left _ List.mem_cons_self)
  obtain ⟨vs, hd⟩ := hf
  obtain ⟨mA, hns, hr⟩ := (show ObjOk X.prog X.w H s.heap dd (.xd fs) from I.hok dd _ hH)
  obtain ⟨od, ho, hl⟩ := lookIn_ns hns
  have J : PySem.W.InstAt s.heap a oe C (some od) := ⟨ha, hz.1, by unfold PySem.W.notCls; rw [hd] <;> rfl, by rw [hz.2]; exact ho⟩
  exact PySem.W.kia_one (PySem.W.kitx_excD T) I.kIn J hk (fun z => nomatch z) fun tk => ⟨.bl b, H, I.kept (t' := tk) fun _ _ z => z, rfl, q⟩
def rIsXs (X : Cx) (C a dd : Addr) (cs : List Addr) (b : Bool) : List V → Hp → VK → Prop := fun xs H Q => ∃ tp fs, xs = [.ref a, .ref tp] ∧ SqT X.K H tp (cs.map V.ref) ∧ H dd = some (.xd fs) ∧ Q (.bl b) H
theorem vals_refs' : ∀ {cs : List Addr} {us : List Value}, Vals (cs.map V.ref) us → us = cs.map Value.ref
  | [], _, .nil => rfl
  | _ :: _, _, .cons h r => by
    cases h
    rw [vals_refs' r]
    rfl
theorem call_isXs {C dd : Addr} {b : Bool} {cs : List Addr} (T : ExcC X.K C) (hz : Zc (.ref C) (some dd) oe) (hf : ∃ vs, oe.data = .fields vs) (hk : PySem.W.kitAny X.K (.ref C) (cs.map Value.ref) = some b) : CallR (X.suite a ((a, oe) :: pn)) (.builtin "isinstance") (rIsXs X C a dd cs b) := by
  intro pins s σ H xs us Q I r h
  obtain ⟨tp, fs, rfl, ht, hH, q⟩ := h
  obtain ⟨u1, u2, rfl, r1, r2⟩ : ∃ u1 u2, us = [u1, u2] ∧ RelV (.ref a) u1 ∧ RelV (.ref tp) u2 := by
    cases r with
    | cons r1 rr => cases rr with
      | cons r2 r3 => cases r3; exact ⟨_, _, rfl, r1, r2⟩
  cases r1
  cases r2
  obtain ⟨ha, _⟩ := I.pin (a, oe) (List.mem_append_left _ List.mem_cons_self)
  obtain ⟨vs, hd⟩ := hf
  obtain ⟨mA, hns, hr⟩ := (show ObjOk X.prog X.w H s.heap dd (.xd fs) from I.hok dd _ hH)
  obtain ⟨od, ho, hl⟩ := lookIn_ns hns
  have J : PySem.W.InstAt s.heap a oe C (some od) := ⟨ha, hz.1, by unfold PySem.W.notCls; rw [hd] <;> rfl, by rw [hz.2]; exact ho⟩
  obtain ⟨its, rv, ⟨⟨cls, ddt, data, sl⟩, hto, hc, nn, hdt⟩, _⟩ := I.tuple ht
  simp only at hc hdt
  subst hc hdt
  obtain rfl := vals_refs' rv
  exact PySem.W.kia_tup (PySem.W.kitx_excD T) I.kIn J hto hk (fun z => nomatch z) fun tk => ⟨.bl b, H, I.kept (t' := tk) fun _ _ z => z, rfl, q⟩
theorem de_exIs (E : ExI X c a oe x) (hN : X.N[i]? = some n) (hv : Vis X.env.scope n) (T : IsT X cv ca) (ht : PE (X.suite a ((a, oe) :: pn)) tn (tC v)) (hr : ∀ u, RelV v u → u = cv) (hg : Gl X "isinstance") (hm : X.mg "isinstance" = none)
    (hd : (n == ("__debug__" : Str)) = false := by decide) (hcd : (n == ("__classdict__" : Str)) = false := by decide)
    (he : starEach [.Name n p1, tn] X.env = (false, eval (.Name n p1) X.env) :: starEach [tn] X.env := by rfl) (he2 : starEach [tn] X.env = (false, eval tn X.env) :: starEach [] X.env := by rfl) (hpl : (backTo pos (starEach [tn] X.env)).any (·.1) = false := by rfl) :
    PE (X.suite a ((a, oe) :: pn)) (.Call (.Name "isinstance" p) [.Name n p1, tn] [] pos) (EOf W c (dExIs i (ca x.cls))) := by
  obtain ⟨C, dd, fs, e1, e2, e3, e4⟩ := E.at'
  cases hca : ca x.cls with
  | none => exact ⟨fun pins s σ H Q I h => by
      obtain ⟨D, env, S, p⟩ := h
      have p : PostE W c D σ Q (dExIs i none env) := p
      unfold dExIs at p
      split at p <;> exact p.elim⟩
  | some b =>
    obtain ⟨T1, T2⟩ := T _ _ _ hca e1
    refine (pe_callB (X := X.suite a ((a, oe) :: pn)) (call_isX T1 e2 E.hf T2) hg hm boot_isinstance (pa_cons (pe_var (i := i) hN hv hd hcd) (pa_cons ht pa_nil he2) he) (by decide) (by decide) he hpl).weak fun σ H Q h => ?_
    obtain ⟨D, env, S, p⟩ := h
    have p : PostE W c D σ Q (dExIs i (some b) env) := p
    unfold dExIs at p
    split at p
    · rename_i hi
      obtain ⟨f, k, q, h1, h2⟩ := S.slot i _ hi
      rw [E.la] at h1
      cases h1
      exact ⟨_, join_some h2, v, fs, rfl, hr, S.bh dd _ e3, p _ H D S (Same.refl _) (.bl b)⟩
    · exact p.elim
theorem de_exIsT {cs : List Addr} {es : List Expr} {tpos : Pos} {ta : TA} {kk} (E : ExI X c a oe x) (hN : X.N[i]? = some n) (hv : Vis X.env.scope n) (T : IsTs X (cs.map Value.ref) ca) (ht : PA (X.suite a ((a, oe) :: pn)) es ta) (hta : ∀ σ H R, R (cs.map V.ref) H → ta σ H R) (hl : cs.length ≤ 1000) (hg : Gl X "isinstance") (hm : X.mg "isinstance" = none)
    (hd : (n == ("__debug__" : Str)) = false := by decide) (hcd : (n == ("__classdict__" : Str)) = false := by decide)
    (he : starEach [.Name n p1, .Tuple es kk tpos] X.env = (false, eval (.Name n p1) X.env) :: starEach [.Tuple es kk tpos] X.env := by rfl) (he2 : starEach [.Tuple es kk tpos] X.env = (false, eval (.Tuple es kk tpos) X.env) :: starEach [] X.env := by rfl) (hpl : (backTo pos (starEach [.Tuple es kk tpos] X.env)).any (·.1) = false := by rfl) :
    PE (X.suite a ((a, oe) :: pn)) (.Call (.Name "isinstance" p) [.Name n p1, .Tuple es kk tpos] [] pos) (EOf W c (dExIs i (ca x.cls))) := by
  obtain ⟨C, dd, fs, e1, e2, e3, e4⟩ := E.at'
  cases hca : ca x.cls with
  | none => exact ⟨fun pins s σ H Q I h => by
      obtain ⟨D, env, S, p⟩ := h
      have p : PostE W c D σ Q (dExIs i none env) := p
      unfold dExIs at p
      split at p <;> exact p.elim⟩
  | some b =>
    obtain ⟨T1, T2⟩ := T _ _ _ hca e1
    refine (pe_callB (X := X.suite a ((a, oe) :: pn)) (call_isXs T1 e2 E.hf T2) hg hm boot_isinstance (pa_cons (pe_var (i := i) hN hv hd hcd) (pa_cons (pe_tup ht) pa_nil he2) he) (by decide) (by decide) he hpl).weak fun σ H Q h => ?_
    obtain ⟨D, env, S, p⟩ := h
    have p : PostE W c D σ Q (dExIs i (some b) env) := p
    unfold dExIs at p
    split at p
    · rename_i hi
      obtain ⟨f, k, q, h1, h2⟩ := S.slot i _ hi
      rw [E.la] at h1
      cases h1
      refine ⟨_, join_some h2, hta σ H _ ⟨by rw [List.length_map]; exact Nat.le_trans hl (by decide), fun q hq => ?_⟩⟩
      have ne : dd ≠ q := ne_of_none (S.bh dd _ e3) hq
      exact ⟨q, fs, rfl, .inl (.inl upd_same), by rw [upd_ne ne]; exact S.bh dd _ e3, p _ _ D (S.grow hq _) (Same.refl _) (.bl b)⟩
    · exact p.elim
theorem paired_look {D : Hp} {f : Str} {v : PyData} : ∀ {fs : List (Str × V)} {ys : List (Str × PyData)}, Paired (fun (p : Str × V) (q : Str × PyData) => p.1 = q.1 ∧ Rp D p.2 q.2) fs ys → ys.lookup f = some v → ∃ u, fs.lookup f = some u ∧ Rp D u v
  | _, _, .nil, h => by cases h
  | (k, u) :: fs, (k', y) :: ys, .cons h r, e => by
    obtain ⟨h1, h2⟩ := h
    have h1 : k = k' := h1
    subst h1
    rw [List.lookup_cons] at e ⊢
    split at e
    · rename_i hk
      cases e
      exact ⟨u, rfl, h2⟩
    · exact paired_look r e
theorem de_exF {f : Str} {ns : List Str} (E : ExI X c a oe x) (hN : X.N[i]? = some n) (hv : Vis X.env.scope n) (T : FdT X f ns)
    (hd : (n == ("__debug__" : Str)) = false := by decide) (hcd : (n == ("__classdict__" : Str)) = false := by decide) (hb : attributeBase (.Name n p1) f X.env (eval (.Name n p1) X.env) = eval (.Name n p1) X.env := by rfl) :
    PE (X.suite a ((a, oe) :: pn)) (.Attribute (.Name n p1) f pos) (EOf W c (dExF i (if ns.contains x.cls then x.fs.lookup f else none))) := by
  obtain ⟨C, dd, fs, e1, e2, e3, e4⟩ := E.at'
  have no : ∀ o, o = none → PE (X.suite a ((a, oe) :: pn)) (.Attribute (.Name n p1) f pos) (EOf W c (dExF i o)) := fun o ho => ⟨fun pins s σ H Q I h => by
    subst ho
    obtain ⟨D, env, S, p⟩ := h
    have p : PostE W c D σ Q (dExF i none env) := p
    unfold dExF at p
    split at p <;> exact p.elim⟩
  by_cases hc : ns.contains x.cls = true
  · rw [if_pos hc]
    cases hl : x.fs.lookup f with
    | none => exact no _ rfl
    | some y =>
      obtain ⟨T1, T2⟩ := T _ _ (List.contains_iff_mem.mp hc) e1
      obtain ⟨u, hu, ru⟩ := paired_look e4 hl
      refine (pe_xf (X := X) (a := a) ⟨T1.hg, T1.hk, T1.hs, T1.hd⟩ T2 e2 E.hf (pe_var (i := i) hN hv hd hcd) hb).weak fun σ H Q h => ?_
      obtain ⟨D, env, S, p⟩ := h
      have p : PostE W c D σ Q (dExF i (some y) env) := p
      unfold dExF at p
      split at p
      · rename_i hi
        obtain ⟨g, k, q, h1, h2⟩ := S.slot i _ hi
        rw [E.la] at h1
        cases h1
        exact ⟨_, join_some h2, rfl, rfl, dd, fs, u, rfl, S.bh dd _ e3, hu, p _ H D S (Same.refl _) (ru.mono S.d0)⟩
      · exact p.elim
  · rw [if_neg hc]
    exact no _ rfl
end
end L2.Dl

namespace L2.Dl
open PySem
open PySem.Spec
open PyProof.Rows
variable [KF]
def gCount : PyData → PyData → Option PyData
  | .list ds, d => if SeqAt.shaped (.list ds) && SeqAt.shaped d then some (.int ((ds.countP fun z => PyData.eqv z d : Nat) : Int)) else none
  | _, _ => none
def gIndex : PyData → PyData → Option PyData
  | .list ds, d => if SeqAt.shaped (.list ds) && SeqAt.shaped d then (match ds.findIdx? fun z => PyData.eqv z d with
    | some j => some (.int (j : Nat))
    | none => none) else none
  | _, _ => none
def rCntD (K : PySem.W.Frag) : V → List V → Hp → VK → Prop := fun x xs H Q => ∃ (a : Addr) (y : V) (d : PyData) (ds : List PyData), x = V.ref a ∧ xs = [y] ∧ Dp K H (V.ref a) (.list ds) ∧ Dp K H y d ∧
  SeqAt.shaped (.list ds) = true ∧ SeqAt.shaped d = true ∧ Q (.int ((ds.countP fun z => PyData.eqv z d : Nat) : Int)) H
theorem mt_cntD {X : Cx} (hu : X.A.units + 65 < cLine) : MtR X "list.count" (rCntD X.K) := by
  intro pins s σ H x xs v us Q I rx rxs h
  obtain ⟨a, y, d, ds, rfl, rfl, hl, hy, sl, sd, q⟩ := h
  cases rx
  obtain ⟨uy, rfl, ry⟩ := rxs.one
  obtain ⟨bs, r1⟩ := Dp.reads I d y uy hy ry
  have lay : PyData.canLayAll0 ds = true := SeqAt.canLay_of_shaped sl
  have room : X.A.units + 1 + min (PyData.depthAll ds) d.depth < cLine := room_in_shaped sd hu
  cases hl with
  | lst hs ha =>
    obtain ⟨its, rv, ⟨⟨cls, dd, data, sls⟩, n, ho, hc, hdn, hdt⟩, hlen⟩ := I.list hs
    simp only at hc hdt
    subst hc hdt
    obtain ⟨as, h4⟩ := Dp.readsAll I ds _ its ha rv
    have hmap : its.map (SeqAt.readOf s.heap) = ds := SeqAt.readsAll_map ds its as lay h4
    refine call_meets PySem.F.slot_list_count ⟨_, ho, rfl⟩ PySem.F.entry_list_count (PySem.F.args_list_count_2 _ _)
      (SeqAt.list_countAt a its.toArray n dd sls uy (fun u => PyData.eqv (SeqAt.readOf s.heap u) d)) ⟨ho, SeqAt.items_eqAt (vs := its.toArray) (show ReadsAll s.heap its.toArray.toList ds as from h4) r1 lay (SeqAt.canLay_of_shaped sd) room, ?_⟩
    have : its.toArray.toList.countP (fun u => PyData.eqv (SeqAt.readOf s.heap u) d) = ds.countP fun z => PyData.eqv z d := by
      rw [← hmap, List.countP_map]
      rfl
    rw [this]
    exact ⟨.int _, H, I.tok _, ⟨_, rfl⟩, q⟩
def dBm (g : PyData → PyData → Option PyData) (da db : DE) : DE := fun env => (da env).bd fun a e1 => match getOV e1 a with
  | some (.list _) => (db e1).bd fun b e2 => match getOV e2 a, getOV e2 b with
    | some x, some y => match g x y with
      | some z => .ok (.d z) e2
      | none => .stuck
    | _, _ => .stuck
  | _ => .stuck
section
variable {X : Cx} {W : WX} {c : Cf} {o e : Expr} {da db : DE} {g : PyData → PyData → Option PyData} {r : V → List V → Hp → VK → Prop} {name : Str} {id : String} {apos pos : Pos}
theorem de_bm (hK : c.K = X.K) (slot : PySem.Slot "list" name id) (hty : typeOf (.builtin id) = pure (.type "method_descriptor")) (hm : MtR X id r)
    (lf : ∀ (D H : Hp) (x y : V) (a b z : PyData) (Q : VK), Same D H → Rq D H x a → Rq D H y b → g a b = some z → (∀ v H', NewR D H v z H' → Q v H') → r x [y] H Q) (ha : PE X o (EOf W c da)) (hb : PE X e (EOf W c db))
    (hbase : attributeBase o name X.env (eval o X.env) = eval o X.env := by rfl)
    (hfew : ((backTo pos (starEach [e] X.env)).all (fun x => !x.1) && (backToKw pos (keywordEach [] X.env)).all (fun x => x.1.isSome)
      && decide (([e] : List Expr).length + ([] : List Keyword).length + (if ([] : List Keyword).isEmpty then 0 else 1) < 30)) = true := by rfl)
    (hline : (apos.endLine == pos.line) = true := by rfl) (hs : starEach [e] X.env = (false, eval e X.env) :: starEach [] X.env := by rfl) (hpl : (backTo pos (starEach [] X.env)).any (·.1) = false := by rfl) :
    PE X (.Call (.Attribute o name apos) [e] [] pos) (EOf W c (dBm g da db)) :=
  (pe_bm PySem.F.plainAttrs_list slot hty hm ha (pa_cons hb pa_nil hs) hbase hfew hline hs hpl).weak fun σ H Q ⟨D, env, S, p⟩ => by
    refine ⟨D, env, S, ?_⟩
    have p : PostE W c D σ Q (dBm g da db env) := p
    unfold dBm at p
    revert p
    cases da env with
    | stuck => exact fun z => z
    | exc y e => exact fun z => z
    | ok o1 e1 =>
      intro p v H1 D1 S1 s1 r1
      simp only [Res.bd] at p
      split at p
      · rename_i ds hg1
        have q1 := S1.getq r1 (Same.refl _) hg1
        obtain ⟨a, vs, rfl, k1, k2⟩ := q1.lst S1.dh
        refine ⟨tyL k1, D1, e1, S1, ?_⟩
        have p := PostE.mono p s1
        revert p
        cases db e1 with
        | stuck => exact fun z => z
        | exc y e => exact fun z => z
        | ok o2 e2 =>
          intro p w H2 D2 S2 s2 r2
          simp only [Res.bd] at p
          split at p
          · rename_i x y hx hy
            split at p
            · rename_i z hz
              exact lf D2 H2 _ w x y z Q S2.dh (S2.getq (r1.mono s2) (Same.refl _) hx) (S2.getq r2 (Same.refl _) hy) hz fun u H' n => S2.new n (PostE.mono p s2)
            · exact p.elim
          · exact p.elim
      · exact p.elim
theorem lf_count {D H : Hp} {x y : V} {a b z : PyData} {Q : VK} (s : Same D H) (rx : Rq D H x a) (ry : Rq D H y b) (e : gCount a b = some z) (q : ∀ v H', NewR D H v z H' → Q v H') : rCntD KF.frag x [y] H Q := by
  cases a with
  | list ds =>
    simp only [gCount] at e
    split at e
    · rename_i hc
      rw [Bool.and_eq_true] at hc
      cases e
      have h := rx.dp s
      obtain ⟨p, vs, rfl, _⟩ := rx.lst s
      exact ⟨p, y, b, ds, rfl, rfl, h, ry.dp s, hc.1, hc.2, q _ _ (.of (.int _))⟩
    · cases e
  | _ => cases e
theorem lf_index {D H : Hp} {x y : V} {a b z : PyData} {Q : VK} (s : Same D H) (rx : Rq D H x a) (ry : Rq D H y b) (e : gIndex a b = some z) (q : ∀ v H', NewR D H v z H' → Q v H') : rIndexD KF.frag x [y] H Q := by
  cases a with
  | list ds =>
    simp only [gIndex] at e
    split at e
    · rename_i hc
      rw [Bool.and_eq_true] at hc
      split at e
      · rename_i j hj
        cases e
        have h := rx.dp s
        obtain ⟨p, vs, rfl, _⟩ := rx.lst s
        obtain ⟨h1, h2, h3⟩ := List.findIdx?_eq_some_iff_getElem.mp hj
        refine ⟨p, y, b, ds, j, ds[j], rfl, rfl, h, ry.dp s, hc.1, hc.2, List.getElem?_eq_getElem h1, h2, fun m z' hm hz => ?_, q _ _ (.of (.int _))⟩
        have hm2 : m < ds.length := by omega
        rw [List.getElem?_eq_getElem hm2] at hz
        cases hz
        simpa using h3 m hm
      · cases e
    · cases e
  | _ => cases e
def dTupL (l : DL) : DE := fun env => (l env).bd fun xs e => .ok (.d (.tuple xs)) e
theorem rgV_rp {D : Hp} (i j : Int) : RpL D (rgV i j) (rangeL i (j - i).toNat) := by
  unfold rgV rangeL
  generalize List.range (j - i).toNat = l
  induction l with
  | nil => exact .nil
  | cons x l ih => exact .cons (.int _) ih
theorem rgOk_of {i j : Int} (h1 : inLong i = true) (h2 : inLong j = true) (h3 : (j - i).toNat ≤ 1000000) : RgOk i j := by
  obtain ⟨a1, a2⟩ := inLong_ok h1
  obtain ⟨b1, b2⟩ := inLong_ok h2
  exact ⟨a1, a2, b1, b2, by omega⟩
def rgL1 (os : List OV) (e : Nv) : Res (List PyData) := match getAll e os with
  | some [.int j] => if inLong j = true ∧ j ≤ 1000000 then .ok (rangeL 0 j.toNat) e else .stuck
  | _ => .stuck
def rgL2 (os : List OV) (e : Nv) : Res (List PyData) := match getAll e os with
  | some [.int i, .int j] => if inLong i = true ∧ inLong j = true ∧ j - i ≤ 1000000 then .ok (rangeL i (j - i).toNat) e else .stuck
  | _ => .stuck
def dRg1 (d : DE) : DL := fun env => (d env).bd fun o e => rgL1 [o] e
def dRg2 (d1 d2 : DE) : DL := fun env => (d1 env).bd fun o e1 => (d2 e1).bd fun o2 e2 => rgL2 [o, o2] e2
end
section
variable {X : Cx} {W : WX} {c : Cf} {a b : Expr} {d da db : DE} {p p2 pos pos2 : Pos}
theorem rg1_core {k : VK → Int → Int → Hp → Prop} (hk : ∀ D env σ H i j (Q : VK), Sim c D env σ H → inLong i = true → inLong j = true → j - i ≤ 1000000 → (∀ q vs, H q = none → RpL D vs (rangeL i (j - i).toNat) → Q (.ref q) (upd H q (.lst vs))) → k Q i j H)
    {σ : St} {H : Hp} {Q : VK} (h : LOf W c (dRg1 d) σ H Q) : tRg1 (EOf W c d) σ H (k Q) := by
  obtain ⟨D, env, S, p⟩ := h
  refine ⟨D, env, S, ?_⟩
  have p : PostL W c D σ Q (dRg1 d env) := p
  unfold dRg1 at p
  revert p
  cases d env with
  | stuck => exact fun z => z
  | exc y e => exact fun z => z
  | ok o e1 =>
    intro p v H1 D1 S1 s1 r1
    have p : PostL W c D σ Q (rgL1 [o] e1) := p
    unfold rgL1 getAll at p
    cases hg : getOV e1 o with
    | none => rw [hg] at p; exact p.elim
    | some x =>
      rw [hg] at p
      have hx := S1.getq r1 (Same.refl _) hg
      cases x with
      | int j =>
        have p : PostL W c D σ Q (if inLong j = true ∧ j ≤ 1000000 then .ok (rangeL 0 j.toNat) e1 else .stuck) := p
        split at p
        · rename_i hc
          obtain rfl := hx.int
          refine ⟨j, rfl, hk D1 e1 σ H1 0 j Q S1 rfl hc.1 (by omega) fun q vs hq hv => ?_⟩
          rw [Int.sub_zero] at hv
          exact p q vs H1 D1 S1 s1 hq hv
        · exact p.elim
      | _ => exact p.elim
theorem rg2_core {k : VK → Int → Int → Hp → Prop} (hk : ∀ D env σ H i j (Q : VK), Sim c D env σ H → inLong i = true → inLong j = true → j - i ≤ 1000000 → (∀ q vs, H q = none → RpL D vs (rangeL i (j - i).toNat) → Q (.ref q) (upd H q (.lst vs))) → k Q i j H)
    {σ : St} {H : Hp} {Q : VK} (h : LOf W c (dRg2 da db) σ H Q) : tRg2 (EOf W c da) (EOf W c db) σ H (k Q) := by
  obtain ⟨D, env, S, p⟩ := h
  refine ⟨D, env, S, ?_⟩
  have p : PostL W c D σ Q (dRg2 da db env) := p
  unfold dRg2 at p
  revert p
  cases da env with
  | stuck => exact fun z => z
  | exc y e => exact fun z => z
  | ok o e1 =>
    intro p v H1 D1 S1 s1 r1
    refine ⟨D1, e1, S1, ?_⟩
    have p := PostL.mono p s1
    revert p
    simp only [Res.bd]
    cases db e1 with
    | stuck => exact fun z => z
    | exc y e => exact fun z => z
    | ok o2 e2 =>
      intro p w H2 D2 S2 s2 r2
      have p : PostL W c D1 σ Q (rgL2 [o, o2] e2) := p
      unfold rgL2 getAll getAll at p
      cases hg : getOV e2 o with
      | none => rw [hg] at p; exact p.elim
      | some x =>
        cases hg2 : getOV e2 o2 with
        | none => rw [hg, hg2] at p; exact p.elim
        | some y =>
          rw [hg, hg2] at p
          have hx := S2.getq (r1.mono s2) (Same.refl _) hg
          have hy := S2.getq r2 (Same.refl _) hg2
          cases x with
          | int i =>
            cases y with
            | int j =>
              have p : PostL W c D1 σ Q (if inLong i = true ∧ inLong j = true ∧ j - i ≤ 1000000 then .ok (rangeL i (j - i).toNat) e2 else .stuck) := p
              split at p
              · rename_i hc
                obtain rfl := hx.int
                obtain rfl := hy.int
                exact ⟨i, j, rfl, rfl, hk D2 e2 σ H2 i j Q S2 hc.1 hc.2.1 hc.2.2 fun q vs hq hv => p q vs H2 D2 S2 s2 hq hv⟩
              · exact p.elim
            | _ => exact p.elim
          | _ => exact p.elim
theorem rg_list {D : Hp} {env : Nv} {σ : St} {H : Hp} {i j : Int} {Q : VK} (S : Sim c D env σ H) (h1 : inLong i = true) (h2 : inLong j = true) (h3 : j - i ≤ 1000000) (q : ∀ q vs, H q = none → RpL D vs (rangeL i (j - i).toNat) → Q (.ref q) (upd H q (.lst vs))) :
    RgOk i j ∧ ∀ q, H q = none → Q (.ref q) (upd H q (.lst (rgV i j))) := ⟨rgOk_of h1 h2 (by omega), fun x hx => q x _ hx (rgV_rp i j)⟩
theorem dl_rg1 (hc : X.calm = true) (hg : Gl X "list") (hm : X.mg "list" = none) (hg2 : Gl X "range") (hm2 : X.mg "range" = none) (ha : PE X a (EOf W c d))
    (na : starEach [.Call (.Name "range" p) [a] [] pos] X.env = (false, eval (.Call (.Name "range" p) [a] [] pos) X.env) :: starEach [] X.env := by rfl) (nb : starEach [a] X.env = (false, eval a X.env) :: starEach [] X.env := by rfl) :
    PE X (.Call (.Name "list" p2) [.Call (.Name "range" p) [a] [] pos] [] pos2) (LOf W c (dRg1 d)) :=
  (pe_listRg hc hg hm (prg_1 hg2 hm2 ha nb) na).weak fun σ H Q h => rg1_core (k := fun Q i j H => RgOk i j ∧ ∀ q, H q = none → Q (.ref q) (upd H q (.lst (rgV i j)))) (fun D env σ H i j Q S h1 h2 h3 q => rg_list S h1 h2 h3 q) h
theorem dl_rg2 (hc : X.calm = true) (hg : Gl X "list") (hm : X.mg "list" = none) (hg2 : Gl X "range") (hm2 : X.mg "range" = none) (ha : PE X a (EOf W c da)) (hb : PE X b (EOf W c db))
    (na : starEach [.Call (.Name "range" p) [a, b] [] pos] X.env = (false, eval (.Call (.Name "range" p) [a, b] [] pos) X.env) :: starEach [] X.env := by rfl) (nb : starEach [a, b] X.env = (false, eval a X.env) :: starEach [b] X.env := by rfl)
    (nc : starEach [b] X.env = (false, eval b X.env) :: starEach [] X.env := by rfl) (hp : (backTo pos (starEach [b] X.env)).any (·.1) = false := by rfl) :
    PE X (.Call (.Name "list" p2) [.Call (.Name "range" p) [a, b] [] pos] [] pos2) (LOf W c (dRg2 da db)) :=
  (pe_listRg hc hg hm (prg_2 hg2 hm2 ha hb nb nc hp) na).weak fun σ H Q h => rg2_core (k := fun Q i j H => RgOk i j ∧ ∀ q, H q = none → Q (.ref q) (upd H q (.lst (rgV i j)))) (fun D env σ H i j Q S h1 h2 h3 q => rg_list S h1 h2 h3 q) h
end
end L2.Dl

namespace L2.Dl
open PySem
open PySem.Spec
open PyProof.Rows
section
variable [KF]
/-- the frozen part of a heap: no table, nothing told by a property -/
def frzP (H : Hp) : Hp := fun b => match H b with
  | some o => if okO o = true then some o else none
  | none => none
theorem frzP_some {H : Hp} {b : Addr} {o : HO} (h : frzP H b = some o) : H b = some o ∧ okO o = true := by
  unfold frzP at h
  cases q : H b with
  | none => rw [q] at h; cases h
  | some u =>
    rw [q] at h
    simp only [] at h
    by_cases k : okO u = true
    · rw [if_pos k] at h; cases h; exact ⟨rfl, k⟩
    · rw [if_neg k] at h; cases h
theorem frzP_of {H : Hp} {b : Addr} {o : HO} (h : H b = some o) (k : okO o = true) : frzP H b = some o := by
  unfold frzP
  rw [h]
  exact if_pos k
/-- the law's call where lambdas are made: the tables of their makers stand empty -/
theorem lawT_core {m : Bool} {P : Program} {w : World} {mg mb : Str → Option Value} {k : Nat} {fa a : Addr} {fd : FuncData} {x : Str} {fn : Fn} {t : Shared} {vs : List Value} {ns : List Int} {H : Hp} {cs : List (Addr × Addr)}
    (kin : KF.frag.In t.heap) (nsM : t.heap.Ns mainGlobals mg) (nsB : t.heap.Ns builtinsNs mb) (hbb : ∀ x : Str, x ≠ "__name__" → mb x = bootBuiltins x) (hlim : t.heap.NoLimit) (gn : t.gens = #[])
    (hbm : ∃ (bm : Addr) (ob : Obj), mg "__builtins__" = some (.ref bm) ∧ bm ≠ builtinsNs ∧ t.heap.get? bm = some ob ∧ ob.cls = .type "module" ∧ ob.dict = some builtinsNs ∧ ob.data = .plain)
    (obj : t.heap.get? a = some { cls := .type "list", data := .seq vs.toArray })
    (tabE : ∀ p ∈ cs, t.heap.get? p.2 = some { cls := .none, data := .fields #[] }) (tabK : ∀ p ∈ cs, KF.frag.lookup p.2 = none) (tabC : ∀ p ∈ cs, PySem.W.CodeHd t.heap p.1 p.2) (tabN : ∀ p ∈ KF.tabs, p.1 ∈ cs.map (·.2))
    (F : ∀ base : Heap, KF.frag.In base → base.Ns mainGlobals mg → (∀ p ∈ cs, LamX.TabB base mg p.1 p.2) → FnD m P w KF.frag mg base k fa fd [x] (fnSp mg 1 fn)) (bnd : ∀ (s : Shared) (u : Value), BindsTo s fd ⟨[u], []⟩ [(x, u)])
    (room : GRoom k callerA) (hfn : ∃ ps, fn [.ro (ns.map .int)] = .ok (.d (.bool true)) ps)
    (only : ∀ b, H b = none ∨ b ∈ cs.map (·.2) ∨ ∃ o xs, H b = some (.frz o (.lst xs))) (tabH : ∀ p ∈ cs, H p.2 = some (.tbl #[])) (sq : SqL KF.frag H a (ns.map V.int)) (hok : HOk P w H t.heap) (here : ∀ b, H b ≠ none → b = a ∨ b ∈ cs.map (·.2)) (out : H a ≠ none → KF.frag.lookup a = none) :
    codeAny (model P w) callerA (.call (.ref fa) ⟨[.ref a], []⟩) (fun r s' => r = .ok (.ret (.bool true)) ∧ OldK t.heap s'.heap ∧ s'.os = t.os ∧ AllBare s'.gens) t := by
  have tabAt : ∀ b, b ∈ cs.map (·.2) → t.heap.get? b = some { cls := .none, data := .fields #[] } ∧ KF.frag.lookup b = none ∧ H b = some (.tbl #[]) := fun b hb => by
    obtain ⟨p, hp, rfl⟩ := List.mem_map.mp hb
    exact ⟨tabE p hp, tabK p hp, tabH p hp⟩
  have stay : ∀ {b : Addr} {o : Obj}, t.heap.get? b = some o → H b = none → (hidT t.heap H).get? b = some o := fun e n => hidT_get e n
  -- what is neither a list nor a void record isn't tracked
  have bare : ∀ {b : Addr} {o : Obj}, t.heap.get? b = some o → (∀ vs n, o.data ≠ .seq vs n) → o.data ≠ .fields #[] → H b = none := fun {b o} e n1 n2 => Classical.byContradiction fun z => by
    rcases here b z with q | q
    · subst q
      rw [obj] at e
      cases e
      exact n1 _ _ rfl
    · rw [(tabAt b q).1] at e
      cases e
      exact n2 rfl
  have dictN : ∀ {b : Addr} {o : Obj} {es : Array DictEntry} {ep : Nat}, t.heap.get? b = some o → o.data = .dict es ep → H b = none := fun {b o es ep} e d =>
    bare e (fun vs n z => by rw [d] at z; cases z) fun z => by rw [d] at z; cases z
  have nsStay : ∀ {b : Addr} {m : Str → Option Value}, t.heap.Ns b m → (hidT t.heap H).Ns b m := fun {b m} ⟨o, es, ep, e, d, r⟩ => ⟨o, es, ep, stay e (dictN e d), d, r⟩
  have kin2 : KF.frag.In (hidT t.heap H) := fun b o e => stay (kin b o e) (Classical.byContradiction fun z => by
    rcases here b z with q | q
    · subst q
      rw [out z] at e
      cases e
    · rw [(tabAt b q).2.1] at e
      cases e)
  obtain ⟨mc, l1, l2⟩ := hlim
  have md : Mod KF.frag mg (hidT t.heap H) := ⟨kin2, nsStay nsM, ⟨mb, nsStay nsB, hbb⟩, ⟨mc, nsStay l1, l2⟩⟩
  have TB : ∀ p ∈ cs, LamX.TabB (hidT t.heap H) mg p.1 p.2 := fun p hp => by
    have e0 := tabE p hp
    refine ⟨?_, ?_, fun z => ?_⟩
    · obtain ⟨o, us, file, tf, flags, tg, inF, text, tt, e1, r1, r2, r3, rest⟩ := tabC p hp
      refine ⟨o, us, file, tf, flags, tg, inF, text, tt, stay e1 (bare e1 (fun vs n z => by rw [r2] at z; cases z) fun z => ?_), r1, r2, r3, rest⟩
      rw [r2] at z
      cases z
      simp at r3
    · obtain ⟨bm, ob, b1, b2, b3, b4, b5, b6⟩ := hbm
      have n1 : bm ≠ mainGlobals := fun q => by
        obtain ⟨o, es, ep, e, hd, _⟩ := nsM
        rw [q, e] at b3
        cases b3
        rw [hd] at b6
        cases b6
      have n2 : bm ≠ p.2 := fun q => by
        rw [q, e0] at b3
        cases b3
        cases b6
      exact ⟨bm, ob, b1, b2, n1, n2, stay b3 (bare b3 (fun vs n z => by rw [b6] at z; cases z) fun z => by rw [b6] at z; cases z), b4, b5, b6⟩
    · obtain ⟨o, es, ep, e, hd, _⟩ := nsM
      rw [z, e0] at e
      cases e
      cases hd
  have e0 : Env0 P w KF.frag mg (hidT t.heap H) callerA [] t H := ⟨rfl, md, fun b o e => of_hidT e, Nat.le_of_eq (hidT_size _ _), trivial, fun b hb => (List.not_mem_nil hb).elim, hok, .of_eq gn⟩
  have tabs0 : LamX.Tabs KF.tabs H := fun p hp => LamX.TabS.nil (tabAt _ (tabN p hp)).2.2
  have sqD : SqL KF.frag (frzP H) a (ns.map V.int) := by
    rcases sq with (h | ⟨o, h⟩) | h
    · exact .inl (.inl (frzP_of h rfl))
    · exact .inl (.inr ⟨o, frzP_of h rfl⟩)
    · exact .inr h
  have sp : fnSp mg 1 fn [.ref a] H (fun v _ => v = .bl true) fun _ _ _ => False := by
    obtain ⟨ps, hps⟩ := hfn
    refine ⟨rfl, ⟨mg, fun _ => none, fun _ => none, none, fun _ => none⟩, frzP H, [.ro (ns.map .int)], rfl, ⟨fun b o z => (frzP_some z).1, fun _ _ z => (nomatch z), fun _ _ z => (nomatch z), rfl, fun i s e => ?_, fun i j s u b ei _ oi _ _ _ => ?_, tabs0, fun b o z => (frzP_some z).2, fun _ _ z => (nomatch z), fun _ _ z => (nomatch z)⟩, rfl, ?_⟩
    · cases i with
      | zero =>
        cases e
        refine ⟨a, ns.map V.int, rfl, sqD, ?_⟩
        clear hps sq sqD
        induction ns with
        | nil => exact .nil
        | cons n r ih => exact .cons (.int n) ih
      | succ i => cases e
    · cases i with
      | zero => cases ei; cases oi
      | succ i => cases ei
    · rw [hps]
      intro v H' D' _ _ r
      cases r
      rfl
  refine codeAny_mono ((F _ kin2 (nsStay nsM) TB).run callerA [] t H ⟨[.ref a], []⟩ [.ref a] [.ref a] _ _ room e0 (bnd t (.ref a)) (.cons rfl .nil) sp) fun r s' got => ?_
  match r, got with
  | .error e, z => exact (cxm_false z).elim
  | .ok .next, z => exact False.elim z
  | .ok .brk, z => exact False.elim z
  | .ok .cont, z => exact False.elim z
  | .ok (.ret u), ⟨v, H', os, bare', un, hok', rel, z⟩ =>
    obtain rfl : v = .bl true := z
    obtain rfl : u = Value.bool true := rel
    have kept : ∀ b o, b ∉ cs.map (·.2) → t.heap.get? b = some o → s'.heap.get? b = some o := fun b o nb e => by
      rcases only b with n | n | ⟨ob, xs, n⟩
      · exact un.keep b o e n (by intro z; exact (List.not_mem_nil (show b ∈ ([] : List Addr) from z)).elim) (by simp)
      · exact absurd n nb
      · obtain ⟨e1, _⟩ := hok b _ n
        obtain ⟨e2, _⟩ := hok' b _ (un.frzs b ob _ n)
        exact e2.trans (e1.symm.trans e)
    have grown : ∀ p ∈ cs, ∃ more : Array Value, s'.heap.get? p.2 = some { cls := .none, data := .fields more } := fun p hp => by
      obtain ⟨more, z⟩ := un.tbls p.2 #[] (tabH p hp)
      exact ⟨_, hok' p.2 _ z⟩
    refine ⟨rfl, ⟨fun b o e => ?_, fun b o e => ?_⟩, os, bare'⟩
    · by_cases hb : b ∈ cs.map (·.2)
      · obtain ⟨p, hp, rfl⟩ := List.mem_map.mp hb
        obtain ⟨more, hm⟩ := grown p hp
        have e1 := tabE p hp
        rw [e1] at e
        cases e
        exact .inr (.inl ⟨((tabC p hp).tab e1).isCodeTable, rfl, #[], more, rfl, by rw [Array.empty_append]; exact hm⟩)
      · exact .inl (kept b o hb e)
    · by_cases hb : b ∈ cs.map (·.2)
      · obtain ⟨p, hp, rfl⟩ := List.mem_map.mp hb
        obtain ⟨more, hm⟩ := grown p hp
        exact ⟨_, hm⟩
      · exact ⟨o, kept b o hb e⟩
theorem lawT_call {m : Bool} {P : Program} {w : World} {mg mb : Str → Option Value} {k : Nat} {fa a : Addr} {fd : FuncData} {x : Str} {fn : Fn} {t : Shared} {vs : List Value} {ns : List Int} {cs : List (Addr × Addr)}
    (kin : KF.frag.In t.heap) (nsM : t.heap.Ns mainGlobals mg) (nsB : t.heap.Ns builtinsNs mb) (hbb : ∀ x : Str, x ≠ "__name__" → mb x = bootBuiltins x) (hlim : t.heap.NoLimit) (gn : t.gens = #[])
    (hbm : ∃ (bm : Addr) (ob : Obj), mg "__builtins__" = some (.ref bm) ∧ bm ≠ builtinsNs ∧ t.heap.get? bm = some ob ∧ ob.cls = .type "module" ∧ ob.dict = some builtinsNs ∧ ob.data = .plain)
    (obj : t.heap.get? a = some { cls := .type "list", data := .seq vs.toArray }) (hi : IntsAre vs ns) (hl : ns.length ≤ sizeLine)
    (tabE : ∀ p ∈ cs, t.heap.get? p.2 = some { cls := .none, data := .fields #[] }) (tabK : ∀ p ∈ cs, KF.frag.lookup p.2 = none) (tabC : ∀ p ∈ cs, PySem.W.CodeHd t.heap p.1 p.2) (tabN : ∀ p ∈ KF.tabs, p.1 ∈ cs.map (·.2))
    (F : ∀ base : Heap, KF.frag.In base → base.Ns mainGlobals mg → (∀ p ∈ cs, LamX.TabB base mg p.1 p.2) → FnD m P w KF.frag mg base k fa fd [x] (fnSp mg 1 fn)) (bnd : ∀ (s : Shared) (u : Value), BindsTo s fd ⟨[u], []⟩ [(x, u)])
    (room : GRoom k callerA) (hfn : ∃ ps, fn [.ro (ns.map .int)] = .ok (.d (.bool true)) ps) :
    codeAny (model P w) callerA (.call (.ref fa) ⟨[.ref a], []⟩) (fun r s' => r = .ok (.ret (.bool true)) ∧ OldK t.heap s'.heap ∧ s'.os = t.os ∧ AllBare s'.gens) t := by
  have rv := vals_ints hi
  have sz : vs.toArray.size ≤ sizeLine := by rw [List.size_toArray, hi.length]; exact hl
  have aT : a ∉ cs.map (·.2) := fun z => by
    obtain ⟨p, hp, e⟩ := List.mem_map.mp z
    have h := tabE p hp
    rw [show p.2 = a from e, obj] at h
    cases (show Data.seq vs.toArray _ = Data.fields #[] from congrArg Obj.data (Option.some.inj h))
  have tb : ∀ b, b ∈ cs.map (·.2) → t.heap.get? b = some { cls := .none, data := .fields #[] } := fun b hb => by
    obtain ⟨p, hp, rfl⟩ := List.mem_map.mp hb
    exact tabE p hp
  have mem : ∀ p ∈ cs, p.2 ∈ cs.map (·.2) := fun p hp => List.mem_map.mpr ⟨p, hp, rfl⟩
  by_cases hk : KF.frag.lookup a = none
  · let H0 : Hp := fun b => if b = a then some (.frz { cls := .type "list", data := .seq vs.toArray } (.lst (ns.map V.int))) else if b ∈ cs.map (·.2) then some (.tbl #[]) else none
    have h1 : H0 a = some (.frz { cls := .type "list", data := .seq vs.toArray } (.lst (ns.map V.int))) := if_pos rfl
    have h2 : ∀ b, b ∈ cs.map (·.2) → H0 b = some (.tbl #[]) := fun b hb => (if_neg fun z : b = a => aT (by rw [← z]; exact hb)).trans (if_pos hb)
    have h3 : ∀ b, b ≠ a → b ∉ cs.map (·.2) → H0 b = none := fun b n1 n2 => (if_neg n1).trans (if_neg n2)
    refine lawT_core (H := H0) kin nsM nsB hbb hlim gn hbm obj tabE tabK tabC tabN F bnd room hfn (fun b => ?_) (fun p hp => h2 _ (mem p hp)) (.inl (.inr ⟨_, h1⟩)) (fun b u z => ?_) (fun b z => ?_) fun _ => hk
    · by_cases q : b = a
      · exact .inr (.inr ⟨_, _, q ▸ h1⟩)
      · by_cases q2 : b ∈ cs.map (·.2)
        · exact .inr (.inl q2)
        · exact .inl (h3 b q q2)
    · by_cases q : b = a
      · subst q
        cases h1.symm.trans z
        exact ⟨obj, by rw [List.length_map]; exact hl, vs, _, rv, obj⟩
      · by_cases q2 : b ∈ cs.map (·.2)
        · cases (h2 b q2).symm.trans z
          exact tb b q2
        · cases (h3 b q q2).symm.trans z
    · by_cases q : b = a
      · exact .inl q
      · by_cases q2 : b ∈ cs.map (·.2)
        · exact .inr q2
        · exact absurd (h3 b q q2) z
  · obtain ⟨o, ho⟩ := Option.ne_none_iff_exists'.mp hk
    have e := (kin a o ho).symm.trans obj
    cases e
    let H0 : Hp := fun b => if b ∈ cs.map (·.2) then some (.tbl #[]) else none
    have h2 : ∀ b, b ∈ cs.map (·.2) → H0 b = some (.tbl #[]) := fun b hb => if_pos hb
    have h3 : ∀ b, b ∉ cs.map (·.2) → H0 b = none := fun b n => if_neg n
    refine lawT_core (H := H0) kin nsM nsB hbb hlim gn hbm obj tabE tabK tabC tabN F bnd room hfn (fun b => ?_) (fun p hp => h2 _ (mem p hp)) (.inr ⟨_, vs.toArray, _, ho, rfl, rfl, rfl, sz, by simpa using rv⟩) (fun b u z => ?_) (fun b z => ?_) fun z => absurd (h3 a aT) z
    · by_cases q2 : b ∈ cs.map (·.2)
      · exact .inr (.inl q2)
      · exact .inl (h3 b q2)
    · by_cases q2 : b ∈ cs.map (·.2)
      · cases (h2 b q2).symm.trans z
        exact tb b q2
      · cases (h3 b q2).symm.trans z
    · by_cases q2 : b ∈ cs.map (·.2)
      · exact .inr q2
      · exact absurd (h3 b q2) z
end
end L2.Dl
namespace L2
open PySem
open PySem.Spec
open PyProof.Rows
/-- what the head says of a def's code object: its table is void -/
def TabFact (mg : Str → Option Value) (h : Heap) (x : Str) : Prop := ∃ (a : Addr) (o : Obj) (fd : FuncData) (c P : Addr), mg x = some (.ref a) ∧ h.get? a = some o ∧ o.data = .func fd ∧ fd.code = .ref c ∧ h.IsCode c P #[] ∧ h.TableAt c P #[]
theorem walk_ofT {m : Bool} {l : PySem.W.OpenLaw} {n k : Nat} {q : Program} {loose : List Str} {XP : (Str → Option Value) → Heap → Prop} {YP : World → Heap → Prop} {d : DefRec} {K : Params → PySem.W.Frag} {fn : Dl.Fn} {x : Str} {ls : List Str}
    (hn : l.most = some n) (hn2 : n ≤ sizeLine) (hdf : d.params.defaults = []) (hr : Dl.GRoom k callerA)
    (hY : ∀ (w : World) (h : Heap), YP w h → (K w.params).In h) (hls : ∀ y ∈ ls, ((recsOf q).any fun e => e.name == y) = true)
    (F : ∀ (w : World) (mg : Str → Option Value) (fa : Addr) (h : Heap), (K w.params).In h → h.Ns mainGlobals mg → mg d.name = some (.ref fa) → (∀ y ∈ ls, TabFact mg h y) →
      ∃ (fd : FuncData) (ts : List (Addr × Str)) (cs : List (Addr × Addr)), (∀ p ∈ cs, h.get? p.2 = some { cls := .none, data := .fields #[] }) ∧ (∀ p ∈ cs, (K w.params).lookup p.2 = none) ∧ (∀ p ∈ cs, PySem.W.CodeHd h p.1 p.2) ∧ (∀ p ∈ ts, p.1 ∈ cs.map (·.2)) ∧ (∀ (s : Shared) (u : Value), BindsTo s fd ⟨[u], []⟩ [(x, u)]) ∧
        ∀ base : Heap, (K w.params).In base → base.Ns mainGlobals mg → (∀ p ∈ cs, LamX.TabB base mg p.1 p.2) → @Dl.FnD m l.prog w (K w.params) mg base k fa fd [x] (@Dl.fnSp ⟨K w.params, ts⟩ mg 1 fn))
    (hfn : ∀ ns : List Int, ns.length ≤ n → ∃ ps, fn [.ro (ns.map .int)] = .ok (.d (.bool true)) ps) :
    PySem.W.WalkO q loose XP YP l.row.toRowW d [] (fun f vs => PySem.call f vs) := by
  refine Att.attach_call hn hdf fun w s₀ s₁ mg mb fa o pm cd doc a vs ns G Y ho hd hcd hmg hobj hints hlen hg => ?_
  have kin := hY w _ Y
  obtain ⟨fd, ts, cs, t1, t2, t3, t4, hb, hF⟩ := F w mg fa _ kin G.T.g hmg fun y hy => by
    obtain ⟨dL, hm, hn1⟩ := List.any_eq_true.mp (hls y hy)
    have hn2 : dL.name = y := beq_iff_eq.mp hn1
    obtain ⟨a', o', fd', c', P', h1, h2, h3, h4, h5, h6⟩ := G.T.tab dL hm
    exact ⟨a', o', fd', c', P', hn2 ▸ h1, h2, h3, h4, h5, h6⟩
  letI : Dl.KF := ⟨K w.params, ts⟩
  exact Dl.lawT_call (cs := cs) kin G.T.g G.T.b G.T.builtins G.T.nolimit hg G.T.bmain hobj hints (Nat.le_trans hlen hn2) t1 t2 t3 t4 hF hb hr (hfn ns hlen)
end L2

namespace L2.Dl
open PySem
open PySem.Spec
open PyProof.Rows
section
variable [KF] {P : Program} {w : World} {mg : Str → Option Value} {base : Heap}
/-- what the parameter that holds a lambda does when it is called -/
abbrev HAct (m : Bool) (P : Program) (w : World) (mg : Str → Option Value) (base : Heap) (Ng : List Str) (x : Str) (sc : Scope) (a : Addr) (cdv : Value) (A : Around) (outer : List Env) (s : Shared) (H : Hp) (E : XK) (c' : Cf) (prm : Str) (r : ARes) : Prop :=
  ∀ (W' : WX) (pn : List (Addr × Obj)) (xe : Value → Shared → Prop) (i : Nat) (p1 p2 : Pos), Tk m ((cxOf (CXm m P w) P w KF.frag mg base Ng x sc a cdv A outer s H E).tr pn xe) W' → Ng[i]? = some prm → Vis sc prm → (prm == ("__debug__" : Str)) = false → (prm == ("__classdict__" : Str)) = false →
    PE ((cxOf (CXm m P w) P w KF.frag mg base Ng x sc a cdv A outer s H E).tr pn xe) (.Call (.Name prm p1) [] [] p2) (EOf W' c' (dAct i r))
/-- a def that a lambda is handed to -/
structure LaD (m : Bool) (P : Program) (w : World) (mg : Str → Option Value) (base : Heap) (k : Nat) (x : Str) (st : Stmt) (prm : Str) (Ng : List Str) (gm : ARes → DS) (a : Addr) (fd : FuncData) : Prop where
  gm' : mg x = some (.ref a)
  F : Fun KF.frag x x st a fd
  bd : ∀ (r : ARes) (cdv : Value) (A : Around) (outer : List Env) (s : Shared) (H : Hp) (E : XK) (c : Cf), GRoom k (A.deeper (envOfC x (defScope st) s.heap.objs.size a cdv)) → c.mg = mg → HAct m P w mg base Ng x (defScope st) a cdv A outer s H E c prm r →
    PSs (cxOf (CXm m P w) P w KF.frag mg base Ng x (defScope st) a cdv A outer s H E) (defBody st) (SOf (fun cls d _ H => E cls d H) c (gm r))
section
variable {m : Bool} {k : Nat} {x prm : Str} {st : Stmt} {ps N : List Str} {gm : ARes → DS} {a : Addr} {fd : FuncData} {d : DS}
theorem LaD.kp (c : LaD m P w mg base k x st prm N gm a fd) : PySem.W.keepIn KF.frag (.ref a) = true := c.F.kp
theorem LaD.pb (c : LaD m P w mg base k x st prm N gm a fd)
    (h : ∀ (kV doc pm : Value) (an : Option Addr) (cdv ct : Value) (us : List Value), us.length = [prm].length → bindArgs (PySem.W.fnOf x x (defArgs st) (defBody st) (defScope st) .none kV doc pm an cdv ct) ⟨us, []⟩ = pure ([prm].zip us)) : Binds KF.frag fd [prm] [] := c.F.binds h
/-- a def that makes lambdas: its code object is known -/
theorem cd_mkT {cc : Addr} (F : Fun KF.frag x x st a fd) (S : FnScope N ps (defScope st)) (gm : mg x = some (.ref a)) (hc : fd.code = .ref cc)
    (hb : ∀ (cdv : Value), cdv = .ref cc → ∀ (A : Around) (outer : List Env) (s : Shared) (H : Hp) (E : XK) (c : Cf), GRoom k (A.deeper (envOfC x (defScope st) s.heap.objs.size a cdv)) → c.mg = mg →
      PSs (cxOf (CXm m P w) P w KF.frag mg base N x (defScope st) a cdv A outer s H E) (defBody st) (SOf (fun cls d _ H => E cls d H) c d)) : CD m P w mg base (k + 1) x st ps (mkFn N.length d) a fd := by
  refine ⟨gm, F, ?_⟩
  obtain ⟨oc, od, kV, doc, pm, an, cdv, ct, osl, rfl, lk, hcd⟩ := F.ex
  exact fnd_of lk hcd S rfl fun A outer s H E c hr hmg => hb cdv hc A outer s H E c hr hmg
/-- the table of the code object of a def that makes lambdas -/
structure TabF (base : Heap) (mg : Str → Option Value) (q : Str) (c P : Addr) : Prop where
  TB : LamX.TabB base mg c P
  mem : (P, q) ∈ KF.tabs
  only : ∀ p ∈ KF.tabs, p.1 = P → p.2 = q
end
end
def IsTm (K : PySem.W.Frag) (mg : Str → Option Value) (cv : Value) (ca : Str → Option Bool) : Prop := ∀ n k C, ca n = some k → mg n = some (.ref C) → ExcC K C ∧ PySem.W.kitOne K (.ref C) cv = some k
def IsTsm (K : PySem.W.Frag) (mg : Str → Option Value) (cvs : List Value) (ca : Str → Option Bool) : Prop := ∀ n k C, ca n = some k → mg n = some (.ref C) → ExcC K C ∧ PySem.W.kitAny K (.ref C) cvs = some k
def FdTm (K : PySem.W.Frag) (mg : Str → Option Value) (f : Str) (ns : List Str) : Prop := ∀ n C, n ∈ ns → mg n = some (.ref C) → ExcC K C ∧ PySem.W.findIn K (.ref C) f = some none
theorem look_mem {n : Str} {k : Bool} : ∀ {l : List (Str × Bool)}, l.lookup n = some k → (n, k) ∈ l
  | [], h => nomatch h
  | (m, b) :: l, h => by
    simp only [List.lookup] at h
    split at h
    · rename_i e
      cases h
      rw [beq_iff_eq.mp e]
      exact List.mem_cons_self
    · exact List.mem_cons_of_mem _ (look_mem h)
theorem isTm_of {K : PySem.W.Frag} {mg : Str → Option Value} {cv : Value} {l : List (Str × Bool)} (hl : ∀ p ∈ l, ∃ C, mg p.1 = some (.ref C) ∧ ExcC K C ∧ PySem.W.kitOne K (.ref C) cv = some p.2) : IsTm K mg cv (fun n => l.lookup n) := fun n k C h hm => by
  obtain ⟨C', h1, h2, h3⟩ := hl _ (look_mem h)
  rw [hm] at h1
  cases h1
  exact ⟨h2, h3⟩
theorem isTsm_of {K : PySem.W.Frag} {mg : Str → Option Value} {cvs : List Value} {l : List (Str × Bool)} (hl : ∀ p ∈ l, ∃ C, mg p.1 = some (.ref C) ∧ ExcC K C ∧ PySem.W.kitAny K (.ref C) cvs = some p.2) : IsTsm K mg cvs (fun n => l.lookup n) := fun n k C h hm => by
  obtain ⟨C', h1, h2, h3⟩ := hl _ (look_mem h)
  rw [hm] at h1
  cases h1
  exact ⟨h2, h3⟩
theorem fdTm_of {K : PySem.W.Frag} {mg : Str → Option Value} {f : Str} {ns : List Str} (hl : ∀ n ∈ ns, ∃ C, mg n = some (.ref C) ∧ ExcC K C ∧ PySem.W.findIn K (.ref C) f = some none) : FdTm K mg f ns := fun n C h hm => by
  obtain ⟨C', h1, h2, h3⟩ := hl _ h
  rw [hm] at h1
  cases h1
  exact ⟨h2, h3⟩
def voidT : Obj → Bool
  | ⟨.none, none, .fields vs, _⟩ => vs.isEmpty
  | _ => false
theorem look_memK {a : Addr} {o : Obj} : ∀ {l : List (Addr × Obj)}, l.lookup a = some o → (a, o) ∈ l
  | [], h => nomatch h
  | (m, b) :: l, h => by
    simp only [List.lookup] at h
    split at h
    · rename_i e
      cases h
      rw [beq_iff_eq.mp e]
      exact List.mem_cons_self
    · exact List.mem_cons_of_mem _ (look_memK h)
theorem notab {K : PySem.W.Frag} {h : Heap} {P : Addr} (X : K.In h) (nt : (K.all fun q => !voidT q.2) = true) (ht : h.get? P = some { cls := .none, data := .fields #[] }) : K.lookup P = none := by
  cases e : K.lookup P with
  | none => rfl
  | some o =>
    have h1 := X P o e
    rw [ht] at h1
    cases h1
    have := List.all_eq_true.mp nt _ (look_memK e)
    cases this
theorem tab_of {K : PySem.W.Frag} {h : Heap} {mg : Str → Option Value} {y : Str} {f : Addr} {oc : Value} {od an : Option Addr} {osl : Array (Option Value)} {name qual : Str} {ar : Arguments} {bo : List Stmt} {sc : Scope} {dV kV dc pm cd ct : Value} (X : K.In h) (nt : (K.all fun q => !voidT q.2) = true) (T : TabFact mg h y)
    (hm : mg y = some (.ref f)) (lk : K.lookup f = some ⟨oc, od, .func (PySem.W.fnOf name qual ar bo sc dV kV dc pm an cd ct), osl⟩) :
    ∃ c P, cd = .ref c ∧ h.get? P = some { cls := .none, data := .fields #[] } ∧ K.lookup P = none ∧ PySem.W.CodeHd h c P ∧ h.TableAt c P #[] := by
  obtain ⟨a, o, fd, c, P, h1, h2, h3, h4, h5, h6⟩ := T
  rw [hm] at h1
  cases h1
  rw [X _ _ lk] at h2
  cases h2
  cases h3
  exact ⟨c, P, h4, h6.2, notab X nt h6.2, PySem.W.CodeHd.of h5 h6, h6⟩
def tabK (K : PySem.W.Frag) : Value → Option Addr
  | .ref c => (match K.lookup c with
    | some ⟨_, _, .fields vs, _⟩ => (match (vs[11]? : Option Value) with
      | some (.ref P) => some P
      | _ => none)
    | _ => none)
  | _ => none
def tabsDiff (K : PySem.W.Frag) (u v : Value) : Bool := match tabK K u, tabK K v with
  | some P, some Q => P != Q
  | _, _ => false
theorem tabK_of {K : PySem.W.Frag} {h : Heap} {c P Q : Addr} (X : K.In h) (t : tabK K (.ref c) = some Q) (h1 : h.TableAt c P #[]) : Q = P := by
  obtain ⟨⟨o, vs, e1, e2, e3, e4⟩, _⟩ := h1
  unfold tabK at t
  simp only [] at t
  split at t
  · rename_i oc od ws sl lk
    rw [X _ _ lk] at e1
    cases e1
    cases e3
    rw [e4] at t
    exact (Option.some.inj t).symm
  · cases t
theorem tab_ne {K : PySem.W.Frag} {h : Heap} {c1 P1 c2 P2 : Addr} (X : K.In h) (t : tabsDiff K (.ref c1) (.ref c2) = true) (h1 : h.TableAt c1 P1 #[]) (h2 : h.TableAt c2 P2 #[]) : P1 ≠ P2 := by
  unfold tabsDiff at t
  split at t
  · rename_i P Q e1 e2
    rw [← tabK_of X e1 h1, ← tabK_of X e2 h2]
    exact of_decide_eq_true (by simpa using t)
  · cases t
end L2.Dl

namespace L2.Dl
open PySem
open PySem.Spec
open PyProof.Rows
variable [KF]
def par3 (i j l : Nat) (os : List OV) (e : Nv) : SRes := match os with
  | [.d x, .d y, .d z] => if i ≠ j ∧ i ≠ l ∧ j ≠ l ∧ freeAt e i = true ∧ freeAt e j = true ∧ freeAt e l = true then .nx (((e.set i (.v x)).set j (.v y)).set l (.v z)) else .stuck
  | _ => .stuck
def dPar3 (i j l : Nat) (r : Nv → Res (List OV)) : DS := fun env => (r env).bs fun os e => par3 i j l os e
section
variable {X : Cx} {W : WX} {c : Cf} {r : Nv → Res (List OV)} {a b d : Expr} {i j l : Nat} {x y z : Str} {px py pz pt pos : Pos} {kt k2 pt2}
theorem ds_par3 (hc : X.calm = true) (hN : X.N.Nodup) (hi : X.N[i]? = some x) (hj : X.N[j]? = some y) (hl : X.N[l]? = some z) (hij : i ≠ j) (hil : i ≠ l) (hjl : j ≠ l)
    (hx : X.env.scope.names.lookup x = some .local) (hy : X.env.scope.names.lookup y = some .local) (hz : X.env.scope.names.lookup z = some .local) (ha : PA X [a, b, d] (AOf W c r))
    (hw : swappedStores [.Tuple [.Name x px, .Name y py, .Name z pz] kt pt] (.Tuple [a, b, d] k2 pt2) X.env = pure (some [x, y, z]))
    (hs : swapsWithSole [.Tuple [.Name x px, .Name y py, .Name z pz] kt pt] (.Tuple [a, b, d] k2 pt2) pos.line X.env = pure false := by rfl) :
    PS X (.Assign [.Tuple [.Name x px, .Name y py, .Name z pz] kt pt] (.Tuple [a, b, d] k2 pt2) pos) (SOf W c (dPar3 i j l r)) :=
  (ps_par3 hc hN hi hj hl hij hil hjl hx hy hz ha hw hs).weak fun De σ H ⟨D, env, S, p⟩ => by
    refine ⟨D, env, S, ?_⟩
    have p : PostS W c D De ((r env).bs fun os e => par3 i j l os e) := p
    revert p
    cases r env with
    | stuck => exact fun z => z
    | exc y e => exact fun z => z σ
    | ok os e =>
      intro p vs H' D' S' s' hv
      have p : PostS W c D De (par3 i j l os e) := p
      unfold par3 at p
      split at p
      · split at p
        · rename_i h
          obtain ⟨_, _, _, f1, f2, f3⟩ := h
          cases hv with
          | cons r1 q =>
            cases q with
            | cons r2 q =>
              cases q with
              | cons r3 q =>
                cases q
                refine ⟨_, _, _, rfl, ?_⟩
                have A1 := S'.setS (freeAt_lt f1) (.ofV r1)
                have A2 := A1.setS (i := j) (by rw [List.length_set]; exact freeAt_lt f2) (.ofV r2)
                have A3 := A2.setS (i := l) (by rw [List.length_set, List.length_set]; exact freeAt_lt f3) (.ofV r3)
                exact p _ _ _ A3 s'
        · exact p.elim
      · exact p.elim
end
section
variable {m : Bool} {X : Cx} {W : WX} {c : Cf} {k n : Nat} {f : Addr} {fd : FuncData} {ps : List Str} {fn : Fn} {dvs : List V} {ds : List Value} {ods : List PyData} {x : Str} {p pos : Pos}
theorem de_call0 (F : FnD m X.prog X.w X.K X.mg X.base k f fd ps (fnSp X.mg n fn)) (hr : GRoom k X.A) (tk : Tk m X W) (hmg : c.mg = X.mg) (hg : Gl X x) (hm : X.mg x = some (.ref f)) (hk : PySem.W.keepIn X.K (.ref f) = true) (hb : Binds X.K fd ps ds) (hd : Vals dvs ds) (hd2 : DfR dvs ods)
    (hdb : (x == ("__debug__" : Str)) = false := by decide) : PE X (.Call (.Name x p) [] [] pos) (EOf W c (dCall n fn ods dANil)) := by
  have core : PE X (.Call (.Name x p) [] [] pos) (tCallF (fnSp X.mg n fn) dvs W fun σ H Q => Q [] H) := by
    refine ⟨fun pins s σ H Q I h => ?_⟩
    refine wpAny_Call_Name_kw (ld_glob I hg hm ?_ hdb)
    have hl : ds.length = ps.length := by rw [← hd.length]; exact F.len _ _ _ _ h
    exact PySem.W.callWith_K0 I.kIn hk (run_fnF F hr tk I (hb _ [] I.kIn hl) hd h)
  refine core.weak fun σ H Q h => ?_
  obtain ⟨D, env, S, p⟩ := call_core (r := dANil) hmg hd2 h
  exact p _ _ _ S (Same.refl _) .nil
end
end L2.Dl

namespace L2.Dl
open PySem
open PySem.Spec
open PyProof.Rows
open HotX
section
variable {prog : Program} {w : World} {A : Around} {E : Value → Shared → Prop} {s : Shared}
theorem tup_over {it t z : Addr} {n : Nat} {items : Array Value} {Q : Option Value → Shared → Prop} (hot : HotAt A z s.heap) (ne : z ≠ it) (hit : IsTupIter s.heap it t n) (ht : IsTup s.heap t items) (no : items[n]? = none)
    (q : ∀ h', Heap.ExtBut it s.heap h' → Q none { s with heap := h' }) : wpAny (model prog w) A (pyNext (.ref it)) Q E s := by
  obtain ⟨oi, gi, ci, di⟩ := id hit
  obtain ⟨ot, gt, _, nt, dt⟩ := ht
  obtain ⟨hd, oz, vz, gz, dz, cz⟩ := hot
  unfold pyNext
  refine wpAny_bind (wpAny_attempt (wpAny_callSpecial?_slot (name := Str.ofString "__next__") hit.typeIs
    slot_tupleiter_next (wpAny_call_entry slot_tupleiter_next hit.typeIs
      entry_tupleiter_next ?_ (args_tupleiter_next _))))
  show wpAny _ _ (field (.ref it) 0 >>= _) _ _ s
  refine wpAny_bind <| wpAny_field gi di (x := .ref t) rfl ?_
  show wpAny _ _ (ite ((Value.ref t == Value.none) = true) _ _) _ _ s
  rw [if_neg (fun k : (Value.ref t == Value.none) = true => Bool.noConfusion (show false = true from k))]
  show wpAny _ _ (field (.ref it) 1 >>= _) _ _ s
  refine wpAny_bind <| wpAny_field gi di (x := .int n 0) rfl ?_
  show wpAny _ _ (seqItems? (.ref t) >>= _) _ _ s
  refine wpAny_bind <| wpAny_seqItems gt dt ?_
  simp only [Int.toNat_natCast, no]
  refine wpAny_bind <| wpAny_rule <| wpAny_bind <| wpAny_setField gi di (by simp) ?_
  show wpAny _ _ (newExc (.type "StopIteration") [] >>= fun _ => _) _ _ _
  apply wpAny_bind
  simp only [newTuple, newExc]
  refine wpAny_bind <| wpAny_newObj_type ?_ <| by size_fits
  refine wpAny_bind (m := firstArgMember _ _) <| wpAny_of_eq (a := Value.none)
    (by first | rfl | (simp only [firstArgMember]; rfl)) ?_
  refine wpAny_newObj_type ?_ <| by size_fits
  have up : ∀ b o, b ≠ it → s.heap.get? b = some o → (s.heap.update it (Obj.mapFields (·.setIfInBounds 0 .none))).get? b = some o := fun b o hb e => by
    rw [Heap.get?_update_other _ _ (Ne.symm hb)]
    exact e
  have gz1 := up z oz ne gz
  refine raiseNew_hot ⟨hd, oz, vz, Heap.get?_push_of_some _ (Heap.get?_push_of_some _ gz1), dz, cz⟩
    (Nat.ne_of_lt (Heap.lt_size (Heap.get?_push_of_some _ gz1)))
    (Heap.get?_push_size _ rfl) rfl (by first | (simp; done) | (simp; omega)) ?_
  refine wpAny_bind (wpAny_isInstance (T := "StopIteration") (b := true)
    ⟨_, Heap.get?_update_self _ (Heap.get?_push_size _ rfl) rfl, rfl⟩ isSubtype_stop ?_)
  refine wpAny_pure (q _ fun b o hb e => ?_)
  have e1 := up b o hb e
  rw [Heap.get?_update_other _ _ (Nat.ne_of_gt (Heap.lt_size (Heap.get?_push_of_some _ e1)))]
  exact Heap.get?_push_of_some _ (Heap.get?_push_of_some _ e1)
theorem unpack_hot {z t : Addr} {items : Array Value} {Q : List Value → Shared → Prop} (hot : HotAt A z s.heap) (ht : IsTup s.heap t items)
    (q : ∀ h', Heap.ExtBut s.heap.objs.size s.heap h' → Q items.toList { s with heap := h' }) : wpAny (model prog w) A (unpackItems (.ref t) items.size none) Q E s := by
  have lt : t ≠ s.heap.objs.size := by
    obtain ⟨o, ho, _⟩ := ht
    exact Nat.ne_of_lt (Heap.lt_size ho)
  obtain ⟨hd, oz, vz, gz, dz, cz⟩ := hot
  have lz : z ≠ s.heap.objs.size := Nat.ne_of_lt (Heap.lt_size gz)
  unfold unpackItems notIterableAtAll
  refine wpAny_bind (wpAny_bind (wpAny_specialOf ht.typeIs slot_tuple_iter.lookup (wpAny_pure ?_)))
  simp only [if_false, Bool.false_eq_true]
  refine wpAny_bind <| wpAny_holding <| iter_tuple ht ?_
  refine wpAny_bind <| wpAny_holding <| draw_tuple lt items.size 0 _ _ ⟨_, Heap.get?_push_size _ rfl, rfl, rfl⟩ (ht.push _) (by omega) fun h1 it1 sb => ?_
  have all : List.take items.size (List.drop 0 items.toList) = items.toList := List.take_of_length_le (by simp)
  rw [all, if_neg (by simp)]
  have t1 : IsTup h1 t items := (ht.push _).extBut sb.extBut lt
  have z1 : h1.get? z = some oz := sb.extBut z oz lz (Heap.get?_push_of_some _ gz)
  refine wpAny_bind <| wpAny_holding <| tup_over ⟨hd, oz, vz, z1, dz, cz⟩ lz it1 t1 (by simp) fun h2 k => ?_
  simp only [Option.isSome_none, if_false, Bool.false_eq_true]
  exact wpAny_pure (q h2 fun b o hb e => k b o hb (sb.extBut b o hb (Heap.get?_push_of_some _ e)))
end
section
variable {X : Cx} {i j : Nat} {x y : Str} {a b : Expr} {px py pt pos : Pos} {kt k2 pt2}
theorem ps_parH {ta : TA} (hot : L2H.HotC X) (nd : X.N.Nodup) (hi : X.N[i]? = some x) (hj : X.N[j]? = some y) (ij : i ≠ j) (lx : X.env.scope.names.lookup x = some .local) (ly : X.env.scope.names.lookup y = some .local) (ha : PA X [a, b] ta)
    (sw : swappedStores [.Tuple [.Name x px, .Name y py] kt pt] (.Tuple [a, b] k2 pt2) X.env = pure (some [x, y]))
    (so : swapsWithSole [.Tuple [.Name x px, .Name y py] kt pt] (.Tuple [a, b] k2 pt2) pos.line X.env = pure false) : PS X (.Assign [.Tuple [.Name x px, .Name y py] kt pt] (.Tuple [a, b] k2 pt2) pos) (tPar i j ta) := by
  refine ⟨fun pins s σ H De I h => ?_⟩
  rw [exec_Assign_arm]
  refine wpAny_bind <| wpAny_standAt ?_
  rw [so]
  refine wpAny_bind <| wpAny_pure ?_
  rw [if_neg Bool.false_ne_true]
  refine wpAny_bind <| Tuple_ <| thn (ha.run _ pins s σ H _ I h) fun us t ⟨vs, H1, J, rel, v, w, ev, fin⟩ => ?_
  subst ev
  cases rel with
  | cons rv rel =>
    cases rel with
    | cons rw2 rel =>
      cases rel
      rename_i u1 u2 _h
      refine wpAny_newObj_type ?_ (show 2 ≤ sizeLine by decide)
      have J2 : Inv X pins σ H1 { t with heap := t.heap.push { cls := .type "tuple", data := .seq [u1, u2].toArray } } := J.kept (t' := t.toks) fun b o e => Heap.get?_push_of_some _ e
      rw [sw]
      refine wpAny_bind <| wpAny_pure ?_
      show wpAny (model X.prog X.w) X.A (do
        rule "assign.swapped-stores"
        let items ← unpackItems (.ref t.heap.objs.size) 2 none
        assignInOrder [fun v => bindName X.env y v, fun v => bindName X.env x v] items.reverse
        pure Flow.next) _ _ _
      obtain ⟨z, hz⟩ := hot.at J2
      refine wpAny_bind <| wpAny_rule <| wpAny_bind <| unpack_hot (items := #[u1, u2]) hz (IsTup.new t.heap _) fun h' up => ?_
      have J3 := J2.kept (h' := h') (t' := t.toks) fun b o e => up b o (Nat.ne_of_lt (Heap.lt_size e)) e
      show wpAny _ _ (assignInOrder [fun v => bindName X.env y v, fun v => bindName X.env x v] [u2, u1] >>= fun _ => pure Flow.next) _ _ _
      refine wpAny_bind <| assignInOrder_cons <| wpAny_bindName <| store_ok J3 nd hj (.inl ly) rw2 (fun s4 J4 => ?_) (.inr ly)
      refine assignInOrder_cons <| wpAny_bindName <| store_ok J4 nd hi (.inl lx) rv (fun s5 J5 => ?_) (.inr lx)
      rw [List.set_comm _ _ ij.symm] at J5
      exact assignInOrder_nil <| wpAny_pure ⟨_, H1, J5, fin⟩
end
section
variable [KF] {X : Cx} {W : WX} {c : Cf} {r q : DR} {i j : Nat} {x y : Str} {a b : Expr} {px py pt pos : Pos} {kt k2 pt2}
theorem ds_parH (hot : L2H.HotC X) (nd : X.N.Nodup) (hi : X.N[i]? = some x) (hj : X.N[j]? = some y) (ij : i ≠ j) (lx : X.env.scope.names.lookup x = some .local) (ly : X.env.scope.names.lookup y = some .local)
    (ha : PE X a (ROf W c r)) (hb : ∀ B, Same c.B B → PE X b (ROf W (c.withB B) q)) (sw : swappedStores [.Tuple [.Name x px, .Name y py] kt pt] (.Tuple [a, b] k2 pt2) X.env = pure (some [x, y]))
    (so : swapsWithSole [.Tuple [.Name x px, .Name y py] kt pt] (.Tuple [a, b] k2 pt2) pos.line X.env = pure false := by rfl) (he : starEach [a, b] X.env = (false, eval a X.env) :: starEach [b] X.env := by rfl)
    (he2 : starEach [b] X.env = (false, eval b X.env) :: starEach [] X.env := by rfl) : PS X (.Assign [.Tuple [.Name x px, .Name y py] kt pt] (.Tuple [a, b] k2 pt2) pos) (SOf W c (dPar i j r q)) :=
  ds_parG (fun h => ps_parH hot nd hi hj ij lx ly h sw so) ha hb he he2
theorem ExI.wb {a : Addr} {oe : Obj} {x : Ex} {B : Hp} (E : ExI X c a oe x) (s : Same c.B B) : ExI X (c.withB B) a oe x := by
  refine ⟨E.mg, E.la, E.hf, ?_⟩
  obtain ⟨C, dd, fs, h1, h2, h3, h4⟩ := E.at'
  exact ⟨C, dd, fs, h1, h2, s _ _ h3, h4⟩
variable {ca : Str → Option Bool} {bd : DS} {sf : Ex → DS} {hcv : Value} {n cn : Str} {body suite : List Stmt} {b₀ : Stmt} {np pos' : Pos}
theorem ds_tryAsN (hs : X.stack = X.env :: X.outer) (hf : X.env.frame = some X.env.locals) (hN : X.N.Nodup) (hi : X.N[i]? = some n) (hln : X.env.kindOf n = some .local) (hC : Names X cn hcv) (tk : Tk true X W) (hmg : c.mg = X.mg) (hca : Caught X.K X.mg hcv ca)
    (hb : ∀ (V : WX) (pn : List (Addr × Obj)) (xe : Value → Shared → Prop), Tk true (X.tr pn xe) V → PassesOwn (model X.prog X.w) X.A X.env xe → PSs (X.tr pn xe) body (SOf V c bd))
    (hsu : ∀ (a : Addr) (oe : Obj) (pn : List (Addr × Obj)) (x : Ex) (c' : Cf), ExI X c' a oe x → L2H.HotC (X.suite a ((a, oe) :: pn)) → PSs (X.suite a ((a, oe) :: pn)) (b₀ :: suite) (SOf (fun _ _ _ _ => False) c' (sf x))) :
    PS X (.Try body [.ExceptHandler (some (.Name cn np)) (some n) (b₀ :: suite) pos'] [] [] pos) (SOf W c (dTryAs ca i bd sf)) :=
  (L2N.ps_try_as (c := hcv) (tb := fun V => SOf V c bd) (ts := tsAs X c sf fun _ => True) hs hf hN hi hln hC tk hb fun a oe cls d pn hz hv => ⟨fun pins s' σ H De I h => by
    obtain ⟨y, c', h1, h2⟩ := h
    obtain ⟨vs, ev⟩ := id hv
    exact (hsu a oe pn y c' (h1 oe hz.zc hv) ⟨(a, oe), ⟨rfl, vs, ev, hz.2.2 vs ev⟩, List.mem_cons_self⟩).run pins s' σ H De I h2⟩).weak fun De σ H h => tryAs_core hmg hca h
end
end L2.Dl

namespace L2.Dl
open PySem
open PySem.Spec
open PyProof.Rows
open L2H
section
variable {P : Program} {w : World} {K : PySem.W.Frag} {mg : Str → Option Value} {base : Heap} {C fI : Addr} {q f g : Str} {st : Stmt} {fd : FuncData} {m : Str}
/-- a field, while an exception is handled -/
theorem ok_init1H {st1 st2 : Stmt} (F : Fun K "__init__" q st fI fd) (S : FnScope ["self", f] ["self", f] (defScope st)) (hb : defBody st = [st1, st2]) (T : OexC K C) (hno : PySem.W.findIn K (.ref C) f = some none)
    (h1 : ∀ (cdv : Value) (A : Around) (outer : List Env) (s : Shared) (H : Hp) (E : XK) (p : Addr × Obj), PS (cxH (L2.CX P w) P w K mg base ["self", f] q (defScope st) fI cdv A outer s H E p) st1 (tDrop (tVeI K (tCons (tVar 0) (tCons (tC (.str m)) tNil)))))
    (h2 : ∀ (cdv : Value) (A : Around) (outer : List Env) (s : Shared) (H : Hp) (E : XK) (p : Addr × Obj), PS (cxH (L2.CX P w) P w K mg base ["self", f] q (defScope st) fI cdv A outer s H E p) st2 (tOst K f (tVar 0) (tVar 1))) : FnH P w K mg base (L2.CX P w) 1 fI fd ["self", f] (spInit C [f]) := by
  obtain ⟨oc, od, kV, doc, pm, an, cdv, ct, osl, rfl, lk, hcd⟩ := F.ex
  refine fn_ofH lk hcd S (fun vs H Q E ⟨a, ys, e, l, _⟩ => by rw [e, List.length_cons, l] <;> rfl) fun A outer s H vs Q E p hot hr h => ?_
  obtain ⟨a, ys, rfl, hl, ha, h⟩ := h
  obtain ⟨y, rfl⟩ : ∃ y, ys = [y] := by
    match ys, hl with
    | [y], _ => exact ⟨y, rfl⟩
  rw [hb]
  refine ⟨_, pss_cons (h1 cdv A outer s H E p) (pss_one (h2 cdv A outer s H E p)), ?_⟩
  refine ⟨.ref a, rfl, a, C, [.str m], rfl, (show 1 ≤ 1000 by decide), T, ha, ?_⟩
  refine ⟨y, rfl, .ref a, rfl, a, C, rfl, T, hno, .inl ⟨ha, fun dx n ne => ?_⟩⟩
  exact h dx _ n ne upd_same (by rw [upd_ne ne, upd_same] <;> rfl) fun c h1 h2 => by rw [upd_ne h1, upd_ne h2]
theorem ok_init2H {st1 st2 st3 : Stmt} (F : Fun K "__init__" q st fI fd) (S : FnScope ["self", f, g] ["self", f, g] (defScope st)) (hb : defBody st = [st1, st2, st3]) (T : OexC K C) (hno : PySem.W.findIn K (.ref C) f = some none) (hno2 : PySem.W.findIn K (.ref C) g = some none)
    (h1 : ∀ (cdv : Value) (A : Around) (outer : List Env) (s : Shared) (H : Hp) (E : XK) (p : Addr × Obj), PS (cxH (L2.CX P w) P w K mg base ["self", f, g] q (defScope st) fI cdv A outer s H E p) st1 (tDrop (tVeI K (tCons (tVar 0) (tCons (tC (.str m)) tNil)))))
    (h2 : ∀ (cdv : Value) (A : Around) (outer : List Env) (s : Shared) (H : Hp) (E : XK) (p : Addr × Obj), PS (cxH (L2.CX P w) P w K mg base ["self", f, g] q (defScope st) fI cdv A outer s H E p) st2 (tOst K f (tVar 0) (tVar 1)))
    (h3 : ∀ (cdv : Value) (A : Around) (outer : List Env) (s : Shared) (H : Hp) (E : XK) (p : Addr × Obj), PS (cxH (L2.CX P w) P w K mg base ["self", f, g] q (defScope st) fI cdv A outer s H E p) st3 (tOst K g (tVar 0) (tVar 2))) : FnH P w K mg base (L2.CX P w) 1 fI fd ["self", f, g] (spInit C [f, g]) := by
  obtain ⟨oc, od, kV, doc, pm, an, cdv, ct, osl, rfl, lk, hcd⟩ := F.ex
  refine fn_ofH lk hcd S (fun vs H Q E ⟨a, ys, e, l, _⟩ => by rw [e, List.length_cons, l] <;> rfl) fun A outer s H vs Q E p hot hr h => ?_
  obtain ⟨a, ys, rfl, hl, ha, h⟩ := h
  obtain ⟨y, z, rfl⟩ : ∃ y z, ys = [y, z] := by
    match ys, hl with
    | [y, z], _ => exact ⟨y, z, rfl⟩
  rw [hb]
  refine ⟨_, pss_cons (h1 cdv A outer s H E p) (pss_cons (h2 cdv A outer s H E p) (pss_one (h3 cdv A outer s H E p))), ?_⟩
  refine ⟨.ref a, rfl, a, C, [.str m], rfl, (show 1 ≤ 1000 by decide), T, ha, ?_⟩
  refine ⟨y, rfl, .ref a, rfl, a, C, rfl, T, hno, .inl ⟨ha, fun dx n ne => ?_⟩⟩
  refine ⟨z, rfl, .ref a, rfl, a, C, rfl, T, hno2, .inr ⟨dx, [(f, y)], upd_same, by rw [upd_ne ne, upd_same], (show 1 ≤ 900 by decide), ?_⟩⟩
  exact h dx _ n ne (by rw [upd_ne (Ne.symm ne), upd_same]) (by rw [upd_same] <;> rfl) fun c h1 h2 => by rw [upd_ne h2, upd_ne h1, upd_ne h2]
end
section
variable [KF] {X : Cx} {W : WX} {c : Cf}
/-- raise C(x, ..) from None, in an except suite -/
theorem ds_raiseN {C fI : Addr} {fd : FuncData} {x : Str} {fns : List Str} {e : Expr} {es : List Expr} {r : Nv → Res (List OV)} {p pos pos' cpos : Pos} {j : Nat} (x1 : XD X.prog X.w X.mg X.base x fns C fI fd) (xh : FnH X.prog X.w KF.frag X.mg X.base (L2.CX X.prog X.w) 1 fI fd ("self" :: fns) (spInit C fns))
    (hot : HotC X) (tk : Tk false X W) (hcm : c.mg = X.mg) (hK : X.K = KF.frag) (hr : RoomH 2 X.A) (hg : Gl X x) (ha : PA X (e :: es) (AOf W c r)) (hdb : (x == ("__debug__" : Str)) = false := by decide)
    (he : starEach (e :: es) X.env = (false, eval e X.env) :: starEach es X.env := by rfl) (hpl : (backTo pos (starEach es X.env)).any (·.1) = false := by rfl) :
    PS X (.Raise (some (.Call (.Name x p) (e :: es) [] pos)) (some (.Constant .none j cpos)) pos') (SOf W c (dRaise x fns r)) :=
  (ps_raiseHN hot tk (pmk5_oexH (hK ▸ x1.T) (hK ▸ x1.iC) (hK ▸ x1.tI) (hK ▸ xh) hr hot (hK ▸ x1.bd) (passes_call (W := WF) (fun _ _ ⟨_, _, _, _, _, _, _, _, _, _, _, _, _, _, _, _, w⟩ => w.elim) fun _ _ _ _ z => z) hg x1.gm ha hdb he hpl)).weak fun De σ H h => raise_core (by rw [hcm]; exact x1.gm) h
variable {ca : Str → Option Bool} {b s : DS} {hcv : Value} {x : Str} {body suite : List Stmt} {b₀ : Stmt} {np pos pos' : Pos}
/-- try: b except C: s, where s may raise -/
theorem ds_tryX (hs : X.stack = X.env :: X.outer) (hf : X.env.frame = some X.env.locals) (hN : Names X x hcv) (hpa : ∀ hd : Option Value, PassesOwnAt (model X.prog X.w) (X.A.mark hd) X.A X.env X.xe) (tk : Tk false X W) (hmg : c.mg = X.mg) (hca : Caught X.K X.mg hcv ca)
    (hb : ∀ (V : WX) (pn : List (Addr × Obj)) (xe : Value → Shared → Prop), Tk true (X.tr pn xe) V → PassesOwn (model X.prog X.w) X.A X.env xe → PSs (X.tr pn xe) body (SOf V c b))
    (hsu : ∀ (a : Addr) (oe : Obj) (pn : List (Addr × Obj)), Tk false (suiteX X a ((a, oe) :: pn)) W → HotC (suiteX X a ((a, oe) :: pn)) → PSs (suiteX X a ((a, oe) :: pn)) (b₀ :: suite) (SOf W c s)) :
    PS X (.Try body [.ExceptHandler (some (.Name x np)) none (b₀ :: suite) pos'] [] [] pos) (SOf W c (dTry ca b s dNext)) :=
  (ps_try_onlyX (c := hcv) (tb := fun V => SOf V c b) (ts := fun _ _ _ => SOf W c s) hs hf hN hpa tk (fun V pn xe t1 _ po => hb V pn xe t1 po) fun a oe cls d pn _ _ t1 hot => hsu a oe pn t1 hot).weak fun De σ H h => by
    obtain ⟨D, env, S, p⟩ := try_core (X := X) hmg hca h
    refine ⟨D, env, S, ?_⟩
    revert p
    cases b env with
    | nx e =>
      intro p σ1 H1 D1 S1 s1
      obtain ⟨D2, e2, S2, p2⟩ := p σ1 H1 D1 S1 s1
      exact p2 σ1 H1 D2 S2 (Same.refl _)
    | stuck => exact fun z => z
    | rt y e => exact fun z => z
    | rtD y e => exact fun z => z
    | bk e => exact fun z => z
    | ct e => exact fun z => z
    | exc y e => exact fun z => z
end
end L2.Dl

namespace L2.Dl
open PySem
open PySem.Spec
open PyProof.Rows
variable [KF]
def dSortD (i : Nat) : DL := fun env => match dctAt env i with
  | some (_, d) => match intsOf (d.kvs.map Prod.fst) with
    | some ks => if d.t = false ∧ ks.length < 64 then .ok ((ks.mergeSort fun a b => decide (a ≤ b)).map .int) env else .stuck
    | none => .stuck
  | none => .stuck
theorem sort_uniq : ∀ {xs ys : List Int}, xs.Perm ys → xs.Pairwise (· ≤ ·) → ys.Pairwise (· ≤ ·) → xs = ys := fun p h1 h2 => p.eq_of_pairwise (fun a b _ _ h k => Int.le_antisymm h k) h1 h2
theorem ints_keys : ∀ {kv : List (Key × V)} {kvs : List (PyData × PyData)} {D : Hp} {ks : List Int}, Paired (fun (p : Key × V) (q : PyData × PyData) => q.1 = kD p.1 ∧ Rp D p.2 q.2) kv kvs → intsOf (kvs.map Prod.fst) = some ks → kv.map (·.1) = ks.map Sum.inl
  | [], [], _, ks, _, e => by cases e; rfl
  | p :: r, q :: s, D, ks, h, e => by
    cases h with
    | cons h1 h2 =>
      obtain ⟨k, v⟩ := p
      obtain ⟨a, b⟩ := q
      have h1 : a = kD k := h1.1
      subst h1
      rw [List.map_cons] at e
      cases k with
      | inr x => cases e
      | inl i =>
        have e : (match intsOf (s.map Prod.fst) with | some bs => some (i :: bs) | none => none) = some ks := e
        cases g : intsOf (s.map Prod.fst) with
        | none => rw [g] at e; cases e
        | some bs =>
          rw [g] at e
          cases e
          rw [List.map_cons, ints_keys h2 g]
          rfl
theorem rpl_ints {D : Hp} : ∀ xs : List Int, RpL D (xs.map V.int) (xs.map .int)
  | [] => .nil
  | x :: r => .cons (.int x) (rpl_ints r)
section
variable {X : Cx} {W : WX} {c : Cf} {pos p p1 : Pos} {i : Nat} {x : Str}
theorem dl_sortD (hc : X.calm = true) (hN : X.N[i]? = some x) (hv : Vis X.env.scope x) (hg : Gl X "sorted") (hm : X.mg "sorted" = none) (hd : (x == ("__debug__" : Str)) = false := by decide) (hcd : (x == ("__classdict__" : Str)) = false := by decide) :
    PE X (.Call (.Name "sorted" p) [.Name x p1] [] pos) (LOf W c (dSortD i)) :=
  (pe_callB (call_sortedDI hc) hg hm rfl (pa_cons (pe_var hN hv hd hcd) pa_nil)).weak fun σ H Q ⟨D, env, S, p⟩ => by
    have p : PostL W c D σ Q (dSortD i env) := p
    unfold dSortD at p
    split at p
    · rename_i d h0
      obtain ⟨a, ea, ja, hd0⟩ := S.dctSlot h0
      split at p
      · rename_i ks hk
        split at p
        · rename_i hh
          rcases hd0 with ⟨_, kv, h1, h2⟩ | ⟨t1, _⟩
          · refine ⟨_, ea, a, kv, ks, rfl, .of h1, ints_keys h2 hk, hh.2, fun ys q hp hs hq => ?_⟩
            have hm : (ks.mergeSort fun a b => decide (a ≤ b)).Pairwise (· ≤ ·) := by
              have := List.pairwise_mergeSort (le := fun a b : Int => decide (a ≤ b)) (fun a b c h1 h2 => decide_eq_true (Int.le_trans (of_decide_eq_true h1) (of_decide_eq_true h2))) (fun a b => by
                rcases Int.le_total a b with h | h
                · rw [decide_eq_true h]; rfl
                · rw [decide_eq_true h, Bool.or_true]) ks
              exact this.imp fun h => of_decide_eq_true h
            rw [sort_uniq (hp.trans (List.mergeSort_perm ks _).symm) hs hm]
            exact p q _ H D S (Same.refl _) hq (rpl_ints _)
          · rw [hh.1] at t1; cases t1
        · exact p.elim
      · exact p.elim
    · exact p.elim
end
end L2.Dl

namespace L2.Dl
open PySem
open PySem.Spec
open PyProof.Rows
variable [KF]
theorem de_callLT {m : Bool} {X : Cx} {W : WX} {c : Cf} {i : Nat} {x : Str} {p pos : Pos} {e : Expr} {es : List Expr} {r : Nv → Res (List OV)} {l : List (Str × (Nat × Fn))} (tk : Tk m X W) (hmg : c.mg = X.mg) (hN : X.N[i]? = some x) (hv : Vis X.env.scope x)
    (htb : ∀ n k fn, l.lookup n = some (k, fn) → TbOk m X n k fn)
    (ha : PA X (e :: es) (AOf W c r)) (hd : (x == ("__debug__" : Str)) = false := by decide) (hcd : (x == ("__classdict__" : Str)) = false := by decide) (he : starEach (e :: es) X.env = (false, eval e X.env) :: starEach es X.env := by rfl) (hpl : (backTo pos (starEach es X.env)).any (·.1) = false := by rfl) :
    PE X (.Call (.Name x p) (e :: es) [] pos) (EOf W c (dCallL i (fun n => l.lookup n) r)) := de_callL tk hmg hN hv htb ha hd hcd he hpl
theorem tb_ok2 {m : Bool} {X : Cx} {lv : Nat} {x : Str} {st : Stmt} {ps : List Str} {fn : Fn} {a : Addr} {fd : FuncData} (c : CD m X.prog X.w X.mg X.base lv x st ps fn a fd) (hb : Binds KF.frag fd ps []) (hK : X.K = KF.frag) (hr : GRoom lv X.A) : TbOk m X x ps.length fn :=
  ⟨lv, a, fd, ps, hK ▸ c.fn, hr, c.gm, hK ▸ c.kp, hK ▸ hb⟩
end L2.Dl

namespace L2.Dl
open PySem
open PySem.Spec
open PyProof.Rows
variable [KF]
def dDispGet (ps : List (Key × DE)) (dk : DE) : DE := fun env => (dDisp ps env).bd fun d e => (dk e).bd fun o e1 => match pinOV e1 o with
  | some (x, e2) => if keyOk d.t x = true then (match lookD d.kvs x with
    | some y => .ok (.d y) e2
    | none => .stuck) else .stuck
  | none => .stuck
section
variable {X : Cx} {W : WX} {c : Cf} {pos p1 : Pos} {keys : List (Option Expr)} {values : List Expr} {ps : List (Key × DE)} {k : Expr} {dk : DE}
theorem de_dispGet (hu : X.A.units + 1 < cLine) (h : Pr X W c p1 keys values ps) (hk : ∀ B, PE X k (EOf W (c.withB B) dk)) (hall : keys.all (·.isSome) = true) (hl : keys.length = values.length) (h0 : keys ≠ []) (h15 : keys.length ≤ 15) (hs : NoSl k) :
    PE X (.Subscript (.Dict keys values p1) k pos) (EOf W c (dDispGet ps dk)) :=
  (pe_dget hu (dk_disp h hall hl h0 h15) (show PE X k (EB W c dk) from ⟨fun pins s σ H Q I ⟨B, z⟩ => (hk B).run pins s σ H Q I z⟩) hs).weak fun σ H Q ⟨D, env, S, p⟩ => by
    refine ⟨D, env, S, ?_⟩
    have p : PostE W c D σ Q ((dDisp ps env).bd _) := p
    revert p
    cases dDisp ps env with
    | stuck => exact fun z => z
    | exc y e => exact fun z => z
    | ok d e =>
      intro p q o H' D' S' s' hq r
      have p : PostE W c D' σ Q ((dk e).bd _) := PostE.mono p s'
      have hB : Same c.B (upd c.B q o) := same_upd' (S'.bh.free hq)
      obtain ⟨u, hu1, hu2⟩ := r.trackedO
      rw [upd_same] at hu1
      cases hu1
      have S1 : Sim (c.withB (upd c.B q o)) D' e σ (upd H' q o) := (S'.grow hq _).toB upd_same (S'.dh.free hq) (S'.apartNew hq) (okO_okB hu2)
      refine ⟨upd c.B q o, D', e, S1, ?_⟩
      show PostE W (c.withB (upd c.B q o)) D' σ _ (dk e)
      revert p
      cases dk e with
      | stuck => exact fun z => z
      | exc y e2 => exact fun z => PostX.ofB z hB
      | ok o2 e2 =>
        intro p v H1 D1 S2 s1 r1
        have p : PostE W c D' σ Q (match pinOV e2 o2 with | some (x, e3) => if keyOk d.t x = true then (match lookD d.kvs x with | some y => .ok (.d y) e3 | none => .stuck) else .stuck | none => .stuck) := p
        split at p
        · rename_i x e3 hp
          obtain ⟨D2, S3, s2, r2⟩ := S2.pin r1 hp
          split at p
          · rename_i hk2
            split at p
            · rename_i z hz
              have e4 : H1 q = some o := S3.bh q _ upd_same
              have r3 : DctOk D2 H1 q d := r.mono (s1.trans s2) (e4.trans upd_same.symm)
              obtain ⟨o', g1, g2⟩ := r3.get S3.dh r2 hk2
              rcases g2 with ⟨_, g2⟩ | ⟨w, z', rfl, g2, g3⟩
              · rw [hz] at g2; cases g2
              · rw [hz] at g2; cases g2
                exact ⟨q, w, rfl, g1, p w H1 D2 (S3.ofB hB) (s1.trans s2) g3⟩
            · exact p.elim
          · exact p.elim
        · exact p.elim
end
end L2.Dl

namespace L2.Dl
open PySem
open PySem.Spec
open PyProof.Rows
variable [KF]
/-- a walk that does not look at what is held -/
structure DrwA (D0 : Hp) (J : It) (xs : List PyData) : Prop where
  ex : ∃ (G : Hp → Prop) (Y : Nat → Hp → V → Hp → Prop), Walk J xs.length G Y ∧ (∀ c D env σ H, Same D0 D → Sim c D env σ H → G H) ∧
    ∀ c i H v H1 D env σ, i < xs.length → Same D0 D → Sim c D env σ H → Y i H v H1 → ∃ x, xs[i]? = some x ∧ NewR D H v x H1
theorem drwA_str {D : Hp} {z : Str} : DrwA D (Its z) (signs z) :=
  ⟨_, _, by rw [show (signs z).length = z.cps.size by simp [signs]]; exact walk_str, fun _ _ _ _ _ _ _ => True.intro, fun c i H v H1 D' env σ hi s S y => by
    obtain ⟨rfl, ch, hc, rfl⟩ := y
    exact ⟨.str ⟨#[ch]⟩, by simp [signs, hc], NewR.of (.str _)⟩⟩
theorem drwA_list {K : PySem.W.Frag} {D : Hp} {a : Addr} {vs : List V} {xs : List PyData} (h : D a = some (.lst vs)) (r : RpL D vs xs) : DrwA D (Itl K a) xs :=
  ⟨_, _, by rw [← r.length]; exact walk_list, fun c D' env σ H s S => SqL.of (S.dh _ _ (s _ _ h)), fun c i H v H1 D' env σ hi s S y => by
    obtain ⟨rfl, e⟩ := y
    obtain ⟨x, e1, e2⟩ := (r.mono s).get e
    exact ⟨x, e1, NewR.of e2⟩⟩
theorem drwA_tup {D : Hp} {a : Addr} {vs : List V} {xs : List PyData} (h : SqT KF.frag D a vs) (r : RpL D vs xs) : DrwA D (Itt KF.frag a) xs :=
  ⟨_, _, by rw [← r.length]; exact walk_tup, fun c D' env σ H s S => (h.same s).same S.dh, fun c i H v H1 D' env σ hi s S y => by
    obtain ⟨rfl, e⟩ := y
    obtain ⟨x, e1, e2⟩ := (r.mono s).get e
    exact ⟨x, e1, NewR.of e2⟩⟩
def PostIA (W : WX) (c : Cf) (D : Hp) (σ : St) (R : It → Hp → Prop) : Res (List PyData) → Prop
  | .ok xs env' => ∀ J H' D', Sim c D' env' σ H' → Same D D' → DrwA D' J xs → R J H'
  | .exc x env' => PostX W c D σ x env'
  | .stuck => False
def IAf (W : WX) (c : Cf) (d : DI) : TI := fun σ H R => ∃ D env, Sim c D env σ H ∧ PostIA W c D σ R (d env)
theorem di_seqA {X : Cx} {W : WX} {c : Cf} {tg e : Expr} {d : DE} (hK : KF.frag = X.K) (he : PE X e (EOf W c d)) : PI X tg e (IAf W c (dIt d)) :=
  (((pi_list he).or (pi_tup he)).or (pi_str he)).weak fun σ H R ⟨D, env, S, p⟩ => by
    have p : PostIA W c D σ R ((d env).bd itOfS) := p
    cases g : d env with
    | stuck => rw [g] at p; exact p.elim
    | exc y e => rw [g] at p; exact .inl (.inl ⟨D, env, S, by rw [g]; exact p⟩)
    | ok o e1 =>
      rw [g] at p
      have p : PostIA W c D σ R (itOfS o e1) := p
      unfold itOfS at p
      split at p
      · rename_i xs e2 hp
        refine .inl (.inl ⟨D, env, S, ?_⟩)
        rw [g]
        intro v H1 D1 S1 s1 r1
        obtain ⟨D2, S2, s2, r2⟩ := S1.pin r1 hp
        cases r2 with
        | @lst a vs _ k1 k2 => exact ⟨a, rfl, ⟨vs, .of (S2.dh _ _ k1)⟩, p _ H1 D2 S2 (s1.trans s2) (drwA_list k1 k2)⟩
      · rename_i xs e2 hp
        refine .inl (.inr ⟨D, env, S, ?_⟩)
        rw [g]
        intro v H1 D1 S1 s1 r1
        obtain ⟨D2, S2, s2, r2⟩ := S1.pin r1 hp
        obtain ⟨a, vs, rfl, k1, k2⟩ := r2.tupS
        rw [← hK]
        exact ⟨a, rfl, ⟨vs, k1.same S2.dh⟩, p _ H1 D2 S2 (s1.trans s2) (drwA_tup k1 k2)⟩
      · rename_i z e2 hp
        refine .inr ⟨D, env, S, ?_⟩
        rw [g]
        intro v H1 D1 S1 s1 r1
        obtain ⟨D2, S2, s2, r2⟩ := S1.pin r1 hp
        cases r2
        exact ⟨z, rfl, p _ H1 D2 S2 (s1.trans s2) drwA_str⟩
      · exact p.elim
def lcO (p : Pat) (it1 : DI) (p1 : Pat) (d : DE) (vs vs1 : List Nat) : List PyData → List PyData → Nv → Res (List PyData)
  | [], acc, e => .ok acc e
  | x :: r, acc, e => match asgP p x e with
    | none => .stuck
    | some e1 => (it1 e1).bx fun ys e2 => (lcL p1 dYes d vs1 ys acc (wipeN e2 vs1)).bx fun acc' e3 => lcO p it1 p1 d vs vs1 r acc' (wipeN e3 vs)
def dLc2 (it : DI) (p : Pat) (it1 : DI) (p1 : Pat) (d : DE) (vs vs1 : List Nat) : DL := fun env => (it env).bd fun xs e =>
  if vs.all (plainAt e) = true then (lcO p it1 p1 d vs vs1 xs [] (wipeN e vs)).bx fun ys e' => .ok ys (backN e e' vs) else .stuck
def IB (c : Cf) (it : DI) : TI := fun σ H R => ∃ B, IAf WF (c.withB B) it σ H R
section
variable {X : Cx} {W : WX} {c : Cf} {pos : Pos} {tg iter tg1 iter1 elt : Expr} {scope : Scope} {own : List (Str × Nat)} {it it1 : DI} {p p1 : Pat} {d : DE}
theorem wipe_two {σ : St} {vs vs1 : List Nat} (h : ∀ i ∈ vs1, i ∈ vs) : L2.wipe (L2.wipe σ vs1) vs = L2.wipe σ vs := wipe_ext (wipe_length σ vs1) fun j hj => wipe_out fun z => hj (h j z)
theorem lc2_core' {vs vs1 : List Nat} (hv : ∀ i ∈ p.slots, i ∈ vs) (hv1 : ∀ i ∈ p1.slots, i ∈ vs1) (hvv : ∀ i ∈ vs1, i ∈ vs) {σ : St} {H : Hp} {Q : VK} (h : LOf W c (dLc2 it p it1 p1 d vs vs1) σ H Q) :
    tLc2 (IOf W c it) (GB c p) (TB c dYes) (IB c it1) (GB c p1) (TB c dYes) (EB WF c d) vs vs1 σ H Q := by
  obtain ⟨D, env, S, q⟩ := h
  refine ⟨D, env, S, ?_⟩
  have q : PostL W c D σ Q ((it env).bd _) := q
  revert q
  cases it env with
  | stuck => exact fun z => z
  | exc y e => exact fun z => z
  | ok xs e1 =>
    intro q J H1 D1 S1 s1 dr A hA
    simp only [Res.bd] at q
    split at q
    · rename_i hpl
      have hpl : ∀ i ∈ vs, plainAt e1 i = true := List.all_eq_true.mp hpl
      obtain ⟨G, Y, wk, hG, hY⟩ := dr.ex
      have hBA : c.B A = none := S1.bh.free hA
      -- what is left to do gives the end
      let Pv : Nat → Hp → Prop := fun i H => ∃ D2 env2 acc accV, Sim (c.withB (upd c.B A (.lst accV))) D2 env2 (L2.wipe σ vs) H ∧ RpL D2 accV acc ∧ Same D1 D2 ∧
          PostL W c D σ Q ((lcO p it1 p1 d vs vs1 (xs.drop i) acc env2).bx fun ys e' => .ok ys (backN e1 e' vs))
      have hPG : ∀ i H, i ≤ xs.length → Pv i H → G H := fun i H _ ⟨D2, env2, acc, accV, S2, r2, s2, q2⟩ => hG D2 env2 _ H s2 (S2.ofB (same_upd' hBA))
      refine ⟨fun i m H => m = xs.length - i ∧ i ≤ xs.length ∧ Pv i H, ⟨xs.length, by simp, Nat.zero_le _, D1, wipeN e1 vs, [], [], ((S1.wipe vs).grow hA _).toB upd_same (S1.dh.free hA) ((S1.wipe vs).apartNew hA), .nil, Same.refl _, by rw [List.drop_zero]; exact q⟩, ?_⟩
      rintro i m H2 ⟨rfl, hi0, pv⟩
      have gh := hPG i H2 hi0 pv
      by_cases hlt : i < xs.length
      · refine .inr ⟨wk.goes i H2 hlt gh, Pv (i + 1), fun H' p' => ⟨xs.length - (i + 1), by omega, rfl, hlt, p'⟩, fun v H3 y => ?_⟩
        obtain ⟨D2, env2, acc, accV, S2, r2, s2, q2⟩ := pv
        obtain ⟨x, hx, n⟩ := hY i H2 v H3 D2 env2 _ hlt s2 (S2.ofB (same_upd' hBA)) (wk.yields i H2 v H3 hlt gh y)
        obtain ⟨D3, S3, s3, r3⟩ := S2.newR n
        have hd : xs.drop i = x :: xs.drop (i + 1) := by
          rw [List.drop_eq_getElem_cons hlt]
          have : xs[i] = x := by
            rw [List.getElem?_eq_getElem hlt] at hx; exact Option.some.inj hx
          rw [this]
        rw [hd] at q2
        unfold lcO at q2
        revert q2
        cases g : asgP p x env2 with
        | none => exact fun z => z.elim
        | some e2 =>
          intro q2
          refine ⟨_, D3, env2, x, e2, S3, r3, g, fun σ4 H4 D4 S4 s4 a4 => ?_⟩
          have ew : L2.wipe σ4 vs = L2.wipe σ vs := (wipe_ext a4.1 fun j hj => a4.2 j fun z => hj (hv j z)).trans wipe_idem
          refine ⟨ew, _, D4, e2, S4, ?_⟩
          intro H5 D5 S5 s5
          refine iteT ⟨_, D5, e2, S5, ?_⟩
          revert q2
          simp only []
          cases it1 e2 with
          | stuck => exact fun z => z.elim
          | exc y e => exact fun z => z.elim
          | ok ys e3 =>
            intro q2 J1 H6 D6 S6 s6 dr1
            have q2 : PostL W c D σ Q (((lcL p1 dYes d vs1 ys acc (wipeN e3 vs1)).bx fun acc' e4 => lcO p it1 p1 d vs vs1 (xs.drop (i + 1)) acc' (wipeN e4 vs)).bx fun ys e' => .ok ys (backN e1 e' vs)) := q2
            obtain ⟨G1, Y1, wk1, hG1, hY1⟩ := dr1.ex
            have sD6 := ((s2.trans s3).trans s4).trans (s5.trans s6)
            let Pw : Nat → Hp → Prop := fun j H => ∃ D7 env7 acc accV, Sim (c.withB (upd c.B A (.lst accV))) D7 env7 (L2.wipe σ4 vs1) H ∧ RpL D7 accV acc ∧ Same D6 D7 ∧
              PostL W c D σ Q (((lcL p1 dYes d vs1 (ys.drop j) acc env7).bx fun acc' e4 => lcO p it1 p1 d vs vs1 (xs.drop (i + 1)) acc' (wipeN e4 vs)).bx fun ys e' => .ok ys (backN e1 e' vs))
            have hPG1 : ∀ j H, j ≤ ys.length → Pw j H → G1 H := fun j H _ ⟨D7, env7, acc7, accV7, S7, r7, s7, q7⟩ => hG1 _ D7 env7 _ H s7 S7
            refine ⟨fun j k H => k = ys.length - j ∧ j ≤ ys.length ∧ Pw j H, ⟨ys.length, by simp, Nat.zero_le _, D6, wipeN e3 vs1, acc, accV, S6.wipe vs1, r2.mono (((s3.trans s4).trans s5).trans s6), Same.refl _, by rw [List.drop_zero]; exact q2⟩, ?_⟩
            rintro j k H7 ⟨rfl, hj0, pw⟩
            have gh1 := hPG1 j H7 hj0 pw
            by_cases hlj : j < ys.length
            · refine .inr ⟨wk1.goes j H7 hlj gh1, Pw (j + 1), fun H' p' => ⟨ys.length - (j + 1), by omega, rfl, hlj, p'⟩, fun w H8 y8 => ?_⟩
              obtain ⟨D7, env7, acc7, accV7, S7, r7, s7, q7⟩ := pw
              obtain ⟨x7, hx7, n7⟩ := hY1 _ j H7 w H8 D7 env7 _ hlj s7 S7 (wk1.yields j H7 w H8 hlj gh1 y8)
              obtain ⟨D8, S8, s8, r8⟩ := S7.newR n7
              have hd7 : ys.drop j = x7 :: ys.drop (j + 1) := by
                rw [List.drop_eq_getElem_cons hlj]
                have : ys[j] = x7 := by
                  rw [List.getElem?_eq_getElem hlj] at hx7; exact Option.some.inj hx7
                rw [this]
              rw [hd7] at q7
              unfold lcL at q7
              revert q7
              cases g7 : asgP p1 x7 env7 with
              | none => exact fun z => z.elim
              | some e8 =>
                intro q7
                refine ⟨_, D8, env7, x7, e8, S8, r8, g7, fun σ9 H9 D9 S9 s9 a9 => ?_⟩
                have ew1 : L2.wipe σ9 vs1 = L2.wipe σ4 vs1 := (wipe_ext a9.1 fun j hj => a9.2 j fun z => hj (hv1 j z)).trans wipe_idem
                refine ⟨ew1, _, D9, e8, S9, ?_⟩
                intro H10 D10 S10 s10
                have sD := ((s7.trans s8).trans s9).trans s10
                refine iteT ⟨_, D10, e8, S10, ?_⟩
                revert q7
                simp only [dYes, Res.bx, if_true]
                cases d e8 with
                | stuck => exact fun z => z.elim
                | exc y e => exact fun z => z.elim
                | ok o e9 =>
                  intro q7 w' H11 D11 S11 s11 r11
                  simp only [] at q7
                  cases hp : pinOV e9 o with
                  | none => rw [hp] at q7; exact q7.elim
                  | some ye =>
                    obtain ⟨y, e10⟩ := ye
                    rw [hp] at q7
                    simp only [] at q7
                    obtain ⟨D12, S12, s12, r12⟩ := S11.pin r11 hp
                    by_cases hl : acc7.length < lenB
                    · rw [if_pos hl] at q7
                      refine ⟨accV7, S12.bh A _ upd_same, by rw [r7.length]; exact Nat.lt_of_lt_of_le hl (lenB_le (Nat.le_refl _)), D12, wipeN e10 vs1, acc7 ++ [y], accV7 ++ [w'], ?_, ?_, (sD.trans s11).trans s12, q7⟩
                      · rw [← ew1]
                        exact (S12.wipe vs1).rehold hBA
                      · exact (r7.mono ((((s8.trans s9).trans s10).trans s11).trans s12)).append (.cons r12 .nil)
                    · rw [if_neg hl] at q7; exact q7.elim
            · have e : j = ys.length := by omega
              subst e
              refine .inl ⟨wk1.stops H7 gh1, ?_⟩
              obtain ⟨D7, env7, acc7, accV7, S7, r7, s7, q7⟩ := pw
              rw [List.drop_length] at q7
              refine ⟨D7, wipeN env7 vs, acc7, accV7, ?_, r7, sD6.trans s7, q7⟩
              rw [← ew, ← wipe_two hvv]
              exact S7.wipe vs
      · have e : i = xs.length := by omega
        subst e
        refine .inl ⟨wk.stops H2 gh, ?_⟩
        obtain ⟨D2, env2, acc, accV, S2, r2, s2, q2⟩ := pv
        rw [List.drop_length] at q2
        have q2 : PostL W c D σ Q (.ok acc (backN e1 env2 vs)) := q2
        have eA : H2 A = some (.lst accV) := S2.bh A _ upd_same
        rw [← hole_back eA]
        exact q2 A accV (hole H2 A) D2 (Sim.back S1 (S2.unhold hBA) s2 hpl) (s1.trans s2) hole_same r2
    · exact q.elim
theorem dl_lc2 (hc : X.calm = true) (hN : X.N.Nodup) (hi : PI X tg iter (IOf W c it)) (ok : BlkOk X.N X.env.scope scope own) {vs1 : List Nat} (hv : ∀ i ∈ p.slots, i ∈ own.map (·.2)) (hv1 : ∀ i ∈ p1.slots, i ∈ vs1) (hvv : ∀ i ∈ vs1, i ∈ own.map (·.2))
    (hg : ∀ (B : Hp) (s : Shared) (H : Hp) (C : Addr) (cl : List (Str × Addr)) (fp : List Addr), PG (X.blk s H scope (compEnvC scope cl C X.env) fp) tg (GOf (c.withB B) p))
    (hi1 : ∀ (B : Hp) (s : Shared) (H : Hp) (C : Addr) (cl : List (Str × Addr)) (fp : List Addr), PI (X.blk s H scope (compEnvC scope cl C X.env) fp) tg1 iter1 (IAf WF (c.withB B) it1))
    (hg1 : ∀ (B : Hp) (s : Shared) (H : Hp) (C : Addr) (cl : List (Str × Addr)) (fp : List Addr), PG (X.blk s H scope (compEnvC scope cl C X.env) fp) tg1 (GOf (c.withB B) p1))
    (he : ∀ (B : Hp) (s : Shared) (H : Hp) (C : Addr) (cl : List (Str × Addr)) (fp : List Addr), PE (X.blk s H scope (compEnvC scope cl C X.env) fp) elt (EOf WF (c.withB B) d)) (hs : ∀ x, foldedSetIterable iter X.env x = pure x := by intro _; rfl) (hs1 : ∀ env x, foldedSetIterable iter1 env x = pure x := by intro _ _; rfl) :
    PE X (.ListComp elt [⟨tg, iter, [], 0⟩, ⟨tg1, iter1, [], 0⟩] scope pos) (LOf W c (dLc2 it p it1 p1 d (own.map (·.2)) vs1)) :=
  (pe_lc2 hc hN hi ok hvv (g := GB c p) (tt := TB c dYes) (wi1 := IB c it1) (g1 := GB c p1) (tt1 := TB c dYes) (te := EB WF c d) (fun s H C cl fp => ⟨fun pins s' σ H' v u Q I r ⟨B, z⟩ => (hg B s H C cl fp).run pins s' σ H' v u Q I r z⟩)
    (fun s H C cl fp => ⟨fun pins s' σ H' Q I ⟨B, z⟩ => (dts_nil (c := c.withB B)).run pins s' σ H' Q I z⟩)
    (fun s H C cl fp => ⟨fun pins s' σ H' Q I ⟨B, z⟩ => (hi1 B s H C cl fp).run pins s' σ H' Q I z⟩)
    (fun s H C cl fp => ⟨fun pins s' σ H' v u Q I r ⟨B, z⟩ => (hg1 B s H C cl fp).run pins s' σ H' v u Q I r z⟩)
    (fun s H C cl fp => ⟨fun pins s' σ H' Q I ⟨B, z⟩ => (dts_nil (c := c.withB B)).run pins s' σ H' Q I z⟩)
    (fun s H C cl fp => ⟨fun pins s' σ H' Q I ⟨B, z⟩ => (he B s H C cl fp).run pins s' σ H' Q I z⟩) hs hs1).weak
    fun σ H Q h => lc2_core' hv hv1 hvv h
end
end L2.Dl

namespace L2.Dl
open PySem
open PySem.Spec
open PyProof.Rows
variable [KF]
def gStr : List PyData → Option PyData
  | [.int i] => if i.natAbs ≤ 1000000 then some (.str (toString i)) else none
  | _ => none
theorem log2_small {n : Nat} (h : n ≤ 1000000) : n.log2 < 1920 := by
  by_cases z : n = 0
  · rw [z]; decide
  · exact (Nat.log2_lt z).2 (Nat.lt_of_le_of_lt h (by decide))
theorem lf_str : LfA (fun xs H Q => ∃ i, xs = [.int i] ∧ i.natAbs.log2 < 1920 ∧ Q (.str (toString i)) H) gStr := by
  intro D H vs xs z Q s r e q
  unfold gStr at e
  split at e
  · split at e
    · rename_i h
      cases e
      obtain ⟨v, rfl, h'⟩ := r.one
      exact ⟨_, by rw [h'.int], log2_small h, q _ _ (.of (.str _))⟩
    · cases e
  · cases e
end L2.Dl

namespace L2.Dl
open PySem
open PySem.Spec
open PyProof.Rows
def sSetSl (to tl th tv : TE) : TS := fun D σ H => tv σ H fun v H1 => to σ H1 fun x H2 => tl σ H2 fun a H3 => th σ H3 fun c H4 => ∃ l b xs ys i j, x = .ref l ∧ v = .ref b ∧ a = .int i ∧ c = .int j ∧ H4 l = some (.lst xs) ∧ H4 b = some (.lst ys) ∧ l ≠ b ∧
  0 ≤ i ∧ i ≤ j ∧ j ≤ xs.length ∧ xs.length + ys.length ≤ sizeLine ∧ D.nx σ (upd H4 l (.lst (xs.take i.toNat ++ ys ++ xs.drop j.toNat)))
section
variable {X : Cx} {o lo hi value : Expr} {pos pos' p3 : Pos} {to tl th tv : TE}
theorem ps_setSl (ho : PE X o to) (hl : PE X lo tl) (hh : PE X hi th) (hv : PE X value tv) (hs : swapsWith value (some (.Subscript o (.Slice (some lo) (some hi) none p3) pos')) pos.line X.env = pure false) :
    PS X (.Assign [.Subscript o (.Slice (some lo) (some hi) none p3) pos'] value pos) (sSetSl to tl th tv) := by
  refine ⟨fun pins s σ H D I h => ?_⟩
  refine wpAny_Assign_Subscript (thn (hv.run pins s σ H _ I h) fun r s1 ⟨v, H1, I1, rv, q1⟩ => thn (ho.run pins s1 σ H1 _ I1 q1) fun u s2 ⟨x, H2, I2, rx, q2⟩ => ?_) hs
  refine wpAny_Slice ?_
  rw [evalPart_some, evalPart_some, evalPart_none]
  refine thn (hl.run pins s2 σ H2 _ I2 q2) fun vl s3 ⟨a, H3, I3, ra, q3⟩ => thn (hh.run pins s3 σ H3 _ I3 q3) fun vu s4 ⟨c, H4, I4, rc, q4⟩ => wpAny_pure ?_
  obtain ⟨l, b, xs, ys, i, j, rfl, rfl, rfl, rfl, e1, e2, ne, h0, h1, h2, hz, fin⟩ := q4
  obtain rfl : u = Value.ref l := rx
  obtain rfl : r = Value.ref b := rv
  have I5 : Inv X pins σ H4 { s4 with heap := s4.heap.push { cls := .type "slice", data := .fields #[vl, vu, .none] } } := I4.kept (t' := s4.toks) fun b ob q => Heap.get?_push_of_some _ q
  exact set_slice I5 e1 e2 ne (Heap.IsSliceOf.new ..) ra rc h0 h1 h2 hz fun s6 I6 => ⟨σ, _, I6, fin⟩
end
def dSetSl (i : Nat) (dl dh dv : DE) : DS := fun env => (dv env).bs fun o e => match pinOV e o with
  | some (.list ys, e1) => match ownAt e1 i with
    | some _ => (dl e1).bs fun o2 e2 => match pinOV e2 o2 with
      | some (.int a, e3) => (dh e3).bs fun o3 e4 => match pinOV e4 o3 with
        | some (.int b, e5) => match ownAt e5 i with
          | some (p, xs) => if 0 ≤ a ∧ a ≤ b ∧ b ≤ (xs.length : Int) ∧ xs.length + ys.length ≤ lenB then .nx (e5.set i (.own p (xs.take a.toNat ++ ys ++ xs.drop b.toNat))) else .stuck
          | none => .stuck
        | _ => .stuck
      | _ => .stuck
    | none => .stuck
  | _ => .stuck
section
variable [KF] {X : Cx} {W : WX} {c : Cf} {pos pos' p1 p3 : Pos} {lo hi value : Expr} {dl dh dv : DE} {i : Nat} {x : Str}
theorem ds_setSl (hN : X.N[i]? = some x) (hv : Vis X.env.scope x) (hl : PE X lo (EOf W c dl)) (hh : PE X hi (EOf W c dh)) (he : PE X value (EOf W c dv)) (hs : swapsWith value (some (.Subscript (.Name x p1) (.Slice (some lo) (some hi) none p3) pos')) pos.line X.env = pure false := by rfl) (hd : (x == ("__debug__" : Str)) = false := by decide) (hcd : (x == ("__classdict__" : Str)) = false := by decide) :
    PS X (.Assign [.Subscript (.Name x p1) (.Slice (some lo) (some hi) none p3) pos'] value pos) (SOf W c (dSetSl i dl dh dv)) :=
  (ps_setSl (pe_var hN hv hd hcd) hl hh he hs).weak fun De σ H ⟨D, env, S, p⟩ => by
    refine ⟨D, env, S, ?_⟩
    have p : PostS W c D De ((dv env).bs _) := p
    revert p
    cases dv env with
    | stuck => exact fun z => z
    | exc y e => exact fun z => z σ
    | ok o e1 =>
      intro p v H1 D1 S1 s1 r1
      simp only [Res.bs] at p
      split at p
      · rename_i ys e2 hp
        obtain ⟨D2, S2, s2, r2⟩ := S1.pin r1 hp
        split at p
        · rename_i d0 h0
          obtain ⟨l, vs0, ea, ja, hd0, _⟩ := S2.ownSlot (p := d0.1) (d := d0.2) h0
          refine ⟨_, ea, D2, e2, S2, ?_⟩
          revert p
          cases dl e2 with
          | stuck => exact fun z => z
          | exc y e => exact fun z => PostX.mono (z σ) (s1.trans s2)
          | ok o2 e3 =>
            intro p w H3 D3 S3 s3 r3
            simp only [Res.bs] at p
            split at p
            · rename_i a e4 hp2
              obtain ⟨D4, S4, s4, r4⟩ := S3.pin r3 hp2
              refine ⟨D4, e4, S4, ?_⟩
              have s34 := s3.trans s4
              revert p
              cases dh e4 with
              | stuck => exact fun z => z
              | exc y e => exact fun z => PostX.mono (z σ) ((s1.trans s2).trans s34)
              | ok o3 e5 =>
                intro p w2 H5 D5 S5 s5 r5
                simp only [Res.bs] at p
                split at p
                · rename_i b e6 hp3
                  obtain ⟨D6, S6, s6, r6⟩ := S5.pin r5 hp3
                  split at p
                  · rename_i pp xs ho
                    split at p
                    · rename_i hk
                      have s56 := s5.trans s6
                      obtain ⟨l', vs, ea', k1, k2, k3⟩ := S6.slot i _ (ownAt_eq ho)
                      rw [ja] at ea'; cases ea'
                      have r7 := r2.mono (s34.trans s56)
                      cases r4 with
                      | int =>
                        cases r6 with
                        | int =>
                          cases r7 with
                          | @lst bb ws _ h1 h2 =>
                            refine ⟨l, bb, vs, ws, a, b, rfl, rfl, rfl, rfl, k1, S6.dh _ _ h1, ?_, hk.1, hk.2.1, ?_, ?_, ?_⟩
                            · intro z
                              subst z
                              simp_all
                            · rw [k2.length]; exact hk.2.2.1
                            · rw [k2.length, h2.length]; exact lenB_le hk.2.2.2
                            · exact p _ _ D6 (S6.putOwn (ownAt_eq ho) ja (((k2.take _).append h2).append (k2.drop _))) ((s1.trans s2).trans (s34.trans s56))
                    · exact p.elim
                  · exact p.elim
                · exact p.elim
            · exact p.elim
        · exact p.elim
      · exact p.elim
end
end L2.Dl

namespace L2
open PySem
open PySem.Spec
open PyProof.Rows
def stIx (n k : Nat) : List Nat := sliceRange (sliceBounds none none (some (k : Int)) n).1 (sliceBounds none none (some (k : Int)) n).2.1 (sliceBounds none none (some (k : Int)) n).2.2
def strideL {α : Type} (k : Nat) (xs : List α) : List α := (stIx xs.length k).filterMap (xs[·]?)
theorem Vals.strideI {xs : List V} {us : List Value} (r : Vals xs us) : ∀ l : List Nat, Vals (l.filterMap (xs[·]?)) (l.filterMap (us[·]?))
  | [] => .nil
  | i :: l => by
    have ih := Vals.strideI r l
    have hl := r.length
    cases e : xs[i]? with
    | none =>
      have : us[i]? = none := List.getElem?_eq_none (by have := List.getElem?_eq_none_iff.mp e; omega)
      rw [List.filterMap_cons_none e, List.filterMap_cons_none this]
      exact ih
    | some x =>
      obtain ⟨u, h1, h2⟩ := r.get e
      rw [List.filterMap_cons_some e, List.filterMap_cons_some h1]
      exact .cons h2 ih
def tStep (K : PySem.W.Frag) (k : Nat) (te : TE) : TE := fun σ H Q => te σ H fun x H1 => ∃ a xs, x = .ref a ∧ SqL K H1 a xs ∧ (strideL k xs).length ≤ sizeLine ∧ ∀ p, H1 p = none → Q (.ref p) (upd H1 p (.lst (strideL k xs)))
theorem pe_step {X : Cx} {e : Expr} {te : TE} {j k : Nat} {p1 p3 pos : Pos} (hk : (k : Int) ≠ 0) (he : PE X e te) : PE X (.Subscript e (.Slice none none (some (.Constant (.int (k : Int)) j p1)) p3) pos) (tStep X.K k te) := by
  refine ⟨fun pins s σ H Q I h => ?_⟩
  refine Subscript_ (thn (he.run pins s σ H _ I h) fun v s1 ⟨x, H1, I1, r1, q1⟩ => ?_)
  have hst : PO X (some (.Constant (.int (k : Int)) j p1)) (tPart (tC (.int (k : Int)))) := po_some pe_int
  refine wpAny_Slice (thn (po_none.run pins s1 σ H1 (fun o H2 => o = none ∧ H2 = H1) I1 ⟨rfl, rfl⟩) fun vl s2 ⟨l, H2, I2, pl, el, e2⟩ => ?_)
  subst el e2
  refine thn (po_none.run pins s2 σ H2 (fun o H3 => o = none ∧ H3 = H2) I2 ⟨rfl, rfl⟩) fun vu s3 ⟨u, H3, I3, pu, eu, e3⟩ => ?_
  subst eu e3
  refine thn (hst.run pins s3 σ H3 (fun o H4 => o = some (k : Int) ∧ H4 = H3) I3 ⟨k, rfl, rfl, rfl⟩) fun vs s4 ⟨o, H4, I4, ps, eo, e4⟩ => ?_
  subst eo e4
  have I5 : Inv X pins σ H4 { s4 with heap := s4.heap.push { cls := .type "slice", data := .fields #[vl, vu, vs] } } := I4.kept (t' := s4.toks) fun b ob q => Heap.get?_push_of_some _ q
  obtain ⟨a, xs, ex, hx, hz2, q⟩ := q1
  subst ex
  cases r1
  obtain ⟨its, r, ht, hz⟩ := I5.list hx
  have hlen := r.length
  show wpAny (model X.prog X.w) X.A (subscriptTail e (.Slice none none (some (.Constant (.int (k : Int)) j p1)) p3) (.ref a) (.ref s4.heap.objs.size)) (EP X pins σ Q) X.xe { s4 with heap := s4.heap.push { cls := .type "slice", data := .fields #[vl, vu, vs] } }
  refine tail_any (ops := [.ref a, .ref s4.heap.objs.size]) ht.isList.typeIs (PySem.slot_list_getitem.lookup) ?_ (by with_unfolding_all rfl)
  refine wpAny_getItem_list_slice ht.isList (Heap.IsSliceOf.new _ vl vu vs) pl pu ps (by simpa using hk) ?_ (by rw [List.size_toArray]; omega)
  have pk : slicePick its.toArray none none (some (k : Int)) = (strideL k its).toArray := by
    unfold slicePick strideL stIx
    rw [List.size_toArray]
    congr 1
    congr 1
    funext i
    simp
  rw [pk]
  have rv : Vals (strideL k xs) (strideL k its) := by
    unfold strideL
    rw [hlen]
    exact Vals.strideI r _
  refine ⟨.ref _, _, I5.laid (t' := s4.toks) (o := .lst (strideL k xs)) (fun b ob q => Heap.get?_push_of_some _ q) (Nat.le_refl _) ?_, rfl, q _ (I5.hok.fresh (Nat.le_refl _))⟩
  exact ⟨hz2, _, 0, rv, Heap.get?_push_size _ rfl⟩
end L2
namespace L2.Dl
open PySem
open PySem.Spec
open PyProof.Rows
def gStep (k : Nat) : PyData → Option PyData
  | .list xs => if (strideL k xs).length ≤ lenB then some (.list (strideL k xs)) else none
  | _ => none
variable [KF]
theorem RpL.strideI {D : Hp} {vs : List V} {ds : List PyData} (r : RpL D vs ds) : ∀ l : List Nat, RpL D (l.filterMap (vs[·]?)) (l.filterMap (ds[·]?))
  | [] => .nil
  | i :: l => by
    have ih := RpL.strideI r l
    have hl := r.length
    cases e : vs[i]? with
    | none =>
      have : ds[i]? = none := List.getElem?_eq_none (by have := List.getElem?_eq_none_iff.mp e; omega)
      rw [List.filterMap_cons_none e, List.filterMap_cons_none this]
      exact ih
    | some x =>
      obtain ⟨u, h1, h2⟩ := r.get e
      rw [List.filterMap_cons_some e, List.filterMap_cons_some h1]
      exact .cons h2 ih
theorem de_step {X : Cx} {W : WX} {c : Cf} {e : Expr} {d : DE} {j k : Nat} {p1 p3 pos : Pos} (hk : (k : Int) ≠ 0) (hK : c.K = X.K) (he : PE X e (EOf W c d)) : PE X (.Subscript e (.Slice none none (some (.Constant (.int (k : Int)) j p1)) p3) pos) (EOf W c (dUn (gStep k) d)) := by
  refine (pe_step hk he).weak fun σ H Q h => ?_
  have lf : Lf1 (fun x H1 Q => ∃ a xs, x = .ref a ∧ SqL KF.frag H1 a xs ∧ (strideL k xs).length ≤ sizeLine ∧ ∀ p, H1 p = none → Q (.ref p) (upd H1 p (.lst (strideL k xs)))) (gStep k) := fun D H x a z Q s r hg q => by
    cases a with
    | list ds =>
      unfold gStep at hg
      simp only at hg
      split at hg
      · rename_i hz
        cases hg
        obtain ⟨b, vs, rfl, h1, h2⟩ := r.lst s
        have rs : RpL D (strideL k vs) (strideL k ds) := by
          unfold strideL
          rw [h2.length]
          exact RpL.strideI h2 _
        exact ⟨b, vs, rfl, .inl (.inl h1), by rw [rs.length]; exact lenB_le hz, fun p hp => q _ _ (.lst hp rs)⟩
      · cases hg
    | _ => cases hg
  have := un_core lf h
  rw [← hK]
  exact this
end L2.Dl

namespace L2.Dl
open PySem
open PySem.Spec
open PyProof.Rows
def dPin (d : DE) : DE := fun env => (d env).bd fun o e => match pinOV e o with
  | some (x, e1) => .ok (.d x) e1
  | none => .stuck
theorem de_pin [KF] {X : Cx} {W : WX} {c : Cf} {e : Expr} {d : DE} (he : PE X e (EOf W c d)) : PE X e (EOf W c (dPin d)) :=
  he.weak fun σ H Q ⟨D, env, S, p⟩ => by
    refine ⟨D, env, S, ?_⟩
    have p : PostE W c D σ Q ((d env).bd _) := p
    revert p
    cases d env with
    | stuck => exact fun z => z
    | exc y e => exact fun z => z
    | ok o e1 =>
      intro p v H1 D1 S1 s1 r1
      simp only [Res.bd] at p
      split at p
      · rename_i x e2 hp
        obtain ⟨D2, S2, s2, r2⟩ := S1.pin r1 hp
        exact p v H1 D2 S2 (s1.trans s2) r2
      · exact p.elim
end L2.Dl

namespace L2.Dl
open PySem
open PySem.Spec
open PyProof.Rows
open L2H (RoomH HotC Hot1 PinOk cxH inv_startH)
variable [KF]
/-- what a def of one parameter tells of the exception -/
def fnX (nn : Nat) (d : DS) : Option PyData := match d (.la :: List.replicate (nn - 1) .un) with
  | .rt x _ => some x
  | .nx _ => some .none
  | _ => none
theorem backE_nil {l : Nv} : ∀ (e : Nv) (n : Nat), backE [] l e n = some e
  | [], _ => rfl
  | s :: r, n => by
    unfold backE
    rw [backE_nil r (n + 1)]
    show (if s.owns = true then _ else _) = _
    split <;> rfl
section
variable {c : Cf} {D : Hp} {e : Nv} {σ : St} {H : Hp}
noncomputable def cfX (c : Cf) (D : Hp) (e : Nv) (σ : St) (H : Hp) (a : Addr) : Cf := { cfIn c D e σ H [] [] with la := some (a, a, ("" : Str)), D0 := D }
theorem Sim.toX (S : Sim c D e σ H) (a : Addr) (n : Nat) : Sim (cfX c D e σ H a) D (.la :: List.replicate n .un) (some (.ref a) :: List.replicate n none) H := by
  have S0 : Sim (cfIn c D e σ H [] []) D [] [] H := S.args .nil rfl rfl
  refine ⟨S0.dh, S0.bh, S0.bd, by simp, fun j t q => ?_, fun i j s t b ei ej oi oj hi hj => ?_, S0.tb, S0.nd, S0.nb, Same.refl _⟩
  · cases j with
    | zero =>
      simp only [List.getElem?_cons_zero] at q
      cases q
      exact ⟨a, a, ("" : Str), rfl, rfl⟩
    | succ j =>
      simp only [List.getElem?_cons_succ, List.getElem?_replicate] at q
      split at q
      · cases q; trivial
      · cases q
  · have no : ∀ {j : Nat} {t : Slot}, (Slot.la :: List.replicate n Slot.un)[j]? = some t → t.owns = true → False := fun {j t} q o => by
      cases j with
      | zero =>
        simp only [List.getElem?_cons_zero] at q
        cases q
        cases o
      | succ j =>
        simp only [List.getElem?_cons_succ, List.getElem?_replicate] at q
        split at q
        · cases q; cases o
        · cases q
    exact (no ei oi).elim
theorem Sim.ofX (S : Sim c D e σ H) {a : Addr} {D' H' : Hp} {e' : Nv} {σ' : St} (S' : Sim (cfX c D e σ H a) D' e' σ' H') (s : Same D D') : Sim c D' e σ H' := by
  have S0 : Sim (cfIn c D e σ H [] []) D' [] [] H' := ⟨S'.dh, S'.bh, S'.bd, rfl, (by intro j t q; cases q), (by intro i j s t b ei; cases ei), S'.tb, S'.nd, S'.nb, (by intro _ _ z; cases z)⟩
  exact S.backE .nil S0 s (backE_nil (l := []) e 0)
end
/-- a def that an exception is handed to -/
structure ExD (P : Program) (w : World) (mg : Str → Option Value) (base : Heap) (k : Nat) (x : Str) (st : Stmt) (prm : Str) (N : List Str) (m : Ex → DS) (f : Addr) (fd : FuncData) : Prop where
  gm' : mg x = some (.ref f)
  F : Fun KF.frag x x st f fd
  bd : ∀ (y : Ex) (a : Addr) (cdv : Value) (A : Around) (outer : List Env) (s : Shared) (H : Hp) (E : XK) (c : Cf) (oe : Obj), GRoom k (A.deeper (envOfC x (defScope st) s.heap.objs.size f cdv)) → c.mg = mg →
    ExI (cxOf (CXm true P w) P w KF.frag mg base N x (defScope st) f cdv A outer s H E) c a oe y →
    HotC ((cxOf (CXm true P w) P w KF.frag mg base N x (defScope st) f cdv A outer s H E).suite a ((a, oe) :: [])) →
    PSs ((cxOf (CXm true P w) P w KF.frag mg base N x (defScope st) f cdv A outer s H E).suite a ((a, oe) :: [])) (defBody st) (SOf (fun _ _ _ _ => False) c (m y))
section
variable {X : Cx} {c : Cf} {a f : Addr} {oe : Obj} {x : Ex} {pn : List (Addr × Obj)} {i k : Nat} {n g prm : Str} {q p1 pos : Pos} {N : List Str} {st : Stmt} {fd : FuncData} {m : Ex → DS}
/-- THE RULE: g(e) in the suite that holds e -/
theorem de_callX (E : ExI X c a oe x) (hot : HotC (X.suite a ((a, oe) :: pn))) (hr : GRoom (k + 1) X.A) (cd : ExD X.prog X.w X.mg X.base k g st prm N m f fd) (S : FnScope N [prm] (defScope st)) (hK : X.K = KF.frag) (hg : Gl X g)
    (hb : ∀ (kV doc pm : Value) (an : Option Addr) (cdv ct : Value) (us : List Value), us.length = 1 → bindArgs (PySem.W.fnOf g g (defArgs st) (defBody st) (defScope st) .none kV doc pm an cdv ct) ⟨us, []⟩ = pure ([prm].zip us))
    (hN : X.N[i]? = some n) (hv : Vis X.env.scope n) (hd : (n == ("__debug__" : Str)) = false := by decide) (hcd' : (n == ("__classdict__" : Str)) = false := by decide) (hdb : (g == ("__debug__" : Str)) = false := by decide)
    (he : starEach [.Name n p1] X.env = (false, eval (.Name n p1) X.env) :: starEach [] X.env := by rfl) (hpl : (backTo pos (starEach [] X.env)).any (·.1) = false := by rfl) :
    PE (X.suite a ((a, oe) :: pn)) (.Call (.Name g q) [.Name n p1] [] pos) (EOf (fun _ _ _ _ => False) c (dExF i (fnX N.length (m x)))) := by
  have F := cd.F
  have hm := cd.gm'
  have hkp : PySem.W.keepIn X.K (.ref f) = true := hK ▸ F.kp
  have hbd : Binds KF.frag fd [prm] [] := F.binds hb
  obtain ⟨oc, od, kV, doc, pm, an, cdv, ct, osl, rfl, lk, hcd⟩ := F.ex
  obtain ⟨C, dd, fs, e1, e2, e3, e4⟩ := E.at'
  refine ⟨fun pins s σ H Q I h => ?_⟩
  obtain ⟨D, env, S0, p⟩ := h
  have p : PostE (fun _ _ _ _ => False) c D σ Q (dExF i (fnX N.length (m x)) env) := p
  unfold dExF at p
  split at p
  case h_2 => exact p.elim
  rename_i hi
  cases hx : fnX N.length (m x) with
  | none => rw [hx] at p; exact p.elim
  | some y =>
  rw [hx] at p
  have ha : PA (X.suite a ((a, oe) :: pn)) [.Name n p1] (tCons (tVar i) tNil) := pa_cons (pe_var (i := i) hN hv hd hcd') pa_nil he
  have hav : σ[i]? = some (some (.ref a)) := by
    obtain ⟨f', k', q', h1, h2⟩ := S0.slot i _ hi
    rw [E.la] at h1
    cases h1
    exact join_some h2
  refine wpAny_Call_Name_kw (ld_glob I hg hm ?_ hdb)
  refine PySem.W.callWith_K (h₀ := X.base) I.ok.mod.kin hkp (thn (ha.run pos pins s σ H (fun vs H1 => vs = [V.ref a] ∧ H1 = H) I ⟨_, hav, rfl, rfl⟩) fun us s1 ⟨vs, H1, I1, r, ev, eH⟩ => ⟨I1.kIn, ?_⟩) he hpl
  subst ev eH
  have rl := r.length
  obtain ⟨u, rfl, ru⟩ := r.one
  cases ru
  obtain ⟨ga, na, nL, nF, nc⟩ := I1.pin (a, oe) (List.mem_append_left _ List.mem_cons_self)
  have hpin : PinOk X.stack H1 s1 (a, oe) := ⟨ga, na, fun hm => (List.mem_cons.mp (I1.stkSub a hm)).elim nL nF, nc⟩
  have e0 := I1.env0
  have e0 : Env0 X.prog X.w KF.frag X.mg X.base (X.A.mark (some (.ref a))) X.stack s1 H1 := by
    rw [← hK]
    exact e0
  have KX : KF.frag.In s1.heap := e0.mod.kin.keeps fun b o e => (e0.bs b o e).1
  have lim : s1.heap.NoLimit := e0.mod.nolimit.keeps fun b o e => (e0.bs b o e).1
  have bt := hbd s1 [.ref a] KX rfl
  rw [List.append_nil] at bt
  let Q' : VK := fun w H' => ∃ D', Sim c D' env σ H' ∧ Same D D' ∧ Rp D' w y
  have hkind : ∀ z ∈ [prm].zip [Value.ref a], (defScope st).names.lookup z.1 = some .local ∨ ((defScope st).names.lookup z.1 = some .cell ∧ ((cellsFrom (s1.heap.objs.size + 1) (defScope st).names []).lookup z.1).isSome = true) := fun ⟨n', v'⟩ hy => by
    rcases S.par n' (List.of_mem_zip hy).1 with q | q
    · exact .inl q
    · exact .inr ⟨q, PySem.W.cellsFrom_some _ _ _ (.inl q)⟩
  have run : codeAny (model X.prog X.w) (X.A.mark (some (.ref a))) (.call (.ref f) ⟨[.ref a], []⟩) (CR (CXm true X.prog X.w) X.stack X.prog X.w H1 s1 Q' (fun _ _ _ => False)) s1 := by
    refine codeAny_call_function hr.r.depth (KX _ _ lk) rfl S.co S.gen rfl (PySem.W.codeRec_of KX hcd) (bt _ _ _ _ ?_)
    refine wpAny_newFunctionEnv_cells S.kind hkind fun env' he' s2 x2 => ?_
    subst he'
    refine ⟨lim.keeps x2.toInCall.keep, codeAny_func ?_⟩
    have J : Inv (cxH (CXm true X.prog X.w) X.prog X.w KF.frag X.mg X.base N g (defScope st) f cdv (X.A.mark (some (.ref a))) X.stack s1 H1 (fun _ _ _ => False) (a, oe)) [] (L2.start N [V.ref a]) H1 s2 := inv_startH S hpin e0 rfl (.cons rfl .nil) x2
    have J2 : Inv ((cxOf (CXm true X.prog X.w) X.prog X.w KF.frag X.mg X.base N g (defScope st) f cdv X.A X.stack s1 H1 (fun _ _ _ => False)).suite a ((a, oe) :: [])) [] (L2.start N [V.ref a]) H1 s2 :=
      ⟨⟨J.ok.mod, J.ok.kind, J.ok.glob, J.ok.blt, J.ok.above, J.ok.inj, J.ok.has, J.ok.cab, J.ok.hd, J.ok.frames, J.ok.stk, J.ok.exf, J.ok.bs, J.ok.bsz, J.ok.noex, J.ok.exfs, J.ok.funs, J.ok.frf⟩, J.os, J.bare, J.base, J.loc, J.cell, J.free, J.freeC, J.pin, J.hok, J.len⟩
    have EX : ExI (cxOf (CXm true X.prog X.w) X.prog X.w KF.frag X.mg X.base N g (defScope st) f cdv X.A X.stack s1 H1 (fun _ _ _ => False)) (cfX c D env σ H1 a) a oe x := by
      refine ⟨E.mg, rfl, E.hf, C, dd, fs, e1, e2, ?_, ?_⟩
      · have h1 := S0.bh dd _ e3
        have h2 := S0.bd dd _ e3
        have : (cfIn c D env σ H1 [] []).B dd = H1 dd := cfIn_B h2 (fun ⟨_, _, _, _, _, z⟩ => by cases z) (fun o ho => by rw [h1] at ho; cases ho; rfl)
        exact this.trans h1
      · exact e4.mono fun p q ⟨z1, z2⟩ => ⟨z1, z2.mono S0.d0⟩
    have HX : HotC ((cxOf (CXm true X.prog X.w) X.prog X.w KF.frag X.mg X.base N g (defScope st) f cdv X.A X.stack s1 H1 (fun _ _ _ => False)).suite a ((a, oe) :: [])) := by
      obtain ⟨p, ⟨hh, vs', ev, cv⟩, hp⟩ := hot
      obtain ⟨pa, po⟩ := p
      have hh : some (Value.ref a) = some (Value.ref pa) := hh
      cases hh
      have := (I1.pin (a, po) (List.mem_append_left _ hp)).1
      rw [ga] at this
      cases this
      exact ⟨(a, oe), ⟨rfl, vs', ev, cv⟩, List.mem_cons_self⟩
    have b := cd.bd x a cdv X.A X.stack s1 H1 (fun _ _ _ => False) (cfX c D env σ H1 a) oe (hr.deeper _) E.mg EX HX
    have nl : N.length - 1 + 1 = N.length := by
      have := congrArg List.length S.pre
      rw [List.length_take] at this
      have : min [prm].length N.length = 1 := this
      have : [prm].length = 1 := rfl
      omega
    have SX : Sim (cfX c D env σ H1 a) D (.la :: List.replicate (N.length - 1) .un) (L2.start N [V.ref a]) H1 := S0.toX a (N.length - 1)
    have post : PostS (fun _ _ _ _ => False) (cfX c D env σ H1 a) D { nx := fun _ H' => Q' .non H', rt := Q' } (m x (.la :: List.replicate (N.length - 1) .un)) := by
      unfold fnX at hx
      revert hx
      cases m x (.la :: List.replicate (N.length - 1) .un) with
      | nx e' =>
        intro hx
        cases hx
        exact fun σ' H' D' S' s' => ⟨D', S0.ofX S' s', s', .non⟩
      | rt y' e' =>
        intro hx
        cases hx
        exact fun w σ' H' D' S' s' rw' => ⟨D', S0.ofX S' s', s', rw'⟩
      | _ => intro hx; cases hx
    refine wpAny_mono (b.run [] s2 (L2.start N [V.ref a]) H1 { nx := fun _ H' => Q' .non H', rt := Q' } J2 ⟨D, _, SX, post⟩) (fun fl s' hs => ?_) fun e s' hs => hs.elim
    have fin : ∀ {σ' : St} {H' : Hp} {v : V} {u : Value}, Inv ((cxOf (CXm true X.prog X.w) X.prog X.w KF.frag X.mg X.base N g (defScope st) f cdv X.A X.stack s1 H1 (fun _ _ _ => False)).suite a ((a, oe) :: [])) [] σ' H' s' → RelV v u → Q' v H' → CE X.stack X.prog X.w H1 s1 Q' u s' :=
      fun {σ' H' v u} J rv q => ⟨v, H', J.os, J.bare, J.base, J.hok, rv, q⟩
    cases fl with
    | ret u =>
      obtain ⟨v, σ', H', J, rv, q⟩ := hs
      exact fin J rv q
    | next =>
      obtain ⟨σ', H', J, q⟩ := hs
      exact fin (v := V.non) (u := Value.none) J rfl q
    | brk =>
      obtain ⟨_, _, _, q⟩ := hs
      exact False.elim q
    | cont =>
      obtain ⟨_, _, _, q⟩ := hs
      exact False.elim q
  refine wpAny_call (codeAny_mono run fun r s' hq => ?_)
  cases r with
  | error e => exact (cxm_false (m := true) (P := X.prog) (w := X.w) (outer := X.stack) (H := H1) (s := s1) (u := e) (s' := s') hq).elim
  | ok fl =>
    cases fl with
    | ret u =>
      have := I1.after (X := X.suite a ((a, oe) :: pn)) hq
      obtain ⟨v, H', J, rv, D', S', s', ry⟩ := this
      exact ⟨v, H', J, rv, p v H' D' S' s' ry⟩
    | next => exact False.elim hq
    | brk => exact False.elim hq
    | cont => exact False.elim hq
end
end L2.Dl

namespace L2.Dl
open PySem
open PySem.Spec
open PyProof.Rows
section
variable {prog : Program} {w : World} {A : Around} {E : Value → Shared → Prop} {s : Shared} {l : Addr} {its : List Value} {ns : List Int} {Q : Value → Shared → Prop}
theorem old_keptT {h' : Heap} (hk : ∀ b o, b ∉ [s.heap.objs.size] → (s.heap.push { cls := .type "tuple_iterator", data := .fields #[.ref l, .int 0 0] }).get? b = some o → h'.get? b = some o) :
    ∀ b o, s.heap.get? b = some o → h'.get? b = some o := fun b o e => by
  refine hk b o (fun hm => ?_) (Heap.get?_push_of_some _ e)
  rcases List.mem_cons.mp hm with e1 | hm
  · exact absurd (e1 ▸ Heap.lt_size e) (Nat.lt_irrefl _)
  · cases hm
theorem max_rawT (hh : A.handled = none) (hl : s.heap.IsTuple l its.toArray) (hi : IntsAre its ns) (hne : 0 < ns.length)
    (h : ∀ h' tk M t', (∀ b o, s.heap.get? b = some o → h'.get? b = some o) → M ∈ ns → (∀ a, a ∈ ns → a ≤ M) → Q (.int M t') { s with heap := h', toks := tk }) : wpAny (model prog w) A (call (.builtin "max") [.ref l]) Q E s := by
  obtain ⟨xs, e⟩ := hi.allInts.items
  have hn : numsOf (intItems xs).toList = ns := by rw [← e]; exact hi.numsOf
  rw [nums_intItems] at hn
  subst hn
  rw [e] at hl
  have hsz : 0 < xs.size := by simpa using hne
  have hlt : l < s.heap.objs.size := by obtain ⟨_, e, _⟩ := hl; exact Heap.lt_size e
  refine call_max_walk (wpAny_pyIter_tuple hl ?_)
  refine ⟨_, [_, l], [_], _, _, _, _, rfl, Walks.tuple (A := A.in1) hh _ l (Nat.ne_of_lt hlt) (intItems xs), ⟨⟨_, Heap.get?_push_size _ rfl, rfl, rfl⟩, hl.push _⟩, fun b hb => ?_, by simpa [intItems] using hsz, CmpOf.ints_gt (numAt xs) (fun _ _ => intItems_at), fun v h' tk hP hk => ?_⟩
  · show b < (s.heap.push _).objs.size
    rw [Heap.size_push]
    rcases List.mem_cons.mp hb with rfl | hb
    · exact Nat.lt_succ_self _
    · rcases List.mem_cons.mp hb with rfl | hb
      · exact Nat.lt_succ_of_lt hlt
      · cases hb
  · have hP : (intItems xs)[argBest (fun i j => decide (numAt xs i > numAt xs j)) (xs.size - 1)]? = some v := by simpa [intItems] using hP
    obtain ⟨t, rfl⟩ := intItems_at hP
    obtain ⟨h1, h2⟩ := argBest_gt (numAt xs) (xs.size - 1)
    refine h h' tk _ t (old_keptT hk) ?_ fun a ha => ?_
    · rw [numAt_eq]; exact PySem.getD_mem (by rw [List.length_map, Array.length_toList]; omega)
    · obtain ⟨j, hj, rfl⟩ := mem_getD ha
      rw [List.length_map, Array.length_toList] at hj
      rw [← numAt_eq]; exact h2 j (by omega)
theorem min_rawT (hh : A.handled = none) (hl : s.heap.IsTuple l its.toArray) (hi : IntsAre its ns) (hne : 0 < ns.length)
    (h : ∀ h' tk M t', (∀ b o, s.heap.get? b = some o → h'.get? b = some o) → M ∈ ns → (∀ a, a ∈ ns → M ≤ a) → Q (.int M t') { s with heap := h', toks := tk }) : wpAny (model prog w) A (call (.builtin "min") [.ref l]) Q E s := by
  obtain ⟨xs, e⟩ := hi.allInts.items
  have hn : numsOf (intItems xs).toList = ns := by rw [← e]; exact hi.numsOf
  rw [nums_intItems] at hn
  subst hn
  rw [e] at hl
  have hsz : 0 < xs.size := by simpa using hne
  have hlt : l < s.heap.objs.size := by obtain ⟨_, e, _⟩ := hl; exact Heap.lt_size e
  refine call_min_walk (wpAny_pyIter_tuple hl ?_)
  refine ⟨_, [_, l], [_], _, _, _, _, rfl, Walks.tuple (A := A.in1) hh _ l (Nat.ne_of_lt hlt) (intItems xs), ⟨⟨_, Heap.get?_push_size _ rfl, rfl, rfl⟩, hl.push _⟩, fun b hb => ?_, by simpa [intItems] using hsz, CmpOf.ints_lt (numAt xs) (fun _ _ => intItems_at), fun v h' tk hP hk => ?_⟩
  · show b < (s.heap.push _).objs.size
    rw [Heap.size_push]
    rcases List.mem_cons.mp hb with rfl | hb
    · exact Nat.lt_succ_self _
    · rcases List.mem_cons.mp hb with rfl | hb
      · exact Nat.lt_succ_of_lt hlt
      · cases hb
  · have hP : (intItems xs)[argBest (fun i j => decide (numAt xs i < numAt xs j)) (xs.size - 1)]? = some v := by simpa [intItems] using hP
    obtain ⟨t, rfl⟩ := intItems_at hP
    obtain ⟨h1, h2⟩ := argBest_lt (numAt xs) (xs.size - 1)
    refine h h' tk _ t (old_keptT hk) ?_ fun a ha => ?_
    · rw [numAt_eq]; exact PySem.getD_mem (by rw [List.length_map, Array.length_toList]; omega)
    · obtain ⟨j, hj, rfl⟩ := mem_getD ha
      rw [List.length_map, Array.length_toList] at hj
      rw [← numAt_eq]; exact h2 j (by omega)
end
def rMaxA (K : PySem.W.Frag) : List V → Hp → VK → Prop := fun vs H Q => rMax K vs H Q ∨ ∃ (a : Addr) (ns : List Int), vs = [V.ref a] ∧ SqT K H a (ns.map V.int) ∧ 0 < ns.length ∧ ∀ m, m ∈ ns → (∀ y, y ∈ ns → y ≤ m) → Q (.int m) H
def rMinA (K : PySem.W.Frag) : List V → Hp → VK → Prop := fun vs H Q => rMin K vs H Q ∨ ∃ (a : Addr) (ns : List Int), vs = [V.ref a] ∧ SqT K H a (ns.map V.int) ∧ 0 < ns.length ∧ ∀ m, m ∈ ns → (∀ y, y ∈ ns → m ≤ y) → Q (.int m) H
section
variable {X : Cx}
theorem cr_maxA (hc : X.calm = true) : CallR X (.builtin "max") (rMaxA X.K) := by
  intro pins s σ H vs us Q I r h
  rcases h with h | ⟨a, ns, rfl, hs, hne, q⟩
  · exact cr_max hc pins s σ H vs us Q I r h
  · obtain ⟨its, rv, hl, _⟩ := I.tuple hs
    rw [Vals.ref1 r]
    exact max_rawT (I.ok.hd hc) (show s.heap.IsTuple a its.toArray from hl) rv.ints hne fun h' tk m t' hk h1 h2 => ⟨.int _, H, I.kept hk, ⟨_, rfl⟩, q m h1 h2⟩
theorem cr_minA (hc : X.calm = true) : CallR X (.builtin "min") (rMinA X.K) := by
  intro pins s σ H vs us Q I r h
  rcases h with h | ⟨a, ns, rfl, hs, hne, q⟩
  · exact cr_min hc pins s σ H vs us Q I r h
  · obtain ⟨its, rv, hl, _⟩ := I.tuple hs
    rw [Vals.ref1 r]
    exact min_rawT (I.ok.hd hc) (show s.heap.IsTuple a its.toArray from hl) rv.ints hne fun h' tk m t' hk h1 h2 => ⟨.int _, H, I.kept hk, ⟨_, rfl⟩, q m h1 h2⟩
end
def seqD : PyData → Option (List PyData)
  | .list xs => some xs
  | .tuple xs => some xs
  | _ => none
def gMaxA : List PyData → Option PyData
  | [y] => match (seqD y).bind intsOf with
    | some (b :: bs) => some (.int (maxL (b :: bs)))
    | _ => none
  | _ => none
def gMinA : List PyData → Option PyData
  | [y] => match (seqD y).bind intsOf with
    | some (b :: bs) => some (.int (minL (b :: bs)))
    | _ => none
  | _ => none
variable [KF]
theorem lf_maxA : LfA (rMaxA KF.frag) gMaxA := by
  intro D H vs xs z Q s r e q
  unfold gMaxA at e
  split at e
  · rename_i y
    obtain ⟨v, rfl, h⟩ := r.one
    split at e
    · rename_i b bs hb
      cases e
      have go : ∀ m, m ∈ b :: bs → (∀ y, y ∈ b :: bs → y ≤ m) → Q (.int m) H := fun m hm hy => by
        obtain ⟨k1, k2⟩ := maxL_spec (b :: bs) (by simp)
        have : m = maxL (b :: bs) := Int.le_antisymm (k2 m hm) (hy _ k1)
        rw [this]
        exact q _ _ (.of (.int _))
      cases y with
      | list xs =>
        obtain ⟨p, ws, rfl, h1, h2⟩ := h.lst s
        exact .inl ⟨p, b :: bs, rfl, by rw [← h2.ints hb]; exact .of h1, by simp, go⟩
      | tuple xs =>
        obtain ⟨_, p, ws, rfl, h1, h2⟩ := h.tup
        exact .inr ⟨p, b :: bs, rfl, by rw [← h2.ints hb]; exact h1.same s, by simp, go⟩
      | _ => cases hb
    · cases e
  · cases e
theorem lf_minA : LfA (rMinA KF.frag) gMinA := by
  intro D H vs xs z Q s r e q
  unfold gMinA at e
  split at e
  · rename_i y
    obtain ⟨v, rfl, h⟩ := r.one
    split at e
    · rename_i b bs hb
      cases e
      have go : ∀ m, m ∈ b :: bs → (∀ y, y ∈ b :: bs → m ≤ y) → Q (.int m) H := fun m hm hy => by
        obtain ⟨k1, k2⟩ := minL_spec (b :: bs) (by simp)
        have : m = minL (b :: bs) := Int.le_antisymm (hy _ k1) (k2 m hm)
        rw [this]
        exact q _ _ (.of (.int _))
      cases y with
      | list xs =>
        obtain ⟨p, ws, rfl, h1, h2⟩ := h.lst s
        exact .inl ⟨p, b :: bs, rfl, by rw [← h2.ints hb]; exact .of h1, by simp, go⟩
      | tuple xs =>
        obtain ⟨_, p, ws, rfl, h1, h2⟩ := h.tup
        exact .inr ⟨p, b :: bs, rfl, by rw [← h2.ints hb]; exact h1.same s, by simp, go⟩
      | _ => cases hb
    · cases e
  · cases e
end L2.Dl

namespace L2.Dl
open PySem
open PySem.Spec
open PyProof.Rows

inductive RM (S α : Type) where
  | ok (a : α) (d : S)
  | ex (x : Ex) (d : S)
  | no
/-- a reckoning that may change a state: that of the draws, or none -/
def EM (S α : Type) : Type := S → RM S α
section
variable {S α β γ : Type}
def eV (a : α) : EM S α := fun d => .ok a d
def eX (x : Ex) : EM S α := fun d => .ex x d
def eN : EM S α := fun _ => .no
def bnd (m : EM S α) (f : α → EM S β) : EM S β := fun d => match m d with
  | .ok a d' => f a d'
  | .ex x d' => .ex x d'
  | .no => .no
def lo (o : Option α) : EM S α := match o with
  | some a => eV a
  | none => eN
theorem bnd_V (a : α) (f : α → EM S β) : bnd (eV a) f = f a := rfl
theorem bnd_X (x : Ex) (f : α → EM S β) : bnd (eX x) f = eX x := rfl
theorem bnd_N (f : α → EM S β) : bnd eN f = eN := rfl
theorem lo_some (a : α) : (lo (some a) : EM S α) = eV a := rfl
theorem lo_none : (lo (none : Option α) : EM S α) = eN := rfl
theorem bnd_assoc (m : EM S α) (f : α → EM S β) (g : β → EM S γ) : bnd (bnd m f) g = bnd m fun a => bnd (f a) g := by
  funext d
  unfold bnd
  cases m d <;> rfl
theorem bnd_ite {c : Prop} [Decidable c] (a b : EM S α) (f : α → EM S β) : bnd (if c then a else b) f = if c then bnd a f else bnd b f := by split <;> rfl
theorem bnd_id (m : EM S α) : bnd m eV = m := by
  funext d
  unfold bnd
  cases m d <;> rfl
theorem eV_inj [i : Inhabited S] {a b : α} (h : (eV a : EM S α) = eV b) : a = b := by
  have := congrFun h i.default
  unfold eV at this
  cases this
  rfl
end
/-- where a block of statements ends -/
inductive Fl (σ l : Type) where
  | nx (s : σ)
  | rt (x : PyData)
  | bk (s : l)
  | ct (s : l)
section
variable {S α σ τ l m : Type}
/-- a block, then the rest -/
def sJ (b : EM S (Fl σ l)) (k : σ → EM S (Fl τ l)) : EM S (Fl τ l) := bnd b fun
  | .nx s => k s
  | .rt x => eV (.rt x)
  | .bk s => eV (.bk s)
  | .ct s => eV (.ct s)
theorem sJ_nx (s : σ) (k : σ → EM S (Fl τ l)) : sJ (eV (.nx s)) k = k s := rfl
theorem sJ_rt (x : PyData) (k : σ → EM S (Fl τ l)) : sJ (eV (.rt x)) k = eV (.rt x) := rfl
theorem sJ_bk (x : l) (k : σ → EM S (Fl τ l)) : sJ (eV (.bk x)) k = eV (.bk x) := rfl
theorem sJ_ct (x : l) (k : σ → EM S (Fl τ l)) : sJ (eV (.ct x)) k = eV (.ct x) := rfl
theorem sJ_X (x : Ex) (k : σ → EM S (Fl τ l)) : sJ (eX x) k = eX x := rfl
theorem sJ_bnd (b : EM S α) (f : α → EM S (Fl σ l)) (k : σ → EM S (Fl τ l)) : sJ (bnd b f) k = bnd b fun a => sJ (f a) k := bnd_assoc _ _ _
theorem sJ_ite {c : Prop} [Decidable c] (a b : EM S (Fl σ l)) (k : σ → EM S (Fl τ l)) : sJ (if c then a else b) k = if c then sJ a k else sJ b k := by split <;> rfl
/-- the walk of a for -/
def eFor (b : PyData → σ → EM S (Fl σ σ)) : List PyData → σ → EM S (Fl σ l)
  | [], s => eV (.nx s)
  | x :: r, s => bnd (b x s) fun
    | .nx s' => eFor b r s'
    | .ct s' => eFor b r s'
    | .bk s' => eV (.nx s')
    | .rt v => eV (.rt v)
def eWhile (t : σ → EM S Bool) (b : σ → EM S (Fl σ σ)) : Nat → σ → EM S (Fl σ l)
  | 0, _ => eN
  | n + 1, s => bnd (t s) fun k => if k = true then bnd (b s) fun
    | .nx s' => eWhile t b n s'
    | .ct s' => eWhile t b n s'
    | .bk s' => eV (.nx s')
    | .rt v => eV (.rt v) else eV (.nx s)
/-- the walk of a comprehension: nothing may be raised -/
def shut (m : EM S α) : EM S α := fun d => match m d with
  | .ok a d' => .ok a d'
  | _ => .no
theorem shut_V (a : α) : (shut (eV a) : EM S α) = eV a := rfl
def eLc (f : PyData → EM S (Option PyData)) : List PyData → List PyData → EM S (List PyData)
  | [], acc => eV acc
  | x :: r, acc => bnd (shut (f x)) fun
    | some y => if acc.length < lenB then eLc f r (acc ++ [y]) else eN
    | none => eLc f r acc
def fnE (b : EM S (Fl Unit Empty)) : EM S PyData := bnd b fun
  | .nx _ => eV .none
  | .rt x => eV x
/-- a try: what the clause catches, or not -/
def eTry (ca : Str → Option Bool) (b : EM S α) (h : EM S α) : EM S α := fun d => match b d with
  | .ok a d' => .ok a d'
  | .ex x d' => match ca x.cls with
    | some true => h d'
    | some false => .ex x d'
    | none => .no
  | .no => .no
end

inductive ASl where
  | is (s : Slot)
  | any
  | fre
  | nla
abbrev AL := List ASl
def Slot.plain : Slot → Bool
  | .v _ => true
  | .un => true
  | .gl _ => true
  | _ => false
inductive At1 : ASl → Slot → Prop
  | is (s : Slot) : At1 (.is s) s
  | any {s : Slot} : s.plain = true → At1 .any s
  | fre {s : Slot} : s.par = false → At1 .fre s
  | nla {s : Slot} : s.par = false → isLa s = false → At1 .nla s
inductive At : AL → Nv → Prop
  | nil : At [] []
  | cons {a : ASl} {s : Slot} {A : AL} {e : Nv} : At1 a s → At A e → At (a :: A) (s :: e)
theorem At.len : ∀ {A : AL} {e : Nv}, At A e → A.length = e.length
  | _, _, .nil => rfl
  | _, _, .cons _ h => congrArg Nat.succ h.len
theorem At.get : ∀ {A : AL} {e : Nv} {i : Nat} {s : Slot}, At A e → A[i]? = some (.is s) → e[i]? = some s
  | _, _, 0, s, .cons h _, q => by
    simp at q
    subst q
    cases h
    simp
  | _, _, i + 1, s, .cons _ r, q => by simpa using At.get r (by simpa using q)
theorem At.get1 : ∀ {A : AL} {e : Nv} {i : Nat} {a : ASl}, At A e → A[i]? = some a → ∃ s, e[i]? = some s ∧ At1 a s
  | _, _, 0, s, .cons h _, q => by
    simp at q
    subst q
    exact ⟨_, by simp, h⟩
  | _, _, i + 1, s, .cons _ r, q => by simpa using At.get1 r (by simpa using q)
theorem At.set : ∀ {A : AL} {e : Nv} {i : Nat} {a : ASl} {s : Slot}, At A e → At1 a s → At (A.set i a) (e.set i s)
  | _, _, _, _, _, .nil, _ => .nil
  | _, _, 0, _, _, .cons _ r, q => .cons q r
  | _, _, _ + 1, _, _, .cons h r, q => .cons h (At.set r q)
/-- nothing that was handed in owned stands there -/
def frA (A : AL) (i : Nat) : Bool := match A[i]? with
  | some (.is s) => !s.par
  | some _ => true
  | none => false
theorem plain_par {s : Slot} (h : s.plain = true) : s.par = false := by cases s <;> first | rfl | cases h
theorem At.free {A : AL} {e : Nv} {i : Nat} (h : At A e) (f : frA A i = true) : freeAt e i = true := by
  unfold frA at f
  unfold freeAt
  cases ha : A[i]? with
  | none => rw [ha] at f; cases f
  | some a =>
    rw [ha] at f
    obtain ⟨s, h1, h2⟩ := h.get1 ha
    rw [h1]
    cases h2 with
    | is => exact f
    | any q => simp [plain_par q]
    | fre q => simp [q]
    | nla q _ => simp [q]
def plA (A : AL) (i : Nat) : Bool := match A[i]? with
  | some (.is s) => s.plain
  | some .any => true
  | _ => false
theorem At.plain {A : AL} {e : Nv} {i : Nat} (h : At A e) (f : plA A i = true) : plainAt e i = true := by
  unfold plA at f
  unfold plainAt
  have hp : ∀ s : Slot, s.plain = true → (match some s with | some (.v _) => true | some .un => true | some (.gl _) => true | _ => false) = true := fun s q => by cases s <;> first | rfl | cases q
  cases ha : A[i]? with
  | none => rw [ha] at f; cases f
  | some a =>
    rw [ha] at f
    obtain ⟨s, h1, h2⟩ := h.get1 ha
    rw [h1]
    cases h2 with
    | is => exact hp s f
    | any q => exact hp s q
    | fre q => cases f
    | nla q _ => cases f
inductive LeA : AL → AL → Prop
  | nil : LeA [] []
  | same {a : ASl} {A B : AL} : LeA A B → LeA (a :: A) (a :: B)
  | any {s : Slot} {A B : AL} : s.plain = true → LeA A B → LeA (.is s :: A) (.any :: B)
  | fre {s : Slot} {A B : AL} : s.par = false → LeA A B → LeA (.is s :: A) (.fre :: B)
  | fra {A B : AL} : LeA A B → LeA (.any :: A) (.fre :: B)
  | nla {s : Slot} {A B : AL} : s.par = false → isLa s = false → LeA A B → LeA (.is s :: A) (.nla :: B)
  | nlaA {A B : AL} : LeA A B → LeA (.any :: A) (.nla :: B)
  | nlaF {A B : AL} : LeA A B → LeA (.nla :: A) (.fre :: B)
theorem plain_la {s : Slot} (h : s.plain = true) : isLa s = false := by cases s <;> first | rfl | cases h
theorem LeA.at : ∀ {A B : AL}, LeA A B → ∀ {e : Nv}, At A e → At B e
  | _, _, .nil, _, h => h
  | _, _, .same r, _, .cons h q => .cons h (r.at q)
  | _, _, .any p r, _, .cons h q => by
    cases h
    exact .cons (.any p) (r.at q)
  | _, _, .fre p r, _, .cons h q => by
    cases h
    exact .cons (.fre p) (r.at q)
  | _, _, .fra r, _, .cons h q => by
    cases h with
    | any p => exact .cons (.fre (plain_par p)) (r.at q)
  | _, _, .nla p l r, _, .cons h q => by
    cases h
    exact .cons (.nla p l) (r.at q)
  | _, _, .nlaA r, _, .cons h q => by
    cases h with
    | any p => exact .cons (.nla (plain_par p) (plain_la p)) (r.at q)
  | _, _, .nlaF r, _, .cons h q => by
    cases h with
    | nla p l => exact .cons (.fre p) (r.at q)
theorem LeA.refl : ∀ A : AL, LeA A A
  | [] => .nil
  | _ :: A => .same (LeA.refl A)
abbrev AF (S : Type) := S → AL

/-- a result: a value, or the thing that a slot owns -/
def OVx (A : AL) : Option Nat → OV → PyData → Prop
  | none, o, x => o = .d x
  | some i, o, x => o = .sl i ∧ ∃ p xs, A[i]? = some (.is (.own p xs)) ∧ x = .list xs
inductive OVs (A : AL) : List (Option Nat) → List OV → List PyData → Prop
  | nil : OVs A [] [] []
  | cons {k : Option Nat} {o : OV} {x : PyData} {ks : List (Option Nat)} {os : List OV} {xs : List PyData} : OVx A k o x → OVs A ks os xs → OVs A (k :: ks) (o :: os) (x :: xs)
def RelM {S α β : Type} (X : AF S) (r : Res α) (m : RM S β) (P : β → S → α → Nv → Prop) : Prop := match m with
  | .ok x dv' => ∃ a e', r = .ok a e' ∧ P x dv' a e'
  | .ex x dv' => ∃ e', r = .exc x e' ∧ At (X dv') e'
  | .no => True
def RelS {S σ l : Type} (X X0 : AF S) (B : σ → AF S) (L : l → AF S) (r : SRes) (m : RM S (Fl σ l)) : Prop := match m with
  | .ok (.nx s) dv' => ∃ e', r = .nx e' ∧ At (B s dv') e'
  | .ok (.rt x) dv' => ∃ e', r = .rt x e' ∧ At (X0 dv') e'
  | .ok (.bk s) dv' => ∃ e', r = .bk e' ∧ At (L s dv') e'
  | .ok (.ct s) dv' => ∃ e', r = .ct e' ∧ At (L s dv') e'
  | .ex x dv' => ∃ e', r = .exc x e' ∧ At (X dv') e'
  | .no => True
def OR {S : Type} (X : AF S) (d : DE) (k : Option Nat) (A A' : AF S) (m : EM S PyData) : Prop := ∀ dv env, At (A dv) env → RelM X (d env) (m dv) fun x dv' o e' => OVx (A' dv') k o x ∧ At (A' dv') e'
abbrev ER {S : Type} (X : AF S) (d : DE) (A A' : AF S) (m : EM S PyData) : Prop := OR X d none A A' m
def TR {S : Type} (X : AF S) (t : DT) (A A' : AF S) (m : EM S Bool) : Prop := ∀ dv env, At (A dv) env → RelM X (t env) (m dv) fun x dv' y e' => y = x ∧ At (A' dv') e'
def AR {S : Type} (X : AF S) (r : Nv → Res (List OV)) (ks : List (Option Nat)) (A A' : AF S) (m : EM S (List PyData)) : Prop := ∀ dv env, At (A dv) env → RelM X (r env) (m dv) fun xs dv' os e' => OVs (A' dv') ks os xs ∧ At (A' dv') e'
def LR {S : Type} (X : AF S) (l : DL) (A A' : AF S) (m : EM S (List PyData)) : Prop := ∀ dv env, At (A dv) env → RelM X (l env) (m dv) fun x dv' y e' => y = x ∧ At (A' dv') e'
def PR {S : Type} (X : AF S) (l : DP) (A A' : AF S) (m : EM S (Option Int)) : Prop := ∀ dv env, At (A dv) env → RelM X (l env) (m dv) fun x dv' y e' => y = x ∧ At (A' dv') e'
abbrev IR {S : Type} (X : AF S) (l : DI) (A A' : AF S) (m : EM S (List PyData)) : Prop := LR X l A A' m
def KR {S σ l : Type} (X X0 : AF S) (B : σ → AF S) (L : l → AF S) (k : DS) (A : AF S) (m : EM S (Fl σ l)) : Prop := ∀ dv env, At (A dv) env → RelS X X0 B L (k env) (m dv)
/-- a def, from its parameters -/
def FnR {S : Type} (fn : Fn) (mk : S → Nv) (m : EM S PyData) : Prop := ∀ dv, match m dv with
  | .ok x dv' => fn (mk dv) = .ok (.d x) (mk dv')
  | .ex x dv' => fn (mk dv) = .exc x (mk dv')
  | .no => True
theorem RelM.bd {S α β γ δ : Type} {X : AF S} {r : Res α} {m : EM S β} {dv : S} {P : β → S → α → Nv → Prop} {k : α → Nv → Res γ} {f : β → EM S δ} {Q : δ → S → γ → Nv → Prop} (h : RelM X r (m dv) P)
    (hk : ∀ x dv' a e', P x dv' a e' → RelM X (k a e') (f x dv') Q) : RelM X (r.bd k) (bnd m f dv) Q := by
  unfold bnd
  unfold RelM at h
  cases hm : m dv with
  | no => trivial
  | ex x d =>
    rw [hm] at h
    obtain ⟨e', h1, h2⟩ := h
    rw [h1]
    exact ⟨e', rfl, h2⟩
  | ok x d =>
    rw [hm] at h
    obtain ⟨a, e', h1, h2⟩ := h
    rw [h1]
    exact hk x d a e' h2
theorem RelM.bs {S α β σ l : Type} {X X0 : AF S} {B : σ → AF S} {L : l → AF S} {r : Res α} {m : EM S β} {dv : S} {P : β → S → α → Nv → Prop} {k : α → Nv → SRes} {f : β → EM S (Fl σ l)} (h : RelM X r (m dv) P)
    (hk : ∀ x dv' a e', P x dv' a e' → RelS X X0 B L (k a e') (f x dv')) : RelS X X0 B L (r.bs k) (bnd m f dv) := by
  unfold bnd
  unfold RelM at h
  cases hm : m dv with
  | no => trivial
  | ex x d =>
    rw [hm] at h
    obtain ⟨e', h1, h2⟩ := h
    rw [h1]
    exact ⟨e', rfl, h2⟩
  | ok x d =>
    rw [hm] at h
    obtain ⟨a, e', h1, h2⟩ := h
    rw [h1]
    exact hk x d a e' h2
theorem RelM.ok {S α β : Type} {X : AF S} {a : α} {x : β} {e : Nv} {dv : S} {P : β → S → α → Nv → Prop} (h : P x dv a e) : RelM X (.ok a e) (eV x dv) P := ⟨a, e, rfl, h⟩
theorem RelM.lo {S α β : Type} {X : AF S} {r : Res α} {o : Option β} {dv : S} {P : β → S → α → Nv → Prop} (h : ∀ x, o = some x → ∃ a e, r = .ok a e ∧ P x dv a e) : RelM X r (lo o dv) P := by
  cases o with
  | none => trivial
  | some x =>
    obtain ⟨a, e, h1, h2⟩ := h x rfl
    exact ⟨a, e, h1, h2⟩
theorem RelM.mono {S α β : Type} {X : AF S} {r : Res α} {m : RM S β} {P Q : β → S → α → Nv → Prop} (h : RelM X r m P) (hq : ∀ x dv a e, P x dv a e → Q x dv a e) : RelM X r m Q := by
  unfold RelM at h ⊢
  cases m with
  | no => trivial
  | ex x d => exact h
  | ok x d =>
    obtain ⟨a, e', h1, h2⟩ := h
    exact ⟨a, e', h1, hq _ _ _ _ h2⟩
end L2.Dl

namespace L2.Dl
open PySem
open PySem.Spec
open PyProof.Rows
variable {S : Type}

/-- an owned thing that was an operand still stands -/
def Keep {S : Type} : Option Nat → AF S → AF S → Prop
  | none, _, _ => True
  | some i, A, A' => ∀ dv dv', (A dv)[i]? = (A' dv')[i]?
theorem keepN {S : Type} {A A' : AF S} : Keep none A A' := True.intro
theorem keepS {S : Type} {A A' : AF S} {i : Nat} (h : ∀ dv dv', (A dv)[i]? = (A' dv')[i]?) : Keep (some i) A A' := h
theorem OVx.get {A : AL} {e : Nv} {k : Option Nat} {o : OV} {x : PyData} (h : OVx A k o x) (hA : At A e) : getOV e o = some x := by
  cases k with
  | none => cases h; rfl
  | some i =>
    obtain ⟨rfl, p, xs, h1, rfl⟩ := h
    simp only [getOV, hA.get h1]
theorem OVx.keep {S : Type} {A A' : AF S} {d d' : S} {k : Option Nat} {o : OV} {x : PyData} (h : OVx (A d) k o x) (hk : Keep k A A') : OVx (A' d') k o x := by
  cases k with
  | none => exact h
  | some i =>
    obtain ⟨rfl, p, xs, h1, rfl⟩ := h
    exact ⟨rfl, p, xs, (hk d d').symm.trans h1, rfl⟩
theorem OVs.getAll {A : AL} {e : Nv} (hA : At A e) : ∀ {ks : List (Option Nat)} {os : List OV} {xs : List PyData}, OVs A ks os xs → Dl.getAll e os = some xs
  | _, _, _, .nil => rfl
  | _, _, _, .cons h r => by
    unfold Dl.getAll
    rw [h.get hA, OVs.getAll hA r]
/-- owned things that stay from now on -/
def pinA (A : AL) : List (Option Nat) → AL
  | [] => A
  | none :: r => pinA A r
  | some i :: r => match A[i]? with
    | some (.is (.own false xs)) => pinA (A.set i (.is (.v (.list xs)))) r
    | _ => pinA A r
/-- no slot twice, all may be pinned -/
def pinOk (A : AL) : List (Option Nat) → Bool
  | [] => true
  | none :: r => pinOk A r
  | some i :: r => (match A[i]? with
    | some (.is (.own false _)) => true
    | _ => false) && !r.contains (some i) && pinOk A r
theorem OVx.pin0 {A : AL} {e : Nv} {o : OV} {x : PyData} (h : OVx A none o x) : pinOV e o = some (x, e) := by
  cases h
  rfl
theorem OVx.pin {A : AL} {e : Nv} {i : Nat} {o : OV} {x : PyData} {xs : List PyData} (h : OVx A (some i) o x) (hA : At A e) (hi : A[i]? = some (.is (.own false xs))) : x = .list xs ∧ ∃ e', pinOV e o = some (.list xs, e') ∧ At (A.set i (.is (.v (.list xs)))) e' := by
  obtain ⟨rfl, p, ys, h1, rfl⟩ := h
  rw [hi] at h1
  cases h1
  refine ⟨rfl, e.set i (.v (.list xs)), ?_, hA.set (.is _)⟩
  simp only [pinOV, hA.get hi]
theorem OVx.other {A : AL} {i : Nat} {s : ASl} {k : Option Nat} {o : OV} {x : PyData} (h : OVx A k o x) (hk : k ≠ some i) : OVx (A.set i s) k o x := by
  cases k with
  | none => exact h
  | some j =>
    obtain ⟨rfl, p, ys, h1, rfl⟩ := h
    refine ⟨rfl, p, ys, ?_, rfl⟩
    rw [List.getElem?_set_ne (fun q => hk (by rw [q]))]
    exact h1
theorem OVs.other {A : AL} {i : Nat} {s : ASl} : ∀ {ks : List (Option Nat)} {os : List OV} {xs : List PyData}, OVs A ks os xs → ks.contains (some i) = false → OVs (A.set i s) ks os xs
  | _, _, _, .nil, _ => .nil
  | k :: ks, _, _, .cons h r, q => by
    rw [List.contains_cons, Bool.or_eq_false_iff] at q
    refine .cons (h.other fun z => ?_) (r.other q.2)
    rw [z] at q
    simp at q
theorem pinOk_other {A : AL} {i : Nat} {s : ASl} : ∀ {ks : List (Option Nat)}, ks.contains (some i) = false → pinOk A ks = true → pinOk (A.set i s) ks = true
  | [], _, _ => rfl
  | none :: ks, q, h => by
    rw [List.contains_cons, Bool.or_eq_false_iff] at q
    exact pinOk_other (ks := ks) q.2 h
  | some j :: ks, q, h => by
    rw [List.contains_cons, Bool.or_eq_false_iff] at q
    unfold pinOk at h ⊢
    rw [Bool.and_eq_true, Bool.and_eq_true] at h ⊢
    refine ⟨⟨?_, h.1.2⟩, pinOk_other q.2 h.2⟩
    rw [List.getElem?_set_ne (fun z => by rw [z] at q; simp at q)]
    exact h.1.1
theorem OVs.pinAll : ∀ {ks : List (Option Nat)} {A : AL} {e : Nv} {os : List OV} {xs : List PyData}, OVs A ks os xs → At A e → pinOk A ks = true → ∃ e', Dl.pinAll os e = some (xs, e') ∧ At (pinA A ks) e'
  | [], A, e, _, _, .nil, hA, _ => ⟨e, rfl, hA⟩
  | none :: ks, A, e, _, _, .cons h r, hA, hp => by
    obtain ⟨e', h1, h2⟩ := OVs.pinAll r hA hp
    refine ⟨e', ?_, h2⟩
    unfold Dl.pinAll
    rw [h.pin0]
    simp only [h1]
  | some i :: ks, A, e, _, _, .cons h r, hA, hp => by
    unfold pinOk at hp
    rw [Bool.and_eq_true, Bool.and_eq_true] at hp
    obtain ⟨⟨p1, p2⟩, p3⟩ := hp
    have p2 : ks.contains (some i) = false := by simpa using p2
    split at p1
    · rename_i ys hi
      obtain ⟨rfl, e1, h1, h2⟩ := h.pin hA hi
      obtain ⟨e', h3, h4⟩ := OVs.pinAll (r.other (s := .is (.v (.list ys))) p2) h2 (pinOk_other p2 p3)
      refine ⟨e', ?_, ?_⟩
      · unfold Dl.pinAll
        rw [h1]
        simp only [h3]
      · unfold pinA
        rw [hi]
        exact h4
    · cases p1

def eBin (g : PyData → PyData → Option PyData) (a b : EM S PyData) : EM S PyData := bnd a fun x => bnd b fun y => lo (g x y)
def eUn (g : PyData → Option PyData) (a : EM S PyData) : EM S PyData := bnd a fun x => lo (g x)
def tstB : PyData → EM S Bool
  | .bool b => eV b
  | _ => eN
def tst (a : EM S PyData) : EM S Bool := bnd a tstB
def eNot (a : EM S PyData) : EM S PyData := bnd (tst a) fun b => eV (.bool (!b))
def eAnd (a b : EM S PyData) : EM S PyData := bnd (tst a) fun k => if k = true then b else eV (.bool false)
def eOr (a b : EM S PyData) : EM S PyData := bnd (tst a) fun k => if k = true then eV (.bool true) else b
def tNotE (t : EM S Bool) : EM S Bool := bnd t fun b => eV (!b)
def tAndE (t u : EM S Bool) : EM S Bool := bnd t fun b => if b = true then u else eV false
def tOrE (t u : EM S Bool) : EM S Bool := bnd t fun b => if b = true then eV true else u
def eIf {α : Type} (t : EM S Bool) (a b : EM S α) : EM S α := bnd t fun k => if k = true then a else b
def eChain (g g' : PyData → PyData → Option PyData) (a b c : EM S PyData) : EM S PyData := bnd a fun x => bnd b fun y => bnd (lo (g x y)) fun r => match r with
  | .bool true => bnd c fun z => lo (g' y z)
  | .bool false => eV (.bool false)
  | _ => eN
def aN : EM S (List PyData) := eV []
def aC (a : EM S PyData) (r : EM S (List PyData)) : EM S (List PyData) := bnd a fun x => bnd r fun xs => eV (x :: xs)
def lenE (xs : List PyData) : EM S (List PyData) := if xs.length ≤ lenB then eV xs else eN
def eTup (r : EM S (List PyData)) : EM S PyData := bnd (bnd r lenE) fun xs => eV (.tuple xs)
def eLst (r : EM S (List PyData)) : EM S (List PyData) := bnd r lenE
def eFz (r : EM S (List PyData)) : EM S PyData := bnd r fun xs => eV (.list xs)
def eCallB (g : List PyData → Option PyData) (r : EM S (List PyData)) : EM S PyData := bnd r fun xs => lo (g xs)
def eCallN (g : List PyData → Option (List PyData)) (r : EM S (List PyData)) : EM S (List PyData) := bnd r fun xs => lo (g xs)
def p0 : EM S (Option Int) := eV none
def intE : PyData → EM S (Option Int)
  | .int i => eV (some i)
  | _ => eN
def pS (a : EM S PyData) : EM S (Option Int) := bnd a intE
def eSl (a : EM S PyData) (lo hi : EM S (Option Int)) : EM S PyData := bnd a fun x => bnd lo fun l => bnd hi fun h => Dl.lo (gSl x l h)
def gSlL (x : PyData) (lo hi : Option Int) : Option (List PyData) := match x with
  | .list xs => some (cutG xs lo hi)
  | _ => none
def eSlL (a : EM S PyData) (lo hi : EM S (Option Int)) : EM S (List PyData) := bnd a fun x => bnd lo fun l => bnd hi fun h => Dl.lo (gSlL x l h)
section
variable {X A A' A1 A2 A3 : AF S} {d da db dc : DE} {k ka kb : Option Nat} {m ma mb mc : EM S PyData} {g g' : PyData → PyData → Option PyData} {x : PyData} {i : Nat}
theorem or_v (h : ∀ dv, (A dv)[i]? = some (.is (.v x))) : ER X (dVar i) A A (eV x) := fun dv env hA => by
  refine ⟨.d x, env, ?_, rfl, hA⟩
  unfold dVar
  rw [hA.get (h dv)]
theorem or_own {p : Bool} {xs : List PyData} (h : ∀ dv, (A dv)[i]? = some (.is (.own p xs))) : OR X (dVar i) (some i) A A (eV (.list xs)) := fun dv env hA => by
  refine ⟨.sl i, env, ?_, ⟨rfl, p, xs, h dv, rfl⟩, hA⟩
  unfold dVar
  rw [hA.get (h dv)]
theorem er_c : ER X (dC x) A A (eV x) := fun dv env hA => ⟨.d x, env, rfl, rfl, hA⟩
theorem er_bin (ha : OR X da ka A A1 ma) (hb : OR X db kb A1 A2 mb) (hk : Keep ka A1 A2) : ER X (dBin g da db) A A2 (eBin g ma mb) := fun dv env hA => by
  refine (ha dv env hA).bd fun x d1 o e1 ⟨h1, h2⟩ => (hb d1 e1 h2).bd fun y d2 o2 e2 ⟨h3, h4⟩ => ?_
  simp only [(h1.keep hk).get h4, h3.get h4]
  refine RelM.lo fun z hz => ⟨.d z, e2, ?_, rfl, h4⟩
  rw [hz]
theorem er_un {g : PyData → Option PyData} (ha : OR X da ka A A1 ma) : ER X (dUn g da) A A1 (eUn g ma) := fun dv env hA => by
  refine (ha dv env hA).bd fun x d1 o e1 ⟨h1, h2⟩ => ?_
  simp only [h1.get h2]
  refine RelM.lo fun z hz => ⟨.d z, e1, ?_, rfl, h2⟩
  rw [hz]
theorem boolOV_rel {e : Nv} {dv : S} {x : PyData} (hA : At (A' dv) e) : RelM X (boolOV e (.d x)) (tstB x dv) fun x dv' y e' => y = x ∧ At (A' dv') e' := by
  cases x with
  | bool b => exact ⟨b, e, rfl, rfl, hA⟩
  | _ => trivial
theorem tr_t (ha : ER X da A A1 ma) : TR X (dT da) A A1 (tst ma) := fun dv env hA => by
  refine (ha dv env hA).bd fun x d1 o e1 ⟨h1, h2⟩ => ?_
  cases h1
  exact boolOV_rel h2
theorem tr_not {t : DT} {mt : EM S Bool} (ht : TR X t A A1 mt) : TR X (dNotT t) A A1 (tNotE mt) := fun dv env hA =>
  (ht dv env hA).bd fun x d1 o e1 ⟨h1, h2⟩ => ⟨_, e1, rfl, by rw [h1], h2⟩
theorem tr_and {t u : DT} {mt mu : EM S Bool} (ht : TR X t A A1 mt) (hu : TR X u A1 A1 mu) : TR X (dAndT t u) A A1 (tAndE mt mu) := fun dv env hA =>
  (ht dv env hA).bd fun x d1 o e1 ⟨h1, h2⟩ => by
    subst h1
    cases o with
    | true => exact hu d1 e1 h2
    | false => exact ⟨_, e1, rfl, rfl, h2⟩
theorem tr_or {t u : DT} {mt mu : EM S Bool} (ht : TR X t A A1 mt) (hu : TR X u A1 A1 mu) : TR X (dOrT t u) A A1 (tOrE mt mu) := fun dv env hA =>
  (ht dv env hA).bd fun x d1 o e1 ⟨h1, h2⟩ => by
    subst h1
    cases o with
    | true => exact ⟨_, e1, rfl, rfl, h2⟩
    | false => exact hu d1 e1 h2
theorem er_ifE {t : DT} {mt : EM S Bool} (ht : TR X t A A1 mt) (ha : ER X da A1 A2 ma) (hb : ER X db A1 A2 mb) : ER X (dIfE t da db) A A2 (eIf mt ma mb) := fun dv env hA =>
  (ht dv env hA).bd fun x d1 o e1 ⟨h1, h2⟩ => by
    subst h1
    cases o with
    | true => exact ha d1 e1 h2
    | false => exact hb d1 e1 h2
theorem er_not (ha : ER X da A A1 ma) : ER X (dNot da) A A1 (eNot ma) := fun dv env hA =>
  (tr_t ha dv env hA).bd fun x d1 o e1 ⟨h1, h2⟩ => ⟨_, e1, rfl, by rw [h1]; rfl, h2⟩
theorem er_and (ha : ER X da A A1 ma) (hb : ER X db A1 A1 mb) : ER X (dAnd da db) A A1 (eAnd ma mb) := fun dv env hA =>
  (tr_t ha dv env hA).bd fun x d1 o e1 ⟨h1, h2⟩ => by
    subst h1
    cases o with
    | true => exact hb d1 e1 h2
    | false => exact ⟨_, e1, rfl, rfl, h2⟩
theorem er_or (ha : ER X da A A1 ma) (hb : ER X db A1 A1 mb) : ER X (dOr da db) A A1 (eOr ma mb) := fun dv env hA =>
  (tr_t ha dv env hA).bd fun x d1 o e1 ⟨h1, h2⟩ => by
    subst h1
    cases o with
    | true => exact ⟨_, e1, rfl, rfl, h2⟩
    | false => exact hb d1 e1 h2
theorem er_chain (ha : OR X da ka A A1 ma) (hb : ER X db A1 A2 mb) (hk : Keep ka A1 A2) (hc : ER X dc A2 A2 mc) : ER X (dChain g g' da db dc) A A2 (eChain g g' ma mb mc) := fun dv env hA => by
  refine (ha dv env hA).bd fun x d1 o e1 ⟨h1, h2⟩ => (hb d1 e1 h2).bd fun y d2 o2 e2 ⟨h3, h4⟩ => ?_
  cases h3
  have q1 := (h1.keep (d' := d2) hk).get h4
  have q2 : getOV e2 (.d y) = some y := rfl
  simp only [q1, q2]
  cases hg : g x y with
  | none => trivial
  | some z =>
    rw [lo_some, bnd_V]
    cases z with
    | bool b =>
      cases b with
      | true =>
        refine (hc d2 e2 h4).bd fun w d3 o3 e3 ⟨h5, h6⟩ => ?_
        cases h5
        have q3 : getOV e3 (.d y) = some y := rfl
        have q4 : getOV e3 (.d w) = some w := rfl
        simp only [q3, q4]
        refine RelM.lo fun z hz => ⟨.d z, e3, ?_, rfl, h6⟩
        rw [hz]
      | false => exact ⟨_, e2, rfl, rfl, h4⟩
    | _ => trivial
theorem ar_nil : AR X dANil [] A A aN := fun dv env hA => ⟨[], env, rfl, .nil, hA⟩
/-- Each operand still stands at the end -/
theorem ar_cons {r : Nv → Res (List OV)} {ks : List (Option Nat)} {mr : EM S (List PyData)} (ha : OR X d k A A1 m) (hr : AR X r ks A1 A2 mr) (hk : Keep k A1 A2) : AR X (dACons d r) (k :: ks) A A2 (aC m mr) := fun dv env hA =>
  (ha dv env hA).bd fun x d1 o e1 ⟨h1, h2⟩ => (hr d1 e1 h2).bd fun xs d2 os e2 ⟨h3, h4⟩ => ⟨_, e2, rfl, .cons (h1.keep hk) h3, h4⟩
theorem er_tup {r : Nv → Res (List OV)} {ks : List (Option Nat)} {mr : EM S (List PyData)} (hr : AR X r ks A A1 mr) (hp : ∀ dv, pinOk (A1 dv) ks = true) : ER X (dTup r) A (fun dv => pinA (A1 dv) ks) (eTup mr) := fun dv env hA => by
  unfold eTup
  rw [bnd_assoc]
  refine (hr dv env hA).bd fun xs d1 os e1 ⟨h1, h2⟩ => ?_
  obtain ⟨e', h3, h4⟩ := h1.pinAll h2 (hp d1)
  unfold tupOf lenE
  simp only [h3]
  by_cases hl : xs.length ≤ lenB
  · rw [if_pos hl, if_pos hl]
    exact ⟨_, e', rfl, rfl, h4⟩
  · rw [if_neg hl, if_neg hl]
    trivial
theorem lr_lst {r : Nv → Res (List OV)} {ks : List (Option Nat)} {mr : EM S (List PyData)} (hr : AR X r ks A A1 mr) (hp : ∀ dv, pinOk (A1 dv) ks = true) : LR X (dLst r) A (fun dv => pinA (A1 dv) ks) (eLst mr) := fun dv env hA => by
  refine (hr dv env hA).bd fun xs d1 os e1 ⟨h1, h2⟩ => ?_
  obtain ⟨e', h3, h4⟩ := h1.pinAll h2 (hp d1)
  unfold lstOf lenE
  simp only [h3]
  by_cases hl : xs.length ≤ lenB
  · rw [if_pos hl, if_pos hl]
    exact ⟨_, e', rfl, rfl, h4⟩
  · rw [if_neg hl, if_neg hl]
    trivial
theorem er_fz {l : DL} {ml : EM S (List PyData)} (hl : LR X l A A1 ml) : ER X (dFz l) A A1 (eFz ml) := fun dv env hA =>
  (hl dv env hA).bd fun xs d1 ys e1 ⟨h1, h2⟩ => by
    subst h1
    exact ⟨_, e1, rfl, rfl, h2⟩
theorem er_callB {r : Nv → Res (List OV)} {ks : List (Option Nat)} {mr : EM S (List PyData)} {g : List PyData → Option PyData} (hr : AR X r ks A A1 mr) : ER X (dCallB g r) A A1 (eCallB g mr) := fun dv env hA => by
  refine (hr dv env hA).bd fun xs d1 os e1 ⟨h1, h2⟩ => ?_
  simp only [h1.getAll h2]
  refine RelM.lo fun z hz => ⟨.d z, e1, ?_, rfl, h2⟩
  rw [hz]
theorem lr_callN {r : Nv → Res (List OV)} {ks : List (Option Nat)} {mr : EM S (List PyData)} {g : List PyData → Option (List PyData)} (hr : AR X r ks A A1 mr) : LR X (dCallN g r) A A1 (eCallN g mr) := fun dv env hA => by
  refine (hr dv env hA).bd fun xs d1 os e1 ⟨h1, h2⟩ => ?_
  simp only [h1.getAll h2]
  refine RelM.lo fun z hz => ⟨z, e1, ?_, rfl, h2⟩
  rw [hz]
theorem pr_0 : PR X dP0 A A p0 := fun dv env hA => ⟨none, env, rfl, rfl, hA⟩
theorem pr_s (h : ER X d A A1 m) : PR X (dP d) A A1 (pS m) := fun dv env hA =>
  (h dv env hA).bd fun x d1 o e1 ⟨h1, h2⟩ => by
    cases h1
    cases x with
    | int i => exact ⟨some i, e1, rfl, rfl, h2⟩
    | _ => trivial
theorem er_sl {p q : DP} {mp mq : EM S (Option Int)} (ha : OR X da ka A A1 ma) (hp : PR X p A1 A2 mp) (hq : PR X q A2 A3 mq) (hk : Keep ka A1 A3) : ER X (dSl da p q) A A3 (eSl ma mp mq) := fun dv env hA => by
  refine (ha dv env hA).bd fun x d1 o e1 ⟨h1, h2⟩ => (hp d1 e1 h2).bd fun l d2 l' e2 ⟨h3, h4⟩ => (hq d2 e2 h4).bd fun l d3 l' e3 ⟨h5, h6⟩ => ?_
  subst h3 h5
  simp only [(h1.keep hk).get h6]
  refine RelM.lo fun z hz => ⟨.d z, e3, ?_, rfl, h6⟩
  rw [hz]
theorem lr_sl {p q : DP} {mp mq : EM S (Option Int)} (ha : OR X da ka A A1 ma) (hp : PR X p A1 A2 mp) (hq : PR X q A2 A3 mq) (hk : Keep ka A1 A3) : LR X (dSlL da p q) A A3 (eSlL ma mp mq) := fun dv env hA => by
  refine (ha dv env hA).bd fun x d1 o e1 ⟨h1, h2⟩ => (hp d1 e1 h2).bd fun l d2 l' e2 ⟨h3, h4⟩ => (hq d2 e2 h4).bd fun l d3 l' e3 ⟨h5, h6⟩ => ?_
  subst h3 h5
  simp only [(h1.keep hk).get h6]
  refine RelM.lo fun z hz => ?_
  cases x with
  | list xs =>
    cases hz
    exact ⟨_, e3, rfl, rfl, h6⟩
  | _ => cases hz
def itsE : PyData → EM S (List PyData)
  | .list xs => eV xs
  | .tuple xs => eV xs
  | .str z => eV (signs z)
  | _ => eN
def itsL : PyData → EM S (List PyData)
  | .list xs => eV xs
  | .tuple xs => eV xs
  | _ => eN
def eIt (a : EM S PyData) : EM S (List PyData) := bnd a itsE
theorem ir_it (h : ER X d A A1 m) : IR X (dIt d) A A1 (eIt m) := fun dv env hA =>
  (h dv env hA).bd fun x d1 o e1 ⟨h1, h2⟩ => by
    cases h1
    cases x with
    | list xs => exact ⟨xs, e1, rfl, rfl, h2⟩
    | tuple xs => exact ⟨xs, e1, rfl, rfl, h2⟩
    | str z => exact ⟨signs z, e1, rfl, rfl, h2⟩
    | _ => trivial
theorem ir_own {xs : List PyData} (h : ∀ dv, (A dv)[i]? = some (.is (.own false xs))) : IR X (dIt (dVar i)) A (fun dv => (A dv).set i (.is (.v (.list xs)))) (eV xs) := fun dv env hA => by
  refine ⟨xs, env.set i (.v (.list xs)), ?_, rfl, hA.set (.is _)⟩
  unfold dIt dVar
  rw [hA.get (h dv)]
  unfold Res.bd itOfS pinOV
  simp only [hA.get (h dv)]
def eEnum (a : EM S PyData) : EM S (List PyData) := bnd (bnd a itsL) fun xs => eV (enumL 0 xs)
theorem ir_enum (h : ER X d A A1 m) : IR X (dEnum d) A A1 (eEnum m) := fun dv env hA => by
  unfold eEnum
  rw [bnd_assoc]
  refine (h dv env hA).bd fun x d1 o e1 ⟨h1, h2⟩ => ?_
  cases h1
  cases x with
  | list xs => exact ⟨_, e1, rfl, rfl, h2⟩
  | tuple xs => exact ⟨_, e1, rfl, rfl, h2⟩
  | _ => trivial
theorem ir_enumOwn {xs : List PyData} (h : ∀ dv, (A dv)[i]? = some (.is (.own false xs))) : IR X (dEnum (dVar i)) A (fun dv => (A dv).set i (.is (.v (.list xs)))) (eV (enumL 0 xs)) := fun dv env hA => by
  refine ⟨enumL 0 xs, env.set i (.v (.list xs)), ?_, rfl, hA.set (.is _)⟩
  unfold dEnum dVar
  rw [hA.get (h dv)]
  unfold Res.bd enumOf itOf pinOV
  simp only [hA.get (h dv)]
  rfl
def rng1 : List PyData → Option (List PyData)
  | [.int j] => if inLong j = true then some (rangeL 0 j.toNat) else none
  | _ => none
def rng2 : List PyData → Option (List PyData)
  | [.int i, .int j] => if inLong i = true ∧ inLong j = true then some (rangeL i (j - i).toNat) else none
  | _ => none
def eRange1 (r : EM S (List PyData)) : EM S (List PyData) := bnd r fun xs => lo (rng1 xs)
def eRange2 (r : EM S (List PyData)) : EM S (List PyData) := bnd r fun xs => lo (rng2 xs)
theorem ir_range1 {r : Nv → Res (List OV)} {ks : List (Option Nat)} {mr : EM S (List PyData)} (hr : AR X r ks A A1 mr) : IR X (dRange1 r) A A1 (eRange1 mr) := fun dv env hA =>
  (hr dv env hA).bd fun xs d1 os e1 ⟨h1, h2⟩ => RelM.lo fun z hz => by
    refine ⟨z, e1, ?_, rfl, h2⟩
    unfold range1
    rw [h1.getAll h2]
    unfold rng1 at hz
    split at hz
    · split at hz
      · rename_i q
        cases hz
        simp only [q, if_true]
      · cases hz
    · cases hz
theorem ir_range2 {r : Nv → Res (List OV)} {ks : List (Option Nat)} {mr : EM S (List PyData)} (hr : AR X r ks A A1 mr) : IR X (dRange2 r) A A1 (eRange2 mr) := fun dv env hA =>
  (hr dv env hA).bd fun xs d1 os e1 ⟨h1, h2⟩ => RelM.lo fun z hz => by
    refine ⟨z, e1, ?_, rfl, h2⟩
    unfold range2
    rw [h1.getAll h2]
    unfold rng2 at hz
    split at hz
    · split at hz
      · rename_i q
        cases hz
        simp only [q, and_self, if_true]
      · cases hz
    · cases hz
end
end L2.Dl

namespace L2.Dl
open PySem
open PySem.Spec
open PyProof.Rows
variable {S : Type}

def kyE {α : Type} (D : DV) (x : PyData) (m : EM S α) : EM S α := if keyOk D.t x = true then m else eN
def eDGet (D : DV) (k : EM S PyData) : EM S PyData := bnd k fun x => kyE D x (lo (lookD D.kvs x))
def eDIn (D : DV) (neg : Bool) (k : EM S PyData) : EM S PyData := bnd k fun x => kyE D x (eV (.bool ((lookD D.kvs x).isSome != neg)))
def eDGet2 (D : DV) (k e : EM S PyData) : EM S PyData := bnd k fun x => bnd e fun z => kyE D x (eV ((lookD D.kvs x).getD z))
def eDPut (D : DV) (v k : EM S PyData) : EM S DV := bnd v fun z => bnd k fun x => if keyOk D.t x = true ∧ D.kvs.length < lenB then eV ⟨D.t, putD D.kvs x z⟩ else eN
section
variable {X A A' A1 A2 A3 : AF S} {d dk dx : DE} {k : Option Nat} {m mk mx : EM S PyData} {x : PyData} {i : Nat} {p : Bool} {D : DV}
theorem At.dct {A : AL} {e : Nv} (h : At A e) (q : A[i]? = some (.is (.dct p D))) : dctAt e i = some (p, D) := by
  simp only [dctAt, h.get q]
theorem At.own {A : AL} {e : Nv} {xs : List PyData} (h : At A e) (q : A[i]? = some (.is (.own p xs))) : ownAt e i = some (p, xs) := by
  simp only [ownAt, h.get q]
theorem er_dget (h0 : ∀ s, (A s)[i]? = some (.is (.dct p D))) (hk : ER X dk A A1 mk) (h1 : ∀ s, (A1 s)[i]? = some (.is (.dct p D))) : ER X (dDGet i dk) A A1 (eDGet D mk) := fun s env hA => by
  unfold dDGet
  simp only [hA.dct (h0 s)]
  refine (hk s env hA).bd fun x d1 o e1 ⟨q1, q2⟩ => ?_
  cases q1
  have q3 : pinOV e1 (.d x) = some (x, e1) := rfl
  unfold withKey kyE
  simp only [q3, q2.dct (h1 d1)]
  split
  · refine RelM.lo fun z hz => ⟨.d z, e1, ?_, rfl, q2⟩
    rw [hz]
  · exact True.intro
theorem er_din {neg : Bool} (hk : ER X dk A A1 mk) (h1 : ∀ s, (A1 s)[i]? = some (.is (.dct p D))) : ER X (dDIn i neg dk) A A1 (eDIn D neg mk) := fun s env hA => by
  refine (hk s env hA).bd fun x d1 o e1 ⟨q1, q2⟩ => ?_
  cases q1
  have q3 : pinOV e1 (.d x) = some (x, e1) := rfl
  unfold withKey kyE
  simp only [q3, q2.dct (h1 d1)]
  split
  · exact ⟨_, e1, rfl, rfl, q2⟩
  · exact True.intro
theorem er_dget2 (h0 : ∀ s, (A s)[i]? = some (.is (.dct p D))) (hk : ER X dk A A1 mk) (hx : ER X dx A1 A2 mx) (h1 : ∀ s, (A2 s)[i]? = some (.is (.dct p D))) : ER X (dDGet2 i dk dx) A A2 (eDGet2 D mk mx) := fun s env hA => by
  unfold dDGet2
  simp only [hA.dct (h0 s)]
  refine (hk s env hA).bd fun x d1 o e1 ⟨q1, q2⟩ => ?_
  cases q1
  have q3 : pinOV e1 (.d x) = some (x, e1) := rfl
  simp only [q3]
  refine (hx d1 e1 q2).bd fun z d2 o e2 ⟨r1, r2⟩ => ?_
  cases r1
  have q4 : pinOV e2 (.d z) = some (z, e2) := rfl
  unfold kyE
  simp only [q4, r2.dct (h1 d2)]
  split
  · exact ⟨_, e2, rfl, rfl, r2⟩
  · exact True.intro
def appL (xs : List PyData) (m : EM S PyData) : EM S (List PyData) := bnd m fun x => if xs.length < lenB then eV (xs ++ [x]) else eN
def extL (xs : List PyData) (m : EM S PyData) : EM S (List PyData) := bnd m fun y => match gExt y with
  | some ys => if xs.length + ys.length ≤ lenB then eV (xs ++ ys) else eN
  | none => eN
/-- what a statement of a method on an owned list does: the list then -/
def OwR (X : AF S) (i : Nat) (p : Bool) (d : DE) (A A' : AF S) (m : EM S (List PyData)) : Prop := ∀ s env, At (A s) env → RelM X (d env) (m s) fun ys s' o e' => At ((A' s').set i (.is (.own p ys))) e'
theorem ow_app {xs : List PyData} (h0 : ∀ s, (A s)[i]? = some (.is (.own p xs))) (hd : OR X d k A A1 m) (hp : ∀ s, pinOk (A1 s) [k] = true) (h1 : ∀ s, (pinA (A1 s) [k])[i]? = some (.is (.own p xs))) : OwR X i p (dApp i d) A (fun s => pinA (A1 s) [k]) (appL xs m) := fun s env hA => by
  unfold dApp
  simp only [hA.own (h0 s)]
  refine (hd s env hA).bd fun x d1 o e1 ⟨q1, q2⟩ => ?_
  obtain ⟨e', q3, q4⟩ := (OVs.cons q1 .nil).pinAll q2 (hp d1)
  unfold pinAll at q3
  cases q5 : pinOV e1 o with
  | none => rw [q5] at q3; cases q3
  | some xe =>
    obtain ⟨y, e2⟩ := xe
    rw [q5] at q3
    cases q3
    simp only [q4.own (h1 d1)]
    split
    · exact ⟨_, _, rfl, q4.set (.is _)⟩
    · exact True.intro
theorem ow_ext {xs : List PyData} (h0 : ∀ s, (A s)[i]? = some (.is (.own p xs))) (hd : OR X d k A A1 m) (h1 : ∀ s, (A1 s)[i]? = some (.is (.own p xs))) : OwR X i p (dExt i d) A A1 (extL xs m) := fun s env hA => by
  unfold dExt
  simp only [hA.own (h0 s)]
  refine (hd s env hA).bd fun y d1 o e1 ⟨q1, q2⟩ => ?_
  have q3 := q1.get q2
  simp only [q3, Option.bind_some]
  cases gExt y with
  | some ys =>
    simp only [q2.own (h1 d1)]
    split
    · exact ⟨_, _, rfl, q2.set (.is _)⟩
    · exact True.intro
  | none => exact True.intro
theorem er_pop {xs : List PyData} (h0 : ∀ s, (A s)[i]? = some (.is (.own p xs))) : ER X (dPop i) A (fun s => (A s).set i (.is (.own p xs.dropLast))) (lo (xs[xs.length - 1]?)) := fun s env hA => by
  unfold dPop
  simp only [hA.own (h0 s)]
  refine RelM.lo fun z hz => ⟨.d z, env.set i (.own p xs.dropLast), ?_, rfl, hA.set (.is _)⟩
  rw [hz]
theorem er_pop0 {xs : List PyData} {j : Nat} (h0 : ∀ s, (A s)[i]? = some (.is (.own p xs))) : ER X (dPopAt i (dC (.int j))) A (fun s => (A s).set i (.is (.own p (xs.eraseIdx j)))) (if xs.length ≤ lenB then lo xs[j]? else eN) := fun s env hA => by
  unfold dPopAt
  simp only [hA.own (h0 s)]
  show RelM X ((dC (.int j) env).bd _) _ _
  unfold dC Res.bd
  have q : getOV env (.d (.int j)) = some (.int j) := rfl
  simp only [q, hA.own (h0 s)]
  by_cases hl : xs.length ≤ lenB
  · rw [if_pos ⟨by omega, hl⟩, if_pos hl]
    refine RelM.lo fun z hz => ⟨.d z, env.set i (.own p (xs.eraseIdx j)), ?_, rfl, hA.set (.is _)⟩
    simp only [Int.toNat_natCast, hz]
  · rw [if_neg (fun q => hl q.2), if_neg hl]
    exact True.intro
end

inductive GA where
  | v
  | own (i : Nat)
  | st (i : Nat)
  | gl (n : Str)
/-- what is handed in, by the kinds of the arguments and their values (none for those that have none) -/
def mkArg (st : Slot) : GA → PyData → Option Slot
  | .v, x => some (.v x)
  | .own _, .list ys => some (.own true ys)
  | .own _, _ => none
  | .st _, _ => some st
  | .gl n, _ => some (.gl n)
def mkArgs (st : Slot) : List GA → List PyData → Option Nv
  | [], [] => some []
  | a :: as, x :: xs => match mkArg st a x with
    | some s => match mkArgs st as xs with
      | some l => some (s :: l)
      | none => none
    | none => none
  | _, _ => none
inductive GV1 (A : AL) : GA → OV → PyData → Prop
  | v {x : PyData} : GV1 A .v (.d x) x
  | own {i : Nat} {p : Bool} {ys : List PyData} : A[i]? = some (.is (.own p ys)) → GV1 A (.own i) (.sl i) (.list ys)
  | st {i : Nat} {x : PyData} : GV1 A (.st i) (.sl i) x
  | gl {n : Str} {x : PyData} : GV1 A (.gl n) (.gl n) x
/-- the arguments as they came -/
inductive GVs (A : AL) : List GA → List OV → List PyData → Prop
  | nil : GVs A [] [] []
  | cons {a : GA} {o : OV} {x : PyData} {as : List GA} {os : List OV} {xs : List PyData} : GV1 A a o x → GVs A as os xs → GVs A (a :: as) (o :: os) (x :: xs)
theorem GVs.append {A : AL} : ∀ {as bs : List GA} {os ps : List OV} {xs ys : List PyData}, GVs A as os xs → GVs A bs ps ys → GVs A (as ++ bs) (os ++ ps) (xs ++ ys)
  | _, _, _, _, _, _, .nil, h => h
  | _, _, _, _, _, _, .cons h r, q => .cons h (GVs.append r q)
theorem GVs.consts {A : AL} : ∀ xs : List PyData, GVs A (xs.map fun _ => .v) (xs.map .d) xs
  | [] => .nil
  | _ :: xs => .cons .v (GVs.consts xs)
theorem GVs.get {A : AL} : ∀ {as : List GA} {os : List OV} {xs : List PyData}, GVs A as os xs → ∀ {j : Nat}, (as[j]? = none ∧ os[j]? = none ∧ xs[j]? = none) ∨ ∃ a o x, as[j]? = some a ∧ os[j]? = some o ∧ xs[j]? = some x ∧ GV1 A a o x
  | _, _, _, .nil, j => .inl ⟨by simp, by simp, by simp⟩
  | _, _, _, .cons h r, 0 => .inr ⟨_, _, _, rfl, rfl, rfl, h⟩
  | _, _, _, .cons h r, j + 1 => by simpa using GVs.get r (j := j)
theorem GVs.pick {A : AL} {as : List GA} {os : List OV} {xs : List PyData} (r : GVs A as os xs) : ∀ ix : List Nat, GVs A (Dl.pick ix as) (Dl.pick ix os) (Dl.pick ix xs)
  | [] => .nil
  | i :: ix => by
    have ih := GVs.pick r ix
    unfold Dl.pick at ih ⊢
    rcases GVs.get r (j := i) with ⟨h1, h2, h3⟩ | ⟨a, o, x, h1, h2, h3, h4⟩
    · rw [List.filterMap_cons_none h1, List.filterMap_cons_none h2, List.filterMap_cons_none h3]
      exact ih
    · rw [List.filterMap_cons_some h1, List.filterMap_cons_some h2, List.filterMap_cons_some h3]
      exact .cons h4 ih
theorem GVs.lens {A : AL} : ∀ {as : List GA} {os : List OV} {xs : List PyData}, GVs A as os xs → os.length = as.length ∧ xs.length = as.length
  | _, _, _, .nil => ⟨rfl, rfl⟩
  | _, _, _, .cons _ r => ⟨congrArg Nat.succ r.lens.1, congrArg Nat.succ r.lens.2⟩
def GR (X : AF S) (r : Nv → Res (List OV)) (as : List GA) (A A' : AF S) (m : EM S (List PyData)) : Prop := ∀ s env, At (A s) env → RelM X (r env) (m s) fun xs s' os e' => GVs (A' s') as os xs ∧ At (A' s') e'
section
variable {X A A' A1 A2 A3 : AF S} {d : DE} {m : EM S PyData} {r : Nv → Res (List OV)} {as : List GA} {mr : EM S (List PyData)}
theorem gr_nil : GR X dANil [] A A aN := fun s env hA => ⟨[], env, rfl, .nil, hA⟩
theorem gr_v (hd : ER X d A A1 m) (hr : GR X r as A1 A2 mr) : GR X (dACons d r) (.v :: as) A A2 (aC m mr) := fun s env hA =>
  (hd s env hA).bd fun x d1 o e1 ⟨h1, h2⟩ => (hr d1 e1 h2).bd fun xs d2 os e2 ⟨h3, h4⟩ => by
    cases h1
    exact ⟨_, e2, rfl, .cons .v h3, h4⟩
theorem gr_own {i : Nat} {p : Bool} {xs : List PyData} (h0 : ∀ s, (A s)[i]? = some (.is (.own p xs))) (hr : GR X r as A A2 mr) (h1 : ∀ s, (A2 s)[i]? = some (.is (.own p xs))) : GR X (dACons (dVar i) r) (.own i :: as) A A2 (aC (eV (.list xs)) mr) := fun s env hA => by
  have q4 : dVar i env = .ok (.sl i) env := by
    unfold dVar
    simp only [hA.get (h0 s)]
  unfold aC
  rw [bnd_V]
  unfold dACons
  rw [q4]
  refine (hr s env hA).bd fun ys d2 os e2 ⟨h3, h4⟩ => ⟨_, e2, rfl, .cons (.own (h1 d2)) h3, h4⟩
theorem gr_st {A A2 X : AF DV} {mr : EM DV (List PyData)} {i : Nat} {p : Bool} (h0 : ∀ s, (A s)[i]? = some (.is (.dct p s))) (hr : GR X r as A A2 mr) : GR X (dACons (dVar i) r) (.st i :: as) A A2 (aC (eV .none) mr) := fun s env hA => by
  have q4 : dVar i env = .ok (.sl i) env := by
    unfold dVar
    simp only [hA.get (h0 s)]
  unfold aC
  rw [bnd_V]
  unfold dACons
  rw [q4]
  refine (hr s env hA).bd fun ys d2 os e2 ⟨h3, h4⟩ => ⟨_, e2, rfl, .cons .st h3, h4⟩
theorem gr_gl {n : Str} (hr : GR X r as A A2 mr) : GR X (dACons (dGl n) r) (.gl n :: as) A A2 (aC (eV .none) mr) := fun s env hA => by
  unfold aC
  rw [bnd_V]
  refine (hr s env hA).bd fun ys d2 os e2 ⟨h3, h4⟩ => ⟨_, e2, rfl, .cons .gl h3, h4⟩
theorem gr_glV {n : Str} {i : Nat} (h0 : ∀ s, (A s)[i]? = some (.is (.gl n))) (hr : GR X r as A A2 mr) : GR X (dACons (dVar i) r) (.gl n :: as) A A2 (aC (eV .none) mr) := fun s env hA => by
  have q4 : dVar i env = .ok (.gl n) env := by
    unfold dVar
    simp only [hA.get (h0 s)]
  unfold aC
  rw [bnd_V]
  unfold dACons
  rw [q4]
  refine (hr s env hA).bd fun ys d2 os e2 ⟨h3, h4⟩ => ⟨_, e2, rfl, .cons .gl h3, h4⟩
end
def GA.slot : GA → Option Nat
  | .own i => some i
  | .st i => some i
  | _ => none
def gaOk (as : List GA) : Bool := decide ((as.filterMap GA.slot).Nodup)
def gaNoSt (as : List GA) : Bool := as.all fun | .st _ => false | _ => true
/-- the only state is that of slot i -/
def gaSt (i : Nat) (as : List GA) : Bool := as.all fun | .st j => decide (j = i) | _ => true
section
variable {A : AL} {e : Nv} {as : List GA} {os : List OV} {xs : List PyData} {st : Slot} {ps : Nv}
theorem GVs.mem_sl (h : GVs A as os xs) {i : Nat} : os.any (isSl i) = true → some i ∈ as.map GA.slot := by
  induction h with
  | nil => intro q; cases q
  | cons h1 _ ih =>
    intro q
    rw [List.any_cons, Bool.or_eq_true] at q
    rcases q with q | q
    · have := isSl_at q
      subst this
      cases h1 <;> exact List.mem_cons_self ..
    · exact List.mem_cons_of_mem _ (ih q)
theorem GVs.apart (h : GVs A as os xs) : (as.filterMap GA.slot).Nodup → apartO e os = true := by
  induction h with
  | nil => intro _; rfl
  | cons h1 h2 ih =>
    rename_i as' os' xs'
    intro q
    cases h1 with
    | v => exact ih q
    | gl => exact ih q
    | own hi =>
      rename_i i p ys
      rw [List.filterMap_cons_some (show GA.slot (.own i) = some i from rfl), List.nodup_cons] at q
      unfold apartO
      rw [ih q.2, Bool.and_true, Bool.or_eq_true]
      refine .inr ?_
      cases hq : os'.any (isSl i) with
      | false => rfl
      | true =>
        have := h2.mem_sl hq
        refine absurd ?_ q.1
        rw [List.mem_filterMap]
        obtain ⟨a, h3, h4⟩ := List.mem_map.mp this
        exact ⟨a, h3, h4⟩
    | st =>
      rename_i x i
      rw [List.filterMap_cons_some (show GA.slot (.st i) = some i from rfl), List.nodup_cons] at q
      unfold apartO
      rw [ih q.2, Bool.and_true, Bool.or_eq_true]
      refine .inr ?_
      cases hq : os'.any (isSl i) with
      | false => rfl
      | true =>
        have := h2.mem_sl hq
        refine absurd ?_ q.1
        rw [List.mem_filterMap]
        obtain ⟨a, h3, h4⟩ := List.mem_map.mp this
        exact ⟨a, h3, h4⟩
theorem GVs.argL (h : GVs A as os xs) (hA : At A e) (hst : ∀ i, .st i ∈ as → argS e (.sl i) = some st) : ∃ ps, mkArgs st as xs = some ps ∧ Dl.argL e os = some ps := by
  induction h with
  | nil => exact ⟨[], rfl, rfl⟩
  | cons h1 h2 ih =>
    rename_i a o x as' os' xs'
    have hs : ∃ s, mkArg st a x = some s ∧ argS e o = some s := by
      cases h1 with
      | v => exact ⟨_, rfl, rfl⟩
      | gl => exact ⟨_, rfl, rfl⟩
      | own hi =>
        refine ⟨_, rfl, ?_⟩
        simp only [argS, hA.get hi]
      | st => exact ⟨st, rfl, hst _ (List.mem_cons_self ..)⟩
    obtain ⟨s, q1, q2⟩ := hs
    obtain ⟨ps, q3, q4⟩ := ih fun i hi => hst i (List.mem_cons_of_mem _ hi)
    refine ⟨s :: ps, ?_, ?_⟩
    · unfold mkArgs
      simp only [q1, q3]
    · unfold Dl.argL
      simp only [q2, q4]
theorem GVs.mk (h : GVs A as os xs) : ∃ ps, mkArgs st as xs = some ps := by
  induction h with
  | nil => exact ⟨[], rfl⟩
  | cons h1 h2 ih =>
    obtain ⟨ps, q⟩ := ih
    rename_i a o x as' os' xs'
    have hs : ∃ s, mkArg st a x = some s := by cases h1 <;> exact ⟨_, rfl⟩
    obtain ⟨s, q1⟩ := hs
    exact ⟨s :: ps, by unfold mkArgs; simp only [q1, q]⟩
theorem mkArgs_get : ∀ {as : List GA} {xs : List PyData} {ps : Nv}, mkArgs st as xs = some ps → ∀ {j : Nat} {a : GA} {x : PyData}, as[j]? = some a → xs[j]? = some x → ∃ s, ps[j]? = some s ∧ mkArg st a x = some s
  | [], [], _, h, j, a, x, q1, q2 => by simp at q1
  | a0 :: as, x0 :: xs, ps, h, j, a, x, q1, q2 => by
    unfold mkArgs at h
    split at h
    · rename_i s h1
      split at h
      · rename_i l h2
        cases h
        cases j with
        | zero =>
          simp at q1 q2
          subst q1 q2
          exact ⟨s, rfl, h1⟩
        | succ j => simpa using mkArgs_get h2 (by simpa using q1) (by simpa using q2)
      · cases h
    · cases h
  | [], _ :: _, _, h, _, _, _, _, _ => by cases h
  | _ :: _, [], _, h, _, _, _, _, _ => by cases h
theorem posO_none' {i : Nat} {os : List OV} (h : posO i os = none) : OV.sl i ∉ os := fun q => by
  unfold posO at h
  rw [List.findIdx?_eq_none_iff] at h
  have := h _ q
  unfold isSl at this
  simp at this
/-- the caller's slots behind the call: but for the state all is as it was -/
theorem GVs.back {st' : Slot} {ps' : Nv} {e' : Nv} (h : GVs A as os xs) (hA : At A e) (hmo : ∀ p ys, mergeS (.own p ys) st' = none) (hp : mkArgs st' as xs = some ps') (hl : e'.length = e.length) (hne : ∀ m, GA.st m ∉ as → e'[m]? = e[m]?)
    (hst : ∀ m, GA.st m ∈ as → ∃ s t, e[m]? = some s ∧ s.owns = true ∧ mergeS s st' = some t ∧ e'[m]? = some t) : backE os ps' e 0 = some e' := by
  refine backE_gen hl (fun m s hm ho => ?_) fun m s hm ho => ?_
  · by_cases q : GA.st m ∈ as
    · obtain ⟨s', t, h1, h2, _⟩ := hst m q
      rw [hm] at h1
      cases h1
      rw [ho] at h2
      cases h2
    · rw [hne m q]
      exact hm
  · rw [Nat.zero_add]
    cases hq : posO m os with
    | none =>
      refine .inl ⟨rfl, ?_⟩
      have : GA.st m ∉ as := fun z => by
        have hn := posO_none' hq
        obtain ⟨j, hj, hj2⟩ := List.mem_iff_getElem.mp z
        rcases h.get (j := j) with ⟨h1, _, _⟩ | ⟨a, o, x, h1, h2, h3, h4⟩
        · rw [List.getElem?_eq_getElem hj] at h1
          cases h1
        · rw [List.getElem?_eq_getElem hj, hj2] at h1
          cases h1
          cases h4
          exact hn (List.mem_iff_getElem?.mpr ⟨j, h2⟩)
      rw [hne m this]
      exact hm
    | some j =>
      refine .inr ⟨j, ?_⟩
      have hs := posO_at hq
      rcases h.get (j := j) with ⟨_, h2, _⟩ | ⟨a, o, x, h1, h2, h3, h4⟩
      · rw [hs] at h2
        cases h2
      · rw [hs] at h2
        cases h2
        obtain ⟨u, h5, h6⟩ := mkArgs_get hp h1 h3
        cases h4 with
        | own hi =>
          rename_i p ys
          have := hA.get hi
          rw [hm] at this
          cases this
          cases h6
          by_cases q : GA.st m ∈ as
          · obtain ⟨s', t, k1, k2, k3, k4⟩ := hst m q
            rw [hm] at k1
            cases k1
            refine ⟨_, .own p ys, rfl, h5, rfl, ?_⟩
            rw [hmo] at k3
            cases k3
          · exact ⟨_, .own p ys, rfl, h5, rfl, by rw [hne m q]; exact hm⟩
        | st =>
          cases h6
          obtain ⟨s', t, k1, k2, k3, k4⟩ := hst m (List.mem_iff_getElem?.mpr ⟨j, h1⟩)
          rw [hm] at k1
          cases k1
          exact ⟨_, t, rfl, h5, k3, k4⟩
end
end L2.Dl

namespace L2.Dl
open PySem
open PySem.Spec
open PyProof.Rows
variable {S : Type}

/-- what changes no state, beside one -/
def eLift {α : Type} (m : EM Unit α) : EM S α := fun s => match m () with
  | .ok x _ => .ok x s
  | .ex x _ => .ex x s
  | .no => .no
section
variable {α β : Type}
theorem eLift_V (a : α) : (eLift (eV a) : EM S α) = eV a := rfl
theorem eLift_X (a : Ex) : (eLift (eX a : EM Unit α) : EM S α) = eX a := rfl
theorem eLift_N : (eLift (eN : EM Unit α) : EM S α) = eN := rfl
theorem eLift_ite {c : Prop} [Decidable c] (a b : EM Unit α) : (eLift (if c then a else b) : EM S α) = if c then eLift a else eLift b := by split <;> rfl
theorem eLift_bnd (m : EM Unit α) (f : α → EM Unit β) : (eLift (bnd m f) : EM S β) = bnd (eLift m) fun a => eLift (f a) := by
  funext s
  unfold eLift bnd
  cases m () <;> rfl
theorem eLift_lo (o : Option α) : (eLift (lo o) : EM S α) = lo o := by cases o <;> rfl
end
/-- what a def does with such arguments -/
def FnA (fn : Fn) (st : S → Slot) (as : List GA) (F : List PyData → EM S PyData) : Prop := ∀ xs s ps, mkArgs (st s) as xs = some ps → match F xs s with
  | .ok x s' => ∀ ps', mkArgs (st s') as xs = some ps' → fn ps = .ok (.d x) ps'
  | .ex x s' => ∀ ps', mkArgs (st s') as xs = some ps' → fn ps = .exc x ps'
  | .no => True
theorem noSt_mem {as : List GA} (h : gaNoSt as = true) (i : Nat) : GA.st i ∉ as := fun q => by
  unfold gaNoSt at h
  have := List.all_eq_true.mp h _ q
  cases this
theorem GVs.keep {A B : AL} {as : List GA} {os : List OV} {xs : List PyData} (h : GVs A as os xs) : (∀ i ∈ as.filterMap GA.slot, A[i]? = B[i]?) → GVs B as os xs := by
  induction h with
  | nil => exact fun _ => .nil
  | cons z1 z2 ih =>
    intro hk
    refine .cons ?_ (ih fun i hi => hk i ?_)
    · cases z1 with
      | v => exact .v
      | gl => exact .gl
      | st => exact .st
      | own hi => exact .own ((hk _ (by rw [List.filterMap_cons]; exact List.mem_cons_self ..)).symm.trans hi)
    · cases z1 with
      | v => rw [List.filterMap_cons]; exact hi
      | gl => rw [List.filterMap_cons]; exact hi
      | st => rw [List.filterMap_cons]; exact List.mem_cons_of_mem _ hi
      | own _ => rw [List.filterMap_cons]; exact List.mem_cons_of_mem _ hi
section
variable {X A A' A1 A2 A3 : AF S} {fn : Fn} {as bs : List GA} {F : List PyData → EM Unit PyData}
theorem call_rel (hF : FnA fn (fun _ : Unit => .un) as F) (hn : gaNoSt as = true) (hk : gaOk as = true) (hX : ∀ s, LeA (A1 s) (X s)) {s : S} {e : Nv} {os : List OV} {xs : List PyData} (h : GVs (A1 s) as os xs) (hA : At (A1 s) e) :
    RelM X (callOV fn os e) (eLift (F xs) s) fun x s' o e' => OVx (A1 s') none o x ∧ At (A1 s') e' := by
  have ap : apartO e os = true := h.apart (of_decide_eq_true hk)
  obtain ⟨ps, h1, h2⟩ := h.argL (st := .un) hA fun i hi => absurd hi (noSt_mem hn i)
  have hb := h.back (st' := .un) (e' := e) hA (fun _ _ => rfl) h1 rfl (fun _ _ => rfl) fun m hm => absurd hm (noSt_mem hn m)
  have hf := hF xs () ps h1
  unfold callOV eLift
  rw [if_pos ap, h2]
  cases hm : F xs () with
  | no => exact True.intro
  | ok x s' =>
    rw [hm] at hf
    have := hf ps h1
    simp only [this, backO, hb]
    exact ⟨.d x, e, rfl, rfl, hA⟩
  | ex x s' =>
    rw [hm] at hf
    have := hf ps h1
    simp only [this, backO, hb]
    exact ⟨e, rfl, (hX s).at hA⟩
/-- f(..): a def that changes nothing -/
theorem er_call {n : Nat} {ods : List PyData} {r : Nv → Res (List OV)} {mr : EM S (List PyData)} (hr : GR X r as A A1 mr) (hF : FnA fn (fun _ : Unit => .un) (as ++ ods.map fun _ => .v) F) (hn : gaNoSt (as ++ ods.map fun _ => .v) = true) (hk : gaOk (as ++ ods.map fun _ => .v) = true)
    (hX : ∀ s, LeA (A1 s) (X s)) (hl : (as ++ ods.map fun _ => GA.v).length = n) : ER X (dCall n fn ods r) A A1 (bnd mr fun xs => eLift (F (xs ++ ods))) := fun s env hA =>
  (hr s env hA).bd fun xs s1 os e1 ⟨h1, h2⟩ => by
    have h3 := h1.append (GVs.consts ods)
    rw [if_pos (h3.lens.1.trans hl)]
    exact call_rel hF hn hk hX h3 h2
/-- f(.., k = v, ..) -/
theorem er_callW {n n1 m : Nat} {ix : List Nat} {ods : List PyData} {r rk : Nv → Res (List OV)} {mr mk : EM S (List PyData)} (hr : GR X r as A A1 mr) (hrk : GR X rk bs A1 A2 mk) (hka : ∀ i ∈ as.filterMap GA.slot, ∀ s s', (A1 s)[i]? = (A2 s')[i]?)
    (hF : FnA fn (fun _ : Unit => .un) (pick ix (as ++ bs ++ ods.map fun _ => .v)) F) (hn : gaNoSt (pick ix (as ++ bs ++ ods.map fun _ => .v)) = true) (hk : gaOk (pick ix (as ++ bs ++ ods.map fun _ => .v)) = true)
    (hX : ∀ s, LeA (A2 s) (X s)) (h1 : as.length = n1) (h2 : bs.length = m) (h3 : (pick ix (as ++ bs ++ ods.map fun _ => GA.v)).length = n) : ER X (dCallW n fn n1 m ix ods r rk) A A2 (bnd mr fun xs => bnd mk fun ys => eLift (F (pick ix (xs ++ ys ++ ods)))) := fun s env hA =>
  (hr s env hA).bd fun xs s1 os e1 ⟨q1, q2⟩ => (hrk s1 e1 q2).bd fun ys s2 zs e2 ⟨q3, q4⟩ => by
    have q5 : GVs (A2 s2) as os xs := q1.keep fun i hi => hka i hi s1 s2
    have q6 := ((q5.append q3).append (GVs.consts ods)).pick ix
    rw [if_pos ⟨q5.lens.1.trans h1, q3.lens.1.trans h2, q6.lens.1.trans h3⟩]
    exact call_rel hF hn hk hX q6 q4
end
section
variable {X A A' A1 A2 A3 : AF DV} {fn : Fn} {as bs : List GA} {F : List PyData → EM DV PyData}
theorem gaSt_mem {i j : Nat} (h : gaSt i as = true) (q : GA.st j ∈ as) : j = i := by
  unfold gaSt at h
  exact of_decide_eq_true (List.all_eq_true.mp h _ q)
def gaHas (i : Nat) (as : List GA) : Bool := as.any fun | .st j => decide (j = i) | _ => false
theorem gaHas_mem {i : Nat} (h : gaHas i as = true) : GA.st i ∈ as := by
  unfold gaHas at h
  obtain ⟨a, h1, h2⟩ := List.any_eq_true.mp h
  cases a with
  | st j =>
    obtain rfl := of_decide_eq_true h2
    exact h1
  | _ => cases h2
/-- a def that draws -/
theorem callS_rel {i : Nat} {p : Bool} (hF : FnA fn (fun d : DV => .dct true d) as F) (hn : gaSt i as = true) (hm : GA.st i ∈ as) (hk : gaOk as = true) (hi : ∀ s, (A1 s)[i]? = some (.is (.dct p s))) (hs : ∀ s s', A1 s' = (A1 s).set i (.is (.dct p s')))
    (hX : ∀ s, LeA (A1 s) (X s)) {s : DV} {e : Nv} {os : List OV} {xs : List PyData} (h : GVs (A1 s) as os xs) (hA : At (A1 s) e) :
    RelM X (callOV fn os e) (F xs s) fun x s' o e' => OVx (A1 s') none o x ∧ At (A1 s') e' := by
  have ap : apartO e os = true := h.apart (of_decide_eq_true hk)
  have he := hA.get (hi s)
  obtain ⟨ps, h1, h2⟩ := h.argL (st := .dct true s) hA fun j hj => by
    obtain rfl := gaSt_mem hn hj
    simp only [argS, he]
  have hb : ∀ (s' : DV) (ps' : Nv), mkArgs (.dct true s') as xs = some ps' → backE os ps' e 0 = some (e.set i (.dct p s')) := fun s' ps' hp' =>
    h.back (st' := .dct true s') (e' := e.set i (.dct p s')) hA (fun _ _ => rfl) hp' (List.length_set ..) (fun m q => List.getElem?_set_ne (fun z : i = m => q (by rw [← z]; exact hm))) fun m q => by
      obtain rfl := gaSt_mem hn q
      refine ⟨_, .dct p s', he, rfl, rfl, ?_⟩
      rw [List.getElem?_set_self]
      rcases Nat.lt_or_ge m e.length with z | z
      · exact z
      · rw [List.getElem?_eq_none z] at he
        cases he
  have hA' : ∀ s', At (A1 s') (e.set i (.dct p s')) := fun s' => by
    rw [hs s s']
    exact hA.set (.is _)
  have hf := hF xs s ps h1
  unfold callOV
  rw [if_pos ap, h2]
  cases hm : F xs s with
  | no => exact True.intro
  | ok x s' =>
    rw [hm] at hf
    obtain ⟨ps', h3⟩ := h.mk (st := .dct true s')
    have := hf ps' h3
    simp only [this, backO, hb s' ps' h3]
    exact ⟨.d x, _, rfl, rfl, hA' s'⟩
  | ex x s' =>
    rw [hm] at hf
    obtain ⟨ps', h3⟩ := h.mk (st := .dct true s')
    have := hf ps' h3
    simp only [this, backO, hb s' ps' h3]
    exact ⟨_, rfl, (hX s').at (hA' s')⟩
theorem er_callS {i : Nat} {p : Bool} {n : Nat} {ods : List PyData} {r : Nv → Res (List OV)} {mr : EM DV (List PyData)} (hr : GR X r as A A1 mr) (hF : FnA fn (fun d : DV => .dct true d) (as ++ ods.map fun _ => .v) F) (hn : gaSt i (as ++ ods.map fun _ => .v) = true) (hm : gaHas i (as ++ ods.map fun _ => .v) = true) (hk : gaOk (as ++ ods.map fun _ => .v) = true)
    (hi : ∀ s, (A1 s)[i]? = some (.is (.dct p s))) (hs : ∀ s s', A1 s' = (A1 s).set i (.is (.dct p s')))
    (hX : ∀ s, LeA (A1 s) (X s)) (hl : (as ++ ods.map fun _ => GA.v).length = n) : ER X (dCall n fn ods r) A A1 (bnd mr fun xs => F (xs ++ ods)) := fun s env hA =>
  (hr s env hA).bd fun xs s1 os e1 ⟨h1, h2⟩ => by
    have h3 := h1.append (GVs.consts ods)
    rw [if_pos (h3.lens.1.trans hl)]
    exact callS_rel hF hn (gaHas_mem hm) hk hi hs hX h3 h2
end
def wipeA (A : AL) : List Nat → AL
  | [] => A
  | v :: vs => (wipeA A vs).set v (.is .un)
def backA (A : AL) (vs : List Nat) : AL := vs.foldr (fun v B => B.set v .any) A
theorem At.wipe {A : AL} {e : Nv} (h : At A e) : ∀ vs : List Nat, At (wipeA A vs) (wipeN e vs)
  | [] => h
  | v :: vs => (At.wipe h vs).set (.is _)
def stepE (t : EM S Bool) (d : EM S PyData) : EM S (Option PyData) := bnd t fun b => if b = true then bnd d fun y => eV (some y) else eV none
def Pats.app : Pats → Pats → Pats
  | .nil, q => q
  | .cons p r, q => .cons p (r.app q)
theorem asgPs_app : ∀ {qs ps : Pats} {ds es : List PyData} {env : Nv}, ds.length = qs.len → asgPs (qs.app ps) (ds ++ es) env = (match asgPs qs ds env with | some e => asgPs ps es e | none => none)
  | .nil, ps, [], es, env, _ => rfl
  | .nil, ps, _ :: _, es, env, h => by cases h
  | .cons q qs, ps, [], es, env, h => by cases h
  | .cons q qs, ps, d :: ds, es, env, h => by
    show (match asgP q d env with | some e => asgPs (qs.app ps) (ds ++ es) e | none => none) = (match (match asgP q d env with | some e => asgPs qs ds e | none => none) with | some e => asgPs ps es e | none => none)
    cases asgP q d env with
    | none => rfl
    | some e => exact asgPs_app (Nat.succ.inj h)
/-- the targets stored, then P -/
def PksR {β : Type} (P : Nv → RM S β → Prop) (ps : Pats) (ds : List PyData) (A : AF S) (f : EM S β) : Prop := ∀ s env, At (A s) env → f s = .no ∨ ∃ e2, asgPs ps ds env = some e2 ∧ P e2 (f s)
def up1 {β : Type} (x : PyData) (k : PyData → EM S β) : EM S β := match x with
  | .tuple [a] => k a
  | _ => eN
def up2 {β : Type} (x : PyData) (k : PyData → PyData → EM S β) : EM S β := match x with
  | .tuple [a, b] => k a b
  | _ => eN
def up3 {β : Type} (x : PyData) (k : PyData → PyData → PyData → EM S β) : EM S β := match x with
  | .tuple [a, b, c] => k a b c
  | _ => eN
def up4 {β : Type} (x : PyData) (k : PyData → PyData → PyData → PyData → EM S β) : EM S β := match x with
  | .tuple [a, b, c, d] => k a b c d
  | _ => eN
def up5 {β : Type} (x : PyData) (k : PyData → PyData → PyData → PyData → PyData → EM S β) : EM S β := match x with
  | .tuple [a, b, c, d, e] => k a b c d e
  | _ => eN
section
variable {β : Type} {P : Nv → RM S β → Prop} {A : AF S} {ps qs : Pats} {ds : List PyData} {d x : PyData} {i : Nat} {f : EM S β}
theorem pk_nil (h : ∀ s env, At (A s) env → P env (f s)) : PksR P .nil [] A f := fun s env hA => .inr ⟨env, rfl, h s env hA⟩
theorem pk_nm (hf : ∀ s, frA (A s) i = true) (h : PksR P ps ds (fun s => (A s).set i (.is (.v d))) f) : PksR P (.cons (.nm i) ps) (d :: ds) A f := fun s env hA => by
  rcases h s (env.set i (.v d)) (hA.set (.is _)) with q | ⟨e2, q1, q2⟩
  · exact .inl q
  · refine .inr ⟨e2, ?_, q2⟩
    unfold asgPs asgP
    rw [if_pos (hA.free (hf s))]
    exact q1
theorem pk_tp {xs : List PyData} (hl : xs.length = qs.len) (h : PksR P (qs.app ps) (xs ++ ds) A f) : PksR P (.cons (.tp qs) ps) (.tuple xs :: ds) A f := fun s env hA => by
  rcases h s env hA with q | ⟨e2, q1, q2⟩
  · exact .inl q
  · rw [asgPs_app hl] at q1
    refine .inr ⟨e2, ?_, q2⟩
    unfold asgPs asgP
    exact q1
theorem pk_no : PksR P ps ds A eN := fun s env hA => .inl rfl
theorem pk_up1 {p1 : Pat} {k : PyData → EM S β} (h : ∀ a, PksR P (.cons p1 ps) (a :: ds) A (k a)) : PksR P (.cons (.tp (.cons p1 .nil)) ps) (x :: ds) A (up1 x k) := by
  unfold up1
  split
  · exact pk_tp (qs := .cons p1 .nil) rfl (h _)
  · exact pk_no
theorem pk_up2 {p1 p2 : Pat} {k : PyData → PyData → EM S β} (h : ∀ a b, PksR P (.cons p1 (.cons p2 ps)) (a :: b :: ds) A (k a b)) : PksR P (.cons (.tp (.cons p1 (.cons p2 .nil))) ps) (x :: ds) A (up2 x k) := by
  unfold up2
  split
  · exact pk_tp (qs := .cons p1 (.cons p2 .nil)) rfl (h _ _)
  · exact pk_no
theorem pk_up3 {p1 p2 p3 : Pat} {k : PyData → PyData → PyData → EM S β} (h : ∀ a b c, PksR P (.cons p1 (.cons p2 (.cons p3 ps))) (a :: b :: c :: ds) A (k a b c)) : PksR P (.cons (.tp (.cons p1 (.cons p2 (.cons p3 .nil)))) ps) (x :: ds) A (up3 x k) := by
  unfold up3
  split
  · exact pk_tp (qs := .cons p1 (.cons p2 (.cons p3 .nil))) rfl (h _ _ _)
  · exact pk_no
theorem pk_up4 {p1 p2 p3 p4 : Pat} {k : PyData → PyData → PyData → PyData → EM S β} (h : ∀ a b c d, PksR P (.cons p1 (.cons p2 (.cons p3 (.cons p4 ps)))) (a :: b :: c :: d :: ds) A (k a b c d)) : PksR P (.cons (.tp (.cons p1 (.cons p2 (.cons p3 (.cons p4 .nil))))) ps) (x :: ds) A (up4 x k) := by
  unfold up4
  split
  · exact pk_tp (qs := .cons p1 (.cons p2 (.cons p3 (.cons p4 .nil)))) rfl (h _ _ _ _)
  · exact pk_no
theorem pk_up5 {p1 p2 p3 p4 p5 : Pat} {k : PyData → PyData → PyData → PyData → PyData → EM S β} (h : ∀ a b c d e, PksR P (.cons p1 (.cons p2 (.cons p3 (.cons p4 (.cons p5 ps))))) (a :: b :: c :: d :: e :: ds) A (k a b c d e)) : PksR P (.cons (.tp (.cons p1 (.cons p2 (.cons p3 (.cons p4 (.cons p5 .nil)))))) ps) (x :: ds) A (up5 x k) := by
  unfold up5
  split
  · exact pk_tp (qs := .cons p1 (.cons p2 (.cons p3 (.cons p4 (.cons p5 .nil))))) rfl (h _ _ _ _ _)
  · exact pk_no
theorem pk_one {p : Pat} {s : S} {env : Nv} (h : PksR P (.cons p .nil) [x] A f) (hA : At (A s) env) : f s = .no ∨ ∃ e2, asgP p x env = some e2 ∧ P e2 (f s) := by
  rcases h s env hA with q | ⟨e2, q1, q2⟩
  · exact .inl q
  · refine .inr ⟨e2, ?_, q2⟩
    unfold asgPs at q1
    split at q1
    · rename_i e he
      unfold asgPs at q1
      rw [he]
      exact q1
    · cases q1
end
/-- one turn of a comprehension, behind its target -/
def LcT (vs : List Nat) (t : DT) (d : DE) (A : AF S) (e1 : Nv) (m : RM S (Option PyData)) : Prop := match m with
  | .ok (some y) s' => ∃ e2 o e3 e4, t e1 = .ok true e2 ∧ d e2 = .ok o e3 ∧ pinOV e3 o = some (y, e4) ∧ At (A s') (wipeN e4 vs)
  | .ok none s' => ∃ e2, t e1 = .ok false e2 ∧ At (A s') (wipeN e2 vs)
  | _ => True
theorem tr_yes {X A : AF S} : TR X dYes A A (eV true) := fun s env hA => ⟨true, env, rfl, rfl, hA⟩
theorem lc_td {X A A0 A1 A2 : AF S} {vs : List Nat} {t : DT} {d : DE} {mt : EM S Bool} {md : EM S PyData} (ht : TR X t A0 A1 mt) (hd : ER X d A1 A2 md) (h1 : ∀ s, LeA (wipeA (A1 s) vs) (A s)) (h2 : ∀ s, LeA (wipeA (A2 s) vs) (A s)) :
    ∀ s env, At (A0 s) env → LcT vs t d A env (stepE mt md s) := fun s env hA => by
  have q1 := ht s env hA
  unfold stepE bnd LcT
  unfold RelM at q1
  cases hm : mt s with
  | no => exact True.intro
  | ex _ _ => exact True.intro
  | ok b s1 =>
    rw [hm] at q1
    obtain ⟨b', e1, q2, q3, q4⟩ := q1
    subst q3
    cases b' with
    | false => exact ⟨e1, q2, (h1 s1).at (q4.wipe vs)⟩
    | true =>
      have q5 := hd s1 e1 q4
      unfold RelM at q5
      simp only [↓reduceIte]
      cases hd' : md s1 with
      | no => exact True.intro
      | ex _ _ => exact True.intro
      | ok y s2 =>
        rw [hd'] at q5
        obtain ⟨o, e3, q6, q7, q8⟩ := q5
        cases q7
        exact ⟨e1, .d y, e3, e3, q2, q6, rfl, (h2 s2).at (q8.wipe vs)⟩
/-- one turn of a comprehension -/
def LcR (vs : List Nat) (p : Pat) (t : DT) (d : DE) (x : PyData) (A : AF S) (m : EM S (Option PyData)) : Prop := PksR (LcT vs t d A) (.cons p .nil) [x] A m
theorem lcL_rel {A : AF S} {vs : List Nat} {p : Pat} {t : DT} {d : DE} {f : PyData → EM S (Option PyData)} (h : ∀ x, LcR vs p t d x A (f x)) : ∀ (xs acc : List PyData) (s : S) (e : Nv), At (A s) e →
    match eLc f xs acc s with
    | .ok ys s' => ∃ e', lcL p t d vs xs acc e = .ok ys e' ∧ At (A s') e'
    | _ => True
  | [], acc, s, e, hA => ⟨e, rfl, hA⟩
  | x :: r, acc, s, e, hA => by
    have h1 := pk_one (h x) hA
    unfold eLc bnd shut
    cases hm : f x s with
    | no => exact True.intro
    | ex _ _ => exact True.intro
    | ok o s1 =>
      rw [hm] at h1
      rcases h1 with h1 | ⟨e1, q0, h1⟩
      · cases h1
      cases o with
      | none =>
        obtain ⟨e2, q2, q3⟩ := h1
        have ih := lcL_rel h r acc s1 (wipeN e2 vs) q3
        simp only []
        cases hr : eLc f r acc s1 with
        | ok ys s' =>
          rw [hr] at ih
          obtain ⟨e', q4, q5⟩ := ih
          refine ⟨e', ?_, q5⟩
          unfold lcL
          simp only [q0, q2, Res.bx]
          exact q4
        | _ => exact True.intro
      | some y =>
        obtain ⟨e2, o, e3, e4, q2, q3, q4, q5⟩ := h1
        simp only []
        by_cases hl : acc.length < lenB
        · rw [if_pos hl]
          have ih := lcL_rel h r (acc ++ [y]) s1 (wipeN e4 vs) q5
          cases hr : eLc f r (acc ++ [y]) s1 with
          | ok ys s' =>
            rw [hr] at ih
            obtain ⟨e', q6, q7⟩ := ih
            refine ⟨e', ?_, q7⟩
            unfold lcL
            simp only [q0, q2, q3, q4, Res.bx, if_true, hl]
            exact q6
          | _ => exact True.intro
        · rw [if_neg hl]
          exact True.intro
theorem eLc_noex {f : PyData → EM S (Option PyData)} : ∀ (xs acc : List PyData) (s : S) {x : Ex} {s' : S}, eLc f xs acc s ≠ .ex x s'
  | [], acc, s, x, s' => fun h => nomatch h
  | y :: r, acc, s, x, s' => fun h => by
    unfold eLc bnd shut at h
    cases hm : f y s with
    | no => rw [hm] at h; cases h
    | ex _ _ => rw [hm] at h; cases h
    | ok o s1 =>
      rw [hm] at h
      cases o with
      | none => exact eLc_noex r acc s1 h
      | some z =>
        simp only [] at h
        by_cases hl : acc.length < lenB
        · rw [if_pos hl] at h
          exact eLc_noex r _ s1 h
        · rw [if_neg hl] at h
          cases h
def eLC (xs : EM S (List PyData)) (f : PyData → EM S (Option PyData)) : EM S (List PyData) := bnd xs fun l => eLc f l []
theorem At.backN {A : AL} {B : AL} {e0 e : Nv} (h0 : At A e0) (h : At B e) : ∀ vs : List Nat, At (vs.foldr (fun v C => C.set v (A.getD v (.is .un))) B) (Dl.backN e0 e vs)
  | [] => h
  | v :: vs => by
    unfold Dl.backN
    rw [List.foldr_cons]
    refine At.set (At.backN h0 h vs) ?_
    rw [List.getD_eq_getElem?_getD, List.getD_eq_getElem?_getD]
    rcases Nat.lt_or_ge v A.length with z | z
    · have : A[v]? = some A[v] := List.getElem?_eq_getElem z
      obtain ⟨s, h1, h2⟩ := h0.get1 this
      rw [this, h1]
      exact h2
    · rw [List.getElem?_eq_none z, List.getElem?_eq_none (by rw [← h0.len]; exact z)]
      exact .is _
/-- [d for p in it if t] -/
theorem lr_lc {X A A1 : AF S} {it : DI} {mi : EM S (List PyData)} {vs : List Nat} {p : Pat} {t : DT} {d : DE} {f : PyData → EM S (Option PyData)} (hi : IR X it A A1 mi) (hp : ∀ s, vs.all (plA (A1 s)) = true) (h : ∀ x, LcR vs p t d x (fun s => wipeA (A1 s) vs) (f x))
    {A2 : AF S} (hb : ∀ s s', LeA (vs.foldr (fun v C => C.set v ((A1 s).getD v (.is .un))) (wipeA (A1 s') vs)) (A2 s')) :
    LR X (dLc it p t d vs) A A2 (eLC mi f) := fun s env hA =>
  (hi s env hA).bd fun xs s1 ys e1 ⟨h1, h2⟩ => by
    subst h1
    have hp' : vs.all (plainAt e1) = true := List.all_eq_true.mpr fun v hv => h2.plain (List.all_eq_true.mp (hp s1) v hv)
    rw [if_pos hp']
    have := lcL_rel h ys [] s1 (wipeN e1 vs) (h2.wipe vs)
    cases hm : eLc f ys [] s1 with
    | ok zs s' =>
      rw [hm] at this
      obtain ⟨e', q1, q2⟩ := this
      rw [q1]
      exact ⟨zs, _, rfl, rfl, (hb s1 s').at (At.backN h2 q2 vs)⟩
    | ex x s' => exact absurd hm (eLc_noex _ _ _)
    | no => exact True.intro
end L2.Dl

namespace L2.Dl
open PySem
open PySem.Spec
open PyProof.Rows
variable {S : Type}

section
variable {σ τ l : Type} {X X0 : AF S} {B : σ → AF S} {C : τ → AF S} {L : l → AF S} {A A1 A2 : AF S} {rest a b : DS} {i j : Nat}
theorem RelS.sq {r : SRes} {m : EM S (Fl σ l)} {k : σ → EM S (Fl τ l)} {s : S} (h : RelS X X0 B L r (m s)) (hk : ∀ x s' e', At (B x s') e' → RelS X X0 C L (rest e') (k x s')) : RelS X X0 C L (r.sq rest) (sJ m k s) := by
  unfold sJ bnd
  unfold RelS at h
  cases hm : m s with
  | no => exact True.intro
  | ex x s' =>
    rw [hm] at h
    obtain ⟨e', h1, h2⟩ := h
    rw [h1]
    exact ⟨e', rfl, h2⟩
  | ok f s' =>
    rw [hm] at h
    cases f with
    | nx x =>
      obtain ⟨e', h1, h2⟩ := h
      rw [h1]
      exact hk x s' e' h2
    | rt x =>
      obtain ⟨e', h1, h2⟩ := h
      rw [h1]
      exact ⟨e', rfl, h2⟩
    | bk x =>
      obtain ⟨e', h1, h2⟩ := h
      rw [h1]
      exact ⟨e', rfl, h2⟩
    | ct x =>
      obtain ⟨e', h1, h2⟩ := h
      rw [h1]
      exact ⟨e', rfl, h2⟩
theorem kr_one {m : EM S (Fl σ l)} (h : KR X X0 B L (dSeq a dNext) A m) : KR X X0 B L a A m := fun s env hA => by
  have := h s env hA
  have e : dSeq a dNext env = a env := by
    unfold dSeq SRes.sq
    cases a env <;> rfl
  rw [e] at this
  exact this
theorem kr_next {x : σ} (h : ∀ s, LeA (A s) (B x s)) : KR X X0 B L dNext A (eV (.nx x)) := fun s env hA => ⟨env, rfl, (h s).at hA⟩
theorem kr_brk {x : l} (h : ∀ s, LeA (A s) (L x s)) : KR X X0 B L (dSeq dBrk rest) A (eV (.bk x)) := fun s env hA => ⟨env, rfl, (h s).at hA⟩
theorem kr_cnt {x : l} (h : ∀ s, LeA (A s) (L x s)) : KR X X0 B L (dSeq dCnt rest) A (eV (.ct x)) := fun s env hA => ⟨env, rfl, (h s).at hA⟩
theorem kr_pass {m : EM S (Fl σ l)} (h : KR X X0 B L rest A m) : KR X X0 B L (dSeq dNext rest) A m := h
theorem kr_assoc {m : EM S (Fl σ l)} (h : KR X X0 B L (dSeq a (dSeq b rest)) A m) : KR X X0 B L (dSeq (dSeq a b) rest) A m := fun s env hA => by
  have := h s env hA
  have e : dSeq (dSeq a b) rest env = dSeq a (dSeq b rest) env := by
    unfold dSeq SRes.sq
    cases a env <;> rfl
  rw [e]
  exact this
/-- what stands on the right of = -/
def RR {α : Type} (X : AF S) (r : DR) (A A' : AF S) (m : EM S α) (f : α → Slot) : Prop := ∀ s env, At (A s) env → RelM X (r env) (m s) fun x s' t e' => t = f x ∧ At (A' s') e'
theorem rr_e {d : DE} {m : EM S PyData} (h : ER X d A A1 m) : RR X (rE d) A A1 m .v := fun s env hA => by
  rw [← bnd_id m]
  refine (h s env hA).bd fun x s1 o e1 ⟨h1, h2⟩ => ?_
  cases h1
  exact ⟨.v x, e1, rfl, rfl, h2⟩
theorem rr_own {xs : List PyData} (h : ∀ s, (A s)[i]? = some (.is (.own false xs))) : RR X (rE (dVar i)) A (fun s => (A s).set i (.is (.v (.list xs)))) (eV (.list xs)) .v := fun s env hA => by
  have e1 := hA.get (h s)
  refine ⟨.v (.list xs), env.set i (.v (.list xs)), ?_, rfl, hA.set (.is _)⟩
  unfold rE dVar
  rw [e1]
  unfold Res.bd slotOf pinOV
  simp only [e1]
theorem rr_l {d : DL} {m : EM S (List PyData)} (h : LR X d A A1 m) : RR X (rL d) A A1 m (.own false) := fun s env hA => by
  rw [← bnd_id m]
  refine (h s env hA).bd fun x s1 o e1 ⟨h1, h2⟩ => ?_
  subst h1
  exact ⟨_, e1, rfl, rfl, h2⟩
theorem rr_newD {t : Bool} : RR X (rK (dNewD t)) A A (eV ⟨t, []⟩) (.dct false) := fun s env hA => ⟨_, env, rfl, rfl, hA⟩
theorem kr_set {α : Type} {r : DR} {m : EM S α} {f : α → Slot} {k : α → EM S (Fl σ l)} (h : RR X r A A1 m f) (hf : ∀ s, frA (A1 s) i = true) (hk : ∀ x, KR X X0 B L rest (fun s => (A1 s).set i (.is (f x))) (k x)) : KR X X0 B L (dSeq (dSet i r) rest) A (bnd m k) := fun s env hA => by
  unfold dSeq dSet
  have := (h s env hA)
  have q : RelS (l := l) X X0 (fun x : α => fun s => (A1 s).set i (.is (f x))) L ((r env).bs fun s e => setS e i s) (bnd m (fun x => eV (.nx x)) s) := this.bs fun x s' t e' ⟨h1, h2⟩ => by
    subst h1
    unfold setS
    rw [if_pos (h2.free (hf s'))]
    exact ⟨_, rfl, h2.set (.is _)⟩
  have := RelS.sq (m := bnd m fun x => eV (.nx x)) (k := k) (rest := rest) (C := B) q fun x s' e' h2 => hk x s' e' h2
  rw [sJ_bnd] at this
  exact this
theorem kr_own {d : DE} {p : Bool} {m : EM S (List PyData)} {k : List PyData → EM S (Fl σ l)} (h : OwR X i p d A A1 m) (hk : ∀ ys, KR X X0 B L rest (fun s => (A1 s).set i (.is (.own p ys))) (k ys)) : KR X X0 B L (dSeq (dExp d) rest) A (bnd m k) := fun s env hA => by
  unfold dSeq dExp
  have q : RelS (l := l) X X0 (fun ys : List PyData => fun s => (A1 s).set i (.is (.own p ys))) L ((d env).bs fun _ e => .nx e) (bnd m (fun x => eV (.nx x)) s) := (h s env hA).bs fun x s' t e' h2 => ⟨_, rfl, h2⟩
  have := RelS.sq (m := bnd m fun x => eV (.nx x)) (k := k) (rest := rest) (C := B) q fun x s' e' h2 => hk x s' e' h2
  rw [sJ_bnd] at this
  exact this
theorem kr_exp {d : DE} {m : EM S PyData} {f : EM S (Fl σ l)} (h : ER X d A A1 m) (hk : KR X X0 B L rest A1 f) : KR X X0 B L (dSeq (dExp d) rest) A (bnd m fun _ => f) := fun s env hA => by
  unfold dSeq dExp
  have q : RelS (l := l) X X0 (fun _ : PyData => A1) L ((d env).bs fun _ e => .nx e) (bnd m (fun x => eV (.nx x)) s) := (h s env hA).bs fun x s' t e' h2 => ⟨_, rfl, h2.2⟩
  have := RelS.sq (m := bnd m fun x => eV (.nx x)) (k := fun _ => f) (rest := rest) (C := B) q fun x s' e' h2 => hk s' e' h2
  rw [sJ_bnd] at this
  exact this
theorem kr_dput {D : DV} {p : Bool} {dk dv : DE} {mk mv : EM S PyData} {k : DV → EM S (Fl σ l)} (hv : ER X dv A A1 mv) (h0 : ∀ s, (A1 s)[i]? = some (.is (.dct p D))) (hk : ER X dk A1 A2 mk) (h1 : ∀ s, (A2 s)[i]? = some (.is (.dct p D)))
    (hr : ∀ D', KR X X0 B L rest (fun s => (A2 s).set i (.is (.dct p D'))) (k D')) : KR X X0 B L (dSeq (dDPut i dk dv) rest) A (bnd (eDPut D mv mk) k) := fun s env hA => by
  unfold dSeq
  have q : RelS (l := l) X X0 (fun D' : DV => fun s => (A2 s).set i (.is (.dct p D'))) L (dDPut i dk dv env) (bnd (eDPut D mv mk) (fun x => eV (.nx x)) s) := by
    unfold dDPut eDPut
    rw [bnd_assoc]
    refine (hv s env hA).bs fun z s1 o e1 ⟨q1, q2⟩ => ?_
    cases q1
    have q3 : pinOV e1 (.d z) = some (z, e1) := rfl
    simp only [q3, q2.dct (h0 s1)]
    rw [bnd_assoc]
    refine (hk s1 e1 q2).bs fun x s2 o e2 ⟨q4, q5⟩ => ?_
    cases q4
    have q6 : pinOV e2 (.d x) = some (x, e2) := rfl
    simp only [q6, q5.dct (h1 s2)]
    by_cases hc : keyOk D.t x = true ∧ D.kvs.length < lenB
    · rw [if_pos hc, if_pos hc]
      exact ⟨_, rfl, q5.set (.is _)⟩
    · rw [if_neg hc, if_neg hc]
      exact True.intro
  have := RelS.sq (m := bnd (eDPut D mv mk) fun x => eV (.nx x)) (k := k) (rest := rest) (C := B) q fun x s' e' h2 => hr x s' e' h2
  rw [sJ_bnd] at this
  exact this
theorem kr_aug {d : DE} {g : PyData → PyData → Option PyData} {x : PyData} {ka : Option Nat} {m : EM S PyData} {k : PyData → EM S (Fl σ l)} (h0 : ∀ s, (A s)[i]? = some (.is (.v x))) (h : OR X d ka A A1 m) (hf : ∀ s, frA (A1 s) i = true) (hk : ∀ z, KR X X0 B L rest (fun s => (A1 s).set i (.is (.v z))) (k z)) :
    KR X X0 B L (dSeq (dAug i g d) rest) A (bnd (eBin g (eV x) m) k) := fun s env hA => by
  unfold dSeq dAug
  simp only [hA.get (h0 s)]
  have q : RelS (l := l) X X0 (fun z : PyData => fun s => (A1 s).set i (.is (.v z))) L ((d env).bs fun o e => match getOV e o with
    | some y => match g x y with
      | some z => setS e i (.v z)
      | none => .stuck
    | none => .stuck) (bnd (eBin g (eV x) m) (fun x => eV (.nx x)) s) := by
    unfold eBin
    rw [bnd_V, bnd_assoc]
    refine (h s env hA).bs fun y s1 o e1 ⟨q1, q2⟩ => ?_
    simp only [q1.get q2]
    cases hg : g x y with
    | none => exact True.intro
    | some z =>
      simp only [setS, if_pos (q2.free (hf s1))]
      exact ⟨_, rfl, q2.set (.is _)⟩
  have := RelS.sq (m := bnd (eBin g (eV x) m) fun x => eV (.nx x)) (k := k) (rest := rest) (C := B) q fun x s' e' h2 => hk x s' e' h2
  rw [sJ_bnd] at this
  exact this
theorem kr_par {α β : Type} {r q : DR} {m1 : EM S α} {m2 : EM S β} {f1 : α → Slot} {f2 : β → Slot} {k : α → β → EM S (Fl σ l)} (h1 : RR X r A A1 m1 f1) (h2 : RR X q A1 A2 m2 f2) (hij : i ≠ j) (hf : ∀ s, frA (A2 s) i = true) (hg : ∀ s, frA (A2 s) j = true)
    (hk : ∀ x y, KR X X0 B L rest (fun s => ((A2 s).set i (.is (f1 x))).set j (.is (f2 y))) (k x y)) : KR X X0 B L (dSeq (dPar i j r q) rest) A (bnd m1 fun x => bnd m2 fun y => k x y) := fun s env hA => by
  unfold dSeq dPar
  have qq : RelS (l := l) X X0 (fun w : α × β => fun s => ((A2 s).set i (.is (f1 w.1))).set j (.is (f2 w.2))) L ((r env).bs fun s e => (q e).bs fun t e1 => if i ≠ j ∧ freeAt e1 i = true ∧ freeAt e1 j = true then .nx ((e1.set i s).set j t) else .stuck) (bnd m1 (fun x => bnd m2 fun y => eV (.nx (x, y))) s) := by
    refine (h1 s env hA).bs fun x s1 t e1 ⟨q1, q2⟩ => (h2 s1 e1 q2).bs fun y s2 u e2 ⟨q3, q4⟩ => ?_
    subst q1 q3
    rw [if_pos ⟨hij, q4.free (hf s2), q4.free (hg s2)⟩]
    exact ⟨_, rfl, (q4.set (.is _)).set (.is _)⟩
  have := RelS.sq (m := bnd m1 fun x => bnd m2 fun y => eV (.nx (x, y))) (k := fun w => k w.1 w.2) (rest := rest) (C := B) qq fun x s' e' h2 => hk x.1 x.2 s' e' h2
  rw [sJ_bnd] at this
  simp only [sJ_bnd] at this
  exact this
theorem relS_pk {p : Pat} {x : PyData} {s : S} {env : Nv} {f : EM S (Fl σ l)} (h : PksR (fun e m => RelS X X0 B L (rest e) m) (.cons p .nil) [x] A f) (hA : At (A s) env) : f s = .no ∨ ∃ e2, asgP p x env = some e2 ∧ RelS X X0 B L (rest e2) (f s) := pk_one h hA
theorem kr_asg {d : DE} {p : Pat} {m : EM S PyData} {k : PyData → EM S (Fl σ l)} (h : ER X d A A1 m) (hk : ∀ x, PksR (fun e m => RelS X X0 B L (rest e) m) (.cons p .nil) [x] A1 (k x)) : KR X X0 B L (dSeq (dAsg p d) rest) A (bnd m k) := fun s env hA => by
  unfold dSeq dAsg
  have q1 := h s env hA
  unfold RelM at q1
  unfold bnd
  cases hm : m s with
  | no => exact True.intro
  | ex x s' =>
    rw [hm] at q1
    obtain ⟨e', h1, h2⟩ := q1
    rw [h1]
    exact ⟨e', rfl, h2⟩
  | ok x s' =>
    rw [hm] at q1
    obtain ⟨o, e', h1, h2, h3⟩ := q1
    cases h2
    rw [h1]
    show RelS X X0 B L (SRes.sq (asgOf p (.d x) e') rest) (k x s')
    have q3 : pinOV e' (.d x) = some (x, e') := rfl
    unfold asgOf
    simp only [q3]
    rcases relS_pk (hk x) h3 with q | ⟨e2, q4, q5⟩
    · rw [q]
      exact True.intro
    · simp only [q4]
      exact q5
theorem kr_asgOwn {xs : List PyData} {p : Pat} {k : EM S (Fl σ l)} (h : ∀ s, (A s)[i]? = some (.is (.own false xs))) (hk : PksR (fun e m => RelS X X0 B L (rest e) m) (.cons p .nil) [.list xs] (fun s => (A s).set i (.is (.v (.list xs)))) k) : KR X X0 B L (dSeq (dAsg p (dVar i)) rest) A k := fun s env hA => by
  have e1 := hA.get (h s)
  unfold dSeq dAsg dVar
  rw [e1]
  show RelS X X0 B L (SRes.sq (asgOf p (.sl i) env) rest) (k s)
  have q3 : pinOV env (.sl i) = some (.list xs, env.set i (.v (.list xs))) := by
    unfold pinOV
    simp only [e1]
  unfold asgOf
  simp only [q3]
  rcases relS_pk hk (hA.set (i := i) (.is (.v (.list xs)))) with q | ⟨e2, q4, q5⟩
  · rw [q]
    exact True.intro
  · simp only [q4]
    exact q5
theorem kr_ret {d : DE} {m : EM S PyData} (h : ER X d A A1 m) (hl : ∀ s, LeA (A1 s) (X0 s)) : KR X X0 B L (dSeq (dRet d) rest) A (bnd m fun x => eV (.rt x)) := fun s env hA => by
  unfold dSeq dRet
  have q : RelS X X0 B L ((d env).bs retOf) (bnd m (fun x => eV (.rt x)) s) := (h s env hA).bs fun x s1 o e1 ⟨h1, h2⟩ => by
    cases h1
    exact ⟨e1, rfl, (hl s1).at h2⟩
  have := RelS.sq (k := fun x => eV (.nx x)) (rest := dNext) (C := B) q fun x s' e' h2 => ⟨e', rfl, h2⟩
  unfold RelS at q ⊢
  cases hm : bnd m (fun x => (eV (.rt x) : EM S (Fl σ l))) s with
  | no => exact True.intro
  | ex x s' =>
    rw [hm] at q
    obtain ⟨e', h1, h2⟩ := q
    rw [h1]
    exact ⟨e', rfl, h2⟩
  | ok f s' =>
    rw [hm] at q
    cases f with
    | rt x =>
      obtain ⟨e', h1, h2⟩ := q
      rw [h1]
      exact ⟨e', rfl, h2⟩
    | nx x =>
      exfalso
      unfold bnd at hm
      cases hm2 : m s <;> rw [hm2] at hm <;> cases hm
    | bk x =>
      exfalso
      unfold bnd at hm
      cases hm2 : m s <;> rw [hm2] at hm <;> cases hm
    | ct x =>
      exfalso
      unfold bnd at hm
      cases hm2 : m s <;> rw [hm2] at hm <;> cases hm
theorem kr_retOwn {xs : List PyData} (h : ∀ s, (A s)[i]? = some (.is (.own false xs))) (hl : ∀ s, LeA ((A s).set i (.is (.v (.list xs)))) (X0 s)) : KR X X0 B L (dSeq (dRet (dVar i)) rest) A (eV (.rt (.list xs))) := fun s env hA => by
  have e1 := hA.get (h s)
  refine ⟨env.set i (.v (.list xs)), ?_, (hl s).at (hA.set (.is _))⟩
  unfold dSeq dRet dVar
  rw [e1]
  unfold Res.bs retOf pinOV
  simp only [e1]
  rfl
theorem kr_retN (hl : ∀ s, LeA (A s) (X0 s)) : KR X X0 B L (dSeq dRetN rest) A (eV (.rt .none)) := fun s env hA => ⟨env, rfl, (hl s).at hA⟩
theorem kr_if {t : DT} {mt : EM S Bool} {J : τ → AF S} {fa fb : EM S (Fl τ l)} {k : τ → EM S (Fl σ l)} (ht : TR X t A A1 mt) (ha : KR X X0 J L a A1 fa) (hb : KR X X0 J L b A1 fb) (hk : ∀ x, KR X X0 B L rest (J x) (k x)) :
    KR X X0 B L (dSeq (dIfS t a b) rest) A (sJ (eIf mt fa fb) k) := fun s env hA => by
  unfold dSeq dIfS
  refine RelS.sq (B := J) ?_ fun x s' e' h2 => hk x s' e' h2
  refine (ht s env hA).bs fun c s1 c' e1 ⟨h1, h2⟩ => ?_
  subst h1
  cases c' with
  | true => exact ha s1 e1 h2
  | false => exact hb s1 e1 h2
theorem for_rel {I : τ → AF S} {p : Pat} {b : DS} {f : PyData → τ → EM S (Fl τ τ)} (h : ∀ x y, PksR (fun e m => RelS X X0 I I (b e) m) (.cons p .nil) [x] (I y) (f x y)) : ∀ (xs : List PyData) (y : τ) (s : S) (e : Nv), At (I y s) e → RelS (l := l) X X0 I L (forL p b xs e) (eFor f xs y s)
  | [], y, s, e, hA => ⟨e, rfl, hA⟩
  | x :: r, y, s, e, hA => by
    unfold eFor bnd forL
    rcases relS_pk (h x y) hA with q | ⟨e2, q1, q2⟩
    · rw [q]
      exact True.intro
    · rw [q1]
      simp only []
      unfold RelS at q2
      cases hm : f x y s with
      | no => exact True.intro
      | ex z s' =>
        rw [hm] at q2
        obtain ⟨e', h1, h2⟩ := q2
        rw [h1]
        exact ⟨e', rfl, h2⟩
      | ok fl s' =>
        rw [hm] at q2
        cases fl with
        | nx z =>
          obtain ⟨e', h1, h2⟩ := q2
          rw [h1]
          exact for_rel h r z s' e' h2
        | ct z =>
          obtain ⟨e', h1, h2⟩ := q2
          rw [h1]
          exact for_rel h r z s' e' h2
        | bk z =>
          obtain ⟨e', h1, h2⟩ := q2
          rw [h1]
          exact ⟨e', rfl, h2⟩
        | rt z =>
          obtain ⟨e', h1, h2⟩ := q2
          rw [h1]
          exact ⟨e', rfl, h2⟩
theorem kr_for {I : τ → AF S} {it : DI} {mi : EM S (List PyData)} {p : Pat} {b : DS} {f : PyData → τ → EM S (Fl τ τ)} {y0 : τ} {k : τ → EM S (Fl σ l)} (hi : IR X it A A1 mi) (h0 : ∀ s, LeA (A1 s) (I y0 s))
    (h : ∀ x y, PksR (fun e m => RelS X X0 I I (b e) m) (.cons p .nil) [x] (I y) (f x y)) (hk : ∀ y, KR X X0 B L rest (I y) (k y)) : KR X X0 B L (dSeq (dFor it p b) rest) A (sJ (bnd mi fun xs => eFor f xs y0) k) := fun s env hA => by
  unfold dSeq dFor
  refine RelS.sq (B := I) ?_ fun x s' e' h2 => hk x s' e' h2
  refine (hi s env hA).bs fun xs s1 ys e1 ⟨h1, h2⟩ => ?_
  subst h1
  exact for_rel h ys y0 s1 e1 ((h0 s1).at h2)
theorem while_rel {I : τ → AF S} {t : DT} {b : DS} {mt : τ → EM S Bool} {f : τ → EM S (Fl τ τ)} (ht : ∀ y, TR X t (I y) (I y) (mt y)) (h : ∀ y, KR X X0 I I b (I y) (f y)) : ∀ (n : Nat) (y : τ) (s : S) (e : Nv), At (I y s) e → RelS (l := l) X X0 I L (whileN t b n e) (eWhile mt f n y s)
  | 0, y, s, e, hA => True.intro
  | n + 1, y, s, e, hA => by
    refine (ht y s e hA).bs fun c s1 c' e1 ⟨h1, h2⟩ => ?_
    subst h1
    cases c' with
    | false => exact ⟨e1, rfl, h2⟩
    | true =>
      simp only [↓reduceIte]
      have q2 := h y s1 e1 h2
      unfold RelS at q2
      unfold bnd
      cases hm : f y s1 with
      | no => exact True.intro
      | ex z s' =>
        rw [hm] at q2
        obtain ⟨e', h1, h2⟩ := q2
        rw [h1]
        exact ⟨e', rfl, h2⟩
      | ok fl s' =>
        rw [hm] at q2
        cases fl with
        | nx z =>
          obtain ⟨e', h1, h2⟩ := q2
          rw [h1]
          exact while_rel ht h n z s' e' h2
        | ct z =>
          obtain ⟨e', h1, h2⟩ := q2
          rw [h1]
          exact while_rel ht h n z s' e' h2
        | bk z =>
          obtain ⟨e', h1, h2⟩ := q2
          rw [h1]
          exact ⟨e', rfl, h2⟩
        | rt z =>
          obtain ⟨e', h1, h2⟩ := q2
          rw [h1]
          exact ⟨e', rfl, h2⟩
theorem kr_while {I : τ → AF S} {t : DT} {b : DS} {mt : τ → EM S Bool} {f : τ → EM S (Fl τ τ)} {y0 : τ} {k : τ → EM S (Fl σ l)} (h0 : ∀ s, LeA (A s) (I y0 s)) (ht : ∀ y, TR X t (I y) (I y) (mt y)) (h : ∀ y, KR X X0 I I b (I y) (f y)) (hk : ∀ y, KR X X0 B L rest (I y) (k y)) :
    KR X X0 B L (dSeq (dWhile t b) rest) A (sJ (eWhile mt f fuel y0) k) := fun s env hA => by
  unfold dSeq dWhile
  exact RelS.sq (B := I) (while_rel ht h fuel y0 s env ((h0 s).at hA)) fun x s' e' h2 => hk x s' e' h2
def eRaise {α : Type} (cls : Str) (fns : List Str) (r : EM S (List PyData)) : EM S α := bnd r fun xs => if xs.length = fns.length ∧ fns.length ≤ 1000 then eX ⟨cls, (fns.zip xs).reverse⟩ else eN
theorem kr_raise {cls : Str} {fns : List Str} {r : Nv → Res (List OV)} {ks : List (Option Nat)} {mr : EM S (List PyData)} (hr : AR X r ks A A1 mr) (hp : ∀ s, pinOk (A1 s) ks = true) (hX : ∀ s, LeA (pinA (A1 s) ks) (X s)) : KR X X0 B L (dSeq (dRaise cls fns r) rest) A (eRaise cls fns mr) := fun s env hA => by
  unfold dSeq dRaise eRaise
  have q := hr s env hA
  unfold RelM at q
  unfold bnd
  cases hm : mr s with
  | no => exact True.intro
  | ex x s' =>
    rw [hm] at q
    obtain ⟨e', h1, h2⟩ := q
    rw [h1]
    exact ⟨e', rfl, h2⟩
  | ok xs s' =>
    rw [hm] at q
    obtain ⟨os, e1, h1, h2, h3⟩ := q
    obtain ⟨e', h4, h5⟩ := h2.pinAll h3 (hp s')
    rw [h1]
    show RelS X X0 B L (SRes.sq (raiseOf cls fns os e1) rest) _
    unfold raiseOf
    simp only [h4]
    by_cases hc : xs.length = fns.length ∧ fns.length ≤ 1000
    · rw [if_pos hc, if_pos hc]
      exact ⟨e', rfl, (hX s').at h5⟩
    · rw [if_neg hc, if_neg hc]
      exact True.intro
def eTryS (ca : Str → Option Bool) (b : EM S (Fl τ l)) (h : EM S (Fl σ l)) (u : τ → EM S (Fl σ l)) : EM S (Fl σ l) := fun s => match b s with
  | .ok (.nx x) s' => u x s'
  | .ok (.rt x) s' => .ok (.rt x) s'
  | .ok (.bk x) s' => .ok (.bk x) s'
  | .ok (.ct x) s' => .ok (.ct x) s'
  | .ex x s' => match ca x.cls with
    | some true => h s'
    | some false => .ex x s'
    | none => .no
  | .no => .no
theorem try_rel {ca : Str → Option Bool} {XT : AF S} {J : τ → AF S} {b hs u : DS} {fb : EM S (Fl τ l)} {fh : EM S (Fl σ l)} {fu : τ → EM S (Fl σ l)} (hb : KR XT X0 J L b A fb) (hh : KR X X0 B L hs XT fh) (hu : ∀ x, KR X X0 B L u (J x) (fu x)) (hX : ∀ s, LeA (XT s) (X s)) : KR X X0 B L (dTry ca b hs u) A (eTryS ca fb fh fu) := fun s env hA => by
  have q := hb s env hA
  unfold RelS at q
  unfold dTry eTryS tryOf
  cases hm : fb s with
  | no => exact True.intro
  | ex x s' =>
    rw [hm] at q
    obtain ⟨e', h1, h2⟩ := q
    rw [h1]
    simp only []
    cases hc : ca x.cls with
    | none => exact True.intro
    | some c =>
      cases c with
      | true => exact hh s' e' h2
      | false => exact ⟨e', rfl, (hX s').at h2⟩
  | ok fl s' =>
    rw [hm] at q
    cases fl with
    | nx z =>
      obtain ⟨e', h1, h2⟩ := q
      rw [h1]
      exact hu z s' e' h2
    | rt z =>
      obtain ⟨e', h1, h2⟩ := q
      rw [h1]
      exact ⟨e', rfl, h2⟩
    | bk z =>
      obtain ⟨e', h1, h2⟩ := q
      rw [h1]
      exact ⟨e', rfl, h2⟩
    | ct z =>
      obtain ⟨e', h1, h2⟩ := q
      rw [h1]
      exact ⟨e', rfl, h2⟩
theorem kr_try {σ' : Type} {ca : Str → Option Bool} {XT : AF S} {J : τ → AF S} {G : σ' → AF S} {b hs u : DS} {fb : EM S (Fl τ l)} {fh : EM S (Fl σ' l)} {fu : τ → EM S (Fl σ' l)} {k : σ' → EM S (Fl σ l)} (hb : KR XT X0 J L b A fb) (hh : KR X X0 G L hs XT fh) (hu : ∀ x, KR X X0 G L u (J x) (fu x)) (hX : ∀ s, LeA (XT s) (X s)) (hk : ∀ x, KR X X0 B L rest (G x) (k x)) :
    KR X X0 B L (dSeq (dTry ca b hs u) rest) A (sJ (eTryS ca fb fh fu) k) := fun s env hA => by
  unfold dSeq
  exact RelS.sq (B := G) (try_rel hb hh hu hX s env hA) fun x s' e' h2 => hk x s' e' h2
end
theorem fnR_of {X0 : AF S} {nn : Nat} {body : DS} {mk : S → Nv} {m : EM S (Fl Unit Empty)} {A : AF S} (hA : ∀ s, (mk s ++ List.replicate (nn - (mk s).length) Slot.un).map ASl.is = A s) (h : KR X0 X0 (fun _ => X0) (fun e : Empty => nomatch e) body A m)
    (ho : ∀ s s' e', At (X0 s') e' → outP e' (mk s) 0 = some (mk s')) : FnR (mkFn nn body) mk (fnE m) := fun s => by
  have hat : ∀ e : Nv, At (e.map ASl.is) e := fun e => by
    induction e with
    | nil => exact .nil
    | cons x r ih => exact .cons (.is x) ih
  have q := h s _ (by rw [← hA s]; exact hat _)
  unfold RelS at q
  unfold fnE bnd mkFn
  cases hm : m s with
  | no => exact True.intro
  | ex x s' =>
    rw [hm] at q
    obtain ⟨e', h1, h2⟩ := q
    simp only [h1, ho s s' e' h2, outR]
  | ok fl s' =>
    rw [hm] at q
    cases fl with
    | nx z =>
      obtain ⟨e', h1, h2⟩ := q
      show mkFn nn body (mk s) = _
      unfold mkFn
      simp only [h1, ho s s' e' h2, outR]
    | rt z =>
      obtain ⟨e', h1, h2⟩ := q
      show mkFn nn body (mk s) = _
      unfold mkFn
      simp only [h1, ho s s' e' h2, outR]
    | bk z => exact z.elim
    | ct z => exact z.elim
/-- the parameters behind the body -/
inductive Out (X : AL) : Nat → Nv → Nv → Prop
  | nil {n : Nat} : Out X n [] []
  | v {n : Nat} {x : PyData} {ps l : Nv} : Out X (n + 1) ps l → Out X n (.v x :: ps) (.v x :: l)
  | gl {n : Nat} {x : Str} {ps l : Nv} : Out X (n + 1) ps l → Out X n (.gl x :: ps) (.gl x :: l)
  | la {n : Nat} {ps l : Nv} : Out X (n + 1) ps l → Out X n (.la :: ps) (.la :: l)
  | dct {n : Nat} {d d' : DV} {ps l : Nv} : X[n]? = some (.is (.dct true d')) → Out X (n + 1) ps l → Out X n (.dct true d :: ps) (.dct true d' :: l)
  | own {n : Nat} {d d' : List PyData} {ps l : Nv} : X[n]? = some (.is (.own true d')) → Out X (n + 1) ps l → Out X n (.own true d :: ps) (.own true d' :: l)
theorem Out.outP {X : AL} {e : Nv} (hA : At X e) {n : Nat} {ps l : Nv} (h : Out X n ps l) : Dl.outP e ps n = some l := by
  induction h with
  | nil => rfl
  | v _ ih => unfold Dl.outP outS Slot.owns; simp only [ih, Bool.false_eq_true, ↓reduceIte]
  | gl _ ih => unfold Dl.outP outS Slot.owns; simp only [ih, Bool.false_eq_true, ↓reduceIte]
  | la _ ih => unfold Dl.outP outS Slot.owns; simp only [ih, Bool.false_eq_true, ↓reduceIte]
  | dct h1 _ ih => unfold Dl.outP outS; simp only [hA.get h1, ih, Slot.owns, Slot.par, and_self, ↓reduceIte]
  | own h1 _ ih => unfold Dl.outP outS; simp only [hA.get h1, ih, Slot.owns, Slot.par, and_self, ↓reduceIte]
end L2.Dl

namespace L2.Dl
open PySem
open PySem.Spec
open PyProof.Rows
variable {S : Type}
/-- a def that a local name holds -/
theorem er_callL {X A A1 : AF S} {i k : Nat} {n : Str} {fn : Fn} {tb : Str → Option (Nat × Fn)} {r : Nv → Res (List OV)} {m : EM S PyData} (h0 : ∀ s, (A s)[i]? = some (.is (.gl n))) (ht : tb n = some (k, fn)) (h : ER X (dCall k fn [] r) A A1 m) : ER X (dCallL i tb r) A A1 m := fun s env hA => by
  have := h s env hA
  unfold dCallL
  simp only [hA.get (h0 s), ht]
  exact this
/-- a def's own reckoning, by how many are handed in -/
def ls0 {α : Type} (f : EM S α) : List PyData → EM S α
  | [] => f
  | _ => eN
def ls1 {α : Type} (f : PyData → EM S α) : List PyData → EM S α
  | [a] => f a
  | _ => eN
def ls2 {α : Type} (f : PyData → PyData → EM S α) : List PyData → EM S α
  | [a, b] => f a b
  | _ => eN
def ls3 {α : Type} (f : PyData → PyData → PyData → EM S α) : List PyData → EM S α
  | [a, b, c] => f a b c
  | _ => eN
def ls4 {α : Type} (f : PyData → PyData → PyData → PyData → EM S α) : List PyData → EM S α
  | [a, b, c, d] => f a b c d
  | _ => eN
def ls5 {α : Type} (f : PyData → PyData → PyData → PyData → PyData → EM S α) : List PyData → EM S α
  | [a, b, c, d, e] => f a b c d e
  | _ => eN
def ls6 {α : Type} (f : PyData → PyData → PyData → PyData → PyData → PyData → EM S α) : List PyData → EM S α
  | [a, b, c, d, e, g] => f a b c d e g
  | _ => eN
def ls7 {α : Type} (f : PyData → PyData → PyData → PyData → PyData → PyData → PyData → EM S α) : List PyData → EM S α
  | [a, b, c, d, e, g, h] => f a b c d e g h
  | _ => eN
/-- the items of a list that is handed in owned -/
def lst {α : Type} (x : PyData) (f : List PyData → EM S α) : EM S α := match x with
  | .list xs => f xs
  | _ => eN
theorem FnR.a {fn : Fn} {st : S → Slot} {as : List GA} {F : List PyData → EM S PyData} (h : ∀ xs s ps, mkArgs (st s) as xs = some ps → ∃ mk : S → Nv, mk s = ps ∧ (∀ s', mkArgs (st s') as xs = some (mk s')) ∧ FnR fn mk (F xs)) : FnA fn st as F := fun xs s ps hp => by
  obtain ⟨mk, h1, h2, h3⟩ := h xs s ps hp
  have := h3 s
  subst h1
  cases hm : F xs s with
  | no => exact True.intro
  | ok x s' =>
    rw [hm] at this
    intro ps' hp'
    rw [h2] at hp'
    cases hp'
    exact this
  | ex x s' =>
    rw [hm] at this
    intro ps' hp'
    rw [h2] at hp'
    cases hp'
    exact this
/-- the draws, whatever they are -/
def drawE (fn : Fn) (m : PyData) : EM DV PyData := fun d => match fn [.dct true d, .v m] with
  | .ok (.d y) [.dct true d', .v _] => .ok y d'
  | _ => .no
theorem drawR {nn : Nat} {body : DS} {m : PyData} : FnR (mkFn nn body) (fun s => [.dct true s, .v m]) (drawE (mkFn nn body) m) := fun s => by
  have key : ∀ e : Nv, ∀ l, outP e [.dct true s, .v m] 0 = some l → ∃ t, l = [t, .v m] := fun e l h => by
    unfold outP at h
    split at h
    · rename_i t h1
      have : outP e [Slot.v m] (0 + 1) = some [.v m] := rfl
      rw [this] at h
      cases h
      exact ⟨t, rfl⟩
    · cases h
  have k2 : ∀ (o : Option Nv) (e : Nv) (r : Ret) (l : Nv), o = outP e [.dct true s, .v m] 0 → outR o (.ok r) = .ok r l → ∃ t, l = [t, .v m] := fun o e r l h1 h2 => by
    cases ho : o with
    | none => rw [ho] at h2; cases h2
    | some l' =>
      rw [ho] at h2
      cases h2
      exact key e l (h1 ▸ ho)
  have k3 : ∀ (y : PyData) (l : Nv), mkFn nn body [.dct true s, .v m] = .ok (.d y) l → ∃ t, l = [t, .v m] := fun y l h => by
    unfold mkFn at h
    split at h
    · rename_i x e _
      cases ho : outP e [.dct true s, .v m] 0 with
      | none => rw [ho] at h; cases h
      | some l' => rw [ho] at h; cases h; exact key _ _ ho
    · rename_i e _
      cases ho : outP e [.dct true s, .v m] 0 with
      | none => rw [ho] at h; cases h
      | some l' => rw [ho] at h; cases h; exact key _ _ ho
    · rename_i e _
      cases ho : outP e [.dct true s, .v m] 0 with
      | none => rw [ho] at h; cases h
      | some l' => rw [ho] at h; cases h
    · rename_i e _
      cases ho : outP e [.dct true s, .v m] 0 with
      | none => rw [ho] at h; cases h
      | some l' => rw [ho] at h; cases h
    · cases h
  unfold drawE
  cases hm : mkFn nn body [.dct true s, .v m] with
  | stuck => exact True.intro
  | exc x l => exact True.intro
  | ok r l =>
    cases r with
    | k d => exact True.intro
    | d y =>
      obtain ⟨t, rfl⟩ := k3 y l hm
      cases t with
      | dct b d' =>
        cases b with
        | true => exact rfl
        | false => exact True.intro
      | _ => exact True.intro
theorem pinA_none (A : AL) : ∀ {ks : List (Option Nat)}, ks.all Option.isNone = true → pinA A ks = A
  | [], _ => rfl
  | none :: ks, h => pinA_none A (ks := ks) (by simpa using h)
  | some _ :: _, h => by simp at h
theorem pinOk_none (A : AL) : ∀ {ks : List (Option Nat)}, ks.all Option.isNone = true → pinOk A ks = true
  | [], _ => rfl
  | none :: ks, h => pinOk_none A (ks := ks) (by simpa using h)
  | some _ :: _, h => by simp at h
section
variable {X A A1 : AF S} {r : Nv → Res (List OV)} {ks : List (Option Nat)} {mr : EM S (List PyData)} {d : DE} {m : EM S PyData} {i : Nat} {p : Bool}
theorem er_tupN (hr : AR X r ks A A1 mr) (hp : ks.all Option.isNone = true) : ER X (dTup r) A A1 (eTup mr) := by
  have := er_tup hr fun s => pinOk_none _ hp
  simp only [pinA_none _ hp] at this
  exact this
theorem lr_lstN (hr : AR X r ks A A1 mr) (hp : ks.all Option.isNone = true) : LR X (dLst r) A A1 (eLst mr) := by
  have := lr_lst hr fun s => pinOk_none _ hp
  simp only [pinA_none _ hp] at this
  exact this
theorem ow_appN {xs : List PyData} (h0 : ∀ s, (A s)[i]? = some (.is (.own p xs))) (hd : ER X d A A1 m) (h1 : ∀ s, (A1 s)[i]? = some (.is (.own p xs))) : OwR X i p (dApp i d) A A1 (appL xs m) := by
  have := ow_app (k := none) h0 hd (fun s => rfl) h1
  exact this
theorem lr_lcS {vs : List Nat} {it : DI} {mi : EM S (List PyData)} {p : Pat} {t : DT} {f : PyData → EM S (Option PyData)} (hi : IR X it A A1 mi) (hp : ∀ s, vs.all (plA (A1 s)) = true) (h : ∀ x, LcR vs p t d x (fun s => wipeA (A1 s) vs) (f x))
    (hb : ∀ s s', LeA (vs.foldr (fun v C => C.set v ((A1 s).getD v (.is .un))) (wipeA (A1 s') vs)) (A1 s')) : LR X (dLc it p t d vs) A A1 (eLC mi f) := lr_lc hi hp h hb
end
theorem kr_raiseN {σ l : Type} {X X0 : AF S} {B : σ → AF S} {L : l → AF S} {A A1 : AF S} {rest : DS} {cls : Str} {fns : List Str} {r : Nv → Res (List OV)} {ks : List (Option Nat)} {mr : EM S (List PyData)} (hr : AR X r ks A A1 mr) (hp : ks.all Option.isNone = true) (hX : ∀ s, LeA (A1 s) (X s)) : KR X X0 B L (dSeq (dRaise cls fns r) rest) A (eRaise cls fns mr) :=
  kr_raise hr (fun s => pinOk_none _ hp) fun s => by rw [pinA_none _ hp]; exact hX s
end L2.Dl

namespace L2.Dl
open PySem
open PySem.Spec
open PyProof.Rows
variable {S : Type}
def hideA : ASl → ASl
  | .is s => .is (hide s)
  | _ => .any
theorem hide_plain (s : Slot) : (hide s).plain = true ∨ ∃ xs, s = .ro xs := by cases s <;> first | exact .inl rfl | exact .inr ⟨_, rfl⟩
def noRo : ASl → Bool
  | .is _ => true
  | .any => true
  | _ => false
theorem At.hide : ∀ {A : AL} {e : Nv}, At A e → A.all noRo = true → At (A.map hideA) (e.map hide)
  | _, _, .nil, _ => .nil
  | a :: A, s :: e, .cons h r, k => by
    rw [List.all_cons, Bool.and_eq_true] at k
    refine .cons ?_ (r.hide k.2)
    cases h with
    | is => exact .is _
    | any p => exact .any (by cases s <;> first | rfl | cases p)
    | fre p => exact absurd k.1 (by decide)
    | nla p _ => exact absurd k.1 (by decide)
def toAct : RM Unit PyData → ARes
  | .ok x _ => .ok x
  | .ex x _ => .exc x
  | .no => .no
/-- g(lambda: b) -/
def eLam (g : ARes → EM Unit PyData) (b : EM Unit PyData) : EM S PyData := eLift fun d => match b () with
  | .ok x _ => g (.ok x) d
  | .ex x _ => g (.exc x) d
  | .no => .no
def eAct : ARes → EM S PyData
  | .ok x => eV x
  | .exc x => eX x
  | .no => eN
section
variable {X A : AF S} {i : Nat}
theorem er_act {r : ARes} (h : ∀ dv, (A dv)[i]? = some (.is .la)) (hx : ∀ dv, LeA (A dv) (X dv)) : ER X (dAct i r) A A (eAct r) := fun dv env hA => by
  unfold dAct
  rw [hA.get (h dv)]
  cases r with
  | ok x => exact ⟨_, env, rfl, rfl, hA⟩
  | exc x => exact ⟨env, rfl, (hx dv).at hA⟩
  | no => trivial
theorem er_lam {Xb Ab Ab' : AF Unit} {nn : Nat} {gm : ARes → DS} {db : DE} {g : ARes → EM Unit PyData} {b : EM Unit PyData} (hA : ∀ dv, (A dv).map hideA = Ab ()) (hn : ∀ dv, (A dv).all noRo = true) (hb : ER Xb db Ab Ab' b) (hg : ∀ r, FnR (S := Unit) (mkFn nn (gm r)) (fun _ => [.la]) (g r))
    (hx : ∀ dv, LeA (A dv) (X dv)) : ER X (dLam nn gm db) A A (eLam g b) := fun dv env hE => by
  have h1 := hb () (env.map hide) (by rw [← hA dv]; exact hE.hide (hn dv))
  unfold eLam eLift
  unfold RelM at h1
  unfold dLam
  cases hbb : b () with
  | no => trivial
  | ok x u =>
    rw [hbb] at h1
    obtain ⟨o, e', h2, h3, _⟩ := h1
    cases h3
    rw [h2]
    have h4 := hg (.ok x) ()
    simp only [actOf]
    cases hgg : g (.ok x) () with
    | no => trivial
    | ok y u' => rw [hgg] at h4; exact ⟨.d y, env, by simp only [h4], rfl, hE⟩
    | ex y u' => rw [hgg] at h4; exact ⟨env, by simp only [h4], (hx dv).at hE⟩
  | ex x u =>
    rw [hbb] at h1
    obtain ⟨e', h2, _⟩ := h1
    rw [h2]
    have h4 := hg (.exc x) ()
    simp only [actOf]
    cases hgg : g (.exc x) () with
    | no => trivial
    | ok y u' => rw [hgg] at h4; exact ⟨.d y, env, by simp only [h4], rfl, hE⟩
    | ex y u' => rw [hgg] at h4; exact ⟨env, by simp only [h4], (hx dv).at hE⟩
def eBm (g : PyData → PyData → Option PyData) (a b : EM S PyData) : EM S PyData := bnd a fun x => match x with
  | .list _ => bnd b fun y => lo (g x y)
  | _ => eN
def oB (b : Option Bool) : EM S PyData := lo (b.map PyData.bool)
theorem er_exIs {b : Option Bool} (h : ∀ dv, (A dv)[i]? = some (.is .la)) : ER X (dExIs i b) A A (oB b) := fun dv env hA => by
  unfold dExIs oB
  rw [hA.get (h dv)]
  cases b with
  | none => trivial
  | some k => exact ⟨_, env, rfl, rfl, hA⟩
theorem er_exF {v : Option PyData} (h : ∀ dv, (A dv)[i]? = some (.is .la)) : ER X (dExF i v) A A (lo v) := fun dv env hA => by
  unfold dExF
  rw [hA.get (h dv)]
  cases v with
  | none => trivial
  | some k => exact ⟨_, env, rfl, rfl, hA⟩
theorem er_bm {A1 A2 : AF S} {da db : DE} {ka kb : Option Nat} {ma mb : EM S PyData} {g : PyData → PyData → Option PyData} (ha : OR X da ka A A1 ma) (hb : OR X db kb A1 A2 mb) (hk : Keep ka A1 A2) : ER X (dBm g da db) A A2 (eBm g ma mb) := fun dv env hA => by
  refine (ha dv env hA).bd fun x d1 o e1 ⟨h1, h2⟩ => ?_
  simp only [h1.get h2]
  cases x with
  | list xs =>
    refine (hb d1 e1 h2).bd fun y d2 o2 e2 ⟨h3, h4⟩ => ?_
    simp only [(h1.keep hk).get h4, h3.get h4]
    refine RelM.lo fun z hz => ⟨.d z, e2, ?_, rfl, h4⟩
    rw [hz]
  | _ => trivial
end
def dropA : ASl → ASl
  | .is s => .is (dropLa s)
  | .any => .any
  | _ => .nla
theorem At.drop : ∀ {A : AL} {e : Nv}, At A e → At (A.map dropA) (e.map dropLa)
  | _, _, .nil => .nil
  | a :: A, s :: e, .cons h r => by
    refine .cons ?_ r.drop
    cases h with
    | is => exact .is _
    | any p => exact .any (by cases s <;> first | rfl | cases p)
    | fre p => exact .nla (by cases s <;> first | rfl | exact p) (by cases s <;> rfl)
    | nla p l => exact .nla (by cases s <;> first | rfl | exact p) (by cases s <;> rfl)
def nl1 : ASl → Bool
  | .is s => !isLa s
  | .any => true
  | .nla => true
  | .fre => false
theorem At.nl : ∀ {A : AL} {e : Nv}, At A e → A.all nl1 = true → (e.all fun s => !isLa s) = true
  | _, _, .nil, _ => rfl
  | a :: A, s :: e, .cons h r, k => by
    rw [List.all_cons, Bool.and_eq_true] at k ⊢
    refine ⟨?_, r.nl k.2⟩
    cases h with
    | is => exact k.1
    | any p => rw [plain_la p]; rfl
    | fre p => exact absurd k.1 (by decide)
    | nla _ l => rw [l]; rfl
def nlA (A : AL) (i : Nat) : Bool := decide (i < A.length) && (A.set i (.is .un)).all nl1
theorem At.noLa {A : AL} {e : Nv} {i : Nat} (h : At A e) (k : nlA A i = true) : noLa e i = true := by
  unfold nlA at k
  rw [Bool.and_eq_true] at k
  unfold Dl.noLa
  rw [Bool.and_eq_true]
  refine ⟨?_, At.nl (h.set (i := i) (At1.is .un)) k.2⟩
  have := of_decide_eq_true k.1
  rw [h.len] at this
  exact decide_eq_true this
def eTryAs {σ l : Type} (ca : Str → Option Bool) (b : EM S (Fl σ l)) (h : Ex → EM S (Fl σ l)) : EM S (Fl σ l) := fun s => match b s with
  | .ok x s' => .ok x s'
  | .ex x s' => match ca x.cls with
    | some true => if x.fs.isEmpty = false then (match h x s' with
      | .ok (.nx y) s2 => .ok (.nx y) s2
      | .ok (.rt y) s2 => .ok (.rt y) s2
      | _ => .no) else .no
    | some false => .ex x s'
    | none => .no
  | .no => .no
section
variable {σ l : Type} {X X0 A : AF S} {B : σ → AF S} {L : l → AF S} {rest : DS}
theorem tryAs_rel {ca : Str → Option Bool} {XT XH X0h Ah : AF S} {G1 : σ → AF S} {Lh : l → AF S} {i : Nat} {b : DS} {hs : Ex → DS} {fb : EM S (Fl σ l)} {fh : Ex → EM S (Fl σ l)} (hb : KR XT X0 B L b A fb) (hAh : ∀ s, ((XT s).map dropA).set i (.is .la) = Ah s) (hf : ∀ s, frA (XT s) i = true)
    (hh : ∀ x, KR XH X0h G1 Lh (hs x) Ah (fh x)) (hX : ∀ s, LeA (XT s) (X s)) (n1 : ∀ y s, nlA (G1 y s) i = true) (l1 : ∀ y s, LeA ((G1 y s).set i (.is .un)) (B y s)) (n0 : ∀ s, nlA (X0h s) i = true) (l0 : ∀ s, LeA ((X0h s).set i (.is .un)) (X0 s)) :
    KR X X0 B L (dTryAs ca i b hs) A (eTryAs ca fb fh) := fun s env hA => by
  have q := hb s env hA
  unfold RelS at q
  unfold dTryAs eTryAs
  cases hm : fb s with
  | no => exact True.intro
  | ex x s' =>
    rw [hm] at q
    obtain ⟨e', h1, h2⟩ := q
    rw [h1]
    unfold tryAsOf
    cases hc : ca x.cls with
    | none => simp only [hc]; exact True.intro
    | some c =>
      cases c with
      | false => simp only [hc]; exact ⟨e', rfl, (hX s').at h2⟩
      | true =>
        simp only [hc]
        by_cases hfs : x.fs.isEmpty = false
        · rw [if_pos hfs, if_pos ⟨h2.free (hf s'), hfs⟩]
          have q2 := hh x s' ((e'.map dropLa).set i .la) (by rw [← hAh s']; exact h2.drop.set (At1.is _))
          unfold RelS at q2
          cases hm2 : fh x s' with
          | no => exact True.intro
          | ex y s2 => exact True.intro
          | ok fl s2 =>
            rw [hm2] at q2
            cases fl with
            | nx z =>
              obtain ⟨e2, h3, h4⟩ := q2
              rw [h3]
              refine ⟨e2.set i .un, ?_, (l1 z s2).at (h4.set (At1.is _))⟩
              unfold endAs
              simp only [h4.noLa (n1 z s2), if_true]
            | rt z =>
              obtain ⟨e2, h3, h4⟩ := q2
              rw [h3]
              refine ⟨e2.set i .un, ?_, (l0 s2).at (h4.set (At1.is _))⟩
              unfold endAs
              simp only [h4.noLa (n0 s2), if_true]
            | bk z => exact True.intro
            | ct z => exact True.intro
        · rw [if_neg hfs]
          exact True.intro
  | ok fl s' =>
    rw [hm] at q
    cases fl with
    | nx z =>
      obtain ⟨e', h1, h2⟩ := q
      rw [h1]
      exact ⟨e', rfl, h2⟩
    | rt z =>
      obtain ⟨e', h1, h2⟩ := q
      rw [h1]
      exact ⟨e', rfl, h2⟩
    | bk z =>
      obtain ⟨e', h1, h2⟩ := q
      rw [h1]
      exact ⟨e', rfl, h2⟩
    | ct z =>
      obtain ⟨e', h1, h2⟩ := q
      rw [h1]
      exact ⟨e', rfl, h2⟩
theorem kr_tryAs {σ' : Type} {ca : Str → Option Bool} {XT XH X0h Ah : AF S} {G G1 : σ' → AF S} {Lh : l → AF S} {i : Nat} {b : DS} {hs : Ex → DS} {fb : EM S (Fl σ' l)} {fh : Ex → EM S (Fl σ' l)} {k : σ' → EM S (Fl σ l)} (hb : KR XT X0 G L b A fb) (hAh : ∀ s, ((XT s).map dropA).set i (.is .la) = Ah s) (hf : ∀ s, frA (XT s) i = true)
    (hh : ∀ x, KR XH X0h G1 Lh (hs x) Ah (fh x)) (hX : ∀ s, LeA (XT s) (X s)) (n1 : ∀ y s, nlA (G1 y s) i = true) (l1 : ∀ y s, LeA ((G1 y s).set i (.is .un)) (G y s)) (n0 : ∀ s, nlA (X0h s) i = true) (l0 : ∀ s, LeA ((X0h s).set i (.is .un)) (X0 s)) (hk : ∀ x, KR X X0 B L rest (G x) (k x)) :
    KR X X0 B L (dSeq (dTryAs ca i b hs) rest) A (sJ (eTryAs ca fb fh) k) := fun s env hA => by
  unfold dSeq
  exact RelS.sq (B := G) (tryAs_rel hb hAh hf hh hX n1 l1 n0 l0 s env hA) fun x s' e' h2 => hk x s' e' h2
end
end L2.Dl

namespace L2.Dl
open PySem
open PySem.Spec
open PyProof.Rows
variable {S : Type}
section
variable {σ l : Type} {X X0 A A1 : AF S} {B : σ → AF S} {L : l → AF S} {rest : DS}
theorem kr_par3 {i j n : Nat} {r : Nv → Res (List OV)} {mr : EM S (List PyData)} {k : PyData → PyData → PyData → EM S (Fl σ l)} (hr : AR X r [none, none, none] A A1 mr) (hij : i ≠ j) (hil : i ≠ n) (hjl : j ≠ n) (f1 : ∀ s, frA (A1 s) i = true) (f2 : ∀ s, frA (A1 s) j = true) (f3 : ∀ s, frA (A1 s) n = true)
    (hk : ∀ x y z, KR X X0 B L rest (fun s => (((A1 s).set i (.is (.v x))).set j (.is (.v y))).set n (.is (.v z))) (k x y z)) : KR X X0 B L (dSeq (dPar3 i j n r) rest) A (bnd mr (ls3 k)) := fun s env hA => by
  unfold dSeq dPar3
  have q := hr s env hA
  unfold RelM at q
  unfold bnd
  cases hm : mr s with
  | no => exact True.intro
  | ex x s' =>
    rw [hm] at q
    obtain ⟨e', h1, h2⟩ := q
    rw [h1]
    exact ⟨e', rfl, h2⟩
  | ok xs s' =>
    rw [hm] at q
    obtain ⟨os, e', h1, h2, h3⟩ := q
    rw [h1]
    cases h2 with
    | cons z1 h2 =>
      cases h2 with
      | cons z2 h2 =>
        cases h2 with
        | cons z3 h2 =>
          cases h2
          cases z1
          cases z2
          cases z3
          have e : ∀ x y z : PyData, par3 i j n [.d x, .d y, .d z] e' = .nx (((e'.set i (.v x)).set j (.v y)).set n (.v z)) := fun x y z => if_pos ⟨hij, hil, hjl, h3.free (f1 s'), h3.free (f2 s'), h3.free (f3 s')⟩
          simp only [Res.bs, e]
          exact hk _ _ _ s' _ (((h3.set (.is _)).set (.is _)).set (.is _))
end
end L2.Dl

namespace L2.Dl
open PySem
open PySem.Spec
open PyProof.Rows
variable {S : Type}
def rgE : List PyData → Option (List PyData)
  | [.int j] => if inLong j = true ∧ j ≤ 1000000 then some (rangeL 0 j.toNat) else none
  | [.int i, .int j] => if inLong i = true ∧ inLong j = true ∧ j - i ≤ 1000000 then some (rangeL i (j - i).toNat) else none
  | _ => none
def eRg1 (a : EM S PyData) : EM S (List PyData) := bnd a fun x => lo (rgE [x])
def eRg2 (a b : EM S PyData) : EM S (List PyData) := bnd a fun x => bnd b fun y => lo (rgE [x, y])
section
variable {X A A1 A2 : AF S} {d da db : DE} {m ma mb : EM S PyData}
theorem lr_rg1 (h : ER X d A A1 m) : LR X (dRg1 d) A A1 (eRg1 m) := fun dv env hA =>
  (h dv env hA).bd fun x d1 o e1 ⟨h1, h2⟩ => by
    cases h1
    refine RelM.lo fun z hz => ⟨z, e1, ?_, rfl, h2⟩
    unfold rgE at hz
    unfold rgL1
    split at hz
    · rename_i q
      cases q
      split at hz
      · rename_i q
        cases hz
        simp only [getAll, getOV]
        first | exact if_pos q | (rw [if_pos q]) | simp [q]
      · cases hz
    · rename_i q
      cases q
    · cases hz
theorem lr_rg2 (ha : ER X da A A1 ma) (hb : ER X db A1 A2 mb) : LR X (dRg2 da db) A A2 (eRg2 ma mb) := fun dv env hA =>
  (ha dv env hA).bd fun x d1 o e1 ⟨h1, h2⟩ => (hb d1 e1 h2).bd fun y d2 o2 e2 ⟨h3, h4⟩ => by
    cases h1
    cases h3
    refine RelM.lo fun z hz => ⟨z, e2, ?_, rfl, h4⟩
    unfold rgE at hz
    unfold rgL2
    split at hz
    · rename_i q
      cases q
    · rename_i q
      cases q
      split at hz
      · rename_i q
        cases hz
        simp only [getAll, getOV]
        first | exact if_pos q | (rw [if_pos q]) | simp [q]
      · cases hz
    · cases hz
end
def stE {β : Type} (m : EM S PyData) (xs : List PyData) (x : PyData) (k : List PyData → EM S β) : EM S β := fun s => match m s with
  | .ok (.int i) s' => (match ixN xs.length i with
    | some j => k (xs.set j x) s'
    | none => .no)
  | _ => .no
theorem pk_st {β : Type} {P : Nv → RM S β → Prop} {ps : Pats} {ds : List PyData} {X A A1 : AF S} {i : Nat} {d : DE} {m : EM S PyData} {p : Bool} {xs : List PyData} {x : PyData} {k : List PyData → EM S β} (h0 : ∀ s, (A s)[i]? = some (.is (.own p xs))) (hm : ER X d A A1 m)
    (h1 : ∀ s, (A1 s)[i]? = some (.is (.own p xs))) (h : ∀ ys, PksR P ps ds (fun s => (A1 s).set i (.is (.own p ys))) (k ys)) : PksR P (.cons (.st i d) ps) (x :: ds) A (stE m xs x k) := fun s env hA => by
  have q := hm s env hA
  unfold RelM at q
  unfold stE
  cases hms : m s with
  | no => exact .inl rfl
  | ex y s' => exact .inl rfl
  | ok y s' =>
    rw [hms] at q
    obtain ⟨o, e1, q1, q2, q3⟩ := q
    cases q2
    cases y with
    | int j =>
      simp only []
      cases hj : ixN xs.length j with
      | none => exact .inl rfl
      | some n =>
        simp only []
        rcases h (xs.set n x) s' (e1.set i (.own p (xs.set n x))) (q3.set (.is _)) with z | ⟨e2, z1, z2⟩
        · exact .inl z
        · refine .inr ⟨e2, ?_, z2⟩
          unfold asgPs asgP
          have g : getOV e1 (.d (.int j)) = some (.int j) := rfl
          simp only [hA.get (h0 s), q1, g, q3.get (h1 s'), hj]
          exact z1
    | _ => exact .inl rfl
end L2.Dl

namespace L2.Dl
open PySem
open PySem.Spec
open PyProof.Rows
variable {S : Type}
def eSortD (D : DV) : EM S (List PyData) := match intsOf (D.kvs.map Prod.fst) with
  | some ks => if D.t = false ∧ ks.length < 64 then eV ((ks.mergeSort fun a b => decide (a ≤ b)).map .int) else eN
  | none => eN
theorem lr_sortD {X A : AF S} {i : Nat} {p : Bool} {D : DV} (h : ∀ s, (A s)[i]? = some (.is (.dct p D))) : LR X (dSortD i) A A (eSortD D) := fun s env hA => by
  have hd : dctAt env i = some (p, D) := by unfold dctAt; rw [hA.get (h s)]
  unfold dSortD eSortD
  rw [hd]
  simp only []
  cases intsOf (D.kvs.map Prod.fst) with
  | none => exact True.intro
  | some ks =>
    simp only []
    split
    · exact ⟨_, _, rfl, rfl, hA⟩
    · exact True.intro
end L2.Dl

namespace L2.Dl
open PySem
open PySem.Spec
open PyProof.Rows
variable {S : Type}
theorem er_dispGet {X A A1 : AF S} {ps : List (Key × DE)} {D : DV} {dk : DE} {mk : EM S PyData} (h0 : ∀ env, dDisp ps env = .ok D env) (hk : ER X dk A A1 mk) : ER X (dDispGet ps dk) A A1 (eDGet D mk) := fun s env hA => by
  unfold dDispGet
  rw [h0]
  simp only [Res.bd]
  have := (hk s env hA)
  unfold eDGet
  refine (hk s env hA).bd fun x d1 o e1 ⟨q1, q2⟩ => ?_
  cases q1
  have q3 : pinOV e1 (.d x) = some (x, e1) := rfl
  unfold kyE
  simp only [q3]
  split
  · refine RelM.lo fun z hz => ⟨.d z, e1, ?_, rfl, q2⟩
    rw [hz]
  · exact True.intro
end L2.Dl

namespace L2.Dl
open PySem
open PySem.Spec
open PyProof.Rows
variable {S : Type}
/-- the outer walk: each thing lengthens what there is -/
def eLcO (g : PyData → List PyData → EM S (List PyData)) : List PyData → List PyData → EM S (List PyData)
  | [], acc => eV acc
  | x :: r, acc => bnd (shut (g x acc)) fun acc' => eLcO g r acc'
def eLC2 (xs : EM S (List PyData)) (g : PyData → List PyData → EM S (List PyData)) : EM S (List PyData) := bnd xs fun l => eLcO g l []
def LcO (vs vs1 : List Nat) (it1 : DI) (p1 : Pat) (d : DE) (acc : List PyData) (A : AF S) (e : Nv) (m : RM S (List PyData)) : Prop := match m with
  | .ok acc' s' => ∃ ys e2 e3, it1 e = .ok ys e2 ∧ lcL p1 dYes d vs1 ys acc (wipeN e2 vs1) = .ok acc' e3 ∧ At (A s') (wipeN e3 vs)
  | _ => True
theorem lc_in {X A A0 A1 : AF S} {vs vs1 : List Nat} {it1 : DI} {p1 : Pat} {d : DE} {mi : EM S (List PyData)} {f : PyData → EM S (Option PyData)} {acc : List PyData} (hi : IR X it1 A0 A1 mi) (h : ∀ y, LcR vs1 p1 dYes d y (fun s => wipeA (A1 s) vs1) (f y)) (h2 : ∀ s s', LeA (wipeA (wipeA (A1 s') vs1) vs) (A s)) :
    ∀ s env, At (A0 s) env → LcO vs vs1 it1 p1 d acc A env (bnd mi (fun ys => eLc f ys acc) s) := fun s env hA => by
  have q1 := hi s env hA
  unfold bnd LcO
  unfold RelM at q1
  cases hm : mi s with
  | no => exact True.intro
  | ex _ _ => exact True.intro
  | ok ys s1 =>
    rw [hm] at q1
    obtain ⟨ys', e1, q2, q3, q4⟩ := q1
    subst q3
    simp only []
    have ih := lcL_rel h ys' acc s1 (wipeN e1 vs1) (q4.wipe vs1)
    cases hr : eLc f ys' acc s1 with
    | no => exact True.intro
    | ex _ _ => exact True.intro
    | ok zs s2 =>
      rw [hr] at ih
      obtain ⟨e', q5, q6⟩ := ih
      exact ⟨ys', e1, e', q2, q5, (h2 s2 s2).at (q6.wipe vs)⟩
theorem lcO_rel {A : AF S} {vs vs1 : List Nat} {p p1 : Pat} {it1 : DI} {d : DE} {g : PyData → List PyData → EM S (List PyData)} (h : ∀ x acc, PksR (LcO vs vs1 it1 p1 d acc A) (.cons p .nil) [x] A (g x acc)) : ∀ (xs acc : List PyData) (s : S) (e : Nv), At (A s) e →
    match eLcO g xs acc s with
    | .ok ys s' => ∃ e', lcO p it1 p1 d vs vs1 xs acc e = .ok ys e' ∧ At (A s') e'
    | .ex _ _ => False
    | .no => True
  | [], acc, s, e, hA => ⟨e, rfl, hA⟩
  | x :: r, acc, s, e, hA => by
    have h1 := pk_one (h x acc) hA
    unfold eLcO bnd shut
    cases hm : g x acc s with
    | no => exact True.intro
    | ex _ _ => exact True.intro
    | ok acc' s1 =>
      rw [hm] at h1
      rcases h1 with h1 | ⟨e1, q0, h1⟩
      · cases h1
      obtain ⟨ys, e2, e3, q2, q3, q4⟩ := h1
      simp only []
      have ih := lcO_rel h r acc' s1 (wipeN e3 vs) q4
      cases hr : eLcO g r acc' s1 with
      | ok zs s' =>
        rw [hr] at ih
        obtain ⟨e', q5, q6⟩ := ih
        refine ⟨e', ?_, q6⟩
        unfold lcO
        simp only [q0, q2, q3, Res.bx]
        exact q5
      | ex x s' => rw [hr] at ih; exact ih
      | no => exact True.intro
theorem lr_lc2 {X A A1 : AF S} {it it1 : DI} {mi : EM S (List PyData)} {vs vs1 : List Nat} {p p1 : Pat} {d : DE} {g : PyData → List PyData → EM S (List PyData)} (hi : IR X it A A1 mi) (hp : ∀ s, vs.all (plA (A1 s)) = true) (h : ∀ x acc, PksR (LcO vs vs1 it1 p1 d acc (fun s => wipeA (A1 s) vs)) (.cons p .nil) [x] (fun s => wipeA (A1 s) vs) (g x acc))
    (hb : ∀ s s', LeA (vs.foldr (fun v C => C.set v ((A1 s).getD v (.is .un))) (wipeA (A1 s') vs)) (A1 s')) :
    LR X (dLc2 it p it1 p1 d vs vs1) A A1 (eLC2 mi g) := fun s env hA =>
  (hi s env hA).bd fun xs s1 ys e1 ⟨h1, h2⟩ => by
    subst h1
    have hp' : vs.all (plainAt e1) = true := List.all_eq_true.mpr fun v hv => h2.plain (List.all_eq_true.mp (hp s1) v hv)
    rw [if_pos hp']
    have := lcO_rel h ys [] s1 (wipeN e1 vs) (h2.wipe vs)
    cases hm : eLcO g ys [] s1 with
    | ok zs s' =>
      rw [hm] at this
      obtain ⟨e', q1, q2⟩ := this
      rw [q1]
      exact ⟨zs, _, rfl, rfl, (hb s1 s').at (At.backN h2 q2 vs)⟩
    | ex x s' => rw [hm] at this; exact this.elim
    | no => exact True.intro
end L2.Dl

namespace L2.Dl
open PySem
open PySem.Spec
open PyProof.Rows
variable {S : Type}
def eSetSl (xs : List PyData) (mv ml mh : EM S PyData) : EM S (List PyData) := bnd mv fun y => match y with
  | .list ys => bnd ml fun a => match a with
    | .int i => bnd mh fun b => match b with
      | .int j => if 0 ≤ i ∧ i ≤ j ∧ j ≤ (xs.length : Int) ∧ xs.length + ys.length ≤ lenB then eV (xs.take i.toNat ++ ys ++ xs.drop j.toNat) else eN
      | _ => eN
    | _ => eN
  | _ => eN
section
variable {X X0 A A1 A2 A3 : AF S} {σ l : Type} {B : σ → AF S} {L : l → AF S} {rest : DS} {i : Nat}
theorem kr_setSl {xs : List PyData} {p : Bool} {dl dh dv : DE} {ml mh mv : EM S PyData} {k : List PyData → EM S (Fl σ l)} (hv : ER X dv A A1 mv) (h0 : ∀ s, (A1 s)[i]? = some (.is (.own p xs))) (hl : ER X dl A1 A2 ml) (hh : ER X dh A2 A3 mh)
    (h1 : ∀ s, (A3 s)[i]? = some (.is (.own p xs))) (hr : ∀ ys, KR X X0 B L rest (fun s => (A3 s).set i (.is (.own p ys))) (k ys)) : KR X X0 B L (dSeq (dSetSl i dl dh dv) rest) A (bnd (eSetSl xs mv ml mh) k) := fun s env hA => by
  unfold dSeq
  have q : RelS (l := l) X X0 (fun ys : List PyData => fun s => (A3 s).set i (.is (.own p ys))) L (dSetSl i dl dh dv env) (bnd (eSetSl xs mv ml mh) (fun x => eV (.nx x)) s) := by
    unfold dSetSl eSetSl
    rw [bnd_assoc]
    refine (hv s env hA).bs fun z s1 o e1 ⟨q1, q2⟩ => ?_
    cases q1
    have q3 : pinOV e1 (.d z) = some (z, e1) := rfl
    simp only [q3]
    cases z with
    | list ys =>
      simp only [q2.own (h0 s1)]
      rw [bnd_assoc]
      refine (hl s1 e1 q2).bs fun a s2 o e2 ⟨q4, q5⟩ => ?_
      cases q4
      have q6 : pinOV e2 (.d a) = some (a, e2) := rfl
      simp only [q6]
      cases a with
      | int a =>
        simp only
        rw [bnd_assoc]
        refine (hh s2 e2 q5).bs fun b s3 o e3 ⟨q7, q8⟩ => ?_
        cases q7
        have q9 : pinOV e3 (.d b) = some (b, e3) := rfl
        simp only [q9]
        cases b with
        | int b =>
          simp only [q8.own (h1 s3)]
          by_cases hc : 0 ≤ a ∧ a ≤ b ∧ b ≤ (xs.length : Int) ∧ xs.length + ys.length ≤ lenB
          · rw [if_pos hc, if_pos hc]
            exact ⟨_, rfl, q8.set (.is _)⟩
          · rw [if_neg hc, if_neg hc]
            exact True.intro
        | _ => exact True.intro
      | _ => exact True.intro
    | _ => exact True.intro
  have := RelS.sq (m := bnd (eSetSl xs mv ml mh) fun x => eV (.nx x)) (k := k) (rest := rest) (C := B) q fun x s' e' h2 => hr x s' e' h2
  rw [sJ_bnd] at this
  exact this
end
end L2.Dl

namespace L2.Dl
open PySem
open PySem.Spec
open PyProof.Rows
section
variable {S : Type} {X A A1 : AF S} {k : Option Nat} {d : DE} {m : EM S PyData}
theorem er_pin (hd : OR X d k A A1 m) (hp : ∀ s, pinOk (A1 s) [k] = true) : ER X (dPin d) A (fun s => pinA (A1 s) [k]) m := fun s env hA => by
  have h := (hd s env hA).bd (f := fun x => eV x) (k := fun o e => match pinOV e o with
    | some (x, e1) => .ok (.d x) e1
    | none => .stuck) (Q := fun x s' o e' => OVx (pinA (A1 s') [k]) none o x ∧ At (pinA (A1 s') [k]) e') fun x d1 o e1 ⟨q1, q2⟩ => by
    obtain ⟨e', q3, q4⟩ := (OVs.cons q1 .nil).pinAll q2 (hp d1)
    unfold pinAll at q3
    cases q5 : pinOV e1 o with
    | none => rw [q5] at q3; cases q3
    | some xe =>
      obtain ⟨y, e2⟩ := xe
      rw [q5] at q3
      cases q3
      exact ⟨_, _, rfl, rfl, q4⟩
  have e : bnd m (fun x => eV x) s = m s := by
    unfold bnd
    cases m s <;> rfl
  rw [e] at h
  exact h
end
/-- the environment, written out anew -/
theorem kr_cut {S σ l : Type} {X X0 A : AF S} (A' : AF S) {B : σ → AF S} {L : l → AF S} {rest : DS} {f : EM S (Fl σ l)} (h : ∀ s, A s = A' s) (k : KR X X0 B L rest A' f) : KR X X0 B L rest A f := by
  have e : A = A' := funext h
  rw [e]
  exact k
end L2.Dl

namespace L2.Dl
open PySem
open PySem.Spec
open PyProof.Rows
def eNX {S : Type} (F : EM Unit PyData) : EM S PyData := fun d => match F () with
  | .ok x _ => .ok x d
  | _ => .no
theorem eNX_V {S : Type} (x : PyData) : (eNX (eV x) : EM S PyData) = eV x := rfl
theorem fnX_of {nn : Nat} {d : DS} {x : PyData} (h : mkFn nn d [.la] = .ok (.d x) [.la]) : fnX nn d = some x := by
  unfold mkFn at h
  unfold fnX
  have e : ([Slot.la] ++ List.replicate (nn - [Slot.la].length) Slot.un) = Slot.la :: List.replicate (nn - 1) .un := rfl
  rw [e] at h
  revert h
  cases d (.la :: List.replicate (nn - 1) .un) with
  | nx e =>
    intro h
    have h : FRes.ok (.d .none) [.la] = FRes.ok (.d x) [.la] := h
    cases h
    rfl
  | rt y e =>
    intro h
    have h : FRes.ok (.d y) [.la] = FRes.ok (.d x) [.la] := h
    cases h
    rfl
  | rtD y e =>
    intro h
    have h : FRes.ok (.k y) [.la] = FRes.ok (.d x) [.la] := h
    cases h
  | exc y e =>
    intro h
    have h : FRes.exc y [.la] = FRes.ok (.d x) [.la] := h
    cases h
  | _ => intro h; cases h
section
variable {S : Type} {X A : AF S} {i nn : Nat} {d : DS} {F : EM Unit PyData}
theorem er_callX (h : FnR (S := Unit) (mkFn nn d) (fun _ => [.la]) F) (hi : ∀ dv, (A dv)[i]? = some (.is .la)) : ER X (dExF i (fnX nn d)) A A (eNX F) := fun dv env hA => by
  have q := h ()
  unfold eNX
  cases hF : F () with
  | no => trivial
  | ex x u => trivial
  | ok x u =>
    rw [hF] at q
    unfold dExF
    rw [hA.get (hi dv), fnX_of q]
    exact ⟨_, env, rfl, rfl, hA⟩
end
end L2.Dl

namespace L2.Dl
open PySem
open PySem.Spec
open PyProof.Rows
section
variable {S α β σ τ l : Type}
theorem aC_u (a : EM S PyData) (r : EM S (List PyData)) : aC a r = bnd a fun x => bnd r fun xs => eV (x :: xs) := rfl
theorem aN_u : (aN : EM S (List PyData)) = eV [] := rfl
theorem eBin_u (g) (a b : EM S PyData) : eBin g a b = bnd a fun x => bnd b fun y => lo (g x y) := rfl
theorem eUn_u (g) (a : EM S PyData) : eUn g a = bnd a fun x => lo (g x) := rfl
theorem tst_u (a : EM S PyData) : tst a = bnd a tstB := rfl
theorem tstB_b (b : Bool) : (tstB (.bool b) : EM S Bool) = eV b := rfl
theorem eNot_u (a : EM S PyData) : eNot a = bnd (tst a) fun b => eV (.bool (!b)) := rfl
theorem eAnd_u (a b : EM S PyData) : eAnd a b = bnd (tst a) fun k => if k = true then b else eV (.bool false) := rfl
theorem eOr_u (a b : EM S PyData) : eOr a b = bnd (tst a) fun k => if k = true then eV (.bool true) else b := rfl
theorem tNotE_u (t : EM S Bool) : tNotE t = bnd t fun b => eV (!b) := rfl
theorem tAndE_u (t u : EM S Bool) : tAndE t u = bnd t fun b => if b = true then u else eV false := rfl
theorem tOrE_u (t u : EM S Bool) : tOrE t u = bnd t fun b => if b = true then eV true else u := rfl
theorem eIf_u (t : EM S Bool) (a b : EM S α) : eIf t a b = bnd t fun k => if k = true then a else b := rfl
theorem lenE_0 : (lenE [] : EM S (List PyData)) = eV [] := rfl
theorem lenE_1 (a : PyData) : (lenE [a] : EM S (List PyData)) = eV [a] := if_pos (by show 1 ≤ lenB; decide)
theorem lenE_2 (a b : PyData) : (lenE [a, b] : EM S (List PyData)) = eV [a, b] := if_pos (by show 2 ≤ lenB; decide)
theorem lenE_3 (a b c : PyData) : (lenE [a, b, c] : EM S (List PyData)) = eV [a, b, c] := if_pos (by show 3 ≤ lenB; decide)
theorem lenE_4 (a b c d : PyData) : (lenE [a, b, c, d] : EM S (List PyData)) = eV [a, b, c, d] := if_pos (by show 4 ≤ lenB; decide)
theorem lenE_5 (a b c d e : PyData) : (lenE [a, b, c, d, e] : EM S (List PyData)) = eV [a, b, c, d, e] := if_pos (by show 5 ≤ lenB; decide)
theorem lenE_6 (a b c d e f : PyData) : (lenE [a, b, c, d, e, f] : EM S (List PyData)) = eV [a, b, c, d, e, f] := if_pos (by show 6 ≤ lenB; decide)
theorem lenE_7 (a b c d e f g : PyData) : (lenE [a, b, c, d, e, f, g] : EM S (List PyData)) = eV [a, b, c, d, e, f, g] := if_pos (by show 7 ≤ lenB; decide)
theorem lenE_8 (a b c d e f g h : PyData) : (lenE [a, b, c, d, e, f, g, h] : EM S (List PyData)) = eV [a, b, c, d, e, f, g, h] := if_pos (by show 8 ≤ lenB; decide)
theorem lenE_h {xs : List PyData} (h : xs.length ≤ 1000000) : (lenE xs : EM S (List PyData)) = eV xs := if_pos h
theorem eTup_u (r : EM S (List PyData)) : eTup r = bnd (bnd r lenE) fun xs => eV (.tuple xs) := rfl
theorem eLst_u (r : EM S (List PyData)) : eLst r = bnd r lenE := rfl
theorem eFz_u (r : EM S (List PyData)) : eFz r = bnd r fun xs => eV (.list xs) := rfl
theorem eCallB_u (g) (r : EM S (List PyData)) : eCallB g r = bnd r fun xs => lo (g xs) := rfl
theorem eCallN_u (g) (r : EM S (List PyData)) : eCallN g r = bnd r fun xs => lo (g xs) := rfl
theorem p0_u : (p0 : EM S (Option Int)) = eV none := rfl
theorem pS_u (a : EM S PyData) : pS a = bnd a intE := rfl
theorem intE_i (i : Int) : (intE (.int i) : EM S (Option Int)) = eV (some i) := rfl
theorem eSl_u (a : EM S PyData) (p q : EM S (Option Int)) : eSl a p q = bnd a fun x => bnd p fun l => bnd q fun h => lo (gSl x l h) := rfl
theorem eSlL_u (a : EM S PyData) (p q : EM S (Option Int)) : eSlL a p q = bnd a fun x => bnd p fun l => bnd q fun h => lo (gSlL x l h) := rfl
theorem eIt_u (a : EM S PyData) : eIt a = bnd a itsE := rfl
theorem itsE_l (xs : List PyData) : (itsE (.list xs) : EM S (List PyData)) = eV xs := rfl
theorem itsE_t (xs : List PyData) : (itsE (.tuple xs) : EM S (List PyData)) = eV xs := rfl
theorem itsE_s (z : Str) : (itsE (.str z) : EM S (List PyData)) = eV (signs z) := rfl
theorem eRange1_u (r : EM S (List PyData)) : eRange1 r = bnd r fun xs => lo (rng1 xs) := rfl
theorem eRange2_u (r : EM S (List PyData)) : eRange2 r = bnd r fun xs => lo (rng2 xs) := rfl
theorem up1_t {β : Type} (a : PyData) (k : PyData → EM S β) : up1 (.tuple [a]) k = k a := rfl
theorem up2_t {β : Type} (a b : PyData) (k : PyData → PyData → EM S β) : up2 (.tuple [a, b]) k = k a b := rfl
theorem up3_t {β : Type} (a b c : PyData) (k : PyData → PyData → PyData → EM S β) : up3 (.tuple [a, b, c]) k = k a b c := rfl
theorem up4_t {β : Type} (a b c d : PyData) (k : PyData → PyData → PyData → PyData → EM S β) : up4 (.tuple [a, b, c, d]) k = k a b c d := rfl
theorem ls0_n {α : Type} (f : EM S α) : ls0 f [] = f := rfl
theorem ls1_n {α : Type} (f : PyData → EM S α) (a : PyData) : ls1 f [a] = f a := rfl
theorem ls2_n {α : Type} (f : PyData → PyData → EM S α) (a b : PyData) : ls2 f [a, b] = f a b := rfl
theorem ls3_n {α : Type} (f : PyData → PyData → PyData → EM S α) (a b c : PyData) : ls3 f [a, b, c] = f a b c := rfl
theorem ls4_n {α : Type} (f : PyData → PyData → PyData → PyData → EM S α) (a b c d : PyData) : ls4 f [a, b, c, d] = f a b c d := rfl
theorem ls5_n {α : Type} (f : PyData → PyData → PyData → PyData → PyData → EM S α) (a b c d e : PyData) : ls5 f [a, b, c, d, e] = f a b c d e := rfl
theorem fnE_rt (x : PyData) : (fnE (eV (.rt x)) : EM S PyData) = eV x := rfl
theorem fnE_nx (u : Unit) : (fnE (eV (.nx u)) : EM S PyData) = eV .none := rfl
theorem fnE_X (x : Ex) : (fnE (eX x) : EM S PyData) = eX x := rfl
theorem fnE_bnd (m : EM S α) (f : α → EM S (Fl Unit Empty)) : fnE (bnd m f) = bnd m fun a => fnE (f a) := bnd_assoc _ _ _
theorem fnE_ite {c : Prop} [Decidable c] (a b : EM S (Fl Unit Empty)) : fnE (if c then a else b) = if c then fnE a else fnE b := by split <;> rfl
theorem appL_u (xs : List PyData) (a : EM S PyData) (h : xs.length < 1000000) : appL xs a = bnd a fun x => eV (xs ++ [x]) := by
  unfold appL
  congr 1
  funext x
  first | exact if_pos h | (rw [if_pos (by omega)])
theorem eAct_ok (x : PyData) : (eAct (.ok x) : EM S PyData) = eV x := rfl
theorem eAct_ex (x : Ex) : (eAct (.exc x) : EM S PyData) = eX x := rfl
theorem eLam_V (g : ARes → EM Unit PyData) (x : PyData) : (eLam g (eV x) : EM S PyData) = eLift (g (.ok x)) := rfl
theorem eLam_X (g : ARes → EM Unit PyData) (x : Ex) : (eLam g (eX x) : EM S PyData) = eLift (g (.exc x)) := rfl
theorem eLam_ite {c : Prop} [Decidable c] (g : ARes → EM Unit PyData) (a b : EM Unit PyData) : (eLam g (if c then a else b) : EM S PyData) = if c then eLam g a else eLam g b := by split <;> rfl
theorem oB_some (b : Bool) : (oB (some b) : EM S PyData) = eV (.bool b) := rfl
theorem eRaise1 (c f : Str) (r : EM S (List PyData)) : (eRaise c [f] r : EM S α) = bnd r fun xs => if xs.length = 1 then eX ⟨c, (List.zip [f] xs).reverse⟩ else eN := by
  unfold eRaise
  congr 1
  funext xs
  simp
theorem eTryAs_V (ca : Str → Option Bool) (x : Fl σ l) (h : Ex → EM S (Fl σ l)) : eTryAs ca (eV x) h = eV x := rfl
theorem eTryAs_X {ca : Str → Option Bool} {x : Ex} {h : Ex → EM S (Fl σ l)} (hc : ca x.cls = some true) (he : x.fs.isEmpty = false) {r : Fl σ l} (hh : h x = eV r) (hr : (match r with | .nx _ => true | .rt _ => true | _ => false) = true) : eTryAs ca (eX x) h = eV r := by
  funext s
  show (match ca x.cls with | some true => _ | some false => _ | none => _) = _
  rw [hc]
  simp only [he, if_true, hh]
  cases r with
  | nx y => rfl
  | rt y => rfl
  | bk y => cases hr
  | ct y => cases hr
end
theorem gIx_0 (a : PyData) (r : List PyData) : gIx (.tuple (a :: r)) (.int 0) = some a := by unfold gIx; exact atI_nat (j := 0) rfl
theorem gIx_1 (a b : PyData) (r : List PyData) : gIx (.tuple (a :: b :: r)) (.int 1) = some b := by unfold gIx; exact atI_nat (j := 1) rfl
theorem gIx_2 (a b c : PyData) (r : List PyData) : gIx (.tuple (a :: b :: c :: r)) (.int 2) = some c := by unfold gIx; exact atI_nat (j := 2) rfl
theorem gIx_3 (a b c d : PyData) (r : List PyData) : gIx (.tuple (a :: b :: c :: d :: r)) (.int 3) = some d := by unfold gIx; exact atI_nat (j := 3) rfl
theorem gIxL_0 (a : PyData) (r : List PyData) : gIx (.list (a :: r)) (.int 0) = some a := by unfold gIx; exact atI_nat (j := 0) rfl
theorem gIxL_1 (a b : PyData) (r : List PyData) : gIx (.list (a :: b :: r)) (.int 1) = some b := by unfold gIx; exact atI_nat (j := 1) rfl
theorem gIx_n {xs : List PyData} {i : Nat} (h : i < xs.length) : gIx (.tuple xs) (.int i) = some xs[i] := by unfold gIx; exact atI_nat (List.getElem?_eq_getElem h)
theorem gIxL_n {xs : List PyData} {i : Nat} (h : i < xs.length) : gIx (.list xs) (.int i) = some xs[i] := by unfold gIx; exact atI_nat (List.getElem?_eq_getElem h)
theorem gAdd_i (i j : Int) : gAdd (.int i) (.int j) = some (.int (i + j)) := rfl
theorem gAdd_t {xs ys : List PyData} (h : xs.length + ys.length ≤ 1000000) : gAdd (.tuple xs) (.tuple ys) = some (.tuple (xs ++ ys)) := if_pos h
theorem gAdd_l {xs ys : List PyData} (h : xs.length + ys.length ≤ 1000000) : gAdd (.list xs) (.list ys) = some (.list (xs ++ ys)) := if_pos h
theorem gAdd_s {x y : Str} (h : x.length + y.length ≤ 1000000) : gAdd (.str x) (.str y) = some (.str (x ++ y)) := if_pos h
theorem gAddI_i (i j : Int) : gAddI (.int i) (.int j) = some (.int (i + j)) := rfl
theorem gSubI_i (i j : Int) : gSubI (.int i) (.int j) = some (.int (i - j)) := rfl
theorem gNeg_i (i : Int) : gNeg (.int i) = some (.int (-i)) := rfl
theorem gLtI_i (i j : Int) : gLtI (.int i) (.int j) = some (.bool (decide (i < j))) := rfl
theorem gLeI_i (i j : Int) : gLeI (.int i) (.int j) = some (.bool (decide (i ≤ j))) := rfl
theorem gGtI_i (i j : Int) : gGtI (.int i) (.int j) = some (.bool (decide (j < i))) := rfl
theorem gGeI_i (i j : Int) : gGeI (.int i) (.int j) = some (.bool (decide (j ≤ i))) := rfl
theorem gLen_t (xs : List PyData) : gLen [.tuple xs] = some (.int xs.length) := rfl
theorem gLen_l (xs : List PyData) : gLen [.list xs] = some (.int xs.length) := rfl
theorem gLen_s {z : Str} (h : z.length ≤ 1000000) : gLen [.str z] = some (.int z.length) := if_pos h
theorem gEq_i (i j : Int) : gEq (.int i) (.int j) = some (.bool (decide (i = j))) := rfl
theorem gEq_s (x y : Str) : gEq (.str x) (.str y) = some (.bool (decide (x = y))) := rfl
theorem gNe_i (i j : Int) : gNe (.int i) (.int j) = some (.bool (!decide (i = j))) := rfl
theorem gNe_s (x y : Str) : gNe (.str x) (.str y) = some (.bool (!decide (x = y))) := rfl
theorem gIsN_n : gIsN .none .none = some (.bool true) := rfl
theorem gIsN_t (xs : List PyData) : gIsN (.tuple xs) .none = some (.bool false) := rfl
theorem gNotN_n : gNotN .none .none = some (.bool false) := rfl
theorem gNotN_t (xs : List PyData) : gNotN (.tuple xs) .none = some (.bool true) := rfl
theorem gTupleOf_l (xs : List PyData) : gTupleOf [.list xs] = some (.tuple xs) := rfl
theorem gTupleOf_t (xs : List PyData) : gTupleOf [.tuple xs] = some (.tuple xs) := rfl
theorem gListOf_l (xs : List PyData) : gListOf [.list xs] = some xs := rfl
theorem gListOf_t (xs : List PyData) : gListOf [.tuple xs] = some xs := rfl
theorem gMax2_i (i j : Int) : gMax2 [.int i, .int j] = some (.int (if j > i then j else i)) := rfl
theorem gMin2_i (i j : Int) : gMin2 [.int i, .int j] = some (.int (if j < i then j else i)) := rfl
theorem gSl_t (xs : List PyData) (a b : Option Int) : gSl (.tuple xs) a b = some (.tuple (cutG xs a b)) := rfl
theorem gSl_l (xs : List PyData) (a b : Option Int) : gSl (.list xs) a b = some (.list (cutG xs a b)) := rfl
theorem rng1_i {j : Int} (h : inLong j = true) : rng1 [.int j] = some (rangeL 0 j.toNat) := if_pos h
theorem rng2_i {i j : Int} (h : inLong i = true) (h2 : inLong j = true) : rng2 [.int i, .int j] = some (rangeL i (j - i).toNat) := if_pos ⟨h, h2⟩
def feedD (cs : List Int) (a l c : Int) : DV := ⟨false, [(.str "cells", .list (cs.map .int)), (.str "at", .int a), (.str "left", .int l), (.str "count", .int c)]⟩
def FeedOk (d : DV) : Prop := ∃ cs a l c, d = feedD cs a l c ∧ 0 ≤ a
/-- from any state of the draws: it comes to an end, at something of Q -/
def RunT {α : Type} (m : EM DV α) (Q : α → Prop) : Prop := ∀ d, FeedOk d → ∃ a d', FeedOk d' ∧ m d = .ok a d' ∧ Q a
section
variable {α β σ l : Type} {Q : α → Prop} {R : β → Prop}
theorem RunT.V {a : α} (h : Q a) : RunT (eV a) Q := fun d hd => ⟨a, d, hd, rfl, h⟩
theorem RunT.bnd {m : EM DV α} {f : α → EM DV β} (h : RunT m Q) (k : ∀ a, Q a → RunT (f a) R) : RunT (bnd m f) R := fun d hd => by
  obtain ⟨a, d1, h1, h2, h3⟩ := h d hd
  obtain ⟨b, d2, h4, h5, h6⟩ := k a h3 d1 h1
  exact ⟨b, d2, h4, by unfold Dl.bnd; rw [h2]; exact h5, h6⟩
theorem RunT.mono {Q' : α → Prop} {m : EM DV α} (h : RunT m Q) (k : ∀ a, Q a → Q' a) : RunT m Q' := fun d hd => by
  obtain ⟨a, d1, h1, h2, h3⟩ := h d hd
  exact ⟨a, d1, h1, h2, k a h3⟩
theorem RunT.ite {c : Prop} [Decidable c] {a b : EM DV α} (h : c → RunT a Q) (k : ¬c → RunT b Q) : RunT (if c then a else b) Q := by
  split
  · exact h ‹_›
  · exact k ‹_›
theorem RunT.lift {m : EM Unit α} {a : α} (h : m = eV a) (q : Q a) : RunT (eLift m) Q := by rw [h]; exact RunT.V q
theorem RunT.lc {P : PyData → Prop} {f : PyData → EM DV (Option PyData)} : ∀ {xs acc : List PyData}, (∀ x ∈ xs, RunT (f x) fun o => ∃ y, o = some y ∧ P y) → (∀ y ∈ acc, P y) → acc.length + xs.length ≤ lenB → RunT (eLc f xs acc) fun ys => ys.length = acc.length + xs.length ∧ ∀ y ∈ ys, P y
  | [], acc, _, ha, _ => RunT.V ⟨rfl, ha⟩
  | x :: r, acc, hf, ha, hl => by
    unfold eLc
    have h1 : RunT (shut (f x)) fun o => ∃ y, o = some y ∧ P y := fun d hd => by
      obtain ⟨a, d1, q1, q2, q3⟩ := hf x List.mem_cons_self d hd
      exact ⟨a, d1, q1, by unfold shut; rw [q2], q3⟩
    refine h1.bnd fun o ho => ?_
    obtain ⟨y, rfl, hy⟩ := ho
    simp only []
    rw [List.length_cons] at hl
    rw [if_pos (by omega)]
    refine (RunT.lc (xs := r) (acc := acc ++ [y]) (fun z hz => hf z (List.mem_cons_of_mem _ hz)) (fun z hz => ?_) (by rw [List.length_append]; simp only [List.length_cons, List.length_nil]; omega)).mono fun ys h => ⟨?_, h.2⟩
    · rcases List.mem_append.mp hz with h | h
      · exact ha z h
      · rw [List.mem_singleton.mp h]; exact hy
    · rw [h.1, List.length_append, List.length_cons]; simp only [List.length_cons, List.length_nil]; omega
/-- a walk that goes through to its end -/
theorem RunT.for' {b : PyData → σ → EM DV (Fl σ σ)} {I : σ → Prop} : ∀ {xs : List PyData} {s : σ}, (∀ x ∈ xs, ∀ s, I s → RunT (b x s) fun r => ∃ s', r = .nx s' ∧ I s') → I s → RunT (eFor b xs s : EM DV (Fl σ l)) fun r => ∃ s', r = .nx s' ∧ I s'
  | [], s, _, hs => RunT.V ⟨s, rfl, hs⟩
  | x :: r, s, hb, hs => by
    unfold eFor
    refine (hb x List.mem_cons_self s hs).bnd fun o ho => ?_
    obtain ⟨s', rfl, hs'⟩ := ho
    exact RunT.for' (xs := r) (fun y hy => hb y (List.mem_cons_of_mem _ hy)) hs'
end
end L2.Dl

namespace L2.Dl
open PySem
open PySem.Spec
open PyProof.Rows
open PySem.StrLaws
def txB (n : Nat) (z : Str) : Bool := decide (z.length ≤ n) && z.cps.toList.all fun c => decide (c < 4294967296)
theorem rok_str {z : Str} {n : Nat} (h : txB n z = true) : ROk (10 * n + 2) 0 (.str z) := by
  unfold txB at h
  rw [Bool.and_eq_true] at h
  refine ⟨rfl, ?_, Nat.le_refl _, rfl⟩
  have h1 := of_decide_eq_true h.1
  have := reprText_len z fun c hc => by
    have := List.all_eq_true.mp h.2 c hc
    have := of_decide_eq_true this
    exact this
  show (reprText z).length ≤ _
  omega
theorem rok_int {i : Int} (h : i.natAbs.log2 < 1920) : ROk 1921 0 (.int i) := ⟨decide_eq_true h, by show (Str.ofString (toString i)).length ≤ _; exact int_text_len_1921 h, Nat.le_refl _, rfl⟩
theorem log_small {i : Int} {k : Nat} (h : i.natAbs < 2 ^ k) (hk : k ≤ 1920) : i.natAbs.log2 < 1920 := by
  by_cases z : i.natAbs = 0
  · rw [z]; decide
  · exact Nat.lt_of_lt_of_le ((Nat.log2_lt z).mpr h) hk
theorem rok_none : ROk 10 0 .none := ⟨rfl, by decide +kernel, Nat.le_refl _, rfl⟩
def tS (xs : List Str) : PyData := .tuple (xs.map .str)
theorem rok_tS {xs : List Str} {n k : Nat} (h : ∀ z ∈ xs, txB n z = true) (hl : xs.length ≤ k) : ROk ((10 * n + 4) * k + 3) 1 (tS xs) := by
  refine (rok_tup (n := 10 * n + 2) (d := 0) fun x hx => ?_).mono (Nat.add_le_add_right (by rw [List.length_map]; exact Nat.mul_le_mul_left _ hl) 3) (Nat.le_refl _)
  obtain ⟨z, hz, rfl⟩ := List.mem_map.mp hx
  exact rok_str (h z hz)
theorem rok_tup2 {a b : PyData} {n d : Nat} (h1 : ROk n d a) (h2 : ROk n d b) : ROk (n * 2 + 7) (d + 1) (.tuple [a, b]) := by
  refine (rok_tup (n := n) (d := d) fun x hx => ?_).mono ?_ (Nat.le_refl _)
  · simp only [List.mem_cons, List.not_mem_nil, or_false] at hx
    rcases hx with rfl | rfl
    · exact h1
    · exact h2
  · show (n + 2) * 2 + 3 ≤ _; omega
theorem rok_tup3 {a b c : PyData} {n d : Nat} (h1 : ROk n d a) (h2 : ROk n d b) (h3 : ROk n d c) : ROk (n * 3 + 9) (d + 1) (.tuple [a, b, c]) := by
  refine (rok_tup (n := n) (d := d) fun x hx => ?_).mono ?_ (Nat.le_refl _)
  · simp only [List.mem_cons, List.not_mem_nil, or_false] at hx
    rcases hx with rfl | rfl | rfl
    · exact h1
    · exact h2
    · exact h3
  · show (n + 2) * 3 + 3 ≤ _; omega
theorem rok_tup1 {a : PyData} {n d : Nat} (h1 : ROk n d a) : ROk (n + 5) (d + 1) (.tuple [a]) := by
  refine (rok_tup (n := n) (d := d) fun x hx => ?_).mono ?_ (Nat.le_refl _)
  · rw [List.mem_singleton.mp hx]; exact h1
  · show (n + 2) * 1 + 3 ≤ _; omega
/-- a text that is short and may be compared -/
def tx (z : Str) : Bool := txB 20 z && ((PyData.str z).canLay0 && !decide (10 ∈ z.cps.toList))
theorem tx_b {z : Str} (h : tx z = true) : txB 20 z = true := (Bool.and_eq_true_iff.mp h).1
theorem tx_c {z : Str} (h : tx z = true) : (PyData.str z).canLay0 = true := (Bool.and_eq_true_iff.mp (Bool.and_eq_true_iff.mp h).2).1
theorem tx_n {z : Str} (h : tx z = true) : (!decide (10 ∈ z.cps.toList)) = true := (Bool.and_eq_true_iff.mp (Bool.and_eq_true_iff.mp h).2).2
theorem lay_tS : ∀ {xs : List Str}, (∀ z ∈ xs, tx z = true) → PyData.canLayAll0 (xs.map .str) = true
  | [], _ => rfl
  | z :: r, h => by
    show ((PyData.str z).canLay0 && PyData.canLayAll0 (r.map .str)) = true
    rw [tx_c (h z List.mem_cons_self), lay_tS fun y hy => h y (List.mem_cons_of_mem _ hy)]
    rfl
theorem dep_tS : ∀ xs : List Str, PyData.depthAll (xs.map .str) = 0
  | [] => rfl
  | z :: r => by
    show max (PyData.str z).depth (PyData.depthAll (r.map .str)) = 0
    rw [dep_tS r]
    rfl
theorem shaped_tS {xs : List Str} (h : ∀ z ∈ xs, tx z = true) : SeqAt.shaped (tS xs) = true := by
  unfold SeqAt.shaped
  rw [show (tS xs).canLay0 = true from lay_tS h, show (tS xs).depth = 1 from congrArg (· + 1) (dep_tS xs)]
  rfl
theorem gNe_tS {xs ys : List Str} (h : ∀ z ∈ xs, tx z = true) (k : ∀ z ∈ ys, tx z = true) : gNe (tS xs) (tS ys) = some (.bool (!PyData.eqv (tS xs) (tS ys))) := by
  show (if (SeqAt.shaped (tS xs) && SeqAt.shaped (tS ys)) = true then _ else _) = _
  rw [shaped_tS h, shaped_tS k]
  rfl
theorem atI_ok {ds : List PyData} {i : Int} (h : 0 ≤ i) (h2 : i < ds.length) : ∃ x, atI ds i = some x ∧ x ∈ ds := by
  obtain ⟨n, rfl⟩ := Int.eq_ofNat_of_zero_le h
  have hn : n < ds.length := by omega
  exact ⟨ds[n], atI_nat (List.getElem?_eq_getElem hn), List.getElem_mem hn⟩
theorem RunT.lo {α : Type} {o : Option α} {a : α} {Q : α → Prop} (h : o = some a) (q : Q a) : RunT (Dl.lo o) Q := by rw [h]; exact RunT.V q
theorem RunT.pick {ds : List PyData} {i : Int} {Q : PyData → Prop} (h : 0 ≤ i) (h2 : i < ds.length) (q : ∀ x ∈ ds, Q x) : RunT (Dl.lo (gIx (.list ds) (.int i))) Q := by
  obtain ⟨x, e, hx⟩ := atI_ok h h2
  exact RunT.lo (show gIx (.list ds) (.int i) = some x from e) (q x hx)
theorem rangeL_all {i : Int} {n : Nat} {P : PyData → Prop} (h : ∀ j : Nat, j < n → P (.int (i + j))) : ∀ x ∈ rangeL i n, P x := fun x hx => by
  unfold rangeL at hx
  obtain ⟨j, hj, rfl⟩ := List.mem_map.mp hx
  exact h j (List.mem_range.mp hj)
theorem rangeL_len' (i : Int) (n : Nat) : (rangeL i n).length = n := by unfold rangeL; rw [List.length_map, List.length_range]
theorem RunT.sJ {σ τ l : Type} {b : EM DV (Fl σ l)} {k : σ → EM DV (Fl τ l)} {I : σ → Prop} {R : Fl τ l → Prop} (h : RunT b fun r => ∃ s', r = .nx s' ∧ I s') (hk : ∀ s, I s → RunT (k s) R) : RunT (Dl.sJ b k) R := by
  unfold Dl.sJ
  refine h.bnd fun r hr => ?_
  obtain ⟨s', rfl, hs⟩ := hr
  exact hk s' hs
/-- what a list of texts came to -/
theorem strs_of {P : Str → Prop} : ∀ {ys : List PyData}, (∀ y ∈ ys, ∃ z, y = .str z ∧ P z) → ∃ zs : List Str, ys = zs.map .str ∧ zs.length = ys.length ∧ ∀ z ∈ zs, P z
  | [], _ => ⟨[], rfl, rfl, fun _ h => nomatch h⟩
  | y :: r, h => by
    obtain ⟨z, rfl, hz⟩ := h y List.mem_cons_self
    obtain ⟨zs, rfl, hl, hp⟩ := strs_of fun x hx => h x (List.mem_cons_of_mem _ hx)
    refine ⟨z :: zs, rfl, by simp, fun w hw => ?_⟩
    rcases List.mem_cons.mp hw with e | hw
    · rw [e]; exact hz
    · exact hp w hw
theorem tS_f (zs : List Str) : PyData.tuple (zs.map .str) = tS zs := rfl
theorem tS_0 : PyData.tuple [] = tS [] := rfl
theorem tS_1 (z : Str) : PyData.tuple [.str z] = tS [z] := rfl
theorem tS_2 (y z : Str) : PyData.tuple [.str y, .str z] = tS [y, z] := rfl
theorem tS_3 (x y z : Str) : PyData.tuple [.str x, .str y, .str z] = tS [x, y, z] := rfl
theorem gLen_tS (xs : List Str) : gLen [tS xs] = some (.int xs.length) := by
  show some (PyData.int _) = _
  rw [List.length_map]
theorem gAdd_tS {xs ys : List Str} (h : xs.length + ys.length ≤ 1000000) : gAdd (tS xs) (tS ys) = some (tS (xs ++ ys)) := by
  unfold tS
  rw [gAdd_t (by rw [List.length_map, List.length_map]; exact h), List.map_append]
theorem cutG_map {α β : Type} (f : α → β) (xs : List α) (lo hi : Option Int) : cutG (xs.map f) lo hi = (cutG xs lo hi).map f := by
  unfold cutG
  rw [List.length_map, List.map_take, List.map_drop]
theorem gSl_tS (xs : List Str) (a b : Option Int) : gSl (tS xs) a b = some (tS (cutG xs a b)) := by
  unfold tS
  rw [gSl_t, cutG_map]
section
variable {S : Type}
theorem eLC_u (xs : EM S (List PyData)) (f : PyData → EM S (Option PyData)) : eLC xs f = Dl.bnd xs fun l => eLc f l [] := rfl
theorem stepE_t (d : EM S PyData) : stepE (eV true) d = Dl.bnd d fun y => eV (some y) := rfl
theorem extL_l {xs ys : List PyData} (h : xs.length + ys.length ≤ 1000000) : (extL xs (eV (.list ys)) : EM S (List PyData)) = eV (xs ++ ys) := by
  show (if xs.length + ys.length ≤ lenB then _ else _) = _
  exact if_pos h
theorem extL_t {xs ys : List PyData} (h : xs.length + ys.length ≤ 1000000) : (extL xs (eV (.tuple ys)) : EM S (List PyData)) = eV (xs ++ ys) := by
  show (if xs.length + ys.length ≤ lenB then _ else _) = _
  exact if_pos h
theorem extL_bnd {α : Type} {xs : List PyData} {m : EM S α} {f : α → EM S PyData} : (extL xs (Dl.bnd m f) : EM S (List PyData)) = Dl.bnd m fun a => extL xs (f a) := bnd_assoc _ _ _
end
theorem cutG_from1 {α : Type} (a : α) (r : List α) : cutG (a :: r) (some 1) none = r := by
  unfold cutG HT.sIx
  simp
theorem cutG_nat {α : Type} (xs : List α) (a b : Nat) : cutG xs (some (a : Int)) (some (b : Int)) = (xs.drop (min a xs.length)).take (min b xs.length - min a xs.length) := by
  unfold cutG
  rw [HT.sIx_nat, HT.sIx_nat]
theorem cutG_to {α : Type} (xs : List α) (b : Nat) : cutG xs none (some (b : Int)) = xs.take b := by
  unfold cutG
  rw [HT.sIx_nat, HT.sIx_none, List.drop_zero, Nat.sub_zero]
  rcases Nat.le_total b xs.length with h | h
  · rw [Nat.min_eq_left h]
  · rw [Nat.min_eq_right h, List.take_of_length_le (Nat.le_refl _), List.take_of_length_le h]
theorem cutG_fr {α : Type} (xs : List α) (a : Nat) : cutG xs (some (a : Int)) none = xs.drop a := by
  unfold cutG
  rw [HT.sIx_nat, HT.sIx_none]
  rcases Nat.le_total a xs.length with h | h
  · rw [Nat.min_eq_left h, List.take_of_length_le]
    rw [List.length_drop]; exact Nat.le_refl _
  · rw [Nat.min_eq_right h, List.drop_eq_nil_of_le (Nat.le_refl _), List.drop_eq_nil_of_le h]; simp
theorem cutG_sub {α : Type} (xs : List α) (a b : Option Int) : (cutG xs a b).Sublist xs := (List.take_sublist _ _).trans (List.drop_sublist _ _)
theorem cutG_len_le {α : Type} (xs : List α) (a b : Nat) : (cutG xs (some (a : Int)) (some ((a : Int) + b))).length ≤ b := by
  rw [show ((a : Int) + b) = ((a + b : Nat) : Int) by simp, cutG_nat, List.length_take]
  omega
end L2.Dl

namespace L2.Dl
open PySem
open PySem.Spec
open PyProof.Rows
def hk (a : Int) (o n : List Str) : PyData := .tuple [.int a, tS o, tS n]
theorem hk_0 (a : Int) (o n : List Str) : gIx (hk a o n) (.int 0) = some (.int a) := gIx_0 _ _
theorem hk_1 (a : Int) (o n : List Str) : gIx (hk a o n) (.int 1) = some (tS o) := gIx_1 _ _ _
theorem hk_2 (a : Int) (o n : List Str) : gIx (hk a o n) (.int 2) = some (tS n) := gIx_2 _ _ _ _
theorem hk_f (a : Int) (o n : List Str) : PyData.tuple [.int a, tS o, tS n] = hk a o n := rfl
theorem up3_hk {S β : Type} (a : Int) (o n : List Str) (k : PyData → PyData → PyData → EM S β) : up3 (hk a o n) k = k (.int a) (tS o) (tS n) := rfl
structure HkOk (a : Int) (o n : List Str) : Prop where
  a : a.natAbs ≤ 10 ^ 62
  ol : o.length ≤ 20
  nl : n.length ≤ 20
  ot : ∀ z ∈ o, tx z = true
  nt : ∀ z ∈ n, tx z = true
theorem rok_hk {a : Int} {o n : List Str} (ha : a.natAbs ≤ 10 ^ 63) (h1 : o.length ≤ 20) (h2 : n.length ≤ 20) (h3 : ∀ z ∈ o, tx z = true) (h4 : ∀ z ∈ n, tx z = true) : ROk 30000 2 (hk a o n) := by
  refine (rok_tup3 (n := 9000) (d := 1) ((rok_int (log_small (k := 1000) (Nat.lt_of_le_of_lt ha (by decide)) (by decide))).mono (by decide) (by decide)) ((rok_tS (fun z hz => tx_b (h3 z hz)) h1).mono (by decide) (by decide)) ((rok_tS (fun z hz => tx_b (h4 z hz)) h2).mono (by decide) (by decide))).mono (by decide) (by decide)
theorem HkOk.r {a : Int} {o n : List Str} (h : HkOk a o n) : ROk 30000 2 (hk a o n) := rok_hk (Nat.le_trans h.a (by decide)) h.ol h.nl h.ot h.nt
theorem HkOk.m {a : Int} {o n : List Str} (h : HkOk a o n) {m : Int} (hm : m.natAbs ≤ 1000) : ROk 30000 2 (hk (a + m) o n) := rok_hk (by have := h.a; omega) h.ol h.nl h.ot h.nt
theorem rok_s {z : Str} (h : txB 20 z = true) : ROk 300 0 (.str z) := (rok_str h).mono (by decide) (Nat.le_refl _)
theorem gIxL_2 (a b c : PyData) (r : List PyData) : gIx (.list (a :: b :: c :: r)) (.int 2) = some c := by unfold gIx; exact atI_nat (j := 2) rfl
theorem gIxL_3 (a b c d : PyData) (r : List PyData) : gIx (.list (a :: b :: c :: d :: r)) (.int 3) = some d := by unfold gIx; exact atI_nat (j := 3) rfl
theorem gNe_same {xs : List Str} (h : ∀ z ∈ xs, tx z = true) : gNe (tS xs) (tS xs) = some (.bool false) := by
  rw [gNe_tS h h, SeqAt.eqv_refl (tS xs) (lay_tS h)]
  rfl
/-- a text, its hunk's rows amid -/
theorem cut_mid {α : Type} (A o Z : List α) : cutG (A ++ o ++ Z) (some (A.length : Int)) (some ((A.length : Int) + (o.length : Int))) = o := by
  rw [show ((A.length : Int) + (o.length : Int)) = ((A.length + o.length : Nat) : Int) by simp, cutG_nat, List.length_append, List.length_append, Nat.min_eq_left (by omega), Nat.min_eq_left (by omega), List.append_assoc, List.drop_left, Nat.add_sub_cancel_left, List.take_left]
theorem cut_to {α : Type} (A o Z : List α) : cutG (A ++ o ++ Z) none (some (A.length : Int)) = A := by
  rw [cutG_to, List.append_assoc, List.take_left]
theorem cut_from {α : Type} (A o Z : List α) : cutG (A ++ o ++ Z) (some ((A.length : Int) + (o.length : Int))) none = Z := by
  rw [show ((A.length : Int) + (o.length : Int)) = (((A ++ o).length : Nat) : Int) by simp, cutG_fr, List.drop_left]
/-- what is cut out stands amid -/
theorem cut_split {α : Type} (xs : List α) (a k : Nat) (h : a ≤ xs.length) : ∃ A Z : List α, xs = A ++ cutG xs (some (a : Int)) (some ((a : Int) + (k : Int))) ++ Z ∧ A.length = a := by
  have e : cutG xs (some (a : Int)) (some ((a : Int) + (k : Int))) = (xs.drop a).take (min (a + k) xs.length - a) := by
    rw [show ((a : Int) + (k : Int)) = ((a + k : Nat) : Int) by simp, cutG_nat, Nat.min_eq_left h]
  refine ⟨xs.take a, (xs.drop a).drop (min (a + k) xs.length - a), ?_, by rw [List.length_take]; omega⟩
  rw [e, List.append_assoc, List.take_append_drop, List.take_append_drop]
end L2.Dl

namespace L2.Dl
open PySem
open PySem.Spec
open PyProof.Rows
mutual
def okE : PyData → Bool
  | .none => true
  | .int _ => true
  | .bool _ => false
  | .dict _ => false
  | .str x => (PyData.str x).canLay0
  | .list xs => okEs xs
  | .tuple xs => okEs xs
def okEs : List PyData → Bool
  | [] => true
  | x :: r => okE x && okEs r
end
mutual
theorem okE_lay : ∀ x : PyData, okE x = true → x.canLay0 = true
  | .none, _ => rfl
  | .int _, _ => rfl
  | .bool _, h => by cases h
  | .dict _, h => by cases h
  | .str x, h => h
  | .list xs, h => okEs_lay xs h
  | .tuple xs, h => okEs_lay xs h
theorem okEs_lay : ∀ xs : List PyData, okEs xs = true → PyData.canLayAll0 xs = true
  | [], _ => rfl
  | x :: r, h => by
    have h := Bool.and_eq_true_iff.mp (show (okE x && okEs r) = true from h)
    show (x.canLay0 && PyData.canLayAll0 r) = true
    rw [okE_lay x h.1, okEs_lay r h.2]; rfl
end
mutual
theorem eqv_eq : ∀ x y : PyData, okE x = true → okE y = true → PyData.eqv x y = true → x = y
  | .none, y, _, hy, h => by
    cases y <;> first | rfl | (simp only [PyData.eqv] at h; cases h)
  | .int i, y, _, hy, h => by
    cases y with
    | int j => simp only [PyData.eqv] at h; rw [eq_of_beq h]
    | bool b => cases hy
    | _ => simp only [PyData.eqv] at h; cases h
  | .bool _, _, hx, _, _ => by cases hx
  | .dict _, _, hx, _, _ => by cases hx
  | .str s, y, _, hy, h => by
    cases y with
    | str t => simp only [PyData.eqv] at h; rw [eq_of_beq h]
    | _ => simp only [PyData.eqv] at h; cases h
  | .list xs, y, hx, hy, h => by
    cases y with
    | list ys => simp only [PyData.eqv] at h; rw [eqvs_eq xs ys hx hy h]
    | _ => simp only [PyData.eqv] at h; cases h
  | .tuple xs, y, hx, hy, h => by
    cases y with
    | tuple ys => simp only [PyData.eqv] at h; rw [eqvs_eq xs ys hx hy h]
    | _ => simp only [PyData.eqv] at h; cases h
theorem eqvs_eq : ∀ xs ys : List PyData, okEs xs = true → okEs ys = true → PyData.eqvAll xs ys = true → xs = ys
  | [], [], _, _, _ => rfl
  | [], _ :: _, _, _, h => by simp only [PyData.eqvAll] at h; cases h
  | _ :: _, [], _, _, h => by simp only [PyData.eqvAll] at h; cases h
  | x :: r, y :: q, hx, hy, h => by
    have hx := Bool.and_eq_true_iff.mp (show (okE x && okEs r) = true from hx)
    have hy := Bool.and_eq_true_iff.mp (show (okE y && okEs q) = true from hy)
    simp only [PyData.eqvAll] at h
    have h := Bool.and_eq_true_iff.mp h
    rw [eqv_eq x y hx.1 hy.1 h.1, eqvs_eq r q hx.2 hy.2 h.2]
end
open Classical in
noncomputable def dq (x y : PyData) : Bool := decide (x = y)
open Classical in
theorem dq_self (x : PyData) : dq x x = true := decide_eq_true rfl
open Classical in
theorem dq_ne {x y : PyData} (h : x ≠ y) : dq x y = false := decide_eq_false h
theorem dq_iff {x y : PyData} {p : Prop} [Decidable p] (h : x = y ↔ p) : dq x y = decide p := by
  by_cases hp : p
  · rw [decide_eq_true hp, h.mpr hp, dq_self]
  · rw [decide_eq_false hp, dq_ne fun e => hp (h.mp e)]
theorem dec_beqS (a b : Str) : decide (a = b) = (a == b) := by
  by_cases h : a = b
  · subst h; simp
  · simp [h]
theorem dec_beqI (a b : Int) : decide (a = b) = (a == b) := by
  by_cases h : a = b
  · subst h; simp
  · simp [h]
theorem eqv_dq {x y : PyData} (hx : okE x = true) (hy : okE y = true) : PyData.eqv x y = dq x y := by
  by_cases h : x = y
  · subst h; rw [dq_self, SeqAt.eqv_refl x (okE_lay x hx)]
  · rw [dq_ne h]
    exact Bool.eq_false_iff.mpr fun e => h (eqv_eq x y hx hy e)
/-- data that may be shown, in n signs at most, of depth d at most, and compared -/
structure Ck (n d : Nat) (x : PyData) : Prop where
  r : ROk n d x
  e : okE x = true
theorem Ck.mono {n m d e : Nat} {x : PyData} (h : Ck n d x) (h1 : n ≤ m) (h2 : d ≤ e) : Ck m e x := ⟨h.r.mono h1 h2, h.e⟩
theorem Ck.up {n m d e : Nat} {x : PyData} (h : Ck n d x) (h1 : Nat.ble n m = true) (h2 : Nat.ble d e = true) : Ck m e x := h.mono (Nat.le_of_ble_eq_true h1) (Nat.le_of_ble_eq_true h2)
theorem ck_all {n d : Nat} : ∀ {xs : List PyData}, (∀ x ∈ xs, Ck n d x) → okEs xs = true
  | [], _ => rfl
  | x :: r, h => by
    show (okE x && okEs r) = true
    rw [(h x List.mem_cons_self).e, ck_all fun y hy => h y (List.mem_cons_of_mem _ hy)]; rfl
theorem ck_tup {n d : Nat} {xs : List PyData} (h : ∀ x ∈ xs, Ck n d x) : Ck ((n + 2) * xs.length + 3) (d + 1) (.tuple xs) := ⟨rok_tup fun x hx => (h x hx).r, ck_all h⟩
theorem ck_lst {n d : Nat} {xs : List PyData} (h : ∀ x ∈ xs, Ck n d x) : Ck ((n + 2) * xs.length + 3) (d + 1) (.list xs) := ⟨rok_lst fun x hx => (h x hx).r, ck_all h⟩
theorem ck_tupk {n d : Nat} (k : Nat) {xs : List PyData} (h : ∀ x ∈ xs, Ck n d x) (hk : xs.length ≤ k) : Ck ((n + 2) * k + 3) (d + 1) (.tuple xs) := (ck_tup h).mono (Nat.add_le_add_right (Nat.mul_le_mul_left _ hk) 3) (Nat.le_refl _)
theorem ck_lstk {n d : Nat} (k : Nat) {xs : List PyData} (h : ∀ x ∈ xs, Ck n d x) (hk : xs.length ≤ k) : Ck ((n + 2) * k + 3) (d + 1) (.list xs) := (ck_lst h).mono (Nat.add_le_add_right (Nat.mul_le_mul_left _ hk) 3) (Nat.le_refl _)
theorem ck1 {n d : Nat} {a : PyData} (h1 : Ck n d a) : Ck (n + 5) (d + 1) (.tuple [a]) := ⟨rok_tup1 h1.r, ck_all (n := n) (d := d) (xs := [a]) fun x hx => by rw [List.mem_singleton.mp hx]; exact h1⟩
theorem ck2 {n d : Nat} {a b : PyData} (h1 : Ck n d a) (h2 : Ck n d b) : Ck (n * 2 + 7) (d + 1) (.tuple [a, b]) := ⟨rok_tup2 h1.r h2.r, by
  show (okE a && (okE b && true)) = true
  rw [h1.e, h2.e]; rfl⟩
theorem ck3 {n d : Nat} {a b c : PyData} (h1 : Ck n d a) (h2 : Ck n d b) (h3 : Ck n d c) : Ck (n * 3 + 9) (d + 1) (.tuple [a, b, c]) := ⟨rok_tup3 h1.r h2.r h3.r, by
  show (okE a && (okE b && (okE c && true))) = true
  rw [h1.e, h2.e, h3.e]; rfl⟩
theorem ck_int {i : Int} (h : i.natAbs < 2 ^ 1000) : Ck 1921 0 (.int i) := ⟨rok_int (log_small h (by decide)), rfl⟩
theorem ck_none : Ck 10 0 .none := ⟨rok_none, rfl⟩
theorem ck_str {z : Str} {n : Nat} (h : txB n z = true) (k : (PyData.str z).canLay0 = true) : Ck (10 * n + 2) 0 (.str z) := ⟨rok_str h, k⟩
theorem tx_o {z : Str} (h : tx z = true) : (PyData.str z).canLay0 = true := tx_c h
theorem ck_tx {z : Str} (h : tx z = true) : Ck 202 0 (.str z) := ck_str (tx_b h) (tx_o h)
theorem ck_tS {xs : List Str} {k : Nat} (h : ∀ z ∈ xs, tx z = true) (hl : xs.length ≤ k) : Ck (204 * k + 3) 1 (tS xs) := by
  refine ck_tupk k (n := 202) (d := 0) (fun x hx => ?_) (by rw [List.length_map]; exact hl)
  obtain ⟨z, hz, rfl⟩ := List.mem_map.mp hx
  exact ck_tx (h z hz)
theorem Ck.repr {n d : Nat} {x : PyData} (h : Ck n d x) (h1 : Nat.ble n 1000000 = true) (h2 : Nat.ble d 100 = true) : gRepr [x] = some (.str x.shown) := h.r.repr (Nat.le_of_ble_eq_true h1) (Nat.le_of_ble_eq_true h2)
theorem Ck.shaped {n d : Nat} {x : PyData} (h : Ck n d x) (h2 : d ≤ 64) : SeqAt.shaped x = true := by
  unfold SeqAt.shaped
  rw [okE_lay x h.e]
  exact decide_eq_true (Nat.le_trans h.r.dp h2)
theorem gEq_g {x y : PyData} (h1 : SeqAt.shaped x = true) (h2 : SeqAt.shaped y = true) : gEq x y = some (.bool (PyData.eqv x y)) := by
  unfold gEq
  split
  · simp only [PyData.eqv]
    rw [dec_beqS]
  · simp only [PyData.eqv]
    rw [dec_beqI]
  · rw [h1, h2]; rfl
theorem gNe_g {x y : PyData} (h1 : SeqAt.shaped x = true) (h2 : SeqAt.shaped y = true) : gNe x y = some (.bool (!PyData.eqv x y)) := by
  unfold gNe
  split
  · simp only [PyData.eqv]
    rw [dec_beqS]
  · simp only [PyData.eqv]
    rw [dec_beqI]
  · rw [h1, h2]; rfl
theorem gEq_ck {n d m e : Nat} {x y : PyData} (h1 : Ck n d x) (h2 : Ck m e y) (hd : Nat.ble d 64 = true) (he : Nat.ble e 64 = true) : gEq x y = some (.bool (dq x y)) := by
  rw [gEq_g (h1.shaped (Nat.le_of_ble_eq_true hd)) (h2.shaped (Nat.le_of_ble_eq_true he)), eqv_dq h1.e h2.e]
theorem gNe_ck {n d m e : Nat} {x y : PyData} (h1 : Ck n d x) (h2 : Ck m e y) (hd : Nat.ble d 64 = true) (he : Nat.ble e 64 = true) : gNe x y = some (.bool (!dq x y)) := by
  rw [gNe_g (h1.shaped (Nat.le_of_ble_eq_true hd)) (h2.shaped (Nat.le_of_ble_eq_true he)), eqv_dq h1.e h2.e]
theorem any_dq {x : PyData} (hx : okE x = true) : ∀ {ys : List PyData}, okEs ys = true → (ys.any fun z => PyData.eqv z x) = ys.any fun z => dq z x
  | [], _ => rfl
  | y :: r, h => by
    have h := Bool.and_eq_true_iff.mp (show (okE y && okEs r) = true from h)
    rw [List.any_cons, List.any_cons, eqv_dq h.1 hx, any_dq hx h.2]
theorem gInT_ck {n d m e : Nat} {x : PyData} {ys : List PyData} (h1 : Ck n d x) (h2 : Ck m e (.tuple ys)) (hd : Nat.ble d 64 = true) (he : Nat.ble e 64 = true) : gInB x (.tuple ys) = some (ys.any fun z => dq z x) := by
  have h : gInB x (.tuple ys) = gInT x (.tuple ys) := by cases x <;> rfl
  rw [h]
  unfold gInT
  rw [h1.shaped (Nat.le_of_ble_eq_true hd), h2.shaped (Nat.le_of_ble_eq_true he)]
  show some (ys.any fun z => PyData.eqv z x) = _
  rw [any_dq h1.e (show okEs ys = true from h2.e)]
theorem gInL_ck {n d m e : Nat} {x : PyData} {ys : List PyData} (h1 : Ck n d x) (h2 : Ck m e (.list ys)) (hd : Nat.ble d 64 = true) (he : Nat.ble e 64 = true) : gInB x (.list ys) = some (ys.any fun z => dq z x) := by
  have h : gInB x (.list ys) = gInT x (.list ys) := by cases x <;> rfl
  rw [h]
  unfold gInT
  rw [h1.shaped (Nat.le_of_ble_eq_true hd), h2.shaped (Nat.le_of_ble_eq_true he)]
  show some (ys.any fun z => PyData.eqv z x) = _
  rw [any_dq h1.e (show okEs ys = true from h2.e)]
theorem gIn_ck {n d m e : Nat} {x : PyData} {ys : List PyData} (h1 : Ck n d x) (h2 : Ck m e (.tuple ys)) (hd : Nat.ble d 64 = true) (he : Nat.ble e 64 = true) : gIn x (.tuple ys) = some (.bool (ys.any fun z => dq z x)) := by
  unfold gIn
  rw [gInT_ck h1 h2 hd he]; rfl
theorem gNotIn_ck {n d m e : Nat} {x : PyData} {ys : List PyData} (h1 : Ck n d x) (h2 : Ck m e (.tuple ys)) (hd : Nat.ble d 64 = true) (he : Nat.ble e 64 = true) : gNotIn x (.tuple ys) = some (.bool (!ys.any fun z => dq z x)) := by
  unfold gNotIn
  rw [gInT_ck h1 h2 hd he]; rfl
theorem gIn_ckL {n d m e : Nat} {x : PyData} {ys : List PyData} (h1 : Ck n d x) (h2 : Ck m e (.list ys)) (hd : Nat.ble d 64 = true) (he : Nat.ble e 64 = true) : gIn x (.list ys) = some (.bool (ys.any fun z => dq z x)) := by
  unfold gIn
  rw [gInL_ck h1 h2 hd he]; rfl
theorem gNotIn_ckL {n d m e : Nat} {x : PyData} {ys : List PyData} (h1 : Ck n d x) (h2 : Ck m e (.list ys)) (hd : Nat.ble d 64 = true) (he : Nat.ble e 64 = true) : gNotIn x (.list ys) = some (.bool (!ys.any fun z => dq z x)) := by
  unfold gNotIn
  rw [gInL_ck h1 h2 hd he]; rfl
theorem tS_inj {xs ys : List Str} : tS xs = tS ys ↔ xs = ys := by
  unfold tS
  rw [PyData.tuple.injEq]
  exact ⟨fun h => (List.map_inj_right (fun _ _ e => by cases e; rfl)).mp h, fun h => by rw [h]⟩
theorem dq_tS (xs ys : List Str) : dq (tS xs) (tS ys) = decide (xs = ys) := dq_iff tS_inj
structure Hk where
  a : Int
  o : List Str
  n : List Str
deriving DecidableEq
def eH (h : Hk) : PyData := hk h.a h.o h.n
def tH (hs : List Hk) : PyData := .tuple (hs.map eH)
theorem eH_mk (a : Int) (o n : List Str) : hk a o n = eH ⟨a, o, n⟩ := rfl
theorem eH_inj {h k : Hk} : eH h = eH k ↔ h = k := by
  cases h; cases k
  unfold eH hk
  simp only [PyData.tuple.injEq, List.cons.injEq, PyData.int.injEq, tS_inj, and_true, Hk.mk.injEq]
theorem tH_inj {xs ys : List Hk} : tH xs = tH ys ↔ xs = ys := by
  unfold tH
  rw [PyData.tuple.injEq]
  exact ⟨fun h => (List.map_inj_right (fun _ _ e => eH_inj.mp e)).mp h, fun h => by rw [h]⟩
theorem dq_eH (h k : Hk) : dq (eH h) (eH k) = decide (h = k) := dq_iff eH_inj
theorem dq_tH (xs ys : List Hk) : dq (tH xs) (tH ys) = decide (xs = ys) := dq_iff tH_inj
/-- a hunk of at most k rows each -/
structure Hv (k : Nat) (h : Hk) : Prop where
  a0 : 0 ≤ h.a
  a1 : h.a ≤ 10 ^ 62
  ol : h.o.length ≤ k
  nl : h.n.length ≤ k
  ot : ∀ z ∈ h.o, tx z = true
  nt : ∀ z ∈ h.n, tx z = true
theorem ck_hk {a : Int} {o n : List Str} (k : Nat) (ha : a.natAbs ≤ 10 ^ 63) (h1 : o.length ≤ k) (h2 : n.length ≤ k) (h3 : ∀ z ∈ o, tx z = true) (h4 : ∀ z ∈ n, tx z = true) : Ck ((204 * k + 1924) * 3 + 9) 2 (hk a o n) :=
  ck3 (n := 204 * k + 1924) (d := 1) ((ck_int (Nat.lt_of_le_of_lt ha (by decide))).mono (by omega) (by decide)) ((ck_tS h3 h1).mono (by omega) (by decide)) ((ck_tS h4 h2).mono (by omega) (by decide))
theorem Hv.ck {k : Nat} {h : Hk} (v : Hv k h) : Ck ((204 * k + 1924) * 3 + 9) 2 (eH h) := by
  refine ck_hk k ?_ v.ol v.nl v.ot v.nt
  have := v.a0
  have := v.a1
  omega
theorem ck_tH {k j : Nat} {hs : List Hk} (v : ∀ h ∈ hs, Hv k h) (hl : hs.length ≤ j) : Ck (((204 * k + 1924) * 3 + 11) * j + 3) 3 (tH hs) := by
  refine ck_tupk j (fun x hx => ?_) (by rw [List.length_map]; exact hl)
  obtain ⟨h, hh, rfl⟩ := List.mem_map.mp hx
  exact (v h hh).ck
section
variable {S α β σ l : Type}
theorem lc_map {f : PyData → EM S (Option PyData)} {e : α → PyData} {g : α → PyData} : ∀ {xs : List α} {acc : List PyData}, (∀ x ∈ xs, f (e x) = eV (some (g x))) → acc.length + xs.length ≤ 1000000 → eLc f (xs.map e) acc = eV (acc ++ xs.map g)
  | [], acc, _, _ => by rw [List.map_nil, List.map_nil, List.append_nil]; rfl
  | x :: r, acc, h, hl => by
    rw [List.length_cons] at hl
    rw [List.map_cons]
    unfold eLc
    rw [h x List.mem_cons_self, shut_V, bnd_V]
    simp only []
    rw [if_pos (show acc.length < 1000000 by omega), lc_map (fun y hy => h y (List.mem_cons_of_mem _ hy)) (by rw [List.length_append]; simp only [List.length_cons, List.length_nil]; omega), List.append_assoc]
    rfl
theorem lc_filter {f : PyData → EM S (Option PyData)} {e : α → PyData} {p : α → Bool} {g : α → PyData} : ∀ {xs : List α} {acc : List PyData}, (∀ x ∈ xs, f (e x) = eV (if p x = true then some (g x) else none)) → acc.length + xs.length ≤ 1000000 → eLc f (xs.map e) acc = eV (acc ++ (xs.filter p).map g)
  | [], acc, _, _ => by rw [List.map_nil, List.filter_nil, List.map_nil, List.append_nil]; rfl
  | x :: r, acc, h, hl => by
    rw [List.length_cons] at hl
    rw [List.map_cons]
    unfold eLc
    rw [h x List.mem_cons_self, shut_V, bnd_V]
    by_cases hp : p x = true
    · rw [if_pos hp]
      simp only []
      rw [if_pos (show acc.length < 1000000 by omega), lc_filter (fun y hy => h y (List.mem_cons_of_mem _ hy)) (by rw [List.length_append]; simp only [List.length_cons, List.length_nil]; omega), List.append_assoc, List.filter_cons_of_pos hp]
      rfl
    · rw [if_neg hp]
      simp only []
      rw [lc_filter (fun y hy => h y (List.mem_cons_of_mem _ hy)) (by omega), List.filter_cons_of_neg hp]
theorem rangeL_map (i : Int) (n : Nat) : rangeL i n = (List.range n).map fun (j : Nat) => PyData.int (i + (j : Int)) := rfl
/-- an element by element of a list that is at hand -/
theorem lc_range {f : PyData → EM S (Option PyData)} {g : Nat → PyData} {i : Int} {n : Nat} (h : ∀ j, j < n → f (.int (i + (j : Int))) = eV (some (g j))) (hn : n ≤ 1000000) : eLc f (rangeL i n) [] = eV ((List.range n).map g) := by
  rw [rangeL_map, lc_map (α := Nat) (e := fun (j : Nat) => PyData.int (i + (j : Int))) (g := g) (fun x hx => h x (List.mem_range.mp hx)) (by rw [List.length_range]; show 0 + n ≤ _; omega)]
  rfl
/-- a walk that goes through to its end -/
theorem for_fold {b : PyData → σ → EM S (Fl σ σ)} {e : α → PyData} {step : σ → α → σ} : ∀ {xs : List α} {s : σ}, (∀ x ∈ xs, ∀ s, b (e x) s = eV (.nx (step s x))) → (eFor b (xs.map e) s : EM S (Fl σ l)) = eV (.nx (xs.foldl step s))
  | [], s, _ => rfl
  | x :: r, s, h => by
    rw [List.map_cons]
    unfold eFor
    rw [h x List.mem_cons_self s, bnd_V]
    exact for_fold fun y hy => h y (List.mem_cons_of_mem _ hy)
/-- a walk in which each turn goes on, or tells -/
theorem for_until {b : PyData → σ → EM S (Fl σ σ)} {e : α → PyData} {step : σ → α → Except PyData σ} : ∀ {xs : List α} {s : σ}, (∀ x ∈ xs, ∀ s, b (e x) s = match step s x with | .ok s' => eV (.nx s') | .error v => eV (.rt v)) →
    (eFor b (xs.map e) s : EM S (Fl σ l)) = match xs.foldlM step s with | .ok s' => eV (.nx s') | .error v => eV (.rt v)
  | [], s, _ => rfl
  | x :: r, s, h => by
    rw [List.map_cons, List.foldlM_cons]
    unfold eFor
    rw [h x List.mem_cons_self s]
    cases step s x with
    | ok s' =>
      rw [bnd_V]
      exact for_until fun y hy => h y (List.mem_cons_of_mem _ hy)
    | error v => rfl
/-- the state stays; a turn that finds what it seeks tells it -/
theorem for_none {b : PyData → Unit → EM S (Fl Unit Unit)} {xs : List PyData} (h : ∀ x ∈ xs, b x () = eV (.nx ())) : (eFor b xs () : EM S (Fl Unit l)) = eV (.nx ()) := by
  induction xs with
  | nil => rfl
  | cons x r ih =>
    unfold eFor
    rw [h x List.mem_cons_self, bnd_V]
    exact ih fun y hy => h y (List.mem_cons_of_mem _ hy)
theorem for_any {b : PyData → Unit → EM S (Fl Unit Unit)} {e : α → PyData} {p : α → Bool} {v : PyData} : ∀ {xs : List α}, (∀ x ∈ xs, b (e x) () = if p x = true then eV (.rt v) else eV (.nx ())) → (eFor b (xs.map e) () : EM S (Fl Unit l)) = if xs.any p = true then eV (.rt v) else eV (.nx ())
  | [], _ => rfl
  | x :: r, h => by
    rw [List.map_cons]
    unfold eFor
    rw [h x List.mem_cons_self, List.any_cons]
    by_cases hp : p x = true
    · rw [if_pos hp, hp]; rfl
    · rw [if_neg hp, Bool.eq_false_iff.mpr hp, bnd_V]
      exact for_any fun y hy => h y (List.mem_cons_of_mem _ hy)
theorem eTryS_V {τ : Type} {ca : Str → Option Bool} {b : EM S (Fl τ l)} {x : τ} {h : EM S (Fl σ l)} {u : τ → EM S (Fl σ l)} (e : b = eV (.nx x)) : eTryS ca b h u = u x := by rw [e]; rfl
theorem eTryS_R {τ : Type} {ca : Str → Option Bool} {b : EM S (Fl τ l)} {x : PyData} {h : EM S (Fl σ l)} {u : τ → EM S (Fl σ l)} (e : b = eV (.rt x)) : eTryS ca b h u = eV (.rt x) := by rw [e]; rfl
theorem eTryS_X {τ : Type} {ca : Str → Option Bool} {b : EM S (Fl τ l)} {x : Ex} {h : EM S (Fl σ l)} {u : τ → EM S (Fl σ l)} (e : b = eX x) (hc : ca x.cls = some true) : eTryS ca b h u = h := by
  rw [e]
  funext s
  show (match ca x.cls with | some true => h s | some false => _ | none => _) = _
  rw [hc]
end
theorem lc_ix {S : Type} {f : PyData → EM S (Option PyData)} {ys : List PyData} {i : Int} {n : Nat} (hn : n = ys.length) (h : ∀ j (hj : j < ys.length), f (.int (i + (j : Int))) = eV (some ys[j])) (hl : ys.length ≤ 1000000) : eLc f (rangeL i n) [] = eV ys := by
  subst hn
  rw [lc_range (g := fun j => ys[j]?.getD .none) (fun j hj => by rw [h j hj, List.getElem?_eq_getElem hj]; rfl) hl]
  congr 1
  refine List.ext_getElem (by simp) fun j h1 h2 => ?_
  rw [List.getElem_map, List.getElem_range, List.getElem?_eq_getElem h2]
  rfl
theorem rangeL_0 (i : Int) : rangeL i 0 = [] := rfl
theorem rangeL_s (i : Int) (n : Nat) : rangeL i (n + 1) = .int i :: rangeL (i + 1) n := by
  unfold rangeL
  rw [List.range_succ_eq_map, List.map_cons, List.map_map]
  congr 1
  · show PyData.int (i + ((0 : Nat) : Int)) = _; rw [show i + ((0 : Nat) : Int) = i by omega]
  · refine List.map_congr_left fun j _ => ?_
    show PyData.int (i + ((j + 1 : Nat) : Int)) = .int (i + 1 + (j : Int))
    congr 1; omega
def strsB (ds : List PyData) : Bool := ds.all fun | .str z => tx z | _ => false
def natsB (k : Nat) (ds : List PyData) : Bool := ds.all fun | .int i => decide (0 ≤ i) && decide (i ≤ k) | _ => false
theorem strsB_mem {ds : List PyData} (h : strsB ds = true) : ∀ x ∈ ds, ∃ z, x = .str z ∧ tx z = true := fun x hx => by
  have := List.all_eq_true.mp h x hx
  split at this
  · exact ⟨_, rfl, this⟩
  · cases this
theorem natsB_mem {k : Nat} {ds : List PyData} (h : natsB k ds = true) : ∀ x ∈ ds, ∃ n : Nat, x = .int (n : Int) ∧ n ≤ k := fun x hx => by
  have := List.all_eq_true.mp h x hx
  split at this
  · rename_i i
    have := Bool.and_eq_true_iff.mp this
    have h1 := of_decide_eq_true this.1
    have h2 := of_decide_eq_true this.2
    obtain ⟨n, rfl⟩ := Int.eq_ofNat_of_zero_le h1
    exact ⟨n, rfl, by omega⟩
  · cases this
theorem RunT.pickS {ds : List PyData} {i : Nat} (h2 : i < ds.length) (q : strsB ds = true) : RunT (Dl.lo (gIx (.list ds) (.int (i : Int)))) fun x => ∃ z, x = .str z ∧ tx z = true := RunT.pick (by omega) (by omega) (strsB_mem q)
theorem RunT.pickN (k : Nat) {ds : List PyData} {i : Nat} (h2 : i < ds.length) (q : natsB k ds = true) : RunT (Dl.lo (gIx (.list ds) (.int (i : Int)))) fun x => ∃ n : Nat, x = .int (n : Int) ∧ n ≤ k := RunT.pick (by omega) (by omega) (natsB_mem q)
theorem RunT.pickT {α : Type} {as : List α} {e : α → PyData} {i : Nat} (h2 : i < as.length) : RunT (Dl.lo (gIx (.list (as.map e)) (.int (i : Int)))) fun x => ∃ a, x = e a ∧ a ∈ as := RunT.pick (by omega) (by rw [List.length_map]; omega) fun x hx => by
  obtain ⟨a, ha, rfl⟩ := List.mem_map.mp hx
  exact ⟨a, rfl, ha⟩
/-- what a list of typed things came to -/
theorem typed_of {α : Type} {e : α → PyData} {P : α → Prop} : ∀ {ys : List PyData}, (∀ y ∈ ys, ∃ a, y = e a ∧ P a) → ∃ as : List α, ys = as.map e ∧ as.length = ys.length ∧ ∀ a ∈ as, P a
  | [], _ => ⟨[], rfl, rfl, fun _ h => nomatch h⟩
  | y :: r, h => by
    obtain ⟨z, rfl, hz⟩ := h y List.mem_cons_self
    obtain ⟨zs, rfl, hl, hp⟩ := typed_of fun x hx => h x (List.mem_cons_of_mem _ hx)
    refine ⟨z :: zs, rfl, by simp, fun w hw => ?_⟩
    rcases List.mem_cons.mp hw with e | hw
    · rw [e]; exact hz
    · exact hp w hw
theorem RunT.lcT {α : Type} (e : α → PyData) {P : α → Prop} {f : PyData → EM DV (Option PyData)} {xs : List PyData} (h : ∀ x ∈ xs, RunT (f x) fun o => ∃ a, o = some (e a) ∧ P a) (hl : xs.length ≤ 1000000) : RunT (eLc f xs []) fun ys => ∃ as : List α, ys = as.map e ∧ as.length = xs.length ∧ ∀ a ∈ as, P a := by
  refine (RunT.lc (P := fun y => ∃ a, y = e a ∧ P a) (fun x hx => (h x hx).mono fun o ho => ?_) (fun y hy => by cases hy) (by show 0 + _ ≤ 1000000; omega)).mono fun ys hys => ?_
  · obtain ⟨a, rfl, ha⟩ := ho
    exact ⟨_, rfl, a, rfl, ha⟩
  · obtain ⟨as, h1, h2, h3⟩ := typed_of hys.2
    exact ⟨as, h1, by rw [h2, hys.1]; show 0 + _ = _; omega, h3⟩
/-- a walk whose state has what is asked, whatever the turns draw -/
theorem RunT.forI {σ l : Type} {b : PyData → σ → EM DV (Fl σ σ)} (I : σ → Prop) {xs : List PyData} {s : σ} (h : ∀ x ∈ xs, ∀ s, I s → RunT (b x s) fun r => ∃ s', r = .nx s' ∧ I s') (hs : I s) : RunT (eFor b xs s : EM DV (Fl σ l)) fun r => ∃ s', r = .nx s' ∧ I s' := RunT.for' h hs
end L2.Dl

namespace L2.Dl
open PySem
open PySem.Spec
open PyProof.Rows
def fitsH (rows : List Str) (h : Hk) : Bool := decide (h.a ≤ (rows.length : Int)) && decide ((rows.drop h.a.toNat).take h.o.length = h.o)
def putH (rows : List Str) (h : Hk) : List Str := rows.take h.a.toNat ++ h.n ++ rows.drop (h.a.toNat + h.o.length)
def doH (rows : List Str) (h : Hk) : Option (List Str) := if fitsH rows h = true then some (putH rows h) else none
/-- the text, or the number of the first that can't be -/
def doAll : List Str → List Hk → Nat → Except Nat (List Str)
  | rows, [], _ => .ok rows
  | rows, h :: r, k => match doH rows h with
    | some t => doAll t r (k + 1)
    | none => .error k
def turnH (h : Hk) : Hk := ⟨h.a, h.n, h.o⟩
def turnsH (hs : List Hk) : List Hk := (hs.map turnH).reverse
theorem fitsH_of {A o Z n : List Str} : fitsH (A ++ o ++ Z) ⟨(A.length : Int), o, n⟩ = true := by
  unfold fitsH
  simp
  omega
theorem putH_of {A o Z n : List Str} : putH (A ++ o ++ Z) ⟨(A.length : Int), o, n⟩ = A ++ n ++ Z := by
  unfold putH
  simp
theorem doH_of {A o Z n : List Str} : doH (A ++ o ++ Z) ⟨(A.length : Int), o, n⟩ = some (A ++ n ++ Z) := by
  unfold doH
  rw [if_pos fitsH_of, putH_of]
/-- what fits stands amid -/
theorem fitsH_split {rows : List Str} {h : Hk} (a0 : 0 ≤ h.a) (f : fitsH rows h = true) : ∃ A Z, rows = A ++ h.o ++ Z ∧ (A.length : Int) = h.a := by
  unfold fitsH at f
  have f := Bool.and_eq_true_iff.mp f
  have f1 := of_decide_eq_true f.1
  have f2 := of_decide_eq_true f.2
  refine ⟨rows.take h.a.toNat, (rows.drop h.a.toNat).drop h.o.length, ?_, ?_⟩
  · conv => rhs; arg 1; arg 2; rw [← f2]
    rw [List.append_assoc, List.take_append_drop, List.take_append_drop]
  · rw [List.length_take]; omega
theorem doH_some {rows t : List Str} {h : Hk} (a0 : 0 ≤ h.a) (e : doH rows h = some t) : ∃ A Z, rows = A ++ h.o ++ Z ∧ t = A ++ h.n ++ Z ∧ (A.length : Int) = h.a := by
  unfold doH at e
  split at e
  · rename_i f
    obtain ⟨A, Z, h1, h2⟩ := fitsH_split a0 f
    refine ⟨A, Z, h1, ?_, h2⟩
    have : h = ⟨(A.length : Int), h.o, h.n⟩ := by rw [h2]
    rw [this, h1, putH_of] at e
    exact (Option.some.inj e).symm
  · cases e
theorem doH_turn {rows t : List Str} {h : Hk} (a0 : 0 ≤ h.a) (e : doH rows h = some t) : doH t (turnH h) = some rows := by
  obtain ⟨A, Z, h1, h2, h3⟩ := doH_some a0 e
  rw [h1, h2]
  unfold turnH
  rw [← h3]
  exact doH_of
theorem cutG_at {α : Type} (xs : List α) (a k : Nat) : cutG xs (some (a : Int)) (some ((a : Int) + (k : Int))) = (xs.drop a).take k := by
  rw [show ((a : Int) + (k : Int)) = ((a + k : Nat) : Int) by simp, cutG_nat]
  rcases Nat.le_total a xs.length with h | h
  · rw [Nat.min_eq_left h]
    rcases Nat.le_total (a + k) xs.length with h2 | h2
    · rw [Nat.min_eq_left h2, Nat.add_sub_cancel_left]
    · rw [Nat.min_eq_right h2, List.take_of_length_le (by rw [List.length_drop]; omega), List.take_of_length_le (by rw [List.length_drop]; omega)]
  · rw [Nat.min_eq_right h, List.drop_eq_nil_of_le (Nat.le_refl _), List.drop_eq_nil_of_le h, List.take_nil, List.take_nil]
/-- row by row -/
theorem fits_rows {rows o : List Str} {a : Nat} : ((List.range o.length).any fun j => decide (rows[a + j]? ≠ o[j]?)) = !decide ((rows.drop a).take o.length = o) := by
  by_cases h : (rows.drop a).take o.length = o
  · rw [decide_eq_true h]
    rw [Bool.not_true, List.any_eq_false]
    intro j hj
    have hj := List.mem_range.mp hj
    have : o[j]? = rows[a + j]? := by
      conv => lhs; rw [← h]
      rw [List.getElem?_take_of_lt hj, List.getElem?_drop]
    simp [this]
  · rw [decide_eq_false h, Bool.not_false, List.any_eq_true]
    by_cases q : ∀ j, j < o.length → rows[a + j]? = o[j]?
    · refine absurd (List.ext_getElem? fun j => ?_) h
      by_cases hj : j < o.length
      · rw [List.getElem?_take_of_lt hj, List.getElem?_drop, q j hj]
      · rw [List.getElem?_eq_none (Nat.le_of_not_lt hj), List.getElem?_eq_none]
        rw [List.length_take]; omega
    · simp only [Classical.not_forall] at q
      obtain ⟨j, hj, e⟩ := q
      exact ⟨j, List.mem_range.mpr hj, decide_eq_true e⟩
theorem gIx_tS {xs : List Str} {i : Nat} (h : i < xs.length) : gIx (tS xs) (.int (i : Int)) = some (.str xs[i]) := by
  unfold tS
  rw [gIx_n (by rw [List.length_map]; exact h), List.getElem_map]
theorem gIx_tH {xs : List Hk} {i : Nat} (h : i < xs.length) : gIx (tH xs) (.int (i : Int)) = some (eH xs[i]) := by
  unfold tH
  rw [gIx_n (by rw [List.length_map]; exact h), List.getElem_map]
theorem gLen_tH (xs : List Hk) : gLen [tH xs] = some (.int xs.length) := by
  show some (PyData.int _) = _
  rw [List.length_map]
theorem gSl_tH (xs : List Hk) (a b : Option Int) : gSl (tH xs) a b = some (tH (cutG xs a b)) := by
  unfold tH
  rw [gSl_t, cutG_map]
theorem gAdd_tH {xs ys : List Hk} (h : xs.length + ys.length ≤ 1000000) : gAdd (tH xs) (tH ys) = some (tH (xs ++ ys)) := by
  unfold tH
  rw [gAdd_t (by rw [List.length_map, List.length_map]; exact h), List.map_append]
theorem tH_0 : PyData.tuple [] = tH [] := rfl
theorem tH_1 (h : Hk) : PyData.tuple [eH h] = tH [h] := rfl
theorem tH_2 (h k : Hk) : PyData.tuple [eH h, eH k] = tH [h, k] := rfl
theorem tH_f (hs : List Hk) : PyData.tuple (hs.map eH) = tH hs := rfl
theorem gRev_tH (xs : List Hk) : gRev (tH xs) = some (tH xs.reverse) := by
  unfold tH
  rw [List.map_reverse]
  rfl
theorem itsE_tS {S : Type} (xs : List Str) : (itsE (tS xs) : EM S (List PyData)) = eV (xs.map .str) := rfl
theorem itsE_tH {S : Type} (xs : List Hk) : (itsE (tH xs) : EM S (List PyData)) = eV (xs.map eH) := rfl
theorem itsL_tH {S : Type} (xs : List Hk) : (itsL (tH xs) : EM S (List PyData)) = eV (xs.map eH) := rfl
theorem eEnum_u {S : Type} (a : EM S PyData) : eEnum a = Dl.bnd (Dl.bnd a itsL) fun xs => eV (enumL 0 xs) := rfl
theorem eH_0 (h : Hk) : gIx (eH h) (.int 0) = some (.int h.a) := hk_0 _ _ _
theorem eH_1 (h : Hk) : gIx (eH h) (.int 1) = some (tS h.o) := hk_1 _ _ _
theorem eH_2 (h : Hk) : gIx (eH h) (.int 2) = some (tS h.n) := hk_2 _ _ _
theorem up3_eH {S β : Type} (h : Hk) (k : PyData → PyData → PyData → EM S β) : up3 (eH h) k = k (.int h.a) (tS h.o) (tS h.n) := rfl
theorem eH_f (a : Int) (o n : List Str) : PyData.tuple [.int a, tS o, tS n] = eH ⟨a, o, n⟩ := rfl
theorem gNotN_tS (xs : List Str) : gNotN (tS xs) .none = some (.bool true) := rfl
theorem gIsN_tS (xs : List Str) : gIsN (tS xs) .none = some (.bool false) := rfl
theorem map_range_get {rows : List Str} {n : Nat} {g : Nat → PyData} (hg : ∀ j (h : j < rows.length), j < n → g j = .str rows[j]) (hn : n ≤ rows.length) : (List.range n).map g = (rows.take n).map .str := by
  refine List.ext_getElem (by simp; omega) fun j h1 h2 => ?_
  simp only [List.length_map, List.length_range] at h1
  rw [List.getElem_map, List.getElem_map, List.getElem_range, List.getElem_take]
  exact hg j (by omega) h1
theorem map_range_from {rows : List Str} {a n : Nat} {g : Nat → PyData} (hg : ∀ j (h : a + j < rows.length), g j = .str rows[a + j]) (hn : n = rows.length - a) : (List.range n).map g = (rows.drop a).map .str := by
  refine List.ext_getElem (by simp; omega) fun j h1 h2 => ?_
  simp only [List.length_map, List.length_range] at h1
  rw [List.getElem_map, List.getElem_map, List.getElem_range, List.getElem_drop]
  exact hg j (by omega)
end L2.Dl
namespace L2.Dl
open PySem
open PySem.Spec
open PyProof.Rows
theorem rng1_n (n : Nat) (h : n < 1000000000) : rng1 [.int (n : Int)] = some (rangeL 0 n) := by
  rw [rng1_i (show inLong (n : Int) = true from decide_eq_true (by omega))]; rfl
theorem rng2_n (a n : Nat) (h : n < 1000000000) (h2 : a < 1000000000) : rng2 [.int (a : Int), .int (n : Int)] = some (rangeL a (n - a)) := by
  rw [rng2_i (show inLong (a : Int) = true from decide_eq_true (by omega)) (show inLong (n : Int) = true from decide_eq_true (by omega))]
  congr 2; omega
theorem appL_v {S : Type} {xs : List PyData} {x : PyData} (h : xs.length < 1000000) : (appL xs (eV x) : EM S (List PyData)) = eV (xs ++ [x]) := by
  rw [appL_u xs _ h]; rfl
end L2.Dl
namespace L2.Dl
open PySem
open PySem.Spec
open PyProof.Rows
theorem doH_tx {rows t : List Str} {h : Hk} (hr : ∀ z ∈ rows, tx z = true) (hn : ∀ z ∈ h.n, tx z = true) (e : doH rows h = some t) : ∀ z ∈ t, tx z = true := fun z hz => by
  unfold doH at e
  split at e
  · cases e
    unfold putH at hz
    simp only [List.mem_append] at hz
    rcases hz with (hz | hz) | hz
    · exact hr z (List.mem_of_mem_take hz)
    · exact hn z hz
    · exact hr z (List.mem_of_mem_drop hz)
  · cases e
theorem doH_len {rows t : List Str} {h : Hk} (e : doH rows h = some t) : t.length ≤ rows.length + h.n.length := by
  unfold doH at e
  split at e
  · cases e
    unfold putH
    simp only [List.length_append, List.length_take, List.length_drop]
    omega
  · cases e
theorem doAll_ok {t : List Str} : ∀ {hs : List Hk} {k : Nat} {rows : List Str}, (∀ z ∈ rows, tx z = true) → (∀ h ∈ hs, Hv 20 h) → doAll rows hs k = .ok t → (∀ z ∈ t, tx z = true) ∧ t.length ≤ rows.length + 20 * hs.length
  | [], k, rows, hr, _, e => by
    cases e
    exact ⟨hr, by simp⟩
  | h :: r, k, rows, hr, hh, e => by
    unfold doAll at e
    cases d : doH rows h with
    | none => rw [d] at e; cases e
    | some u =>
      rw [d] at e
      have v := hh h List.mem_cons_self
      obtain ⟨q1, q2⟩ := doAll_ok (doH_tx hr v.nt d) (fun x hx => hh x (List.mem_cons_of_mem _ hx)) e
      refine ⟨q1, ?_⟩
      have := doH_len d
      have := v.nl
      rw [List.length_cons]
      omega
theorem enumL_cons (k : Nat) (x : PyData) (r : List PyData) : enumL k (x :: r) = .tuple [.int (k : Int), x] :: enumL (k + 1) r := rfl
theorem enumL_nil (k : Nat) : enumL k [] = [] := rfl
end L2.Dl
namespace L2.Dl
open PySem
open PySem.Spec
open PyProof.Rows
theorem doAll_lt : ∀ {hs : List Hk} {rows : List Str} {k j : Nat}, doAll rows hs k = .error j → j < k + hs.length
  | [], rows, k, j, e => by cases e
  | h :: r, rows, k, j, e => by
    unfold doAll at e
    rw [List.length_cons]
    cases d : doH rows h with
    | none => rw [d] at e; cases e; omega
    | some u =>
      rw [d] at e
      have := doAll_lt e
      omega
end L2.Dl
namespace L2.Dl
open PySem
open PySem.Spec
open PyProof.Rows
theorem doAll_app : ∀ {hs ks : List Hk} {rows t : List Str} {k : Nat}, doAll rows hs k = .ok t → doAll rows (hs ++ ks) k = doAll t ks (k + hs.length)
  | [], ks, rows, t, k, e => by cases e; rfl
  | h :: r, ks, rows, t, k, e => by
    unfold doAll at e
    rw [List.cons_append]
    conv => lhs; unfold doAll
    cases d : doH rows h with
    | none => rw [d] at e; cases e
    | some u =>
      rw [d] at e
      simp only []
      rw [doAll_app e, List.length_cons]
      congr 1
      omega
theorem doAll_app_err : ∀ {hs ks : List Hk} {rows : List Str} {k j : Nat}, doAll rows hs k = .error j → doAll rows (hs ++ ks) k = .error j
  | [], ks, rows, k, j, e => by cases e
  | h :: r, ks, rows, k, j, e => by
    unfold doAll at e
    rw [List.cons_append]
    conv => lhs; unfold doAll
    cases d : doH rows h with
    | none => rw [d] at e; exact e
    | some u =>
      rw [d] at e
      exact doAll_app_err e
theorem doAll_shift : ∀ {hs : List Hk} {rows t : List Str} {k j : Nat}, doAll rows hs k = .ok t → doAll rows hs j = .ok t
  | [], rows, t, k, j, e => e
  | h :: r, rows, t, k, j, e => by
    unfold doAll at e ⊢
    cases d : doH rows h with
    | none => rw [d] at e; cases e
    | some u =>
      rw [d] at e
      exact doAll_shift e
theorem doAll_one {rows t : List Str} {h : Hk} {k : Nat} (e : doH rows h = some t) : doAll rows [h] k = .ok t := by
  unfold doAll
  rw [e]
  rfl
/-- a walk that goes through, turn by turn -/
theorem RunT.forN {σ l : Type} {b : PyData → σ → EM DV (Fl σ σ)} (I : Nat → σ → Prop) : ∀ {xs : List PyData} {j : Nat} {s : σ}, (∀ x ∈ xs, ∀ i s, i < j + xs.length → I i s → RunT (b x s) fun r => ∃ s', r = .nx s' ∧ I (i + 1) s') → I j s → RunT (eFor b xs s : EM DV (Fl σ l)) fun r => ∃ s', r = .nx s' ∧ I (j + xs.length) s'
  | [], j, s, _, hs => RunT.V ⟨s, rfl, hs⟩
  | x :: r, j, s, h, hs => by
    unfold eFor
    refine (h x List.mem_cons_self j s (by rw [List.length_cons]; omega) hs).bnd fun o ho => ?_
    obtain ⟨s', rfl, hs'⟩ := ho
    have := RunT.forN (l := l) I (xs := r) (j := j + 1) (s := s') (fun y hy i s hi => h y (List.mem_cons_of_mem _ hy) i s (by rw [List.length_cons]; omega)) hs'
    rw [List.length_cons, show j + (r.length + 1) = j + 1 + r.length by omega]
    exact this
end L2.Dl
namespace L2.Dl
open PySem
open PySem.Spec
open PyProof.Rows
section
variable {h : Hk}
theorem Hv.turn {k : Nat} (v : Hv k h) : Hv k (turnH h) := ⟨v.a0, v.a1, v.nl, v.ol, v.nt, v.ot⟩
theorem ck_a {k : Nat} (v : Hv k h) : Ck 1921 0 (.int h.a) := ck_int (by
  have := v.a0
  have := v.a1
  exact Nat.lt_of_le_of_lt (show h.a.natAbs ≤ 10 ^ 62 by omega) (by decide))
theorem Hv.up {k j : Nat} (v : Hv k h) (hj : k ≤ j) : Hv j h := ⟨v.a0, v.a1, Nat.le_trans v.ol hj, Nat.le_trans v.nl hj, v.ot, v.nt⟩
end
end L2.Dl
namespace L2.Dl
open PySem
open PySem.Spec
open PyProof.Rows
theorem RunT.fn {b : EM DV (Fl Unit Empty)} {Q : PyData → Prop} (h : RunT b fun r => ∃ x, r = .rt x ∧ Q x) : RunT (fnE b) Q := by
  unfold fnE
  refine h.bnd fun r hr => ?_
  obtain ⟨x, rfl, hx⟩ := hr
  exact RunT.V hx
end L2.Dl
namespace L2.Dl
open PySem
open PySem.Spec
open PyProof.Rows
theorem tS_4 (w x y z : Str) : PyData.tuple [.str w, .str x, .str y, .str z] = tS [w, x, y, z] := rfl
theorem stepE_f {S : Type} (d : EM S PyData) : stepE (eV false) d = eV none := rfl
theorem hv_mk {k : Nat} {a : Int} {o n : List Str} (a0 : 0 ≤ a) (a1 : a ≤ 10 ^ 62) (ol : o.length ≤ k) (nl : n.length ≤ k) (ot : ∀ z ∈ o, tx z = true) (nt : ∀ z ∈ n, tx z = true) : Hv k ⟨a, o, n⟩ := ⟨a0, a1, ol, nl, ot, nt⟩
end L2.Dl
namespace L2.Dl
open PySem
open PySem.Spec
open PyProof.Rows
theorem turnH_turn (h : Hk) : turnH (turnH h) = h := rfl
theorem turns_turn (hs : List Hk) : (hs.reverse.map turnH).reverse.map turnH = hs := by
  rw [← List.map_reverse, List.reverse_reverse, List.map_map]
  exact List.map_id hs
theorem doAll_turn : ∀ {hs : List Hk} {rows t : List Str} {k j : Nat}, (∀ h ∈ hs, 0 ≤ h.a) → doAll rows hs k = .ok t → doAll t (hs.reverse.map turnH) j = .ok rows
  | [], rows, t, k, j, _, e => by cases e; rfl
  | h :: r, rows, t, k, j, h0, e => by
    unfold doAll at e
    cases d : doH rows h with
    | none => rw [d] at e; cases e
    | some u =>
      rw [d] at e
      rw [List.reverse_cons, List.map_append, doAll_app (doAll_turn (fun x hx => h0 x (List.mem_cons_of_mem _ hx)) e)]
      exact doAll_one (doH_turn (h0 h List.mem_cons_self) d)
theorem doH_lenE {rows t : List Str} {h : Hk} (a0 : 0 ≤ h.a) (e : doH rows h = some t) : (t.length : Int) = rows.length + (h.n.length - h.o.length : Int) := by
  obtain ⟨A, Z, h1, h2, h3⟩ := doH_some a0 e
  rw [h1, h2]
  simp only [List.length_append]
  omega
theorem doAll_lenE : ∀ {hs : List Hk} {rows t : List Str} {k : Nat}, (∀ h ∈ hs, 0 ≤ h.a) → doAll rows hs k = .ok t → (t.length : Int) = rows.length + (hs.map fun h => (h.n.length - h.o.length : Int)).sum
  | [], rows, t, k, _, e => by cases e; simp
  | h :: r, rows, t, k, h0, e => by
    unfold doAll at e
    cases d : doH rows h with
    | none => rw [d] at e; cases e
    | some u =>
      rw [d] at e
      rw [doAll_lenE (fun x hx => h0 x (List.mem_cons_of_mem _ hx)) e, doH_lenE (h0 h List.mem_cons_self) d, List.map_cons, List.sum_cons]
      omega
theorem doAll_err : ∀ {hs : List Hk} {rows : List Str} {k j : Nat}, doAll rows hs k = .error j → ∃ pre h post u, hs = pre ++ h :: post ∧ j = k + pre.length ∧ doAll rows pre 0 = .ok u ∧ doH u h = none
  | [], rows, k, j, e => by cases e
  | h :: r, rows, k, j, e => by
    unfold doAll at e
    cases d : doH rows h with
    | none =>
      rw [d] at e
      cases e
      exact ⟨[], h, r, rows, rfl, rfl, rfl, d⟩
    | some u =>
      rw [d] at e
      obtain ⟨pre, g, post, v, h1, h2, h3, h4⟩ := doAll_err e
      refine ⟨h :: pre, g, post, v, by rw [h1]; rfl, by rw [h2, List.length_cons]; omega, ?_, h4⟩
      unfold doAll
      rw [d]
      exact doAll_shift h3
theorem doAll_none {rows : List Str} {h : Hk} {r : List Hk} {k : Nat} (e : doH rows h = none) : doAll rows (h :: r) k = .error k := by
  unfold doAll
  rw [e]
theorem boolsOf_map {α : Type} (p : α → Bool) : ∀ xs : List α, boolsOf (xs.map fun x => .bool (p x)) = some (xs.map p)
  | [] => rfl
  | x :: r => by
    rw [List.map_cons, List.map_cons]
    show (match boolsOf (r.map fun x => .bool (p x)) with | some bs => some (p x :: bs) | none => none) = _
    rw [boolsOf_map p r]
theorem intsOf_map {α : Type} (p : α → Int) : ∀ xs : List α, intsOf (xs.map fun x => .int (p x)) = some (xs.map p)
  | [] => rfl
  | x :: r => by
    rw [List.map_cons, List.map_cons]
    show (match intsOf (r.map fun x => .int (p x)) with | some bs => some (p x :: bs) | none => none) = _
    rw [intsOf_map p r]
theorem gAll_b {α : Type} (p : α → Bool) (xs : List α) : gAll [.list (xs.map fun x => .bool (p x))] = some (.bool (xs.all p)) := by
  show (match boolsOf (xs.map fun x => .bool (p x)) with | some bs => some (PyData.bool (bs.all id)) | none => none) = _
  rw [boolsOf_map]
  simp only [List.all_map]
  rfl
theorem gAny_b {α : Type} (p : α → Bool) (xs : List α) : gAny [.list (xs.map fun x => .bool (p x))] = some (.bool (xs.any p)) := by
  show (match boolsOf (xs.map fun x => .bool (p x)) with | some bs => some (PyData.bool (bs.any id)) | none => none) = _
  rw [boolsOf_map]
  simp only [List.any_map]
  rfl
theorem gAll_t {α : Type} (xs : List α) : gAll [.list (xs.map fun _ => .bool true)] = some (.bool true) := by
  rw [gAll_b (fun _ => true)]
  simp
theorem gSum_i {α : Type} (p : α → Int) (xs : List α) : gSum [.list (xs.map fun x => .int (p x))] = some (.int (xs.map p).sum) := by
  show (match intsOf (xs.map fun x => .int (p x)) with | some bs => some (PyData.int bs.sum) | none => none) = _
  rw [intsOf_map]
theorem gNotIn_nl (z : Str) : gNotIn (.str "\n") (.str z) = some (.bool (!decide (10 ∈ z.cps.toList))) := by kernel_rfl
end L2.Dl

namespace L2.Dl
open PySem
open PySem.Spec
open PyProof.Rows
def whr (h k : Hk) : Str := if k.a + k.o.length < h.a then "above" else if h.a + h.n.length < k.a then "below" else "touch"
def chg (h k : Hk) : Option (Hk × Hk) :=
  if k.a + k.o.length < h.a then some (k, ⟨h.a + (k.n.length - k.o.length), h.o, h.n⟩)
  else if h.a + h.n.length < k.a then some (⟨k.a + (h.o.length - h.n.length), k.o, k.n⟩, h)
  else none
def ledH : List Hk → Hk → Except Nat (Hk × List Hk)
  | [], k => .ok (k, [])
  | h :: r, k => match ledH r k with
    | .error i => .error (i + 1)
    | .ok (k', r') => match chg h k' with
      | some (k'', h') => .ok (k'', h' :: r')
      | none => .error 0
def chgM : List Hk → List Hk → Nat → Except (Nat × Nat) (List Hk × List Hk)
  | one, [], _ => .ok ([], one)
  | one, k :: r, j => match ledH one k with
    | .error i => .error (i, j)
    | .ok (k', one') => match chgM one' r (j + 1) with
      | .error e => .error e
      | .ok (a, b) => .ok (k' :: a, b)
theorem ledH_nil (k : Hk) : ledH [] k = .ok (k, []) := rfl
theorem ledH_one (h k : Hk) : ledH [h] k = match chg h k with
    | some (k'', h') => .ok (k'', [h'])
    | none => .error 0 := rfl
theorem ledH_snoc : ∀ {p : List Hk} {h k : Hk}, ledH (p ++ [h]) k = match chg h k with
    | none => .error p.length
    | some (k1, h1) => match ledH p k1 with
      | .error i => .error i
      | .ok (k2, p') => .ok (k2, p' ++ [h1])
  | [], h, k => by
    rw [List.nil_append, ledH_one]
    cases chg h k with
    | none => rfl
    | some x => rfl
  | g :: r, h, k => by
    rw [List.cons_append]
    conv => lhs; unfold ledH
    rw [ledH_snoc]
    cases chg h k with
    | none => rfl
    | some x =>
      obtain ⟨k1, h1⟩ := x
      simp only []
      conv => rhs; unfold ledH
      cases ledH r k1 with
      | error i => rfl
      | ok y =>
        obtain ⟨k2, r'⟩ := y
        simp only []
        cases chg g k2 with
        | none => rfl
        | some z => rfl
/-- small: rows of at most k, a place up to b -/
def Hb (k : Nat) (b : Int) (h : Hk) : Prop := Hv k h ∧ h.a ≤ b
theorem Hb.mono {k : Nat} {b c : Int} {h : Hk} (v : Hb k b h) (q : b ≤ c) : Hb k c h := ⟨v.1, Int.le_trans v.2 q⟩
theorem chg_hb {k : Nat} {b c : Int} {h g h' g' : Hk} (v : Hb k b h) (w : Hb k c g) (e : chg h g = some (g', h')) (hb : b + k ≤ 10 ^ 62) (hc : c + k ≤ 10 ^ 62) : Hb k (c + k) g' ∧ Hb k (b + k) h' ∧ g'.o = g.o ∧ g'.n = g.n ∧ h'.o = h.o ∧ h'.n = h.n := by
  have v1 := v.1.a0; have v2 := v.2; have v3 := v.1.ol; have v4 := v.1.nl
  have w1 := w.1.a0; have w2 := w.2; have w3 := w.1.ol; have w4 := w.1.nl
  unfold chg at e
  split at e
  · cases e
    refine ⟨w.mono (by omega), ⟨⟨?_, ?_, v3, v4, v.1.ot, v.1.nt⟩, ?_⟩, rfl, rfl, rfl, rfl⟩
    · show 0 ≤ h.a + _; omega
    · show h.a + _ ≤ _; omega
    · show h.a + _ ≤ _; omega
  · split at e
    · cases e
      refine ⟨⟨⟨?_, ?_, w3, w4, w.1.ot, w.1.nt⟩, ?_⟩, v.mono (by omega), rfl, rfl, rfl, rfl⟩
      · show 0 ≤ g.a + _; omega
      · show g.a + _ ≤ _; omega
      · show g.a + _ ≤ _; omega
    · cases e
theorem ledH_hb {k : Nat} {b c : Int} : ∀ {hs hs' : List Hk} {g g' : Hk}, (∀ h ∈ hs, Hb k b h) → Hb k c g → ledH hs g = .ok (g', hs') → b + k ≤ 10 ^ 62 → c + k * hs.length ≤ 10 ^ 62 → Hb k (c + k * hs.length) g' ∧ (∀ h ∈ hs', Hb k (b + k) h) ∧ hs'.length = hs.length
  | [], hs', g, g', _, w, e, _, _ => by
    cases e
    exact ⟨w.mono (by simp), (fun _ h => nomatch h), rfl⟩
  | h :: r, hs', g, g', v, w, e, hb, hc => by
    unfold ledH at e
    have e0 : (((h :: r).length : Nat) : Int) = (r.length : Int) + 1 := by simp
    rw [e0] at hc ⊢
    rw [Int.mul_add, Int.mul_one] at hc ⊢
    cases d : ledH r g with
    | error i => rw [d] at e; cases e
    | ok y =>
      obtain ⟨k2, r'⟩ := y
      rw [d] at e
      simp only [] at e
      obtain ⟨q1, q2, q3⟩ := ledH_hb (fun x hx => v x (List.mem_cons_of_mem _ hx)) w d hb (by omega)
      cases f : chg h k2 with
      | none => rw [f] at e; cases e
      | some z =>
        obtain ⟨k3, h'⟩ := z
        rw [f] at e
        cases e
        obtain ⟨p1, p2, _⟩ := chg_hb (v h List.mem_cons_self) q1 f hb (by omega)
        refine ⟨p1.mono (by omega), fun x hx => ?_, by rw [List.length_cons, List.length_cons, q3]⟩
        rcases List.mem_cons.mp hx with rfl | hx
        · exact p2
        · exact q2 x hx
theorem ledH_len : ∀ {one one' : List Hk} {g g' : Hk}, ledH one g = .ok (g', one') → one'.length = one.length
  | [], one', g, g', d => by cases d; rfl
  | h :: q, one', g, g', d => by
    unfold ledH at d
    cases d2 : ledH q g with
    | error k => rw [d2] at d; cases d
    | ok y =>
      obtain ⟨k2, r'⟩ := y
      rw [d2] at d
      simp only [] at d
      cases f : chg h k2 with
      | none => rw [f] at d; cases d
      | some z => rw [f] at d; cases d; rw [List.length_cons, List.length_cons, ledH_len d2]
theorem ledH_err : ∀ {hs : List Hk} {g : Hk} {i : Nat}, ledH hs g = .error i → i < hs.length
  | [], g, i, e => by cases e
  | h :: r, g, i, e => by
    unfold ledH at e
    rw [List.length_cons]
    cases d : ledH r g with
    | error j =>
      rw [d] at e
      cases e
      have := ledH_err d
      omega
    | ok y =>
      obtain ⟨k2, r'⟩ := y
      rw [d] at e
      simp only [] at e
      cases f : chg h k2 with
      | none => rw [f] at e; cases e; omega
      | some z => rw [f] at e; cases e
theorem chgM_hb {k : Nat} : ∀ {ks one ah be : List Hk} {j : Nat} {b c : Int}, (∀ h ∈ one, Hb k b h) → (∀ h ∈ ks, Hb k c h) → chgM one ks j = .ok (ah, be) → b + k * ks.length ≤ 10 ^ 62 → c + k * one.length ≤ 10 ^ 62 → (∀ h ∈ ah, Hb k (c + k * one.length) h) ∧ (∀ h ∈ be, Hb k (b + k * ks.length) h) ∧ ah.length = ks.length ∧ be.length = one.length
  | [], one, ah, be, j, b, c, v, w, e, _, _ => by
    cases e
    exact ⟨(fun _ h => nomatch h), fun x hx => (v x hx).mono (by simp), rfl, rfl⟩
  | g :: r, one, ah, be, j, b, c, v, w, e, hb, hc => by
    unfold chgM at e
    have e0 : (((g :: r).length : Nat) : Int) = (r.length : Int) + 1 := by simp
    rw [e0, Int.mul_add, Int.mul_one] at hb
    rw [e0, Int.mul_add, Int.mul_one]
    have kp : (0 : Int) ≤ (k : Int) * (r.length : Int) := Int.mul_nonneg (Int.natCast_nonneg _) (Int.natCast_nonneg _)
    cases d : ledH one g with
    | error i => rw [d] at e; cases e
    | ok y =>
      obtain ⟨g', one'⟩ := y
      rw [d] at e
      simp only [] at e
      obtain ⟨q1, q2, q3⟩ := ledH_hb v (w g List.mem_cons_self) d (by omega) hc
      cases f : chgM one' r (j + 1) with
      | error z => rw [f] at e; cases e
      | ok z =>
        obtain ⟨a, b'⟩ := z
        rw [f] at e
        cases e
        obtain ⟨p1, p2, p3, p4⟩ := chgM_hb q2 (fun x hx => w x (List.mem_cons_of_mem _ hx)) f (by omega) (by rw [q3]; exact hc)
        refine ⟨fun x hx => ?_, fun x hx => (p2 x hx).mono (by omega), by rw [List.length_cons, List.length_cons, p3], by rw [p4, q3]⟩
        rcases List.mem_cons.mp hx with rfl | hx
        · exact q1
        · have := p1 x hx; rw [q3] at this; exact this
theorem chgM_err : ∀ {ks one : List Hk} {j i n : Nat}, chgM one ks j = .error (i, n) → i < one.length ∧ n < j + ks.length
  | [], one, j, i, n, e => by cases e
  | g :: r, one, j, i, n, e => by
    unfold chgM at e
    rw [List.length_cons]
    cases d : ledH one g with
    | error k =>
      rw [d] at e
      cases e
      exact ⟨ledH_err d, by omega⟩
    | ok y =>
      obtain ⟨g', one'⟩ := y
      rw [d] at e
      simp only [] at e
      have hl : one'.length = one.length := ledH_len d
      cases f : chgM one' r (j + 1) with
      | error z =>
        rw [f] at e
        cases e
        have := chgM_err f
        rw [hl] at this
        exact ⟨this.1, by omega⟩
      | ok z => rw [f] at e; cases e
theorem rangeL_rev (n : Nat) : (rangeL 0 (n + 1)).reverse = .int (n : Int) :: (rangeL 0 n).reverse := by
  unfold rangeL
  rw [List.range_succ, List.map_append, List.reverse_append]
  simp
theorem ixN_n {n i : Nat} (h : i < n) : ixN n (i : Int) = some i := by
  unfold ixN
  simp
  omega
theorem stE_v {S β : Type} {xs : List PyData} {i : Nat} {x : PyData} {k : List PyData → EM S β} (h : i < xs.length) : stE (eV (.int (i : Int))) xs x k = k (xs.set i x) := by
  funext s
  show (match ixN xs.length (i : Int) with | some j => k (xs.set j x) s | none => .no) = _
  rw [ixN_n h]
theorem set_mid {α : Type} (p : List α) (h x : α) (r : List α) : (p ++ h :: r).set p.length x = p ++ x :: r := by
  rw [List.set_append_right _ _ (Nat.le_refl _), Nat.sub_self]
  rfl
theorem gIxL_mid (p : List Hk) (h : Hk) (r : List Hk) : gIx (.list ((p ++ h :: r).map eH)) (.int (p.length : Int)) = some (eH h) := by
  rw [gIxL_n (by rw [List.length_map, List.length_append, List.length_cons]; omega)]
  simp
theorem rgE_n {n : Nat} (h : n ≤ 1000000) : rgE [.int (n : Int)] = some (rangeL 0 n) := by
  show (if inLong (n : Int) = true ∧ (n : Int) ≤ 1000000 then some (rangeL 0 (n : Int).toNat) else none) = _
  rw [if_pos ⟨decide_eq_true (by omega), by omega⟩]
  rfl
theorem eRg1_u {S : Type} (a : EM S PyData) : eRg1 a = Dl.bnd a fun x => lo (rgE [x]) := rfl
theorem gRev_l (xs : List PyData) : gRev (.list xs) = some (.list xs.reverse) := rfl
theorem gListOf_tH (hs : List Hk) : gListOf [tH hs] = some (hs.map eH) := rfl
def dI (kv : List (Int × Int)) : List (PyData × PyData) := kv.map fun p => (.int p.1, .int p.2)
def dvI (kv : List (Int × Int)) : DV := ⟨false, dI kv⟩
theorem eqv_int (i j : Int) : PyData.eqv (.int i) (.int j) = (i == j) := by simp only [PyData.eqv]
theorem lookD_dI (k : Int) : ∀ kv : List (Int × Int), lookD (dI kv) (.int k) = ((kv.find? fun p => p.1 == k).map (·.2)).map PyData.int
  | [] => rfl
  | p :: r => by
    have ih := lookD_dI k r
    unfold lookD dI at ih ⊢
    rw [List.map_cons, List.find?_cons, List.find?_cons, eqv_int]
    cases p.1 == k with
    | true => rfl
    | false => exact ih
theorem putD_dI (k v : Int) (kv : List (Int × Int)) : ∃ kv' : List (Int × Int), putD (dI kv) (.int k) (.int v) = dI kv' ∧ kv'.length ≤ kv.length + 1 ∧ (∀ x, (kv.find? fun p => p.1 == x).isSome = true → (kv'.find? fun p => p.1 == x).isSome = true) ∧ ∀ p ∈ kv', p.1 = k ∨ p.1 ∈ kv.map (·.1) := by
  unfold putD
  split
  · refine ⟨kv.map fun p => if (p.1 == k) = true then (p.1, v) else p, ?_, by rw [List.length_map]; omega, fun x hx => ?_, fun p hp => ?_⟩
    · unfold dI
      rw [List.map_map, List.map_map]
      refine List.map_congr_left fun p _ => ?_
      show (if PyData.eqv (.int p.1) (.int k) = true then (PyData.int p.1, PyData.int v) else (.int p.1, .int p.2)) = _
      rw [eqv_int]
      show _ = (PyData.int (if (p.1 == k) = true then (p.1, v) else p).1, PyData.int (if (p.1 == k) = true then (p.1, v) else p).2)
      split <;> rfl
    · rw [List.find?_isSome] at hx ⊢
      obtain ⟨p, hp, e⟩ := hx
      refine ⟨_, List.mem_map.mpr ⟨p, hp, rfl⟩, ?_⟩
      split <;> exact e
    · obtain ⟨q, hq, rfl⟩ := List.mem_map.mp hp
      refine .inr (List.mem_map.mpr ⟨q, hq, ?_⟩)
      split <;> rfl
  · refine ⟨kv ++ [(k, v)], ?_, by rw [List.length_append]; exact Nat.le_refl _, fun x hx => ?_, fun p hp => ?_⟩
    · unfold dI
      rw [List.map_append]; rfl
    · rw [List.find?_isSome] at hx ⊢
      obtain ⟨p, hp, e⟩ := hx
      exact ⟨p, List.mem_append_left _ hp, e⟩
    · rcases List.mem_append.mp hp with h | h
      · exact .inr (List.mem_map.mpr ⟨p, h, rfl⟩)
      · rw [List.mem_singleton.mp h]; exact .inl rfl
theorem eDGet_u {S : Type} (D : DV) (k : EM S PyData) : eDGet D k = Dl.bnd k fun x => kyE D x (lo (lookD D.kvs x)) := rfl
theorem eDIn_u {S : Type} (D : DV) (neg : Bool) (k : EM S PyData) : eDIn D neg k = Dl.bnd k fun x => kyE D x (eV (.bool ((lookD D.kvs x).isSome != neg))) := rfl
theorem eDGet2_u {S : Type} (D : DV) (k e : EM S PyData) : eDGet2 D k e = Dl.bnd k fun x => Dl.bnd e fun z => kyE D x (eV ((lookD D.kvs x).getD z)) := rfl
theorem kyE_i {S α : Type} (kv : List (Int × Int)) (i : Int) (m : EM S α) : kyE (dvI kv) (.int i) m = m := if_pos rfl
theorem dvI_kvs (kv : List (Int × Int)) : (dvI kv).kvs = dI kv := rfl
theorem eDPut_i {S : Type} (kv : List (Int × Int)) (v k : Int) (h : kv.length < 1000000) : (eDPut (dvI kv) (eV (.int v)) (eV (.int k)) : EM S DV) = eV ⟨false, putD (dI kv) (.int k) (.int v)⟩ := by
  show (if keyOk false (.int k) = true ∧ (dI kv).length < lenB then eV (DV.mk false (putD (dI kv) (.int k) (.int v))) else eN) = _
  rw [if_pos ⟨rfl, by unfold dI; rw [List.length_map]; exact h⟩]
theorem eSortD_i {S : Type} (kv : List (Int × Int)) (h : kv.length < 64) : (eSortD (dvI kv) : EM S (List PyData)) = eV (((kv.map (·.1)).mergeSort fun a b => decide (a ≤ b)).map .int) := by
  have e : intsOf ((dI kv).map Prod.fst) = some (kv.map (·.1)) := by
    unfold dI
    rw [List.map_map]
    exact intsOf_map (fun p : Int × Int => p.1) kv
  show (match intsOf ((dI kv).map Prod.fst) with | some ks => if false = false ∧ ks.length < 64 then eV ((ks.mergeSort fun a b => decide (a ≤ b)).map PyData.int) else eN | none => eN) = _
  rw [e]
  simp only []
  rw [if_pos ⟨trivial, by rw [List.length_map]; exact h⟩]
/-- a comprehension whose things are some of a kind -/
theorem lc_some {S α : Type} (e : α → PyData) {f : PyData → EM S (Option PyData)} : ∀ {xs acc : List PyData}, (∀ x ∈ xs, f x = eV none ∨ ∃ a, f x = eV (some (e a))) → acc.length + xs.length ≤ 1000000 → ∃ as : List α, eLc f xs acc = eV (acc ++ as.map e) ∧ as.length ≤ xs.length
  | [], acc, _, _ => ⟨[], by rw [List.map_nil, List.append_nil]; rfl, Nat.le_refl _⟩
  | x :: r, acc, h, hl => by
    rw [List.length_cons] at hl
    unfold eLc
    rcases h x List.mem_cons_self with q | ⟨a, q⟩
    · rw [q, shut_V, bnd_V]
      obtain ⟨as, h1, h2⟩ := lc_some e (xs := r) (acc := acc) (fun y hy => h y (List.mem_cons_of_mem _ hy)) (by omega)
      exact ⟨as, h1, by rw [List.length_cons]; omega⟩
    · rw [q, shut_V, bnd_V]
      obtain ⟨as, h1, h2⟩ := lc_some e (xs := r) (acc := acc ++ [e a]) (fun y hy => h y (List.mem_cons_of_mem _ hy)) (by rw [List.length_append]; simp only [List.length_cons, List.length_nil]; omega)
      refine ⟨a :: as, ?_, by rw [List.length_cons, List.length_cons]; omega⟩
      simp only []
      rw [if_pos (show acc.length < 1000000 by omega), h1, List.append_assoc]
      rfl
theorem gSum_l (zs : List Int) : gSum [.list (zs.map .int)] = some (.int zs.sum) := by
  have := gSum_i (fun x : Int => x) zs
  rw [List.map_id'] at this
  exact this
theorem gMul_i {i j : Int} (h : -(2 ^ 64) < i ∧ i < 2 ^ 64) : gMul (.int i) (.int j) = some (.int (i * j)) := if_pos (.inl h)
end L2.Dl
namespace L2.Dl
open PySem
open PySem.Spec
open PyProof.Rows
theorem rok_tup2s {a b : PyData} {n m d e : Nat} (h1 : ROk n d a) (h2 : ROk m e b) : ROk (n + m + 7) (max d e + 1) (.tuple [a, b]) := by
  refine ⟨?_, ?_, ?_, ?_⟩
  · show (a.showable && (b.showable && true)) = true
    rw [h1.sh, h2.sh]; rfl
  · show (tupleText [a.shown, b.shown]).length ≤ _
    refine Nat.le_trans (tupleText_le _) ?_
    rw [piled_cons, piled_cons]
    have := h1.le
    have := h2.le
    have : piled [] = 0 := rfl
    omega
  · show max a.depth (max b.depth 0) + 1 ≤ _
    have := h1.dp
    have := h2.dp
    omega
  · show (a.hasDict || (b.hasDict || false)) = false
    rw [h1.nd, h2.nd]; rfl
theorem ck2s {n m d e : Nat} {a b : PyData} (h1 : Ck n d a) (h2 : Ck m e b) : Ck (n + m + 7) (max d e + 1) (.tuple [a, b]) := ⟨rok_tup2s h1.r h2.r, by
  show (okE a && (okE b && true)) = true
  rw [h1.e, h2.e]; rfl⟩
theorem rok_tup3s {a b c : PyData} {n m k d e f : Nat} (h1 : ROk n d a) (h2 : ROk m e b) (h3 : ROk k f c) : ROk (n + m + k + 9) (max d (max e f) + 1) (.tuple [a, b, c]) := by
  refine ⟨?_, ?_, ?_, ?_⟩
  · show (a.showable && (b.showable && (c.showable && true))) = true
    rw [h1.sh, h2.sh, h3.sh]; rfl
  · show (tupleText [a.shown, b.shown, c.shown]).length ≤ _
    refine Nat.le_trans (tupleText_le _) ?_
    rw [piled_cons, piled_cons, piled_cons]
    have := h1.le
    have := h2.le
    have := h3.le
    have : piled [] = 0 := rfl
    omega
  · show max a.depth (max b.depth (max c.depth 0)) + 1 ≤ _
    have := h1.dp
    have := h2.dp
    have := h3.dp
    omega
  · show (a.hasDict || (b.hasDict || (c.hasDict || false))) = false
    rw [h1.nd, h2.nd, h3.nd]; rfl
theorem ck3s {n m k d e f : Nat} {a b c : PyData} (h1 : Ck n d a) (h2 : Ck m e b) (h3 : Ck k f c) : Ck (n + m + k + 9) (max d (max e f) + 1) (.tuple [a, b, c]) := ⟨rok_tup3s h1.r h2.r h3.r, by
  show (okE a && (okE b && (okE c && true))) = true
  rw [h1.e, h2.e, h3.e]; rfl⟩
/-- a hunk of k rows, shown -/
theorem Hv.cks {k : Nat} {h : Hk} (v : Hv k h) : Ck (408 * k + 1936) 2 (eH h) := by
  have a : Ck 1921 0 (.int h.a) := ck_a v
  exact (ck3s a (ck_tS v.ot v.ol) (ck_tS v.nt v.nl)).mono (by omega) (by decide)
theorem ck_tHs {k j : Nat} {hs : List Hk} (v : ∀ h ∈ hs, Hv k h) (hl : hs.length ≤ j) : Ck ((408 * k + 1938) * j + 3) 3 (tH hs) := by
  refine ck_tupk j (fun x hx => ?_) (by rw [List.length_map]; exact hl)
  obtain ⟨h, hh, rfl⟩ := List.mem_map.mp hx
  exact (v h hh).cks
theorem ck_lit {z : Str} (h : tx z = true) : Ck 202 0 (.str z) := ck_tx h
def mN (n : PyData) (hs : List Hk) : PyData := .tuple [n, tH hs]
theorem mN_0 (n : PyData) (hs : List Hk) : gIx (mN n hs) (.int 0) = some n := gIx_0 _ _
theorem mN_1 (n : PyData) (hs : List Hk) : gIx (mN n hs) (.int 1) = some (tH hs) := gIx_1 _ _ _
theorem mN_f (n : PyData) (hs : List Hk) : PyData.tuple [n, tH hs] = mN n hs := rfl
theorem up2_mN {S β : Type} (n : PyData) (hs : List Hk) (k : PyData → PyData → EM S β) : up2 (mN n hs) k = k n (tH hs) := rfl
theorem ck_mN {k j n d : Nat} {m : PyData} {hs : List Hk} (hm : Ck n d m) (hv : ∀ h ∈ hs, Hv k h) (hl : hs.length ≤ j) : Ck (n + ((408 * k + 1938) * j + 3) + 7) (max d 3 + 1) (mN m hs) := ck2s hm (ck_tHs hv hl)
def pN (p : Nat × Nat) : PyData := .tuple [.int (p.1 : Int), .int (p.2 : Int)]
def isOk {ε α : Type} : Except ε α → Bool
  | .ok _ => true
  | .error _ => false
end L2.Dl
namespace L2.Dl
open PySem
open PySem.Spec
open PyProof.Rows
theorem RunT.forR {σ l : Type} {b : PyData → σ → EM DV (Fl σ σ)} (I : Nat → σ → Prop) {n : Nat} {s : σ} (h : ∀ i s, i < n → I i s → RunT (b (.int (i : Int)) s) fun r => ∃ s', r = .nx s' ∧ I (i + 1) s') (h0 : I 0 s) : RunT (eFor b (rangeL 0 n) s : EM DV (Fl σ l)) fun r => ∃ s', r = .nx s' ∧ I n s' := by
  have go : ∀ (m k : Nat) (s : σ), k + m = n → I k s → RunT (eFor b (rangeL (k : Int) m) s : EM DV (Fl σ l)) fun r => ∃ s', r = .nx s' ∧ I n s' := by
    intro m
    induction m with
    | zero =>
      intro k s e hk
      have : k = n := by omega
      subst this
      exact RunT.V ⟨s, rfl, hk⟩
    | succ m ih =>
      intro k s e hk
      rw [rangeL_s]
      unfold eFor
      refine (h k s (by omega) hk).bnd fun o ho => ?_
      obtain ⟨s', rfl, hs'⟩ := ho
      rw [show (k : Int) + 1 = ((k + 1 : Nat) : Int) by omega]
      exact ih (k + 1) s' (by omega) hs'
  exact go n 0 s (by omega) h0
def fixN (j : Nat) : PyData := .tuple [.str "fix", .int (j : Int)]
def eM (m : PyData × List Hk) : PyData := mN m.1 m.2
structure MsI (hs : List Hk) (i : Nat) (ms : List (PyData × List Hk)) (a : Nat) : Prop where
  l : ms.length = i
  al : a ≤ 3 * i
  f : (ms.map (·.2)).flatten = hs.take a
  k : ∀ m ∈ ms, 1 ≤ m.2.length ∧ m.2.length ≤ 3
  n : ∀ j (hj : j < ms.length), ms[j].1 = fixN j
structure MsOk (rows : List Str) (m : Nat) (ms : List (PyData × List Hk)) (t : List Str) : Prop where
  l : ms.length = m
  v : ∀ p ∈ ms, ∀ h ∈ p.2, Hv 4 h ∧ h.a ≤ 100 ∧ h.o ≠ h.n
  k : ∀ m ∈ ms, 1 ≤ m.2.length ∧ m.2.length ≤ 3
  n : ∀ j (hj : j < ms.length), ms[j].1 = fixN j
  d : doAll rows (ms.map (·.2)).flatten 0 = .ok t
theorem MsI.step {hs : List Hk} {i a k : Nat} {ms : List (PyData × List Hk)} (I : MsI hs i ms a) (h1 : 1 ≤ k) (h3 : k ≤ 3) (hl : 3 * (i + 1) ≤ hs.length) : MsI hs (i + 1) (ms ++ [(fixN i, (hs.drop a).take k)]) (a + k) := by
  obtain ⟨l, al, f, q, n⟩ := I
  have lk : ((hs.drop a).take k).length = k := by rw [List.length_take, List.length_drop]; omega
  refine ⟨by rw [List.length_append, l]; rfl, by omega, ?_, fun m hm => ?_, fun j hj => ?_⟩
  · rw [List.map_append, List.flatten_append, f, List.take_add]
    simp
  · rcases List.mem_append.mp hm with h | h
    · exact q m h
    · rw [List.mem_singleton.mp h]
      show 1 ≤ ((hs.drop a).take k).length ∧ _
      rw [lk]; exact ⟨h1, h3⟩
  · rw [List.length_append] at hj
    by_cases c : j < ms.length
    · rw [List.getElem_append_left c]; exact n j c
    · have : j = ms.length := by
        have : ([(fixN i, (hs.drop a).take k)] : List (PyData × List Hk)).length = 1 := rfl
        omega
      subst this
      rw [List.getElem_append_right (Nat.le_refl _)]
      simp [l]
theorem doAll_take {rows t : List Str} {hs : List Hk} (n : Nat) (e : doAll rows hs 0 = .ok t) : ∃ u, doAll rows (hs.take n) 0 = .ok u := by
  cases d : doAll rows (hs.take n) 0 with
  | ok u => exact ⟨u, rfl⟩
  | error j =>
    have := doAll_app_err (ks := hs.drop n) d
    rw [List.take_append_drop, e] at this
    cases this
end L2.Dl

namespace L2.Dl
open PySem
open PySem.Spec
open PyProof.Rows
theorem Hk.ext' {h k : Hk} (a : h.a = k.a) (o : h.o = k.o) (n : h.n = k.n) : h = k := by cases h; cases k; simp_all
theorem chg_inv {h k k' h' : Hk} (e : chg h k = some (k', h')) : chg k' h' = some (h, k) := by
  unfold chg at e
  split at e
  · rename_i c
    cases e
    unfold chg
    rw [if_neg (by show ¬ h.a + _ + (h.o.length : Int) < k.a; omega), if_pos (by show k.a + _ < h.a + _; omega)]
    congr 2
    exact Hk.ext' (by show h.a + _ + _ = h.a; omega) rfl rfl
  · split at e
    · rename_i c
      cases e
      unfold chg
      rw [if_pos (by show h.a + _ < k.a + _; omega)]
      congr 2
      exact Hk.ext' (by show k.a + _ + _ = k.a; omega) rfl rfl
    · cases e
theorem chg_turn {h k k' h' : Hk} (e : chg h k = some (k', h')) : chg (turnH k) (turnH h) = some (turnH h', turnH k') := by
  unfold chg at e
  split at e
  · rename_i c
    cases e
    unfold chg turnH
    rw [if_neg (by show ¬ h.a + (h.n.length : Int) < k.a; omega), if_pos (by show k.a + (k.o.length : Int) < h.a; omega)]
  · split at e
    · rename_i c
      cases e
      unfold chg turnH
      rw [if_pos (by show h.a + (h.n.length : Int) < k.a; omega)]
    · cases e
theorem chg_rows {h k k' h' : Hk} (e : chg h k = some (k', h')) : k'.o = k.o ∧ k'.n = k.n ∧ h'.o = h.o ∧ h'.n = h.n := by
  unfold chg at e
  split at e
  · cases e; exact ⟨rfl, rfl, rfl, rfl⟩
  · split at e
    · cases e; exact ⟨rfl, rfl, rfl, rfl⟩
    · cases e
theorem app_split {α : Type} {X Y P Q : List α} (e : X ++ Y = P ++ Q) (l : P.length ≤ X.length) : ∃ M, X = P ++ M ∧ Q = M ++ Y := by
  refine ⟨X.drop P.length, ?_, ?_⟩
  · have := congrArg (List.take P.length) e
    rw [List.take_append_of_le_length l, List.take_left] at this
    conv => lhs; rw [← List.take_append_drop P.length X]
    rw [this]
  · have := congrArg (List.drop P.length) e
    rw [List.drop_append_of_le_length l, List.drop_left] at this
    exact this.symm
/-- both ways about the text is one -/
theorem chg_do {u v w : List Str} {h k k' h' : Hk} (h0 : 0 ≤ h.a) (k0 : 0 ≤ k.a) (e : chg h k = some (k', h')) (d1 : doH u h = some v) (d2 : doH v k = some w) : ∃ v', doH u k' = some v' ∧ doH v' h' = some w := by
  obtain ⟨A, Z, e1, e2, e3⟩ := doH_some h0 d1
  obtain ⟨B, Y, e4, e5, e6⟩ := doH_some k0 d2
  subst e1 e2 e5
  unfold chg at e
  split at e
  · rename_i c
    cases e
    obtain ⟨M, m1, m2⟩ := app_split (X := A) (Y := h.n ++ Z) (P := B ++ k.o) (Q := Y) (by rw [← List.append_assoc]; exact e4) (by rw [List.length_append]; omega)
    subst m1 m2
    refine ⟨B ++ k.n ++ (M ++ h.o ++ Z), ?_, ?_⟩
    · rw [show B ++ k.o ++ M ++ h.o ++ Z = B ++ k.o ++ (M ++ h.o ++ Z) by simp only [List.append_assoc]]
      have := doH_of (A := B) (o := k.o) (Z := M ++ h.o ++ Z) (n := k.n)
      rw [e6] at this
      exact this
    · rw [show B ++ k.n ++ (M ++ h.o ++ Z) = (B ++ k.n ++ M) ++ h.o ++ Z by simp only [List.append_assoc], show B ++ k.n ++ (M ++ (h.n ++ Z)) = (B ++ k.n ++ M) ++ h.n ++ Z by simp only [List.append_assoc]]
      have := doH_of (A := B ++ k.n ++ M) (o := h.o) (Z := Z) (n := h.n)
      rw [show (((B ++ k.n ++ M).length : Nat) : Int) = h.a + ((k.n.length : Int) - (k.o.length : Int)) by simp only [List.length_append] at e3 ⊢; omega] at this
      exact this
  · split at e
    · rename_i c
      cases e
      obtain ⟨M, m1, m2⟩ := app_split (X := B) (Y := k.o ++ Y) (P := A ++ h.n) (Q := Z) (by rw [← List.append_assoc]; exact e4.symm) (by rw [List.length_append]; omega)
      subst m1 m2
      refine ⟨A ++ h.o ++ M ++ k.n ++ Y, ?_, ?_⟩
      · rw [show A ++ h.o ++ (M ++ (k.o ++ Y)) = (A ++ h.o ++ M) ++ k.o ++ Y by simp only [List.append_assoc]]
        have := doH_of (A := A ++ h.o ++ M) (o := k.o) (Z := Y) (n := k.n)
        rw [show (((A ++ h.o ++ M).length : Nat) : Int) = k.a + ((h.o.length : Int) - (h.n.length : Int)) by simp only [List.length_append] at e6 ⊢; omega] at this
        exact this
      · rw [show A ++ h.o ++ M ++ k.n ++ Y = A ++ h.o ++ (M ++ k.n ++ Y) by simp only [List.append_assoc], show A ++ h.n ++ M ++ k.n ++ Y = A ++ h.n ++ (M ++ k.n ++ Y) by simp only [List.append_assoc]]
        have := doH_of (A := A) (o := h.o) (Z := M ++ k.n ++ Y) (n := h.n)
        rw [e3] at this
        exact this
    · cases e
theorem ledH_cons {h k k' : Hk} {r o' : List Hk} (e : ledH (h :: r) k = .ok (k', o')) : ∃ k1 r1 h', ledH r k = .ok (k1, r1) ∧ chg h k1 = some (k', h') ∧ o' = h' :: r1 := by
  unfold ledH at e
  cases d : ledH r k with
  | error i => rw [d] at e; cases e
  | ok y =>
    obtain ⟨k1, r1⟩ := y
    rw [d] at e
    simp only [] at e
    cases f : chg h k1 with
    | none => rw [f] at e; cases e
    | some z =>
      obtain ⟨k2, h'⟩ := z
      rw [f] at e
      cases e
      exact ⟨k1, r1, h', rfl, f, rfl⟩
theorem ledH_mk {h k k1 k' h' : Hk} {r r1 : List Hk} (e : ledH r k = .ok (k1, r1)) (f : chg h k1 = some (k', h')) : ledH (h :: r) k = .ok (k', h' :: r1) := by
  unfold ledH
  rw [e]
  simp only [f]
theorem chgM_cons {k : Hk} {one q a b : List Hk} {j : Nat} (e : chgM one (k :: q) j = .ok (a, b)) : ∃ k' one' a', ledH one k = .ok (k', one') ∧ chgM one' q (j + 1) = .ok (a', b) ∧ a = k' :: a' := by
  unfold chgM at e
  cases d : ledH one k with
  | error i => rw [d] at e; cases e
  | ok y =>
    obtain ⟨k', one'⟩ := y
    rw [d] at e
    simp only [] at e
    cases f : chgM one' q (j + 1) with
    | error z => rw [f] at e; cases e
    | ok z =>
      obtain ⟨a', b'⟩ := z
      rw [f] at e
      cases e
      exact ⟨k', one', a', rfl, f, rfl⟩
theorem chgM_mk {k k' : Hk} {one one' q a b : List Hk} {j : Nat} (e : ledH one k = .ok (k', one')) (f : chgM one' q (j + 1) = .ok (a, b)) : chgM one (k :: q) j = .ok (k' :: a, b) := by
  unfold chgM
  rw [e]
  simp only [f]
theorem chgM_at : ∀ {q one a b : List Hk} {j : Nat} (i : Nat), chgM one q j = .ok (a, b) → chgM one q i = .ok (a, b)
  | [], one, a, b, j, i, e => e
  | k :: q, one, a, b, j, i, e => by
    obtain ⟨k', one', a', h1, h2, rfl⟩ := chgM_cons e
    exact chgM_mk h1 (chgM_at (i + 1) h2)
theorem chgM_nil : ∀ {q : List Hk} {j : Nat}, chgM [] q j = .ok (q, [])
  | [], j => rfl
  | k :: q, j => chgM_mk (ledH_nil k) chgM_nil
/-- one hunk past a row that stands behind it -/
def colH : Hk → List Hk → Option (List Hk × Hk)
  | h, [] => some ([], h)
  | h, k :: r => match chg h k with
    | none => none
    | some (k', h') => match colH h' r with
      | none => none
      | some (r', h'') => some (k' :: r', h'')
theorem colH_cons {h k g : Hk} {r c : List Hk} (e : colH h (k :: r) = some (c, g)) : ∃ k' h' r', chg h k = some (k', h') ∧ colH h' r = some (r', g) ∧ c = k' :: r' := by
  unfold colH at e
  cases d : chg h k with
  | none => rw [d] at e; cases e
  | some z =>
    obtain ⟨k', h'⟩ := z
    rw [d] at e
    simp only [] at e
    cases f : colH h' r with
    | none => rw [f] at e; cases e
    | some y =>
      obtain ⟨r', g'⟩ := y
      rw [f] at e
      cases e
      exact ⟨k', h', r', rfl, f, rfl⟩
theorem colH_mk {h k k' h' g : Hk} {r r' : List Hk} (e : chg h k = some (k', h')) (f : colH h' r = some (r', g)) : colH h (k :: r) = some (k' :: r', g) := by
  unfold colH
  rw [e]
  simp only [f]
theorem colH_app : ∀ {r s r' s' : List Hk} {h h' g : Hk}, colH h r = some (r', h') → colH h' s = some (s', g) → colH h (r ++ s) = some (r' ++ s', g)
  | [], s, r', s', h, h', g, e, f => by cases e; exact f
  | k :: r, s, r', s', h, h', g, e, f => by
    obtain ⟨k1, h1, r1, e1, e2, rfl⟩ := colH_cons e
    exact colH_mk e1 (colH_app e2 f)
/-- the first of the one passes last -/
theorem chgM_left : ∀ {ks r a b : List Hk} {h : Hk} {j : Nat}, chgM (h :: r) ks j = .ok (a, b) → ∃ m r' h', chgM r ks j = .ok (m, r') ∧ colH h m = some (a, h') ∧ b = h' :: r'
  | [], r, a, b, h, j, e => by
    cases e
    exact ⟨[], r, h, rfl, rfl, rfl⟩
  | k :: q, r, a, b, h, j, e => by
    obtain ⟨k', one', a', e1, e2, rfl⟩ := chgM_cons e
    obtain ⟨k1, r1, h1, f1, f2, rfl⟩ := ledH_cons e1
    obtain ⟨m, r', h', g1, g2, rfl⟩ := chgM_left e2
    exact ⟨k1 :: m, r', h', chgM_mk f1 g1, colH_mk f2 g2, rfl⟩
theorem chgM_leftM : ∀ {ks r a m r' : List Hk} {h h' : Hk} {j : Nat}, chgM r ks j = .ok (m, r') → colH h m = some (a, h') → chgM (h :: r) ks j = .ok (a, h' :: r')
  | [], r, a, m, r', h, h', j, e, f => by
    cases e
    cases f
    rfl
  | k :: q, r, a, m, r', h, h', j, e, f => by
    obtain ⟨k', one', a', e1, e2, rfl⟩ := chgM_cons e
    obtain ⟨k1, h1, r1, f1, f2, rfl⟩ := colH_cons f
    exact chgM_mk (ledH_mk e1 f1) (chgM_leftM e2 f2)
/-- the last of the one passes first -/
theorem chgM_snocM : ∀ {ks r a m r' : List Hk} {h h' : Hk} {j : Nat}, colH h ks = some (m, h') → chgM r m j = .ok (a, r') → chgM (r ++ [h]) ks j = .ok (a, r' ++ [h'])
  | [], r, a, m, r', h, h', j, e, f => by
    cases e
    cases f
    rfl
  | k :: q, r, a, m, r', h, h', j, e, f => by
    obtain ⟨k1, h1, r1, e1, e2, rfl⟩ := colH_cons e
    obtain ⟨k2, one', a', f1, f2, rfl⟩ := chgM_cons f
    refine chgM_mk (one' := one' ++ [h1]) ?_ (chgM_snocM e2 f2)
    rw [ledH_snoc, e1]
    simp only [f1]
/-- changed back -/
theorem led_back : ∀ {one o' : List Hk} {k k' : Hk}, ledH one k = .ok (k', o') → colH k' o' = some (one, k)
  | [], o', k, k', e => by cases e; rfl
  | h :: r, o', k, k', e => by
    obtain ⟨k1, r1, h', e1, e2, rfl⟩ := ledH_cons e
    exact colH_mk (chg_inv e2) (led_back e1)
theorem chgM_back : ∀ {other one a b : List Hk} {j : Nat}, chgM one other j = .ok (a, b) → ∀ i, chgM a b i = .ok (one, other)
  | [], one, a, b, j, e, i => by cases e; exact chgM_nil
  | k :: q, one, a, b, j, e, i => by
    obtain ⟨k', one', a', e1, e2, rfl⟩ := chgM_cons e
    exact chgM_leftM (chgM_back e2 i) (led_back e1)
/-- turned, the other way about -/
theorem led_turn : ∀ {one o' : List Hk} {k k' : Hk}, ledH one k = .ok (k', o') → colH (turnH k) (one.reverse.map turnH) = some (o'.reverse.map turnH, turnH k')
  | [], o', k, k', e => by cases e; rfl
  | h :: r, o', k, k', e => by
    obtain ⟨k1, r1, h', e1, e2, rfl⟩ := ledH_cons e
    rw [List.reverse_cons, List.reverse_cons, List.map_append, List.map_append]
    exact colH_app (led_turn e1) (colH_mk (chg_turn e2) rfl)
theorem chgM_turn : ∀ {other one a b : List Hk} {j : Nat}, chgM one other j = .ok (a, b) → ∀ i, chgM (other.reverse.map turnH) (one.reverse.map turnH) i = .ok (b.reverse.map turnH, a.reverse.map turnH)
  | [], one, a, b, j, e, i => by cases e; exact chgM_nil
  | k :: q, one, a, b, j, e, i => by
    obtain ⟨k', one', a', e1, e2, rfl⟩ := chgM_cons e
    rw [List.reverse_cons, List.reverse_cons, List.map_append, List.map_append]
    exact chgM_snocM (led_turn e1) (chgM_turn e2 i)
/-- the text -/
theorem led_do : ∀ {one o' : List Hk} {k k' : Hk} {u v w : List Str} {j : Nat}, (∀ h ∈ one, 0 ≤ h.a) → 0 ≤ k.a → ledH one k = .ok (k', o') → doAll u one j = .ok v → doH v k = some w → 0 ≤ k'.a ∧ (∀ h ∈ o', 0 ≤ h.a) ∧ ∃ v', doH u k' = some v' ∧ doAll v' o' 0 = .ok w
  | [], o', k, k', u, v, w, j, h0, k0, e, d1, d2 => by
    cases e
    cases d1
    exact ⟨k0, (fun _ h => nomatch h), w, d2, rfl⟩
  | h :: r, o', k, k', u, v, w, j, h0, k0, e, d1, d2 => by
    obtain ⟨k1, r1, h', e1, e2, rfl⟩ := ledH_cons e
    unfold doAll at d1
    cases d : doH u h with
    | none => rw [d] at d1; cases d1
    | some u1 =>
      rw [d] at d1
      obtain ⟨a1, a2, v', f1, f2⟩ := led_do (fun x hx => h0 x (List.mem_cons_of_mem _ hx)) k0 e1 d1 d2
      have hh := h0 h List.mem_cons_self
      obtain ⟨v2, g1, g2⟩ := chg_do hh a1 e2 d f1
      have pos : 0 ≤ k'.a ∧ 0 ≤ h'.a := by
        unfold chg at e2
        split at e2
        · cases e2; exact ⟨a1, by show 0 ≤ h.a + _; omega⟩
        · split at e2
          · cases e2; exact ⟨by show 0 ≤ k1.a + _; omega, hh⟩
          · cases e2
      refine ⟨pos.1, fun x hx => ?_, v2, g1, ?_⟩
      · rcases List.mem_cons.mp hx with rfl | hx
        · exact pos.2
        · exact a2 x hx
      · unfold doAll
        rw [g2]
        exact doAll_shift f2
theorem chgM_do : ∀ {other one a b : List Hk} {u v w : List Str} {i j : Nat}, (∀ h ∈ one, 0 ≤ h.a) → (∀ h ∈ other, 0 ≤ h.a) → chgM one other i = .ok (a, b) → doAll u one j = .ok v → doAll v other 0 = .ok w → ∃ v', doAll u a 0 = .ok v' ∧ doAll v' b 0 = .ok w
  | [], one, a, b, u, v, w, i, j, h0, k0, e, d1, d2 => by
    cases e
    cases d2
    exact ⟨u, rfl, doAll_shift d1⟩
  | k :: q, one, a, b, u, v, w, i, j, h0, k0, e, d1, d2 => by
    obtain ⟨k', one', a', e1, e2, rfl⟩ := chgM_cons e
    unfold doAll at d2
    cases d : doH v k with
    | none => rw [d] at d2; cases d2
    | some v1 =>
      rw [d] at d2
      obtain ⟨p1, p2, v', f1, f2⟩ := led_do h0 (k0 k List.mem_cons_self) e1 d1 d
      obtain ⟨v2, g1, g2⟩ := chgM_do p2 (fun x hx => k0 x (List.mem_cons_of_mem _ hx)) e2 f2 (doAll_shift d2)
      refine ⟨v2, ?_, g2⟩
      unfold doAll
      rw [f1]
      exact doAll_shift g1
/-- old and new rows stay -/
def onP (h : Hk) : PyData := .tuple [tS h.o, tS h.n]
theorem onP_of {h k : Hk} (a : h.o = k.o) (b : h.n = k.n) : onP h = onP k := by unfold onP; rw [a, b]
theorem led_rows : ∀ {one o' : List Hk} {k k' : Hk}, ledH one k = .ok (k', o') → onP k' = onP k ∧ o'.map onP = one.map onP
  | [], o', k, k', e => by cases e; exact ⟨rfl, rfl⟩
  | h :: r, o', k, k', e => by
    obtain ⟨k1, r1, h', e1, e2, rfl⟩ := ledH_cons e
    obtain ⟨q1, q2⟩ := led_rows e1
    obtain ⟨p1, p2, p3, p4⟩ := chg_rows e2
    refine ⟨(onP_of p1 p2).trans q1, ?_⟩
    rw [List.map_cons, List.map_cons, q2, onP_of p3 p4]
theorem chgM_rows : ∀ {other one a b : List Hk} {j : Nat}, chgM one other j = .ok (a, b) → a.map onP = other.map onP ∧ b.map onP = one.map onP
  | [], one, a, b, j, e => by cases e; exact ⟨rfl, rfl⟩
  | k :: q, one, a, b, j, e => by
    obtain ⟨k', one', a', e1, e2, rfl⟩ := chgM_cons e
    obtain ⟨q1, q2⟩ := led_rows e1
    obtain ⟨p1, p2⟩ := chgM_rows e2
    exact ⟨by rw [List.map_cons, List.map_cons, q1, p1], by rw [p2, q2]⟩
end L2.Dl
namespace L2.Dl
open PySem
open PySem.Spec
open PyProof.Rows
theorem whr_inv {h k k' h' : Hk} (e : chg h k = some (k', h')) : (whr h k = "above" ∧ whr k' h' = "below") ∨ (whr h k = "below" ∧ whr k' h' = "above") := by
  have e2 := chg_inv e
  unfold chg at e
  split at e
  · rename_i c
    cases e
    refine .inl ⟨if_pos c, ?_⟩
    unfold whr
    rw [if_neg (by show ¬ h.a + _ + (h.o.length : Int) < k.a; omega), if_pos (by show k.a + _ < h.a + _; omega)]
  · split at e
    · rename_i c1 c
      cases e
      refine .inr ⟨(if_neg c1).trans (if_pos c), ?_⟩
      unfold whr
      rw [if_pos (by show h.a + _ < k.a + _; omega)]
    · cases e
/-- what stands between the two -/
theorem between_a {u v w : List Str} {h k : Hk} (h0 : 0 ≤ h.a) (k0 : 0 ≤ k.a) (c : k.a + k.o.length < h.a) (d1 : doH u h = some v) (d2 : doH v k = some w) : ∃ M, M ≠ [] ∧ (∀ z ∈ M, z ∈ v) ∧ cutG v (some (k.a + k.o.length)) (some h.a) = M ∧ cutG w (some (k.a + k.o.length + (k.n.length - k.o.length))) (some (h.a + (k.n.length - k.o.length))) = M := by
  obtain ⟨A, Z, e1, e2, e3⟩ := doH_some h0 d1
  obtain ⟨B, Y, e4, e5, e6⟩ := doH_some k0 d2
  subst e1 e2 e5
  obtain ⟨M, m1, m2⟩ := app_split (X := A) (Y := h.n ++ Z) (P := B ++ k.o) (Q := Y) (by rw [← List.append_assoc]; exact e4) (by rw [List.length_append]; omega)
  subst m1 m2
  simp only [List.length_append] at e3
  refine ⟨M, fun z => ?_, fun z hz => by simp [hz], ?_, ?_⟩
  · subst z
    simp at e3
    omega
  · have := cut_mid (B ++ k.o) M (h.n ++ Z)
    rw [show (((B ++ k.o).length : Nat) : Int) + (M.length : Int) = h.a by simp only [List.length_append]; omega, show (((B ++ k.o).length : Nat) : Int) = k.a + (k.o.length : Int) by simp only [List.length_append]; omega] at this
    rw [← List.append_assoc] at this
    exact this
  · have := cut_mid (B ++ k.n) M (h.n ++ Z)
    rw [show (((B ++ k.n).length : Nat) : Int) + (M.length : Int) = h.a + ((k.n.length : Int) - (k.o.length : Int)) by simp only [List.length_append]; omega, show (((B ++ k.n).length : Nat) : Int) = k.a + (k.o.length : Int) + ((k.n.length : Int) - (k.o.length : Int)) by simp only [List.length_append]; omega] at this
    rw [show B ++ k.n ++ (M ++ (h.n ++ Z)) = B ++ k.n ++ M ++ (h.n ++ Z) by simp only [List.append_assoc]]
    exact this
theorem between_b {u v w : List Str} {h k : Hk} (h0 : 0 ≤ h.a) (k0 : 0 ≤ k.a) (c : h.a + h.n.length < k.a) (d1 : doH u h = some v) (d2 : doH v k = some w) : ∃ M, M ≠ [] ∧ (∀ z ∈ M, z ∈ v) ∧ cutG v (some (h.a + h.n.length)) (some k.a) = M ∧ cutG w (some (h.a + h.n.length)) (some k.a) = M := by
  obtain ⟨A, Z, e1, e2, e3⟩ := doH_some h0 d1
  obtain ⟨B, Y, e4, e5, e6⟩ := doH_some k0 d2
  subst e1 e2 e5
  obtain ⟨M, m1, m2⟩ := app_split (X := B) (Y := k.o ++ Y) (P := A ++ h.n) (Q := Z) (by rw [← List.append_assoc]; exact e4.symm) (by rw [List.length_append]; omega)
  subst m1 m2
  simp only [List.length_append] at e6
  refine ⟨M, fun z => ?_, fun z hz => by simp [hz], ?_, ?_⟩
  · subst z
    simp at e6
    omega
  · have := cut_mid (A ++ h.n) M (k.o ++ Y)
    rw [show (((A ++ h.n).length : Nat) : Int) + (M.length : Int) = k.a by simp only [List.length_append]; omega, show (((A ++ h.n).length : Nat) : Int) = h.a + (h.n.length : Int) by simp only [List.length_append]; omega] at this
    rw [show A ++ h.n ++ (M ++ (k.o ++ Y)) = A ++ h.n ++ M ++ (k.o ++ Y) by simp only [List.append_assoc]]
    exact this
  · have := cut_mid (A ++ h.n) M (k.n ++ Y)
    rw [show (((A ++ h.n).length : Nat) : Int) + (M.length : Int) = k.a by simp only [List.length_append]; omega, show (((A ++ h.n).length : Nat) : Int) = h.a + (h.n.length : Int) by simp only [List.length_append]; omega] at this
    rw [show A ++ h.n ++ M ++ k.n ++ Y = A ++ h.n ++ M ++ (k.n ++ Y) by simp only [List.append_assoc]]
    exact this
theorem gSl_onP (h : Hk) : gSl (eH h) (some 1) none = some (onP h) := by
  unfold eH hk
  rw [gSl_t, cutG_from1]
  rfl
end L2.Dl

namespace L2.Dl
open PySem
open PySem.Spec
open PyProof.Rows
theorem chg_cases {h k k' h' : Hk} (e : chg h k = some (k', h')) : (k.a + k.o.length < h.a ∧ k' = k ∧ h' = ⟨h.a + (k.n.length - k.o.length), h.o, h.n⟩) ∨ (h.a + h.n.length < k.a ∧ k' = ⟨k.a + (h.o.length - h.n.length), k.o, k.n⟩ ∧ h' = h) := by
  unfold chg at e
  split at e
  · cases e; exact .inl ⟨‹_›, rfl, rfl⟩
  · split at e
    · cases e; exact .inr ⟨‹_›, rfl, rfl⟩
    · cases e
theorem chg_A {h k k' h' : Hk} (c : k.a + k.o.length < h.a) (e1 : k' = k) (e2 : h' = ⟨h.a + (k.n.length - k.o.length), h.o, h.n⟩) : chg h k = some (k', h') := by
  subst e1 e2; exact if_pos c
theorem chg_B {h k k' h' : Hk} (c0 : ¬ k.a + (k.o.length : Int) < h.a) (c : h.a + h.n.length < k.a) (e1 : k' = ⟨k.a + (h.o.length - h.n.length), k.o, k.n⟩) (e2 : h' = h) : chg h k = some (k', h') := by
  subst e1 e2; exact (if_neg c0).trans (if_pos c)
theorem cube1 {h k l k1 h1 l1 h2 l2 k2 : Hk} (e1 : chg h k = some (k1, h1)) (e2 : chg h1 l = some (l1, h2)) (e3 : chg k1 l1 = some (l2, k2)) : ∃ l3 k3 h3, chg k l = some (l3, k3) ∧ chg h l3 = some (l2, h3) ∧ chg h3 k3 = some (k2, h2) := by
  rcases chg_cases e1 with ⟨c1, rfl, rfl⟩ | ⟨c1, rfl, rfl⟩ <;> rcases chg_cases e2 with ⟨c2, rfl, rfl⟩ | ⟨c2, rfl, rfl⟩ <;> rcases chg_cases e3 with ⟨c3, rfl, rfl⟩ | ⟨c3, rfl, rfl⟩ <;> (try dsimp only at c1 c2 c3)
  · exact ⟨_, _, _, chg_A (by first | rfl | omega | (dsimp only; omega)) rfl rfl, chg_A (by first | rfl | omega | (dsimp only; omega)) rfl rfl, chg_A (by first | rfl | omega | (dsimp only; omega)) rfl (Hk.ext' (by first | rfl | omega | (dsimp only; omega)) rfl rfl)⟩
  · first
    | exact ⟨_, _, _, chg_B (by first | rfl | omega | (dsimp only; omega)) (by first | rfl | omega | (dsimp only; omega)) rfl rfl, chg_A (by first | rfl | omega | (dsimp only; omega)) (Hk.ext' (by first | rfl | omega | (dsimp only; omega)) rfl rfl) rfl, chg_A (by first | rfl | omega | (dsimp only; omega)) (Hk.ext' (by first | rfl | omega | (dsimp only; omega)) rfl rfl) (Hk.ext' (by first | rfl | omega | (dsimp only; omega)) rfl rfl)⟩
  · first
    | exact ⟨_, _, _, chg_A (by first | rfl | omega | (dsimp only; omega)) rfl rfl, chg_B (by first | rfl | omega | (dsimp only; omega)) (by first | rfl | omega | (dsimp only; omega)) (Hk.ext' (by first | rfl | omega | (dsimp only; omega)) rfl rfl) rfl, chg_A (by first | rfl | omega | (dsimp only; omega)) (Hk.ext' (by first | rfl | omega | (dsimp only; omega)) rfl rfl) (Hk.ext' (by first | rfl | omega | (dsimp only; omega)) rfl rfl)⟩
  · first
    | exact ⟨_, _, _, chg_B (by first | rfl | omega | (dsimp only; omega)) (by first | rfl | omega | (dsimp only; omega)) rfl rfl, chg_B (by first | rfl | omega | (dsimp only; omega)) (by first | rfl | omega | (dsimp only; omega)) (Hk.ext' (by first | rfl | omega | (dsimp only; omega)) rfl rfl) rfl, chg_A (by first | rfl | omega | (dsimp only; omega)) (Hk.ext' (by first | rfl | omega | (dsimp only; omega)) rfl rfl) (Hk.ext' (by first | rfl | omega | (dsimp only; omega)) rfl rfl)⟩
  · first
    | exact ⟨_, _, _, chg_A (by first | rfl | omega | (dsimp only; omega)) rfl rfl, chg_A (by first | rfl | omega | (dsimp only; omega)) (Hk.ext' (by first | rfl | omega | (dsimp only; omega)) rfl rfl) rfl, chg_B (by first | rfl | omega | (dsimp only; omega)) (by first | rfl | omega | (dsimp only; omega)) (Hk.ext' (by first | rfl | omega | (dsimp only; omega)) rfl rfl) (Hk.ext' (by first | rfl | omega | (dsimp only; omega)) rfl rfl)⟩
  · first
    | exact ⟨_, _, _, chg_B (by first | rfl | omega | (dsimp only; omega)) (by first | rfl | omega | (dsimp only; omega)) rfl rfl, chg_A (by first | rfl | omega | (dsimp only; omega)) (Hk.ext' (by first | rfl | omega | (dsimp only; omega)) rfl rfl) rfl, chg_B (by first | rfl | omega | (dsimp only; omega)) (by first | rfl | omega | (dsimp only; omega)) (Hk.ext' (by first | rfl | omega | (dsimp only; omega)) rfl rfl) (Hk.ext' (by first | rfl | omega | (dsimp only; omega)) rfl rfl)⟩
  · first
    | exact ⟨_, _, _, chg_A (by first | rfl | omega | (dsimp only; omega)) rfl rfl, chg_B (by first | rfl | omega | (dsimp only; omega)) (by first | rfl | omega | (dsimp only; omega)) (Hk.ext' (by first | rfl | omega | (dsimp only; omega)) rfl rfl) rfl, chg_B (by first | rfl | omega | (dsimp only; omega)) (by first | rfl | omega | (dsimp only; omega)) (Hk.ext' (by first | rfl | omega | (dsimp only; omega)) rfl rfl) (Hk.ext' (by first | rfl | omega | (dsimp only; omega)) rfl rfl)⟩
  · first
    | exact ⟨_, _, _, chg_B (by first | rfl | omega | (dsimp only; omega)) (by first | rfl | omega | (dsimp only; omega)) rfl rfl, chg_B (by first | rfl | omega | (dsimp only; omega)) (by first | rfl | omega | (dsimp only; omega)) (Hk.ext' (by first | rfl | omega | (dsimp only; omega)) rfl rfl) rfl, chg_B (by first | rfl | omega | (dsimp only; omega)) (by first | rfl | omega | (dsimp only; omega)) (Hk.ext' (by first | rfl | omega | (dsimp only; omega)) rfl rfl) (Hk.ext' (by first | rfl | omega | (dsimp only; omega)) rfl rfl)⟩
theorem cube2 : ∀ {C C1 C2 : List Hk} {h k k1 h1 h2 k2 : Hk}, chg h k = some (k1, h1) → colH h1 C = some (C1, h2) → colH k1 C1 = some (C2, k2) → ∃ C3 k3 h3, colH k C = some (C3, k3) ∧ colH h C3 = some (C2, h3) ∧ chg h3 k3 = some (k2, h2)
  | [], C1, C2, h, k, k1, h1, h2, k2, e1, e2, e3 => by
    cases e2
    cases e3
    exact ⟨[], k, h, rfl, rfl, e1⟩
  | l :: r, C1, C2, h, k, k1, h1, h2, k2, e1, e2, e3 => by
    obtain ⟨l1, h1', r1, f1, f2, rfl⟩ := colH_cons e2
    obtain ⟨l2, k1', r2, f3, f4, rfl⟩ := colH_cons e3
    obtain ⟨l3, k3, h3, g1, g2, g3⟩ := cube1 e1 f1 f3
    obtain ⟨C3, k4, h4, q1, q2, q3⟩ := cube2 g3 f2 f4
    exact ⟨l3 :: C3, k4, h4, colH_mk g1 q1, colH_mk g2 q2, q3⟩
theorem cube3 : ∀ {B B1 B2 C C1 C2 : List Hk} {h h1 h2 : Hk} {i : Nat}, colH h B = some (B1, h1) → colH h1 C = some (C1, h2) → chgM B1 C1 i = .ok (C2, B2) → ∃ C3 B3 h3, chgM B C i = .ok (C3, B3) ∧ colH h C3 = some (C2, h3) ∧ colH h3 B3 = some (B2, h2)
  | [], B1, B2, C, C1, C2, h, h1, h2, i, e1, e2, e3 => by
    cases e1
    rw [chgM_nil] at e3
    cases e3
    exact ⟨C, [], h2, chgM_nil, e2, rfl⟩
  | k :: r, B1, B2, C, C1, C2, h, h1, h2, i, e1, e2, e3 => by
    obtain ⟨k1, h', r1, f1, f2, rfl⟩ := colH_cons e1
    obtain ⟨m, r', k', g1, g2, rfl⟩ := chgM_left e3
    obtain ⟨C3, B3, h3, q1, q2, q3⟩ := cube3 f2 e2 g1
    obtain ⟨C4, k3, h4, p1, p2, p3⟩ := cube2 f1 q2 g2
    exact ⟨C4, k3 :: B3, h4, chgM_leftM q1 p1, p2, colH_mk p3 q3⟩
theorem cube4 : ∀ {A A1 A2 B B1 B2 C C1 C2 : List Hk} {i : Nat}, chgM A B i = .ok (B1, A1) → chgM A1 C i = .ok (C1, A2) → chgM B1 C1 i = .ok (C2, B2) → ∃ C3 B3 A3, chgM B C i = .ok (C3, B3) ∧ chgM A C3 i = .ok (C2, A3) ∧ chgM A3 B3 i = .ok (B2, A2)
  | [], A1, A2, B, B1, B2, C, C1, C2, i, e1, e2, e3 => by
    rw [chgM_nil] at e1
    cases e1
    rw [chgM_nil] at e2
    cases e2
    exact ⟨C2, B2, [], e3, chgM_nil, chgM_nil⟩
  | h :: r, A1, A2, B, B1, B2, C, C1, C2, i, e1, e2, e3 => by
    obtain ⟨m, r', h', f1, f2, rfl⟩ := chgM_left e1
    obtain ⟨m2, r2, h2, g1, g2, rfl⟩ := chgM_left e2
    obtain ⟨C3, B3, h3, q1, q2, q3⟩ := cube3 f2 g2 e3
    obtain ⟨C4, B4, A4, p1, p2, p3⟩ := cube4 f1 g1 q1
    exact ⟨C4, B4, h3 :: A4, p1, chgM_leftM p2 q2, chgM_leftM p3 q3⟩
structure R3 where
  a : PyData × List Hk
  b : PyData × List Hk
  c : PyData × List Hk
def stF (r : R3) : Option R3 := match chgM r.a.2 r.b.2 0 with
  | .ok (x, y) => some ⟨(r.b.1, x), (r.a.1, y), r.c⟩
  | .error _ => none
def stT (r : R3) : Option R3 := match chgM r.b.2 r.c.2 0 with
  | .ok (x, y) => some ⟨r.a, (r.c.1, x), (r.b.1, y)⟩
  | .error _ => none
def stp (s : Bool) (r : R3) : Option R3 := match s with
  | false => stF r
  | true => stT r
def goS : List Bool → R3 → Option R3
  | [], r => some r
  | s :: q, r => match stp s r with
    | none => none
    | some r' => goS q r'
theorem stp_f {a b c : PyData × List Hk} {r : R3} (e : stp false ⟨a, b, c⟩ = some r) : ∃ x y, chgM a.2 b.2 0 = .ok (x, y) ∧ r = ⟨(b.1, x), (a.1, y), c⟩ := by
  have e : stF ⟨a, b, c⟩ = some r := e
  unfold stF at e
  simp only [] at e
  cases d : chgM a.2 b.2 0 with
  | error z => rw [d] at e; cases e
  | ok z => obtain ⟨x, y⟩ := z; rw [d] at e; cases e; exact ⟨x, y, rfl, rfl⟩
theorem stp_t {a b c : PyData × List Hk} {r : R3} (e : stp true ⟨a, b, c⟩ = some r) : ∃ x y, chgM b.2 c.2 0 = .ok (x, y) ∧ r = ⟨a, (c.1, x), (b.1, y)⟩ := by
  have e : stT ⟨a, b, c⟩ = some r := e
  unfold stT at e
  simp only [] at e
  cases d : chgM b.2 c.2 0 with
  | error z => rw [d] at e; cases e
  | ok z => obtain ⟨x, y⟩ := z; rw [d] at e; cases e; exact ⟨x, y, rfl, rfl⟩
theorem stp_fM {a b c : PyData × List Hk} {x y : List Hk} (e : chgM a.2 b.2 0 = .ok (x, y)) : stp false ⟨a, b, c⟩ = some ⟨(b.1, x), (a.1, y), c⟩ := by
  show stF ⟨a, b, c⟩ = _
  unfold stF
  simp only [e]
theorem stp_tM {a b c : PyData × List Hk} {x y : List Hk} (e : chgM b.2 c.2 0 = .ok (x, y)) : stp true ⟨a, b, c⟩ = some ⟨a, (c.1, x), (b.1, y)⟩ := by
  show stT ⟨a, b, c⟩ = _
  unfold stT
  simp only [e]
theorem stp_back {s : Bool} {r r' : R3} (e : stp s r = some r') : stp s r' = some r := by
  obtain ⟨a, b, c⟩ := r
  cases s with
  | false =>
    obtain ⟨x, y, h1, rfl⟩ := stp_f e
    exact stp_fM (chgM_back h1 0)
  | true =>
    obtain ⟨x, y, h1, rfl⟩ := stp_t e
    exact stp_tM (chgM_back h1 0)
theorem goS_app : ∀ {q p : List Bool} {r u : R3}, goS q r = some u → goS (q ++ p) r = goS p u
  | [], p, r, u, e => by cases e; rfl
  | s :: q, p, r, u, e => by
    unfold goS at e
    rw [List.cons_append]
    conv => lhs; unfold goS
    cases d : stp s r with
    | none => rw [d] at e; cases e
    | some v =>
      rw [d] at e
      exact goS_app e
theorem goS_back : ∀ {q : List Bool} {r u : R3}, goS q r = some u → goS q.reverse u = some r
  | [], r, u, e => by cases e; rfl
  | s :: q, r, u, e => by
    unfold goS at e
    cases d : stp s r with
    | none => rw [d] at e; cases e
    | some v =>
      rw [d] at e
      rw [List.reverse_cons, goS_app (goS_back e)]
      unfold goS
      rw [stp_back d]
      rfl
theorem goS3 {s1 s2 s3 : Bool} {r u : R3} (e : goS [s1, s2, s3] r = some u) : ∃ v w, stp s1 r = some v ∧ stp s2 v = some w ∧ stp s3 w = some u := by
  unfold goS at e
  cases d1 : stp s1 r with
  | none => rw [d1] at e; cases e
  | some v =>
    rw [d1] at e
    simp only [] at e
    unfold goS at e
    cases d2 : stp s2 v with
    | none => rw [d2] at e; cases e
    | some w =>
      rw [d2] at e
      simp only [] at e
      unfold goS at e
      cases d3 : stp s3 w with
      | none => rw [d3] at e; cases e
      | some x =>
        rw [d3] at e
        simp only [] at e
        unfold goS at e
        cases e
        exact ⟨v, w, rfl, d2, d3⟩
theorem goS3M {s1 s2 s3 : Bool} {r u v w : R3} (e1 : stp s1 r = some v) (e2 : stp s2 v = some w) (e3 : stp s3 w = some u) : goS [s1, s2, s3] r = some u := by
  unfold goS; rw [e1]; simp only []
  unfold goS; rw [e2]; simp only []
  unfold goS; rw [e3]; simp only []
  rfl
theorem yb1 {r u : R3} (e : goS [false, true, false] r = some u) : goS [true, false, true] r = some u := by
  obtain ⟨v, w, e1, e2, e3⟩ := goS3 e
  obtain ⟨a, b, c⟩ := r
  obtain ⟨B1, A1, f1, rfl⟩ := stp_f e1
  obtain ⟨C1, A2, f2, rfl⟩ := stp_t e2
  obtain ⟨C2, B2, f3, rfl⟩ := stp_f e3
  obtain ⟨C3, B3, A3, g1, g2, g3⟩ := cube4 f1 f2 f3
  exact goS3M (stp_tM g1) (stp_fM g2) (stp_tM g3)
def tuR (x : List Hk) : List Hk := x.reverse.map turnH
theorem tuR_tuR (x : List Hk) : tuR (tuR x) = x := turns_turn x
theorem chgM_tu {A B X Y : List Hk} (e : chgM A B 0 = .ok (X, Y)) : chgM (tuR B) (tuR A) 0 = .ok (tuR Y, tuR X) := chgM_turn e 0
theorem chgM_ut {A B X Y : List Hk} (e : chgM (tuR A) (tuR B) 0 = .ok (X, Y)) : chgM B A 0 = .ok (tuR Y, tuR X) := by
  have := chgM_tu e
  rw [tuR_tuR, tuR_tuR] at this
  exact this
theorem yb2 {r u : R3} (e : goS [true, false, true] r = some u) : goS [false, true, false] r = some u := by
  obtain ⟨v, w, e1, e2, e3⟩ := goS3 e
  obtain ⟨a, b, c⟩ := r
  obtain ⟨C3, B3, f1, rfl⟩ := stp_t e1
  obtain ⟨C4, A3, f2, rfl⟩ := stp_f e2
  obtain ⟨B4, A4, f3, rfl⟩ := stp_t e3
  have f1 : chgM b.2 c.2 0 = .ok (C3, B3) := f1
  have f2 : chgM a.2 C3 0 = .ok (C4, A3) := f2
  have f3 : chgM A3 B3 0 = .ok (B4, A4) := f3
  obtain ⟨X, Y, Z, g1, g2, g3⟩ := cube4 (chgM_tu f1) (chgM_tu f2) (chgM_tu f3)
  have h1 := chgM_ut g1
  have h2 := chgM_tu g2
  have h3 := chgM_tu g3
  rw [tuR_tuR, tuR_tuR] at h2
  rw [tuR_tuR, tuR_tuR] at h3
  exact goS3M (stp_fM h1) (stp_tM h2) (stp_fM h3)
theorem yb (r : R3) : goS [false, true, false] r = goS [true, false, true] r := by
  cases e : goS [false, true, false] r with
  | some u => exact (yb1 e).symm
  | none =>
    cases f : goS [true, false, true] r with
    | none => rfl
    | some u => rw [yb2 f] at e; cases e
end L2.Dl
namespace L2.Dl
open PySem
open PySem.Spec
open PyProof.Rows
structure Nk (b : Int) (p : PyData × List Hk) : Prop where
  n : Ck 3000 10 p.1
  l : p.2.length ≤ 3
  v : ∀ h ∈ p.2, Hb 4 b h
structure R3ok (e : Int) (r : R3) : Prop where
  a : Nk e r.a
  b : Nk e r.b
  c : Nk e r.c
theorem Nk.mono {b c : Int} {p : PyData × List Hk} (h : Nk b p) (q : b ≤ c) : Nk c p := ⟨h.n, h.l, fun x hx => (h.v x hx).mono q⟩
theorem nk_chg {b : Int} {p q : PyData × List Hk} {x y : List Hk} (h : Nk b p) (k : Nk b q) (e : chgM p.2 q.2 0 = .ok (x, y)) (hb : b ≤ 1000000) : Nk (b + 12) (q.1, x) ∧ Nk (b + 12) (p.1, y) := by
  have h1 := h.l
  have h2 := k.l
  obtain ⟨q1, q2, q3, q4⟩ := chgM_hb h.v k.v e (by omega) (by omega)
  exact ⟨⟨k.n, by show x.length ≤ 3; omega, fun z hz => (q1 z hz).mono (by omega)⟩, ⟨h.n, by show y.length ≤ 3; omega, fun z hz => (q2 z hz).mono (by omega)⟩⟩
theorem stp_ok {b : Int} {s : Bool} {r r' : R3} (h : R3ok b r) (e : stp s r = some r') (hb : b ≤ 1000000) : R3ok (b + 12) r' := by
  obtain ⟨p, q, t⟩ := r
  cases s with
  | false =>
    obtain ⟨x, y, h1, rfl⟩ := stp_f e
    obtain ⟨k1, k2⟩ := nk_chg h.a h.b h1 hb
    exact ⟨k1, k2, h.c.mono (by omega)⟩
  | true =>
    obtain ⟨x, y, h1, rfl⟩ := stp_t e
    obtain ⟨k1, k2⟩ := nk_chg h.b h.c h1 hb
    exact ⟨h.a.mono (by omega), k1, k2⟩
theorem goS_ok : ∀ {q : List Bool} {b : Int} {r r' : R3}, R3ok b r → goS q r = some r' → b + 12 * q.length ≤ 1000000 → R3ok (b + 12 * q.length) r'
  | [], b, r, r', h, e, _ => by
    cases e
    exact ⟨h.a.mono (by simp), h.b.mono (by simp), h.c.mono (by simp)⟩
  | s :: q, b, r, r', h, e, hb => by
    unfold goS at e
    have e0 : (((s :: q).length : Nat) : Int) = (q.length : Int) + 1 := by simp
    rw [e0] at hb ⊢
    cases d : stp s r with
    | none => rw [d] at e; cases e
    | some v =>
      rw [d] at e
      have := goS_ok (stp_ok h d (by omega)) e (by omega)
      exact ⟨this.a.mono (by omega), this.b.mono (by omega), this.c.mono (by omega)⟩
def RD (rows : List Str) (r : R3) (t : List Str) : Prop := ∃ u v, doAll rows r.a.2 0 = .ok u ∧ doAll u r.b.2 0 = .ok v ∧ doAll v r.c.2 0 = .ok t
theorem stp_RD {rows t : List Str} {b : Int} {s : Bool} {r r' : R3} (h : R3ok b r) (e : stp s r = some r') (d : RD rows r t) : RD rows r' t := by
  obtain ⟨p, q, c⟩ := r
  obtain ⟨u, v, d1, d2, d3⟩ := d
  cases s with
  | false =>
    obtain ⟨x, y, h1, rfl⟩ := stp_f e
    obtain ⟨w, k1, k2⟩ := chgM_do (fun z hz => (h.a.v z hz).1.a0) (fun z hz => (h.b.v z hz).1.a0) h1 d1 d2
    exact ⟨w, v, k1, k2, d3⟩
  | true =>
    obtain ⟨x, y, h1, rfl⟩ := stp_t e
    obtain ⟨w, k1, k2⟩ := chgM_do (fun z hz => (h.b.v z hz).1.a0) (fun z hz => (h.c.v z hz).1.a0) h1 d2 d3
    exact ⟨u, w, d1, k1, k2⟩
theorem goS_RD {rows t : List Str} : ∀ {q : List Bool} {b : Int} {r r' : R3}, R3ok b r → goS q r = some r' → b + 12 * q.length ≤ 1000000 → RD rows r t → RD rows r' t
  | [], b, r, r', h, e, _, d => by cases e; exact d
  | s :: q, b, r, r', h, e, hb, d => by
    unfold goS at e
    have e0 : (((s :: q).length : Nat) : Int) = (q.length : Int) + 1 := by simp
    rw [e0] at hb
    cases f : stp s r with
    | none => rw [f] at e; cases e
    | some v =>
      rw [f] at e
      exact goS_RD (stp_ok h f (by omega)) e (by omega) (stp_RD h f d)
theorem lc_nil {S : Type} {f : PyData → EM S (Option PyData)} {acc : List PyData} : ∀ {xs : List PyData}, (∀ x ∈ xs, f x = eV none) → eLc f xs acc = eV acc
  | [], _ => rfl
  | x :: r, h => by
    unfold eLc
    rw [h x List.mem_cons_self, shut_V, bnd_V]
    exact lc_nil fun y hy => h y (List.mem_cons_of_mem _ hy)
def eR (r : R3) : PyData := .tuple [eM r.a, eM r.b, eM r.c]
def oR : Option R3 → PyData
  | some r => eR r
  | none => .none
def sI : Bool → PyData
  | false => .int 0
  | true => .int 1
theorem Nk.ck {b : Int} {p : PyData × List Hk} (h : Nk b p) : Ck 20000 11 (eM p) := (ck_mN h.n (fun x hx => (h.v x hx).1) h.l).up rfl rfl
theorem R3ok.ck {b : Int} {r : R3} (h : R3ok b r) : Ck 60100 12 (eR r) := (ck3 h.a.ck h.b.ck h.c.ck).up rfl rfl
end L2.Dl

namespace L2.Dl
open PySem
open PySem.Spec
open PyProof.Rows
def mtH (h k : Hk) : Option (Hk × Hk) :=
  if h.a + h.o.length < k.a then some (h, ⟨k.a + h.n.length - h.o.length, k.o, k.n⟩)
  else if k.a + k.o.length < h.a then some (⟨h.a + k.n.length - k.o.length, h.o, h.n⟩, k)
  else none
def mtR : Hk → List Hk → Option (Hk × List Hk)
  | h, [] => some (h, [])
  | h, k :: r => match mtH h k with
    | none => none
    | some (h', k') => match mtR h' r with
      | none => none
      | some (h'', r') => some (h'', k' :: r')
def mtM : List Hk → List Hk → Option (List Hk × List Hk)
  | [], row => some ([], row)
  | h :: q, row => match mtR h row with
    | none => none
    | some (h', row') => match mtM q row' with
      | none => none
      | some (f, r) => some (h' :: f, r)
theorem mtR_cons (h k : Hk) (r : List Hk) : mtR h (k :: r) = match mtH h k with
  | none => none
  | some (h', k') => match mtR h' r with
    | none => none
    | some (h'', r') => some (h'', k' :: r') := rfl
theorem mtM_cons (h : Hk) (q row : List Hk) : mtM (h :: q) row = match mtR h row with
  | none => none
  | some (h', row') => match mtM q row' with
    | none => none
    | some (f, r) => some (h' :: f, r) := rfl
theorem mtR_app : ∀ (r1 r2 : List Hk) (h : Hk), mtR h (r1 ++ r2) = match mtR h r1 with
    | none => none
    | some (h1, r1') => match mtR h1 r2 with
      | none => none
      | some (h2, r2') => some (h2, r1' ++ r2')
  | [], r2, h => by
    rw [List.nil_append]
    show _ = match mtR h r2 with | none => none | some (h2, r2') => some (h2, [] ++ r2')
    cases mtR h r2 with
    | none => rfl
    | some x => rfl
  | k :: r1, r2, h => by
    rw [List.cons_append, mtR_cons, mtR_cons]
    cases mtH h k with
    | none => rfl
    | some x =>
      obtain ⟨h', k'⟩ := x
      simp only []
      rw [mtR_app r1 r2 h']
      cases mtR h' r1 with
      | none => rfl
      | some y =>
        obtain ⟨h1, r1'⟩ := y
        simp only []
        cases mtR h1 r2 with
        | none => rfl
        | some z => rfl
theorem mtM_app : ∀ (q r1 r2 : List Hk), mtM q (r1 ++ r2) = match mtM q r1 with
    | none => none
    | some (f1, r1') => match mtM f1 r2 with
      | none => none
      | some (f2, r2') => some (f2, r1' ++ r2')
  | [], r1, r2 => rfl
  | h :: q, r1, r2 => by
    rw [mtM_cons, mtM_cons, mtR_app]
    cases mtR h r1 with
    | none => rfl
    | some y =>
      obtain ⟨h1, r1'⟩ := y
      simp only []
      cases e2 : mtR h1 r2 with
      | none =>
        simp only []
        cases mtM q r1' with
        | none => rfl
        | some z =>
          obtain ⟨f1, r1''⟩ := z
          simp only []
          rw [mtM_cons, e2]
      | some z =>
        obtain ⟨h2, r2'⟩ := z
        simp only []
        rw [mtM_app q r1' r2']
        cases mtM q r1' with
        | none => rfl
        | some z =>
          obtain ⟨f1, r1''⟩ := z
          simp only []
          rw [mtM_cons, e2]
          simp only []
          cases mtM f1 r2' with
          | none => rfl
          | some z => rfl
theorem mt_hb {k : Nat} {b c : Int} {h g h' g' : Hk} (v : Hb k b h) (w : Hb k c g) (e : mtH h g = some (h', g')) (hb : b + k ≤ 10 ^ 62) (hc : c + k ≤ 10 ^ 62) : Hb k (b + k) h' ∧ Hb k (c + k) g' := by
  have v1 := v.1.a0; have v2 := v.2; have v3 := v.1.ol; have v4 := v.1.nl
  have w1 := w.1.a0; have w2 := w.2; have w3 := w.1.ol; have w4 := w.1.nl
  unfold mtH at e
  split at e
  · cases e
    refine ⟨v.mono (by omega), ⟨⟨?_, ?_, w3, w4, w.1.ot, w.1.nt⟩, ?_⟩⟩
    · show 0 ≤ g.a + _ - _; omega
    · show g.a + _ - _ ≤ _; omega
    · show g.a + _ - _ ≤ _; omega
  · split at e
    · cases e
      refine ⟨⟨⟨?_, ?_, v3, v4, v.1.ot, v.1.nt⟩, ?_⟩, w.mono (by omega)⟩
      · show 0 ≤ h.a + _ - _; omega
      · show h.a + _ - _ ≤ _; omega
      · show h.a + _ - _ ≤ _; omega
    · cases e
theorem mtR_hb {k : Nat} : ∀ {row row' : List Hk} {h h' : Hk} {b c : Int}, Hb k b h → (∀ x ∈ row, Hb k c x) → mtR h row = some (h', row') → b + k * row.length ≤ 10 ^ 62 → c + k ≤ 10 ^ 62 → Hb k (b + k * row.length) h' ∧ (∀ x ∈ row', Hb k (c + k) x) ∧ row'.length = row.length
  | [], row', h, h', b, c, v, _, e, _, _ => by
    cases e
    exact ⟨v.mono (by simp), (fun _ h => nomatch h), rfl⟩
  | g :: r, row', h, h', b, c, v, w, e, hb, hc => by
    have e0 : (((g :: r).length : Nat) : Int) = (r.length : Int) + 1 := by simp
    rw [e0, Int.mul_add, Int.mul_one] at hb ⊢
    have kp : (0 : Int) ≤ (k : Int) * (r.length : Int) := Int.mul_nonneg (Int.natCast_nonneg _) (Int.natCast_nonneg _)
    unfold mtR at e
    cases d : mtH h g with
    | none => rw [d] at e; cases e
    | some x =>
      obtain ⟨h1, g1⟩ := x
      rw [d] at e
      simp only [] at e
      obtain ⟨q1, q2⟩ := mt_hb v (w g List.mem_cons_self) d (by omega) hc
      cases f : mtR h1 r with
      | none => rw [f] at e; cases e
      | some y =>
        obtain ⟨h2, r'⟩ := y
        rw [f] at e
        cases e
        obtain ⟨p1, p2, p3⟩ := mtR_hb q1 (fun x hx => w x (List.mem_cons_of_mem _ hx)) f (by omega) hc
        refine ⟨p1.mono (by omega), fun x hx => ?_, by rw [List.length_cons, List.length_cons, p3]⟩
        rcases List.mem_cons.mp hx with rfl | hx
        · exact q2
        · exact p2 x hx
theorem mtM_hb {k : Nat} : ∀ {q f row r : List Hk} {b c : Int}, (∀ x ∈ q, Hb k b x) → (∀ x ∈ row, Hb k c x) → mtM q row = some (f, r) → b + k * row.length ≤ 10 ^ 62 → c + k * q.length ≤ 10 ^ 62 → (∀ x ∈ f, Hb k (b + k * row.length) x) ∧ (∀ x ∈ r, Hb k (c + k * q.length) x) ∧ f.length = q.length ∧ r.length = row.length
  | [], f, row, r, b, c, _, w, e, _, _ => by
    cases e
    exact ⟨(fun _ h => nomatch h), fun x hx => (w x hx).mono (by simp), rfl, rfl⟩
  | h :: q, f, row, r, b, c, v, w, e, hb, hc => by
    have e0 : (((h :: q).length : Nat) : Int) = (q.length : Int) + 1 := by simp
    rw [e0, Int.mul_add, Int.mul_one] at hc
    rw [e0, Int.mul_add, Int.mul_one]
    have kp : (0 : Int) ≤ (k : Int) * (q.length : Int) := Int.mul_nonneg (Int.natCast_nonneg _) (Int.natCast_nonneg _)
    unfold mtM at e
    cases d : mtR h row with
    | none => rw [d] at e; cases e
    | some x =>
      obtain ⟨h', row'⟩ := x
      rw [d] at e
      simp only [] at e
      obtain ⟨q1, q2, q3⟩ := mtR_hb (v h List.mem_cons_self) w d hb (by omega)
      cases g : mtM q row' with
      | none => rw [g] at e; cases e
      | some y =>
        obtain ⟨f', r'⟩ := y
        rw [g] at e
        cases e
        obtain ⟨p1, p2, p3, p4⟩ := mtM_hb (fun x hx => v x (List.mem_cons_of_mem _ hx)) q2 g (by rw [q3]; exact hb) (by omega)
        rw [q3] at p1
        refine ⟨fun x hx => ?_, fun x hx => (p2 x hx).mono (by omega), by rw [List.length_cons, List.length_cons, p3], by rw [p4, q3]⟩
        rcases List.mem_cons.mp hx with rfl | hx
        · exact q1
        · exact p1 x hx
abbrev Ln := List (PyData × List Hk)
def fl (ms : Ln) : List Hk := (ms.map (·.2)).flatten
def ag : Ln → List Hk → Ln
  | [], _ => []
  | m :: q, hs => (m.1, hs.take m.2.length) :: ag q (hs.drop m.2.length)
theorem ag_cons (m : PyData × List Hk) (q : Ln) (hs : List Hk) : ag (m :: q) hs = (m.1, hs.take m.2.length) :: ag q (hs.drop m.2.length) := rfl
theorem fl_cons (m : PyData × List Hk) (q : Ln) : fl (m :: q) = m.2 ++ fl q := rfl
theorem fl_app (p q : Ln) : fl (p ++ q) = fl p ++ fl q := by unfold fl; rw [List.map_append, List.flatten_append]
theorem fl_ag : ∀ {ms : Ln} {hs : List Hk}, hs.length = (fl ms).length → fl (ag ms hs) = hs
  | [], hs, h => by
    have h : hs.length = 0 := h
    rw [List.length_eq_zero_iff.mp h]; rfl
  | m :: q, hs, h => by
    rw [fl_cons, List.length_append] at h
    rw [ag_cons, fl_cons, fl_ag (by rw [List.length_drop]; omega), List.take_append_drop]
theorem ag_ag : ∀ {ms : Ln} {f g : List Hk}, f.length = (fl ms).length → ag (ag ms f) g = ag ms g
  | [], f, g, h => rfl
  | m :: q, f, g, h => by
    rw [fl_cons, List.length_append] at h
    have e : (f.take m.2.length).length = m.2.length := by rw [List.length_take]; omega
    rw [ag_cons, ag_cons, ag_cons, ag_ag (by rw [List.length_drop]; omega)]
    show (m.1, g.take (f.take m.2.length).length) :: ag q (g.drop (f.take m.2.length).length) = _
    rw [e]
theorem ag_app : ∀ {p q : Ln} {f g : List Hk}, f.length = (fl p).length → ag (p ++ q) (f ++ g) = ag p f ++ ag q g
  | [], q, f, g, h => by
    have h : f.length = 0 := h
    rw [List.length_eq_zero_iff.mp h]; rfl
  | m :: p, q, f, g, h => by
    rw [fl_cons, List.length_append] at h
    rw [List.cons_append, ag_cons, ag_cons, List.take_append_of_le_length (by omega), List.drop_append_of_le_length (by omega), ag_app (by rw [List.length_drop]; omega), List.cons_append]
theorem fl_mem : ∀ {ms : Ln} {m : PyData × List Hk}, m ∈ ms → m.2.length ≤ (fl ms).length
  | x :: q, m, h => by
    rw [fl_cons, List.length_append]
    rcases List.mem_cons.mp h with rfl | h
    · omega
    · have := fl_mem h
      omega
theorem fl_memH {ms : Ln} {h : Hk} (e : h ∈ fl ms) : ∃ m ∈ ms, h ∈ m.2 := by
  unfold fl at e
  obtain ⟨l, hl, hh⟩ := List.mem_flatten.mp e
  obtain ⟨m, hm, rfl⟩ := List.mem_map.mp hl
  exact ⟨m, hm, hh⟩
theorem memH_fl {ms : Ln} {m : PyData × List Hk} {h : Hk} (e : m ∈ ms) (k : h ∈ m.2) : h ∈ fl ms := List.mem_flatten.mpr ⟨m.2, List.mem_map.mpr ⟨m, e, rfl⟩, k⟩
def metL (ms ks : Ln) : Option (Ln × Ln) := match mtM (fl ms) (fl ks) with
  | none => none
  | some (f, r) => some (ag ms f, ag ks r)
theorem mtM_len {q f row r : List Hk} (e : mtM q row = some (f, r)) : f.length = q.length ∧ r.length = row.length := by
  have rr : ∀ {row row' : List Hk} {h h' : Hk}, mtR h row = some (h', row') → row'.length = row.length := by
    intro row
    induction row with
    | nil => intro row' h h' e; cases e; rfl
    | cons g r ih =>
      intro row' h h' e
      unfold mtR at e
      cases d : mtH h g with
      | none => rw [d] at e; cases e
      | some x =>
        obtain ⟨h1, g1⟩ := x
        rw [d] at e
        simp only [] at e
        cases f : mtR h1 r with
        | none => rw [f] at e; cases e
        | some y =>
          obtain ⟨h2, r'⟩ := y
          rw [f] at e
          cases e
          rw [List.length_cons, List.length_cons, ih f]
  induction q generalizing f row r with
  | nil => cases e; exact ⟨rfl, rfl⟩
  | cons h q ih =>
    unfold mtM at e
    cases d : mtR h row with
    | none => rw [d] at e; cases e
    | some x =>
      obtain ⟨h', row'⟩ := x
      rw [d] at e
      simp only [] at e
      cases g : mtM q row' with
      | none => rw [g] at e; cases e
      | some y =>
        obtain ⟨f', r'⟩ := y
        rw [g] at e
        cases e
        obtain ⟨a, b⟩ := ih g
        exact ⟨by rw [List.length_cons, List.length_cons, a], by rw [b, rr d]⟩
/-- piece by piece -/
theorem metL_app (ms p q : Ln) : metL ms (p ++ q) = match metL ms p with
    | none => none
    | some (a, b) => match metL a q with
      | none => none
      | some (c, d) => some (c, b ++ d) := by
  unfold metL
  rw [fl_app, mtM_app]
  cases e : mtM (fl ms) (fl p) with
  | none => rfl
  | some x =>
    obtain ⟨f1, r1⟩ := x
    obtain ⟨l1, l2⟩ := mtM_len e
    simp only []
    rw [fl_ag l1]
    cases e2 : mtM f1 (fl q) with
    | none => rfl
    | some y =>
      obtain ⟨f2, r2⟩ := y
      obtain ⟨l3, l4⟩ := mtM_len e2
      simp only []
      rw [ag_ag l1, ag_app l2]
theorem lcO_map {S α : Type} {g : PyData → List PyData → EM S (List PyData)} {e : α → PyData} {G : α → List PyData} : ∀ {xs : List α} {acc : List PyData}, (∀ x ∈ xs, ∀ acc : List PyData, acc.length ≤ 900000 → g (e x) acc = eV (acc ++ G x)) → acc.length + ((xs.map G).flatten).length ≤ 900000 → eLcO g (xs.map e) acc = eV (acc ++ (xs.map G).flatten)
  | [], acc, _, _ => by rw [List.map_nil, List.map_nil, List.flatten_nil, List.append_nil]; rfl
  | x :: r, acc, h, hl => by
    rw [List.map_cons, List.flatten_cons, List.length_append] at hl
    rw [List.map_cons, List.map_cons, List.flatten_cons]
    unfold eLcO
    rw [h x List.mem_cons_self acc (by omega), shut_V, bnd_V, lcO_map (fun y hy => h y (List.mem_cons_of_mem _ hy)) (by rw [List.length_append]; omega), List.append_assoc]
theorem eLC2_u {S : Type} (xs : EM S (List PyData)) (g : PyData → List PyData → EM S (List PyData)) : eLC2 xs g = Dl.bnd xs fun l => eLcO g l [] := rfl
def eO (p : PyData × Hk) : PyData := .tuple [p.1, eH p.2]
def fo (ms : Ln) : List (PyData × Hk) := (ms.map fun m => m.2.map fun h => (m.1, h)).flatten
theorem fo_snd : ∀ ms : Ln, (fo ms).map (·.2) = fl ms
  | [] => rfl
  | m :: q => by
    have ih := fo_snd q
    unfold fo at ih ⊢
    rw [List.map_cons, List.flatten_cons, List.map_append, ih, fl_cons, List.map_map]
    congr 1
    exact List.map_id' _
def tL (ms : Ln) : PyData := .tuple (ms.map eM)
def oM : Option (Ln × Ln) → PyData
  | none => .none
  | some (a, b) => .tuple [tL a, tL b]
end L2.Dl

namespace L2.Dl
open PySem
open PySem.Spec
open PyProof.Rows
open PySem.Builtin.Str (reprChar)
def ltr (z : Str) : Bool := (z.cps.toList.all fun c => decide (97 ≤ c) && decide (c ≤ 122)) && decide (z.cps.toList.length ≤ 4)
def LtrL (l : List Nat) : Prop := ∀ c ∈ l, 97 ≤ c ∧ c ≤ 122
theorem ltr_l {z : Str} (h : ltr z = true) : LtrL z.cps.toList := fun c hc => by
  have := List.all_eq_true.mp (Bool.and_eq_true_iff.mp h).1 c hc
  rw [Bool.and_eq_true] at this
  exact ⟨of_decide_eq_true this.1, of_decide_eq_true this.2⟩
theorem rc26 : ∀ k : Fin 26, reprChar 39 (97 + k.val) = [97 + k.val] := by decide +kernel
theorem rc_l {c : Nat} (h : 97 ≤ c ∧ c ≤ 122) : reprChar 39 c = [c] := by
  have := rc26 ⟨c - 97, by omega⟩
  rw [show 97 + (⟨c - 97, by omega⟩ : Fin 26).val = c by show 97 + (c - 97) = c; omega] at this
  exact this
theorem fold_l : ∀ {l : List Nat} {acc : Array Nat}, LtrL l → (l.foldl (fun out c => out ++ (reprChar 39 c).toArray) acc).toList = acc.toList ++ l
  | [], acc, _ => (List.append_nil _).symm
  | c :: r, acc, h => by
    rw [List.foldl_cons, fold_l (fun x hx => h x (List.mem_cons_of_mem _ hx)), rc_l (h c List.mem_cons_self)]
    simp
def enc (z : Str) : List Nat := 39 :: (z.cps.toList ++ [39])
theorem quote_l {z : Str} (h : ltr z = true) : reprQuote z = 39 := by
  have n : ¬ (39 ∈ z.cps.toList) := fun q => by
    have := ltr_l h 39 q
    omega
  unfold reprQuote
  simp_all
theorem repr_l {z : Str} (h : ltr z = true) : (reprText z).cps.toList = enc z := by
  unfold reprText enc
  rw [quote_l h, ← Array.foldl_toList]
  rw [Array.toList_push, fold_l (ltr_l h)]
  rfl
def Bc : List Str → List Nat
  | [] => [41]
  | [x] => enc x ++ [41]
  | x :: y :: r => enc x ++ 44 :: 32 :: Bc (y :: r)
def Bd : List Str → List Nat
  | [] => [41]
  | [x] => enc x ++ [44, 41]
  | x :: y :: r => enc x ++ 44 :: 32 :: Bc (y :: r)
theorem cut39 : ∀ {a b r s : List Nat}, LtrL a → LtrL b → a ++ 39 :: r = b ++ 39 :: s → a = b ∧ r = s
  | [], [], r, s, _, _, e => by
    rw [List.nil_append, List.nil_append] at e
    exact ⟨rfl, (List.cons.inj e).2⟩
  | [], c :: b, r, s, _, hb, e => by
    have := (List.cons.inj (show 39 :: r = c :: (b ++ 39 :: s) from e)).1
    have := hb c List.mem_cons_self
    omega
  | c :: a, [], r, s, ha, _, e => by
    have := (List.cons.inj (show c :: (a ++ 39 :: r) = 39 :: s from e)).1
    have := ha c List.mem_cons_self
    omega
  | c :: a, d :: b, r, s, ha, hb, e => by
    obtain ⟨h1, h2⟩ := List.cons.inj (show c :: (a ++ 39 :: r) = d :: (b ++ 39 :: s) from e)
    obtain ⟨h3, h4⟩ := cut39 (fun x hx => ha x (List.mem_cons_of_mem _ hx)) (fun x hx => hb x (List.mem_cons_of_mem _ hx)) h2
    rw [h1, h3]
    exact ⟨rfl, h4⟩
theorem str_ext {z w : Str} (h : z.cps.toList = w.cps.toList) : z = w := by
  obtain ⟨a⟩ := z
  obtain ⟨b⟩ := w
  congr 1
  exact Array.toList_inj.mp h
theorem enc_inj {z w : Str} {r s : List Nat} (hz : ltr z = true) (hw : ltr w = true) (e : enc z ++ r = enc w ++ s) : z = w ∧ r = s := by
  unfold enc at e
  rw [List.cons_append, List.cons_append, List.append_assoc, List.append_assoc] at e
  obtain ⟨h1, h2⟩ := cut39 (ltr_l hz) (ltr_l hw) (List.cons.inj e).2
  exact ⟨str_ext h1, h2⟩
def LtrS (xs : List Str) : Prop := ∀ z ∈ xs, ltr z = true
theorem LtrS.tl {x : Str} {xs : List Str} (h : LtrS (x :: xs)) : LtrS xs := fun z hz => h z (List.mem_cons_of_mem _ hz)
theorem LtrS.hd {x : Str} {xs : List Str} (h : LtrS (x :: xs)) : ltr x = true := h x List.mem_cons_self
theorem bc_inj : ∀ {xs ys : List Str} {r s : List Nat}, LtrS xs → LtrS ys → xs ≠ [] → ys ≠ [] → Bc xs ++ r = Bc ys ++ s → xs = ys ∧ r = s
  | [], _, _, _, _, _, h, _, _ => absurd rfl h
  | _, [], _, _, _, _, _, h, _ => absurd rfl h
  | [x], [y], r, s, hx, hy, _, _, e => by
    unfold Bc at e
    rw [List.append_assoc, List.append_assoc] at e
    obtain ⟨h1, h2⟩ := enc_inj hx.hd hy.hd e
    exact ⟨by rw [h1], (List.cons.inj h2).2⟩
  | [x], y :: y2 :: q, r, s, hx, hy, _, _, e => by
    unfold Bc at e
    rw [List.append_assoc, List.append_assoc] at e
    obtain ⟨h1, h2⟩ := enc_inj hx.hd hy.hd e
    have := (List.cons.inj h2).1
    omega
  | x :: x2 :: q, [y], r, s, hx, hy, _, _, e => by
    unfold Bc at e
    rw [List.append_assoc, List.append_assoc] at e
    obtain ⟨h1, h2⟩ := enc_inj hx.hd hy.hd e
    have := (List.cons.inj h2).1
    omega
  | x :: x2 :: q, y :: y2 :: p, r, s, hx, hy, _, _, e => by
    unfold Bc at e
    rw [List.append_assoc, List.append_assoc] at e
    obtain ⟨h1, h2⟩ := enc_inj hx.hd hy.hd e
    have h3 := (List.cons.inj (List.cons.inj h2).2).2
    obtain ⟨h4, h5⟩ := bc_inj hx.tl hy.tl (by simp) (by simp) h3
    exact ⟨by rw [h1, h4], h5⟩
theorem enc_hd (z : Str) (r : List Nat) : enc z ++ r = 39 :: (z.cps.toList ++ [39] ++ r) := rfl
theorem bd_inj : ∀ {xs ys : List Str} {r s : List Nat}, LtrS xs → LtrS ys → Bd xs ++ r = Bd ys ++ s → xs = ys ∧ r = s
  | [], [], r, s, _, _, e => ⟨rfl, (List.cons.inj e).2⟩
  | [], [y], r, s, _, _, e => by
    unfold Bd at e
    rw [List.append_assoc, enc_hd] at e
    have := (List.cons.inj e).1
    omega
  | [], y :: y2 :: q, r, s, _, _, e => by
    unfold Bd at e
    rw [List.append_assoc, enc_hd] at e
    have := (List.cons.inj e).1
    omega
  | [x], [], r, s, _, _, e => by
    unfold Bd at e
    rw [List.append_assoc, enc_hd] at e
    have := (List.cons.inj e).1
    omega
  | x :: x2 :: q, [], r, s, _, _, e => by
    unfold Bd at e
    rw [List.append_assoc, enc_hd] at e
    have := (List.cons.inj e).1
    omega
  | [x], [y], r, s, hx, hy, e => by
    unfold Bd at e
    rw [List.append_assoc, List.append_assoc] at e
    obtain ⟨h1, h2⟩ := enc_inj hx.hd hy.hd e
    exact ⟨by rw [h1], (List.cons.inj (List.cons.inj h2).2).2⟩
  | [x], y :: y2 :: q, r, s, hx, hy, e => by
    unfold Bd at e
    rw [List.append_assoc, List.append_assoc] at e
    obtain ⟨h1, h2⟩ := enc_inj hx.hd hy.hd e
    have := (List.cons.inj (List.cons.inj h2).2).1
    omega
  | x :: x2 :: q, [y], r, s, hx, hy, e => by
    unfold Bd at e
    rw [List.append_assoc, List.append_assoc] at e
    obtain ⟨h1, h2⟩ := enc_inj hx.hd hy.hd e
    have := (List.cons.inj (List.cons.inj h2).2).1
    omega
  | x :: x2 :: q, y :: y2 :: p, r, s, hx, hy, e => by
    unfold Bd at e
    rw [List.append_assoc, List.append_assoc] at e
    obtain ⟨h1, h2⟩ := enc_inj hx.hd hy.hd e
    have h3 := (List.cons.inj (List.cons.inj h2).2).2
    obtain ⟨h4, h5⟩ := bc_inj hx.tl hy.tl (by simp) (by simp) h3
    exact ⟨by rw [h1, h4], h5⟩
theorem app_l (x y : Str) : (x ++ y : Str).cps.toList = x.cps.toList ++ y.cps.toList := by
  show (x.cps ++ y.cps).toList = _
  simp
theorem join_l : ∀ {x : Str} {r : List Str}, LtrS (x :: r) → (Str.join ", " ((x :: r).map reprText)).cps.toList ++ [41] = Bc (x :: r)
  | x, [], h => by
    show (reprText x).cps.toList ++ [41] = _
    rw [repr_l h.hd]
    rfl
  | x, y :: r, h => by
    show (reprText x ++ ", " ++ Str.join ", " ((y :: r).map reprText)).cps.toList ++ [41] = _
    rw [app_l, app_l, List.append_assoc, join_l h.tl, repr_l h.hd, List.append_assoc]
    rfl
theorem shownAll_s : ∀ xs : List Str, PyData.shownAll (xs.map .str) = xs.map reprText
  | [] => rfl
  | x :: r => by
    show PyData.shown (.str x) :: PyData.shownAll (r.map .str) = _
    rw [shownAll_s r]
    rfl
theorem shown_tS {xs : List Str} (h : LtrS xs) : (tS xs).shown.cps.toList = 40 :: Bd xs := by
  show (tupleText (PyData.shownAll (xs.map .str))).cps.toList = _
  rw [shownAll_s]
  unfold tupleText
  rw [app_l, app_l]
  match xs, h with
  | [], _ => rfl
  | [x], h =>
    show [40] ++ (reprText x).cps.toList ++ [44, 41] = _
    rw [repr_l h.hd]
    rfl
  | x :: y :: r, h =>
    have q : ((if ((x :: y :: r).map reprText).length == 1 then ",)" else ")" : String) : Str).cps.toList = [41] := by
      rw [List.length_map]
      rfl
    rw [q, List.append_assoc, join_l h]
    rfl
theorem shown_2 {o n : List Str} (ho : LtrS o) (hn : LtrS n) : (PyData.tuple [tS o, tS n]).shown.cps.toList = 40 :: 40 :: (Bd o ++ (44 :: 32 :: 40 :: (Bd n ++ [41]))) := by
  show (tupleText [(tS o).shown, (tS n).shown]).cps.toList = _
  unfold tupleText
  rw [app_l, app_l]
  show [40] ++ ((tS o).shown ++ ", " ++ (tS n).shown).cps.toList ++ [41] = _
  rw [app_l, app_l, shown_tS ho, shown_tS hn]
  show [40] ++ ((40 :: Bd o) ++ [44, 32] ++ (40 :: Bd n)) ++ [41] = _
  simp
/-- pairs of rows of letters that are shown alike are alike -/
theorem pair_inj {o n p m : List Str} (ho : LtrS o) (hn : LtrS n) (hp : LtrS p) (hm : LtrS m) (e : (PyData.tuple [tS o, tS n]).shown = (PyData.tuple [tS p, tS m]).shown) : o = p ∧ n = m := by
  have e2 : (PyData.tuple [tS o, tS n]).shown.cps.toList = (PyData.tuple [tS p, tS m]).shown.cps.toList := congrArg (fun z : Str => z.cps.toList) e
  rw [shown_2 ho hn, shown_2 hp hm] at e2
  obtain ⟨h1, h2⟩ := bd_inj ho hp (List.cons.inj (List.cons.inj e2).2).2
  obtain ⟨h3, _⟩ := bd_inj hn hm (List.cons.inj (List.cons.inj (List.cons.inj h2).2).2).2
  exact ⟨h1, h3⟩
theorem ltr_len {z : Str} (h : ltr z = true) : z.cps.toList.length ≤ 4 := of_decide_eq_true (Bool.and_eq_true_iff.mp h).2
theorem rok_ltr {z : Str} (h : ltr z = true) : ROk 6 0 (.str z) := by
  refine ⟨rfl, ?_, Nat.le_refl _, rfl⟩
  have e := congrArg List.length (repr_l h)
  have l := ltr_len h
  show (reprText z).cps.size ≤ 6
  rw [← Array.length_toList, e]
  unfold enc
  rw [List.length_cons, List.length_append]
  show _ + 1 + 1 ≤ 6
  omega
theorem ck_ltr {z : Str} (t : tx z = true) (h : ltr z = true) : Ck 6 0 (.str z) := ⟨rok_ltr h, tx_c t⟩
theorem ck_tSl {xs : List Str} (k : Nat) (h : ∀ z ∈ xs, tx z = true) (l : LtrS xs) (hl : xs.length ≤ k) : Ck (8 * k + 3) 1 (tS xs) := ck_tupk (n := 6) (d := 0) (xs := xs.map .str) k (fun x hx => by
  obtain ⟨z, hz, rfl⟩ := List.mem_map.mp hx
  exact ck_ltr (h z hz) (l z hz)) (by rw [List.length_map]; exact hl)
theorem small_len : ∀ k : Fin 1001, (Str.ofString (toString (k.val : Int))).length ≤ 4 := by decide +kernel
theorem ck_small {i : Int} (h : 0 ≤ i) (h2 : i ≤ 1000) : Ck 4 0 (.int i) := by
  refine ⟨⟨decide_eq_true (log_small (k := 10) (by omega) (by decide)), ?_, Nat.le_refl _, rfl⟩, rfl⟩
  have := small_len ⟨i.toNat, by omega⟩
  rw [show ((⟨i.toNat, by omega⟩ : Fin 1001).val : Int) = i by show (i.toNat : Int) = i; omega] at this
  exact this
end L2.Dl

namespace Md
open PySem
open PySem.Spec
open PyProof.Rows
open L2
open L2.Dl
noncomputable section
abbrev ca_MendError : Str → Option Bool := fun n => ([("NoPaper", true)] : List (Str × Bool)).lookup n
abbrev ci_NoPaper : Str → Option Bool := fun n => ([("NoPaper", true)] : List (Str × Bool)).lookup n
abbrev ci_NoName : Str → Option Bool := fun n => ([("NoPaper", false)] : List (Str × Bool)).lookup n
abbrev ci_NoStep : Str → Option Bool := fun n => ([("NoPaper", false)] : List (Str × Bool)).lookup n
abbrev ci_NoBack : Str → Option Bool := fun n => ([("NoPaper", false)] : List (Str × Bool)).lookup n
abbrev ci_NoPlace : Str → Option Bool := fun n => ([("NoPaper", false)] : List (Str × Bool)).lookup n
abbrev ci_NoDoing : Str → Option Bool := fun n => ([("NoPaper", false)] : List (Str × Bool)).lookup n
abbrev ci_NoMeeting : Str → Option Bool := fun n => ([("NoPaper", false)] : List (Str × Bool)).lookup n
abbrev ci_NoText : Str → Option Bool := fun n => ([("NoPaper", false)] : List (Str × Bool)).lookup n
abbrev ci_NoLine : Str → Option Bool := fun n => ([("NoPaper", false)] : List (Str × Bool)).lookup n
abbrev ci_MendError : Str → Option Bool := fun n => ([("NoPaper", true)] : List (Str × Bool)).lookup n
abbrev ci_WorkError : Str → Option Bool := fun n => ([("NoPaper", false)] : List (Str × Bool)).lookup n
abbrev ci_PaperError : Str → Option Bool := fun n => ([("NoPaper", true)] : List (Str × Bool)).lookup n
abbrev fn_word : List Str := ["NoPaper"]
abbrev fn_at : List Str := ["NoPaper"]
abbrev fn_name : List Str := []
def m_L_feed : DS := (dRetK (dDisp [(.inr "cells", (dFz (dCallN gListOf (dACons (dSlRo 0 dP0 (dP (dC (.int 63)))) dANil)))), (.inr "at", (dC (.int 0))), (.inr "left", (dC (.int 0))), (.inr "count", (dC (.int 0)))]))
def f_L_feed : Fn := mkFn 1 m_L_feed
def m_L_draw : DS := (dSeq (dDPut 0 (dC (.str "count")) (dBin gAdd (dDGet 0 (dC (.str "count"))) (dC (.int 1))))
  (dSeq (dIfS (dT (dBin gGtI (dDGet 0 (dC (.str "left"))) (dC (.int 0)))) (dSeq (dSet 2 (rE (dBin gModI (dDGet 0 (dC (.str "left"))) (dVar 1))))
  (dSeq (dDPut 0 (dC (.str "left")) (dBin gDivI (dDGet 0 (dC (.str "left"))) (dVar 1)))
  (dRet (dVar 2)))) dNext)
  (dSeq (dSet 3 (rE (dDGet 0 (dC (.str "at")))))
  (dSeq (dDPut 0 (dC (.str "at")) (dBin gAdd (dVar 3) (dC (.int 1))))
  (dSeq (dSet 4 (rE (dIfE (dT (dBin gNe (dDGet 0 (dC (.str "cells"))) (dFz (dLst dANil)))) (dBin gIx (dDGet 0 (dC (.str "cells"))) (dBin gModI (dVar 3) (dCallB gLen (dACons (dDGet 0 (dC (.str "cells"))) dANil)))) (dC (.int 19)))))
  (dSeq (dIfS (dAndT (dT (dBin gGeI (dVar 4) (dBin gPowI (dC (.int 10)) (dC (.int 18))))) (dT (dBin gLtI (dVar 3) (dCallB gLen (dACons (dDGet 0 (dC (.str "cells"))) dANil))))) (dSeq (dDPut 0 (dC (.str "left")) (dBin gDivI (dVar 4) (dVar 1)))
  (dRet (dBin gModI (dVar 4) (dVar 1)))) dNext)
  (dSeq (dSet 5 (rE (dBin gModI (dBin gAdd (dBin gAdd (dBin gModI (dVar 4) (dC (.int 1000000207))) (dBin gMul (dC (.int 80051)) (dDGet 0 (dC (.str "count"))))) (dC (.int 67))) (dC (.int 2147483579)))))
  (dSeq (dSet 5 (rE (dBin gModI (dBin gAdd (dBin gAdd (dBin gMul (dVar 5) (dVar 5)) (dBin gMul (dC (.int 5754853)) (dDGet 0 (dC (.str "count"))))) (dC (.int 47))) (dC (.int 2147483549)))))
  (dRet (dBin gModI (dBin gDivI (dBin gModI (dBin gAdd (dBin gMul (dVar 5) (dVar 5)) (dBin gMul (dC (.int 43)) (dVar 5))) (dC (.int 2147483543))) (dC (.int 16))) (dVar 1)))))))))))
def f_L_draw : Fn := mkFn 6 m_L_draw
def m_L_judged : DS := (dSeq (dIfS (dOrT (dNotT (dT (dUn (gIsi "tuple") (dVar 1)))) (dT (dBin gNe (dCallB gLen (dACons (dVar 1) dANil)) (dC (.int 2))))) (dRet (dTup (dACons (dC (.str "paper")) (dACons (dC (.str "shape")) (dACons (dUn gNeg (dC (.int 1))) dANil))))) dNext)
  (dSeq (dIfS (dT (dBin gNe (dFz (dLc (dIt (dVar 1)) (.nm 2) (dOrT (dNotT (dT (dUn (gIsi "int") (dVar 2)))) (dOrT (dT (dUn (gIsi "bool") (dVar 2))) (dT (dBin gLtI (dVar 2) (dC (.int 0)))))) (dVar 2) [2])) (dFz (dLst dANil)))) (dRet (dTup (dACons (dC (.str "paper")) (dACons (dC (.str "shape")) (dACons (dUn gNeg (dC (.int 1))) dANil))))) dNext)
  (dSeq (dIfS (dT (dBin gNe (dFz (dLc (dIt (dVar 1)) (.nm 2) (dT (dBin gGeI (dVar 2) (dCallB gLen (dACons (dVar 0) dANil)))) (dVar 2) [2])) (dFz (dLst dANil)))) (dRet (dTup (dACons (dC (.str "paper")) (dACons (dC (.str "places")) (dACons (dUn gNeg (dC (.int 1))) dANil))))) dNext)
  (dSeq (dAsg (.tp (.cons (.tp (.cons (.nm 3) (.cons (.nm 4) .nil))) (.cons (.tp (.cons (.nm 5) (.cons (.nm 6) .nil))) .nil))) (dTup (dACons (dBin gIx (dVar 0) (dBin gIx (dVar 1) (dC (.int 0)))) (dACons (dBin gIx (dVar 0) (dBin gIx (dVar 1) (dC (.int 1)))) dANil))))
  (dSeq (dIfS (dOrT (dT (dVar 4)) (dNotT (dT (dVar 6)))) (dRet (dTup (dACons (dC (.str "paper")) (dACons (dC (.str "good")) (dACons (dUn gNeg (dC (.int 1))) dANil))))) dNext)
  (dRet (dIfE (dT (dBin gGeI (dVar 5) (dVar 3))) (dTup (dACons (dC (.str "told")) (dACons (dC (.bool true)) dANil))) (dTup (dACons (dC (.str "paper")) (dACons (dC (.str "less")) (dACons (dUn gNeg (dC (.int 1))) dANil)))))))))))
def f_L_judged : Fn := mkFn 7 m_L_judged
def m_L_no (x : Ex) : DS := (dSeq (dSet 1 (rE (dFz (dLst (dACons (dExIs 0 (ci_NoPaper x.cls)) (dACons (dExIs 0 (ci_NoName x.cls)) (dACons (dExIs 0 (ci_NoStep x.cls)) (dACons (dExIs 0 (ci_NoBack x.cls)) dANil))))))))
  (dSeq (dSet 1 (rE (dBin gAdd (dVar 1) (dFz (dLst (dACons (dExIs 0 (ci_NoPlace x.cls)) (dACons (dExIs 0 (ci_NoDoing x.cls)) (dACons (dExIs 0 (ci_NoMeeting x.cls)) (dACons (dExIs 0 (ci_NoText x.cls)) dANil)))))))))
  (dSeq (dIfS (dOrT (dT (dBin gNe (dBm gCount (dVar 1) (dC (.bool true))) (dC (.int 1)))) (dOrT (dT (dBin gIn (dC (.bool true)) (dSl (dVar 1) (dP (dC (.int 2))) dP0))) (dT (dExIs 0 (ci_NoLine x.cls))))) (dRet (dTup (dACons (dC (.str "odd")) dANil))) dNext)
  (dSeq (dIfS (dOrT (dT (dBin gNe (dExIs 0 (ci_PaperError x.cls)) (dBin gIx (dVar 1) (dC (.int 0))))) (dOrT (dT (dBin gNe (dExIs 0 (ci_WorkError x.cls)) (dBin gIx (dVar 1) (dC (.int 1))))) (dNotT (dT (dExIs 0 (ci_MendError x.cls)))))) (dRet (dTup (dACons (dC (.str "odd")) dANil))) dNext)
  (dRet (dIfE (dT (dBin gIx (dVar 1) (dC (.int 0)))) (dTup (dACons (dC (.str "paper")) (dACons (dExF 0 (if fn_word.contains x.cls then x.fs.lookup ("word" : Str) else none)) (dACons (dExF 0 (if fn_at.contains x.cls then x.fs.lookup ("at" : Str) else none)) dANil)))) (dTup (dACons (dC (.str "name")) (dACons (dExF 0 (if fn_name.contains x.cls then x.fs.lookup ("name" : Str) else none)) dANil)))))))))
def m_L_said (r : ARes) : DS := (dSeq (dSet 1 (rE (dC .none)))
  (dSeq (dTryAs ca_MendError 2 (dRet (dTup (dACons (dC (.str "told")) (dACons (dAct 0 r) dANil)))) (fun x => (dSet 1 (rE (dExF 2 (fnX 2 (m_L_no x)))))))
  (dRet (dVar 1))))
def m_is_number : DS := (dRet (dAnd (dUn (gIsi "int") (dVar 0)) (dAnd (dNot (dUn (gIsi "bool") (dVar 0))) (dBin gGeI (dVar 0) (dC (.int 0))))))
def f_is_number : Fn := mkFn 1 m_is_number
def m_need_breach : DS := (dIfS (dNotT (dT (dVar 0))) (dRaise "NoPaper" ["word", "at"] (dACons (dVar 1) (dACons (dUn gNeg (dC (.int 1))) dANil))) dNext)
def f_need_breach : Fn := mkFn 2 m_need_breach
def m_lets_breach : DS := (dSeq (dSet 2 (rE (dAnd (dUn (gIsi "tuple") (dVar 1)) (dAnd (dBin gEq (dCallB gLen (dACons (dVar 1) dANil)) (dC (.int 2))) (dCallB gAll (dACons (dFz (dLc (dIt (dVar 1)) (.nm 3) dYes (dCall 1 f_is_number [] (dACons (dVar 3) dANil)) [3])) dANil))))))
  (dSeq (dExp (dCall 2 f_need_breach [] (dACons (dVar 2) (dACons (dC (.str "shape")) dANil))))
  (dSeq (dExp (dCall 2 f_need_breach [] (dACons (dBin gLtI (dCallB gMaxA (dACons (dVar 1) dANil)) (dCallB gLen (dACons (dVar 0) dANil))) (dACons (dC (.str "places")) dANil))))
  (dSeq (dAsg (.tp (.cons (.tp (.cons (.nm 4) (.cons (.nm 5) .nil))) (.cons (.tp (.cons (.nm 6) (.cons (.nm 7) .nil))) .nil))) (dTup (dACons (dBin gIx (dVar 0) (dBin gIx (dVar 1) (dC (.int 0)))) (dACons (dBin gIx (dVar 0) (dBin gIx (dVar 1) (dC (.int 1)))) dANil))))
  (dSeq (dExp (dCall 2 f_need_breach [] (dACons (dAnd (dNot (dVar 5)) (dVar 7)) (dACons (dC (.str "good")) dANil))))
  (dSeq (dExp (dCall 2 f_need_breach [] (dACons (dBin gGeI (dVar 6) (dVar 4)) (dACons (dC (.str "less")) dANil))))
  (dRet (dC (.bool true)))))))))
def f_lets_breach : Fn := mkFn 8 m_lets_breach
def m_law_1 : DS := (dSeq (dSet 7 (rE (dBin gAdd (dC (.int 1)) (dCall 2 f_L_draw [] (dACons (dVar 1) (dACons (dBin gSubI (dVar 3) (dC (.int 1))) dANil))))))
  (dExp (dApp 5 (dTup (dACons (dVar 7) (dACons (dBin gNe (dBin gLeI (dVar 7) (dVar 4)) (dBin gEq (dCall 2 f_L_draw [] (dACons (dVar 1) (dACons (dC (.int 3)) dANil))) (dC (.int 0)))) dANil))))))
def m_law_2 : DS := (dExp (dExt 8 (dFz (dLc (dRange1 (dACons (dBin gAdd (dCallB gLen (dACons (dVar 5) dANil)) (dC (.int 1))) dANil)) (.nm 10) dYes (dTup (dACons (dVar 9) (dACons (dVar 10) dANil))) [10]))))
def m_law_3 : DS := (dSeq (dPar 12 13 (rE (dCallB gRepr (dACons (dTup (dACons (dVar 5) (dACons (dVar 11) dANil))) dANil))) (rE (dCallB gRepr (dACons (dCall 2 f_L_judged [] (dACons (dVar 5) (dACons (dVar 11) dANil))) dANil))))
  (dSeq (dIfS (dT (dBin gNe (dCallB gRepr (dACons (dLam 3 m_L_said (dCall 2 f_lets_breach [] (dACons (dVar 5) (dACons (dVar 11) dANil)))) dANil)) (dVar 13))) (dRet (dC (.bool false))) dNext)
  (dSeq (dIfS (dT (dBin gNe (dCallB gRepr (dACons (dLam 3 m_L_said (dCallW 2 f_lets_breach 0 2 [1, 0] [] dANil (dACons (dVar 11) (dACons (dVar 5) dANil)))) dANil)) (dVar 13))) (dRet (dC (.bool false))) dNext)
  (dIfS (dT (dBin gNe (dCallB gRepr (dACons (dTup (dACons (dVar 5) (dACons (dVar 11) dANil))) dANil)) (dVar 12))) (dRet (dC (.bool false))) dNext))))
def m_law_4 : DS := (dSeq (dSet 3 (rE (dBin gAdd (dC (.int 2)) (dCall 2 f_L_draw [] (dACons (dVar 1) (dACons (dC (.int 20)) dANil))))))
  (dSeq (dPar 4 5 (rE (dCall 2 f_L_draw [] (dACons (dVar 1) (dACons (dVar 3) dANil)))) (rL (dLst dANil)))
  (dSeq (dFor (dRange1 (dACons (dCall 2 f_L_draw [] (dACons (dVar 1) (dACons (dC (.int 8)) dANil))) dANil)) (.nm 6) m_law_1)
  (dSeq (dPar 5 8 (rE (dCallB gTupleOf (dACons (dVar 5) dANil))) (rL (dLst (dACons (dC .none) (dACons (dTup dANil) (dACons (dTup (dACons (dC (.int 0)) dANil)) (dACons (dTup (dACons (dC (.int 0)) (dACons (dC (.int 0)) (dACons (dC (.int 0)) dANil)))) (dACons (dFz (dLst (dACons (dC (.int 0)) (dACons (dC (.int 1)) dANil)))) (dACons (dTup (dACons (dC (.int 0)) (dACons (dC (.bool true)) dANil))) (dACons (dTup (dACons (dC (.bool true)) (dACons (dC (.int 0)) dANil))) (dACons (dTup (dACons (dC (.int 0)) (dACons (dC (.str "1")) dANil))) (dACons (dC (.str "01")) (dACons (dC (.int 0)) dANil)))))))))))))
  (dSeq (dFor (dRange1 (dACons (dBin gAdd (dCallB gLen (dACons (dVar 5) dANil)) (dC (.int 1))) dANil)) (.nm 9) m_law_2)
  (dSeq (dSet 8 (rE (dBin gAdd (dVar 8) (dFz (dLst (dACons (dTup (dACons (dUn gNeg (dC (.int 1))) (dACons (dC (.int 0)) dANil))) (dACons (dTup (dACons (dC (.int 0)) (dACons (dUn gNeg (dC (.int 1))) dANil))) (dACons (dTup (dACons (dBin gPowI (dC (.int 10)) (dC (.int 30))) (dACons (dC (.int 0)) dANil))) (dACons (dTup (dACons (dC (.int 0)) (dACons (dBin gPowI (dC (.int 10)) (dC (.int 30))) dANil))) (dACons (dTup (dACons (dTup (dACons (dC (.int 0)) (dACons (dC (.int 0)) dANil))) (dACons (dTup (dACons (dC (.int 0)) (dACons (dC (.int 0)) dANil))) dANil))) (dACons (dTup (dACons (dC .none) (dACons (dC (.int 0)) dANil))) dANil)))))))))))
  (dFor (dIt (dVar 8)) (.nm 11) m_law_3)))))))
def m_law_rest : DS := (dSeq (dFor (dRange1 (dACons (dC (.int 4)) dANil)) (.nm 2) m_law_4)
  (dRet (dC (.bool true))))
def m_law : DS := (dSeq (dSet 1 (rK (dkCall 1 f_L_feed [] (dACons (dVar 0) dANil)))) m_law_rest)
def f_law : Fn := mkFn 14 m_law
end
end Md

namespace Md
open PySem
open PySem.Spec
open PyProof.Rows
open L2
open L2.Dl
noncomputable section
def F_L_draw (m : PyData) : EM DV PyData := drawE f_L_draw m
theorem r_L_draw (m : PyData) : FnR f_L_draw (fun s => [.dct true s, .v m]) (F_L_draw m) := drawR
def K_L_judged (p_replies : PyData) (p_stuff : PyData) : EM Unit (Fl Unit Empty) :=
  (sJ (eIf (tOrE (tNotE (tst (eUn (gIsi "tuple") (eV p_stuff)))) (tst (eBin gNe (eCallB gLen (aC (eV p_stuff) aN)) (eV (.int 2))))) (bnd (eTup (aC (eV (.str "paper")) (aC (eV (.str "shape")) (aC (eUn gNeg (eV (.int 1))) aN)))) fun x => eV (.rt x)) (eV (.nx ()))) fun (y1 : Unit) => (sJ (eIf (tst (eBin gNe (eFz (eLC (eIt (eV p_stuff)) fun one2 => (stepE (tOrE (tNotE (tst (eUn (gIsi "int") (eV one2)))) (tOrE (tst (eUn (gIsi "bool") (eV one2))) (tst (eBin gLtI (eV one2) (eV (.int 0)))))) (eV one2)))) (eFz (eLst aN)))) (bnd (eTup (aC (eV (.str "paper")) (aC (eV (.str "shape")) (aC (eUn gNeg (eV (.int 1))) aN)))) fun x => eV (.rt x)) (eV (.nx ()))) fun (y3 : Unit) => (sJ (eIf (tst (eBin gNe (eFz (eLC (eIt (eV p_stuff)) fun one4 => (stepE (tst (eBin gGeI (eV one4) (eCallB gLen (aC (eV p_replies) aN)))) (eV one4)))) (eFz (eLst aN)))) (bnd (eTup (aC (eV (.str "paper")) (aC (eV (.str "places")) (aC (eUn gNeg (eV (.int 1))) aN)))) fun x => eV (.rt x)) (eV (.nx ()))) fun (y5 : Unit) => (bnd (eTup (aC (eBin gIx (eV p_replies) (eBin gIx (eV p_stuff) (eV (.int 0)))) (aC (eBin gIx (eV p_replies) (eBin gIx (eV p_stuff) (eV (.int 1)))) aN))) fun x6 => (up2 x6 fun x7 x8 => (up2 x7 fun k9 first10 => (up2 x8 fun far11 second12 => (sJ (eIf (tOrE (tst (eV first10)) (tNotE (tst (eV second12)))) (bnd (eTup (aC (eV (.str "paper")) (aC (eV (.str "good")) (aC (eUn gNeg (eV (.int 1))) aN)))) fun x => eV (.rt x)) (eV (.nx ()))) fun (y13 : Unit) => (bnd (eIf (tst (eBin gGeI (eV far11) (eV k9))) (eTup (aC (eV (.str "told")) (aC (eV (.bool true)) aN))) (eTup (aC (eV (.str "paper")) (aC (eV (.str "less")) (aC (eUn gNeg (eV (.int 1))) aN))))) fun x => eV (.rt x))))))))))
def F_L_judged (p_replies : PyData) (p_stuff : PyData) : EM Unit PyData := fnE (K_L_judged p_replies p_stuff)
theorem r_L_judged (p_replies : PyData) (p_stuff : PyData) : FnR (S := Unit) f_L_judged (fun s => [.v p_replies, .v p_stuff]) (F_L_judged p_replies p_stuff) := by
  refine fnR_of (X0 := fun s => [.fre, .fre, .fre, .fre, .fre, .fre, .fre]) (A := fun s => [.is (.v p_replies), .is (.v p_stuff), .is .un, .is .un, .is .un, .is .un, .is .un]) (fun _ => rfl) ?_ (fun s s' e' h => Out.outP h (.v (.v Out.nil)))
  unfold m_L_judged K_L_judged
  exact (kr_if (J := fun (y1 : Unit) => fun s => [.is (.v p_replies), .is (.v p_stuff), .is .un, .is .un, .is .un, .is .un, .is .un]) (tr_or (tr_not (tr_t (er_un (or_v (fun _ => rfl))))) (tr_t (er_bin (er_callB (ar_cons (or_v (fun _ => rfl)) ar_nil keepN)) er_c keepN))) (kr_one (kr_ret (er_tupN (ar_cons er_c (ar_cons er_c (ar_cons (er_un er_c) ar_nil keepN) keepN) keepN) rfl) (fun _ => (.fre rfl (.fre rfl (.fre rfl (.fre rfl (.fre rfl (.fre rfl (.fre rfl LeA.nil)))))))))) (kr_next (fun _ => (.same (.same (.same (.same (.same (.same (.same LeA.nil))))))))) fun y1 => (kr_if (J := fun (y3 : Unit) => fun s => [.is (.v p_replies), .is (.v p_stuff), .is .un, .is .un, .is .un, .is .un, .is .un]) (tr_t (er_bin (er_fz (lr_lcS (ir_it (or_v (fun _ => rfl))) (fun _ => rfl) (fun one2 => (pk_nm (fun _ => rfl) (pk_nil (lc_td (X := fun s => [.fre, .fre, .fre, .fre, .fre, .fre, .fre]) (tr_or (tr_not (tr_t (er_un (or_v (fun _ => rfl))))) (tr_or (tr_t (er_un (or_v (fun _ => rfl)))) (tr_t (er_bin (or_v (fun _ => rfl)) er_c keepN)))) (or_v (fun _ => rfl)) (fun _ => LeA.refl _) (fun _ => LeA.refl _))))) (fun _ _ => LeA.refl _))) (er_fz (lr_lstN ar_nil rfl)) keepN)) (kr_one (kr_ret (er_tupN (ar_cons er_c (ar_cons er_c (ar_cons (er_un er_c) ar_nil keepN) keepN) keepN) rfl) (fun _ => (.fre rfl (.fre rfl (.fre rfl (.fre rfl (.fre rfl (.fre rfl (.fre rfl LeA.nil)))))))))) (kr_next (fun _ => (.same (.same (.same (.same (.same (.same (.same LeA.nil))))))))) fun y3 => (kr_if (J := fun (y5 : Unit) => fun s => [.is (.v p_replies), .is (.v p_stuff), .is .un, .is .un, .is .un, .is .un, .is .un]) (tr_t (er_bin (er_fz (lr_lcS (ir_it (or_v (fun _ => rfl))) (fun _ => rfl) (fun one4 => (pk_nm (fun _ => rfl) (pk_nil (lc_td (X := fun s => [.fre, .fre, .fre, .fre, .fre, .fre, .fre]) (tr_t (er_bin (or_v (fun _ => rfl)) (er_callB (ar_cons (or_v (fun _ => rfl)) ar_nil keepN)) keepN)) (or_v (fun _ => rfl)) (fun _ => LeA.refl _) (fun _ => LeA.refl _))))) (fun _ _ => LeA.refl _))) (er_fz (lr_lstN ar_nil rfl)) keepN)) (kr_one (kr_ret (er_tupN (ar_cons er_c (ar_cons er_c (ar_cons (er_un er_c) ar_nil keepN) keepN) keepN) rfl) (fun _ => (.fre rfl (.fre rfl (.fre rfl (.fre rfl (.fre rfl (.fre rfl (.fre rfl LeA.nil)))))))))) (kr_next (fun _ => (.same (.same (.same (.same (.same (.same (.same LeA.nil))))))))) fun y5 => (kr_asg (er_tupN (ar_cons (er_bin (or_v (fun _ => rfl)) (er_bin (or_v (fun _ => rfl)) er_c keepN) keepN) (ar_cons (er_bin (or_v (fun _ => rfl)) (er_bin (or_v (fun _ => rfl)) er_c keepN) keepN) ar_nil keepN) keepN) rfl) fun x6 => (pk_up2 fun x7 x8 => (pk_up2 fun k9 first10 => (pk_nm (fun _ => rfl) (pk_nm (fun _ => rfl) (pk_up2 fun far11 second12 => (pk_nm (fun _ => rfl) (pk_nm (fun _ => rfl) (pk_nil (kr_if (J := fun (y13 : Unit) => fun s => [.is (.v p_replies), .is (.v p_stuff), .is .un, .is (.v k9), .is (.v first10), .is (.v far11), .is (.v second12)]) (tr_or (tr_t (or_v (fun _ => rfl))) (tr_not (tr_t (or_v (fun _ => rfl))))) (kr_one (kr_ret (er_tupN (ar_cons er_c (ar_cons er_c (ar_cons (er_un er_c) ar_nil keepN) keepN) keepN) rfl) (fun _ => (.fre rfl (.fre rfl (.fre rfl (.fre rfl (.fre rfl (.fre rfl (.fre rfl LeA.nil)))))))))) (kr_next (fun _ => (.same (.same (.same (.same (.same (.same (.same LeA.nil))))))))) fun y13 => (kr_one (kr_ret (er_ifE (tr_t (er_bin (or_v (fun _ => rfl)) (or_v (fun _ => rfl)) keepN)) (er_tupN (ar_cons er_c (ar_cons er_c ar_nil keepN) keepN) rfl) (er_tupN (ar_cons er_c (ar_cons er_c (ar_cons (er_un er_c) ar_nil keepN) keepN) keepN) rfl)) (fun _ => (.fre rfl (.fre rfl (.fre rfl (.fre rfl (.fre rfl (.fre rfl (.fre rfl LeA.nil)))))))))))))))))))))))
def K_L_no (xe_ : Ex) : EM Unit (Fl Unit Empty) :=
  (bnd (eFz (eLst (aC (oB (ci_NoPaper xe_.cls)) (aC (oB (ci_NoName xe_.cls)) (aC (oB (ci_NoStep xe_.cls)) (aC (oB (ci_NoBack xe_.cls)) aN)))))) fun sorts1 => (bnd (eBin gAdd (eV sorts1) (eFz (eLst (aC (oB (ci_NoPlace xe_.cls)) (aC (oB (ci_NoDoing xe_.cls)) (aC (oB (ci_NoMeeting xe_.cls)) (aC (oB (ci_NoText xe_.cls)) aN))))))) fun sorts2 => (sJ (eIf (tOrE (tst (eBin gNe (eBm gCount (eV sorts2) (eV (.bool true))) (eV (.int 1)))) (tOrE (tst (eBin gIn (eV (.bool true)) (eSl (eV sorts2) (pS (eV (.int 2))) p0))) (tst (oB (ci_NoLine xe_.cls))))) (bnd (eTup (aC (eV (.str "odd")) aN)) fun x => eV (.rt x)) (eV (.nx ()))) fun (y3 : Unit) => (sJ (eIf (tOrE (tst (eBin gNe (oB (ci_PaperError xe_.cls)) (eBin gIx (eV sorts2) (eV (.int 0))))) (tOrE (tst (eBin gNe (oB (ci_WorkError xe_.cls)) (eBin gIx (eV sorts2) (eV (.int 1))))) (tNotE (tst (oB (ci_MendError xe_.cls)))))) (bnd (eTup (aC (eV (.str "odd")) aN)) fun x => eV (.rt x)) (eV (.nx ()))) fun (y4 : Unit) => (bnd (eIf (tst (eBin gIx (eV sorts2) (eV (.int 0)))) (eTup (aC (eV (.str "paper")) (aC (lo (if fn_word.contains xe_.cls then xe_.fs.lookup ("word" : Str) else none)) (aC (lo (if fn_at.contains xe_.cls then xe_.fs.lookup ("at" : Str) else none)) aN)))) (eTup (aC (eV (.str "name")) (aC (lo (if fn_name.contains xe_.cls then xe_.fs.lookup ("name" : Str) else none)) aN)))) fun x => eV (.rt x))))))
def F_L_no (xe_ : Ex) : EM Unit PyData := fnE (K_L_no xe_)
theorem r_L_no (xe_ : Ex) : FnR (S := Unit) (mkFn 2 (m_L_no xe_)) (fun s => [.la]) (F_L_no xe_) := by
  refine fnR_of (X0 := fun s => [.fre, .fre]) (A := fun s => [.is .la, .is .un]) (fun _ => rfl) ?_ (fun s s' e' h => Out.outP h (.la Out.nil))
  unfold m_L_no K_L_no
  exact (kr_set (rr_e (er_fz (lr_lstN (ar_cons (er_exIs (fun _ => rfl)) (ar_cons (er_exIs (fun _ => rfl)) (ar_cons (er_exIs (fun _ => rfl)) (ar_cons (er_exIs (fun _ => rfl)) ar_nil keepN) keepN) keepN) keepN) rfl))) (fun _ => rfl) fun sorts1 => (kr_set (rr_e (er_bin (or_v (fun _ => rfl)) (er_fz (lr_lstN (ar_cons (er_exIs (fun _ => rfl)) (ar_cons (er_exIs (fun _ => rfl)) (ar_cons (er_exIs (fun _ => rfl)) (ar_cons (er_exIs (fun _ => rfl)) ar_nil keepN) keepN) keepN) keepN) rfl)) keepN)) (fun _ => rfl) fun sorts2 => (kr_if (J := fun (y3 : Unit) => fun s => [.is .la, .is (.v sorts2)]) (tr_or (tr_t (er_bin (er_bm (or_v (fun _ => rfl)) er_c keepN) er_c keepN)) (tr_or (tr_t (er_bin er_c (er_sl (or_v (fun _ => rfl)) (pr_s er_c) pr_0 keepN) keepN)) (tr_t (er_exIs (fun _ => rfl))))) (kr_one (kr_ret (er_tupN (ar_cons er_c ar_nil keepN) rfl) (fun _ => (.fre rfl (.fre rfl LeA.nil))))) (kr_next (fun _ => (.same (.same LeA.nil)))) fun y3 => (kr_if (J := fun (y4 : Unit) => fun s => [.is .la, .is (.v sorts2)]) (tr_or (tr_t (er_bin (er_exIs (fun _ => rfl)) (er_bin (or_v (fun _ => rfl)) er_c keepN) keepN)) (tr_or (tr_t (er_bin (er_exIs (fun _ => rfl)) (er_bin (or_v (fun _ => rfl)) er_c keepN) keepN)) (tr_not (tr_t (er_exIs (fun _ => rfl)))))) (kr_one (kr_ret (er_tupN (ar_cons er_c ar_nil keepN) rfl) (fun _ => (.fre rfl (.fre rfl LeA.nil))))) (kr_next (fun _ => (.same (.same LeA.nil)))) fun y4 => (kr_one (kr_ret (er_ifE (tr_t (er_bin (or_v (fun _ => rfl)) er_c keepN)) (er_tupN (ar_cons er_c (ar_cons (er_exF (fun _ => rfl)) (ar_cons (er_exF (fun _ => rfl)) ar_nil keepN) keepN) keepN) rfl) (er_tupN (ar_cons er_c (ar_cons (er_exF (fun _ => rfl)) ar_nil keepN) keepN) rfl)) (fun _ => (.fre rfl (.fre rfl LeA.nil)))))))))
def K_L_said (p_la : ARes) : EM Unit (Fl Unit Empty) :=
  (bnd (eV PyData.none) fun refused1 => (sJ (eTryAs ca_MendError (bnd (eTup (aC (eV (.str "told")) (aC (eAct p_la) aN))) fun x => eV (.rt x)) fun xe_ => (bnd (eNX (F_L_no xe_)) fun refused2 => (eV (.nx refused2)))) fun (y3 : PyData) => (bnd (eV y3) fun x => eV (.rt x))))
def F_L_said (p_la : ARes) : EM Unit PyData := fnE (K_L_said p_la)
theorem r_L_said (p_la : ARes) : FnR (S := Unit) (mkFn 3 (m_L_said p_la)) (fun s => [.la]) (F_L_said p_la) := by
  refine fnR_of (X0 := fun s => [.fre, .fre, .fre]) (A := fun s => [.is .la, .is .un, .is .un]) (fun _ => rfl) ?_ (fun s s' e' h => Out.outP h (.la Out.nil))
  unfold m_L_said K_L_said
  exact (kr_set (rr_e er_c) (fun _ => rfl) fun refused1 => (kr_tryAs (XT := fun s => [.is .la, .is (.v refused1), .is .un]) (XH := fun s => [.nla, .nla, .fre]) (X0h := fun s => [.nla, .nla, .fre]) (Ah := fun s => [.is .un, .is (.v refused1), .is .la]) (G := fun (y3 : PyData) => fun s => [.any, .is (.v y3), .is .un]) (G1 := fun (y3 : PyData) => fun s => [.any, .is (.v y3), .is .la]) (Lh := fun _ _ => []) (kr_one (kr_ret (er_tupN (ar_cons er_c (ar_cons (er_act (fun _ => rfl) (fun _ => (.same (.same (.same LeA.nil))))) ar_nil keepN) keepN) rfl) (fun _ => (.fre rfl (.fre rfl (.fre rfl LeA.nil)))))) (fun _ => rfl) (fun _ => rfl) (fun xe_ => (kr_one (kr_set (rr_e (er_callX (r_L_no xe_) (fun _ => rfl))) (fun _ => rfl) fun refused2 => (kr_next (fun _ => (.any rfl (.same (.same LeA.nil)))))))) (fun _ => (.fre rfl (.fre rfl (.fre rfl LeA.nil)))) (fun _ _ => rfl) (fun _ => (fun _ => (.same (.same (.same LeA.nil))))) (fun _ => rfl) (fun _ => (.nlaF (.nlaF (.fre rfl LeA.nil)))) fun y3 => (kr_one (kr_ret (or_v (fun _ => rfl)) (fun _ => (.fra (.fre rfl (.fre rfl LeA.nil))))))))
def K_is_number (p_thing : PyData) : EM Unit (Fl Unit Empty) :=
  (bnd (eAnd (eUn (gIsi "int") (eV p_thing)) (eAnd (eNot (eUn (gIsi "bool") (eV p_thing))) (eBin gGeI (eV p_thing) (eV (.int 0))))) fun x => eV (.rt x))
def F_is_number (p_thing : PyData) : EM Unit PyData := fnE (K_is_number p_thing)
theorem r_is_number (p_thing : PyData) : FnR (S := Unit) f_is_number (fun s => [.v p_thing]) (F_is_number p_thing) := by
  refine fnR_of (X0 := fun s => [.fre]) (A := fun s => [.is (.v p_thing)]) (fun _ => rfl) ?_ (fun s s' e' h => Out.outP h (.v Out.nil))
  unfold m_is_number K_is_number
  exact (kr_one (kr_ret (er_and (er_un (or_v (fun _ => rfl))) (er_and (er_not (er_un (or_v (fun _ => rfl)))) (er_bin (or_v (fun _ => rfl)) er_c keepN))) (fun _ => (.fre rfl LeA.nil))))
def K_need_breach (p_truth : PyData) (p_word : PyData) : EM Unit (Fl Unit Empty) :=
  (sJ (eIf (tNotE (tst (eV p_truth))) (eRaise "NoPaper" ["word", "at"] (aC (eV p_word) (aC (eUn gNeg (eV (.int 1))) aN))) (eV (.nx ()))) fun (y1 : Unit) => (eV (.nx ())))
def F_need_breach (p_truth : PyData) (p_word : PyData) : EM Unit PyData := fnE (K_need_breach p_truth p_word)
theorem r_need_breach (p_truth : PyData) (p_word : PyData) : FnR (S := Unit) f_need_breach (fun s => [.v p_truth, .v p_word]) (F_need_breach p_truth p_word) := by
  refine fnR_of (X0 := fun s => [.fre, .fre]) (A := fun s => [.is (.v p_truth), .is (.v p_word)]) (fun _ => rfl) ?_ (fun s s' e' h => Out.outP h (.v (.v Out.nil)))
  unfold m_need_breach K_need_breach
  exact (kr_one (kr_if (J := fun (y1 : Unit) => fun s => [.is (.v p_truth), .is (.v p_word)]) (tr_not (tr_t (or_v (fun _ => rfl)))) (kr_one (kr_raiseN (ar_cons (or_v (fun _ => rfl)) (ar_cons (er_un er_c) ar_nil keepN) keepN) rfl (fun _ => (.fre rfl (.fre rfl LeA.nil))))) (kr_next (fun _ => (.same (.same LeA.nil)))) fun y1 => (kr_next (x := ()) (fun _ => (.fre rfl (.fre rfl LeA.nil))))))
def K_lets_breach (p_answers : PyData) (p_thing : PyData) : EM Unit (Fl Unit Empty) :=
  (bnd (eAnd (eUn (gIsi "tuple") (eV p_thing)) (eAnd (eBin gEq (eCallB gLen (aC (eV p_thing) aN)) (eV (.int 2))) (eCallB gAll (aC (eFz (eLC (eIt (eV p_thing)) fun one1 => (stepE (eV true) (bnd (aC (eV one1) aN) fun xs => eLift ((ls1 fun a0 => F_is_number a0) (xs ++ [])))))) aN)))) fun ispair2 => (bnd (bnd (aC (eV ispair2) (aC (eV (.str "shape")) aN)) fun xs => eLift ((ls2 fun a0 a1 => F_need_breach a0 a1) (xs ++ []))) fun _ => (bnd (bnd (aC (eBin gLtI (eCallB gMaxA (aC (eV p_thing) aN)) (eCallB gLen (aC (eV p_answers) aN))) (aC (eV (.str "places")) aN)) fun xs => eLift ((ls2 fun a0 a1 => F_need_breach a0 a1) (xs ++ []))) fun _ => (bnd (eTup (aC (eBin gIx (eV p_answers) (eBin gIx (eV p_thing) (eV (.int 0)))) (aC (eBin gIx (eV p_answers) (eBin gIx (eV p_thing) (eV (.int 1)))) aN))) fun x3 => (up2 x3 fun x4 x5 => (up2 x4 fun k6 isgood7 => (up2 x5 fun later8 truth9 => (bnd (bnd (aC (eAnd (eNot (eV isgood7)) (eV truth9)) (aC (eV (.str "good")) aN)) fun xs => eLift ((ls2 fun a0 a1 => F_need_breach a0 a1) (xs ++ []))) fun _ => (bnd (bnd (aC (eBin gGeI (eV later8) (eV k6)) (aC (eV (.str "less")) aN)) fun xs => eLift ((ls2 fun a0 a1 => F_need_breach a0 a1) (xs ++ []))) fun _ => (bnd (eV (.bool true)) fun x => eV (.rt x)))))))))))
def F_lets_breach (p_answers : PyData) (p_thing : PyData) : EM Unit PyData := fnE (K_lets_breach p_answers p_thing)
theorem r_lets_breach (p_answers : PyData) (p_thing : PyData) : FnR (S := Unit) f_lets_breach (fun s => [.v p_answers, .v p_thing]) (F_lets_breach p_answers p_thing) := by
  refine fnR_of (X0 := fun s => [.fre, .fre, .fre, .fre, .fre, .fre, .fre, .fre]) (A := fun s => [.is (.v p_answers), .is (.v p_thing), .is .un, .is .un, .is .un, .is .un, .is .un, .is .un]) (fun _ => rfl) ?_ (fun s s' e' h => Out.outP h (.v (.v Out.nil)))
  unfold m_lets_breach K_lets_breach
  exact (kr_set (rr_e (er_and (er_un (or_v (fun _ => rfl))) (er_and (er_bin (er_callB (ar_cons (or_v (fun _ => rfl)) ar_nil keepN)) er_c keepN) (er_callB (ar_cons (er_fz (lr_lcS (ir_it (or_v (fun _ => rfl))) (fun _ => rfl) (fun one1 => (pk_nm (fun _ => rfl) (pk_nil (lc_td (X := fun s => [.fre, .fre, .fre, .fre, .fre, .fre, .fre, .fre]) tr_yes (er_call (gr_v (or_v (fun _ => rfl)) gr_nil) (FnR.a fun xs s ps h => match xs, ps, h with | [a0], _, rfl => ⟨fun _ => [.v a0], rfl, fun _ => rfl, r_is_number a0⟩) rfl (by decide) (fun _ => (.fre rfl (.fre rfl (.fre rfl (.fre rfl (.fre rfl (.fre rfl (.fre rfl (.fre rfl LeA.nil))))))))) rfl) (fun _ => LeA.refl _) (fun _ => LeA.refl _))))) (fun _ _ => LeA.refl _))) ar_nil keepN))))) (fun _ => rfl) fun ispair2 => (kr_exp (er_call (gr_v (or_v (fun _ => rfl)) (gr_v er_c gr_nil)) (FnR.a fun xs s ps h => match xs, ps, h with | [a0, a1], _, rfl => ⟨fun _ => [.v a0, .v a1], rfl, fun _ => rfl, r_need_breach a0 a1⟩) rfl (by decide) (fun _ => (.fre rfl (.fre rfl (.fre rfl (.fre rfl (.fre rfl (.fre rfl (.fre rfl (.fre rfl LeA.nil))))))))) rfl) (kr_exp (er_call (gr_v (er_bin (er_callB (ar_cons (or_v (fun _ => rfl)) ar_nil keepN)) (er_callB (ar_cons (or_v (fun _ => rfl)) ar_nil keepN)) keepN) (gr_v er_c gr_nil)) (FnR.a fun xs s ps h => match xs, ps, h with | [a0, a1], _, rfl => ⟨fun _ => [.v a0, .v a1], rfl, fun _ => rfl, r_need_breach a0 a1⟩) rfl (by decide) (fun _ => (.fre rfl (.fre rfl (.fre rfl (.fre rfl (.fre rfl (.fre rfl (.fre rfl (.fre rfl LeA.nil))))))))) rfl) (kr_asg (er_tupN (ar_cons (er_bin (or_v (fun _ => rfl)) (er_bin (or_v (fun _ => rfl)) er_c keepN) keepN) (ar_cons (er_bin (or_v (fun _ => rfl)) (er_bin (or_v (fun _ => rfl)) er_c keepN) keepN) ar_nil keepN) keepN) rfl) fun x3 => (pk_up2 fun x4 x5 => (pk_up2 fun k6 isgood7 => (pk_nm (fun _ => rfl) (pk_nm (fun _ => rfl) (pk_up2 fun later8 truth9 => (pk_nm (fun _ => rfl) (pk_nm (fun _ => rfl) (pk_nil (kr_exp (er_call (gr_v (er_and (er_not (or_v (fun _ => rfl))) (or_v (fun _ => rfl))) (gr_v er_c gr_nil)) (FnR.a fun xs s ps h => match xs, ps, h with | [a0, a1], _, rfl => ⟨fun _ => [.v a0, .v a1], rfl, fun _ => rfl, r_need_breach a0 a1⟩) rfl (by decide) (fun _ => (.fre rfl (.fre rfl (.fre rfl (.fre rfl (.fre rfl (.fre rfl (.fre rfl (.fre rfl LeA.nil))))))))) rfl) (kr_exp (er_call (gr_v (er_bin (or_v (fun _ => rfl)) (or_v (fun _ => rfl)) keepN) (gr_v er_c gr_nil)) (FnR.a fun xs s ps h => match xs, ps, h with | [a0, a1], _, rfl => ⟨fun _ => [.v a0, .v a1], rfl, fun _ => rfl, r_need_breach a0 a1⟩) rfl (by decide) (fun _ => (.fre rfl (.fre rfl (.fre rfl (.fre rfl (.fre rfl (.fre rfl (.fre rfl (.fre rfl LeA.nil))))))))) rfl) (kr_one (kr_ret er_c (fun _ => (.fre rfl (.fre rfl (.fre rfl (.fre rfl (.fre rfl (.fre rfl (.fre rfl (.fre rfl LeA.nil)))))))))))))))))))))))))
def B_law_1 (many3 : PyData) (fault4 : PyData) (x7 : PyData) (y6 : List PyData) : EM DV (Fl (List PyData) (List PyData)) :=
  (bnd (eBin gAdd (eV (.int 1)) (bnd (aC (eV .none) (aC (eBin gSubI (eV many3) (eV (.int 1))) aN)) fun xs => (ls2 fun a0 a1 => F_L_draw a1) (xs ++ []))) fun k8 => (bnd (appL y6 (eTup (aC (eV k8) (aC (eBin gNe (eBin gLeI (eV k8) (eV fault4)) (eBin gEq (bnd (aC (eV .none) (aC (eV (.int 3)) aN)) fun xs => (ls2 fun a0 a1 => F_L_draw a1) (xs ++ [])) (eV (.int 0)))) aN)))) fun replies9 => (eV (.nx replies9))))
def B_law_2 (replies11 : PyData) (x14 : PyData) (y13 : List PyData) : EM DV (Fl (List PyData) (List PyData)) :=
  (bnd (extL y13 (eFz (eLC (eRange1 (aC (eBin gAdd (eCallB gLen (aC (eV replies11) aN)) (eV (.int 1))) aN)) fun j15 => (stepE (eV true) (eTup (aC (eV x14) (aC (eV j15) aN))))))) fun things16 => (eV (.nx things16)))
def B_law_3 (replies11 : PyData) (x20 : PyData) (y19 : Unit) : EM DV (Fl (Unit) (Unit)) :=
  (bnd (eCallB gRepr (aC (eTup (aC (eV replies11) (aC (eV x20) aN))) aN)) fun seennow21 => bnd (eCallB gRepr (aC (bnd (aC (eV replies11) (aC (eV x20) aN)) fun xs => eLift ((ls2 fun a0 a1 => F_L_judged a0 a1) (xs ++ []))) aN)) fun due22 => (sJ (eIf (tst (eBin gNe (eCallB gRepr (aC (eLam F_L_said (bnd (aC (eV replies11) (aC (eV x20) aN)) fun xs => eLift ((ls2 fun a0 a1 => F_lets_breach a0 a1) (xs ++ [])))) aN)) (eV due22))) (bnd (eV (.bool false)) fun x => eV (.rt x)) (eV (.nx ()))) fun (y23 : Unit) => (sJ (eIf (tst (eBin gNe (eCallB gRepr (aC (eLam F_L_said (bnd aN fun xs => bnd (aC (eV x20) (aC (eV replies11) aN)) fun ys => eLift ((ls2 fun a0 a1 => F_lets_breach a0 a1) (pick [1, 0] (xs ++ ys ++ []))))) aN)) (eV due22))) (bnd (eV (.bool false)) fun x => eV (.rt x)) (eV (.nx ()))) fun (y24 : Unit) => (sJ (eIf (tst (eBin gNe (eCallB gRepr (aC (eTup (aC (eV replies11) (aC (eV x20) aN))) aN)) (eV seennow21))) (bnd (eV (.bool false)) fun x => eV (.rt x)) (eV (.nx ()))) fun (y25 : Unit) => (eV (.nx ()))))))
def B_law_4  (x2 : PyData) (y1 : Unit) : EM DV (Fl (Unit) (Unit)) :=
  (bnd (eBin gAdd (eV (.int 2)) (bnd (aC (eV .none) (aC (eV (.int 20)) aN)) fun xs => (ls2 fun a0 a1 => F_L_draw a1) (xs ++ []))) fun many3 => (bnd (bnd (aC (eV .none) (aC (eV many3) aN)) fun xs => (ls2 fun a0 a1 => F_L_draw a1) (xs ++ [])) fun fault4 => bnd (eLst aN) fun replies5 => (sJ (bnd (eRange1 (aC (bnd (aC (eV .none) (aC (eV (.int 8)) aN)) fun xs => (ls2 fun a0 a1 => F_L_draw a1) (xs ++ [])) aN)) fun xs => eFor (B_law_1 many3 fault4) xs replies5) fun y10 => (bnd (eCallB gTupleOf (aC (eV (.list y10)) aN)) fun replies11 => bnd (eLst (aC (eV PyData.none) (aC (eTup aN) (aC (eTup (aC (eV (.int 0)) aN)) (aC (eTup (aC (eV (.int 0)) (aC (eV (.int 0)) (aC (eV (.int 0)) aN)))) (aC (eFz (eLst (aC (eV (.int 0)) (aC (eV (.int 1)) aN)))) (aC (eTup (aC (eV (.int 0)) (aC (eV (.bool true)) aN))) (aC (eTup (aC (eV (.bool true)) (aC (eV (.int 0)) aN))) (aC (eTup (aC (eV (.int 0)) (aC (eV (.str "1")) aN))) (aC (eV (.str "01")) (aC (eV (.int 0)) aN))))))))))) fun things12 => (sJ (bnd (eRange1 (aC (eBin gAdd (eCallB gLen (aC (eV replies11) aN)) (eV (.int 1))) aN)) fun xs => eFor (B_law_2 replies11) xs things12) fun y17 => (bnd (eBin gAdd (eV (.list y17)) (eFz (eLst (aC (eTup (aC (eUn gNeg (eV (.int 1))) (aC (eV (.int 0)) aN))) (aC (eTup (aC (eV (.int 0)) (aC (eUn gNeg (eV (.int 1))) aN))) (aC (eTup (aC (eBin gPowI (eV (.int 10)) (eV (.int 30))) (aC (eV (.int 0)) aN))) (aC (eTup (aC (eV (.int 0)) (aC (eBin gPowI (eV (.int 10)) (eV (.int 30))) aN))) (aC (eTup (aC (eTup (aC (eV (.int 0)) (aC (eV (.int 0)) aN))) (aC (eTup (aC (eV (.int 0)) (aC (eV (.int 0)) aN))) aN))) (aC (eTup (aC (eV PyData.none) (aC (eV (.int 0)) aN))) aN))))))))) fun things18 => (sJ (bnd (eIt (eV things18)) fun xs => eFor (B_law_3 replies11) xs ()) fun y26 => (eV (.nx ())))))))))
def K_law : EM DV (Fl Unit Empty) :=
  (sJ (bnd (eRange1 (aC (eV (.int 4)) aN)) fun xs => eFor B_law_4 xs ()) fun y27 => (bnd (eV (.bool true)) fun x => eV (.rt x)))
theorem k_law (p_xs : List PyData) : KR (S := DV) (fun s => [.fre, .fre, .fre, .fre, .fre, .fre, .fre, .fre, .fre, .fre, .fre, .fre, .fre, .fre]) (fun s => [.fre, .fre, .fre, .fre, .fre, .fre, .fre, .fre, .fre, .fre, .fre, .fre, .fre, .fre]) (fun (_ : Unit) => (fun s => [.fre, .fre, .fre, .fre, .fre, .fre, .fre, .fre, .fre, .fre, .fre, .fre, .fre, .fre])) (fun e : Empty => nomatch e) m_law_rest (fun s => [.is (.ro p_xs), .is (.dct false s), .is .un, .is .un, .is .un, .is .un, .is .un, .is .un, .is .un, .is .un, .is .un, .is .un, .is .un, .is .un]) K_law := by
  unfold K_law m_law_rest
  exact (kr_for (I := fun (y1 : Unit) => fun s => [.is (.ro p_xs), .is (.dct false s), .any, .any, .any, .any, .any, .any, .any, .any, .is .un, .any, .any, .any]) (ir_range1 (ar_cons er_c ar_nil keepN)) (fun _ => (.same (.same (.any rfl (.any rfl (.any rfl (.any rfl (.any rfl (.any rfl (.any rfl (.any rfl (.same (.any rfl (.any rfl (.any rfl LeA.nil))))))))))))))) (fun x2 y1 => by unfold B_law_4; exact (pk_nm (fun _ => rfl) (pk_nil (by unfold m_law_4; exact (kr_set (rr_e (er_bin er_c (er_callS (i := 1) (gr_st (fun _ => rfl) (gr_v er_c gr_nil)) (FnR.a fun xs s ps h => match xs, ps, h with | [a0, a1], _, rfl => ⟨fun s => [.dct true s, .v a1], rfl, fun _ => rfl, r_L_draw a1⟩) rfl rfl (by decide) (fun _ => rfl) (fun _ _ => rfl) (fun _ => (.fre rfl (.fre rfl (.fre rfl (.fra (.fra (.fra (.fra (.fra (.fra (.fra (.fre rfl (.fra (.fra (.fra LeA.nil))))))))))))))) rfl) keepN)) (fun _ => rfl) fun many3 => (kr_par (rr_e (er_callS (i := 1) (gr_st (fun _ => rfl) (gr_v (or_v (fun _ => rfl)) gr_nil)) (FnR.a fun xs s ps h => match xs, ps, h with | [a0, a1], _, rfl => ⟨fun s => [.dct true s, .v a1], rfl, fun _ => rfl, r_L_draw a1⟩) rfl rfl (by decide) (fun _ => rfl) (fun _ _ => rfl) (fun _ => (.fre rfl (.fre rfl (.fre rfl (.fre rfl (.fra (.fra (.fra (.fra (.fra (.fra (.fre rfl (.fra (.fra (.fra LeA.nil))))))))))))))) rfl)) (rr_l (lr_lstN ar_nil rfl)) (by decide) (fun _ => rfl) (fun _ => rfl) fun fault4 replies5 => (kr_for (I := fun (y6 : List PyData) => fun s => [.is (.ro p_xs), .is (.dct false s), .is (.v x2), .is (.v many3), .is (.v fault4), .is (.own false y6), .any, .any, .any, .any, .is .un, .any, .any, .any]) (ir_range1 (ar_cons (er_callS (i := 1) (gr_st (fun _ => rfl) (gr_v er_c gr_nil)) (FnR.a fun xs s ps h => match xs, ps, h with | [a0, a1], _, rfl => ⟨fun s => [.dct true s, .v a1], rfl, fun _ => rfl, r_L_draw a1⟩) rfl rfl (by decide) (fun _ => rfl) (fun _ _ => rfl) (fun _ => (.fre rfl (.fre rfl (.fre rfl (.fre rfl (.fre rfl (.fre rfl (.fra (.fra (.fra (.fra (.fre rfl (.fra (.fra (.fra LeA.nil))))))))))))))) rfl) ar_nil keepN)) (fun _ => (.same (.same (.same (.same (.same (.same (.same (.same (.same (.same (.same (.same (.same (.same LeA.nil))))))))))))))) (fun x7 y6 => by unfold B_law_1; exact (pk_nm (fun _ => rfl) (pk_nil (by unfold m_law_1; exact (kr_set (rr_e (er_bin er_c (er_callS (i := 1) (gr_st (fun _ => rfl) (gr_v (er_bin (or_v (fun _ => rfl)) er_c keepN) gr_nil)) (FnR.a fun xs s ps h => match xs, ps, h with | [a0, a1], _, rfl => ⟨fun s => [.dct true s, .v a1], rfl, fun _ => rfl, r_L_draw a1⟩) rfl rfl (by decide) (fun _ => rfl) (fun _ _ => rfl) (fun _ => (.fre rfl (.fre rfl (.fre rfl (.fre rfl (.fre rfl (.fre rfl (.fre rfl (.fra (.fra (.fra (.fre rfl (.fra (.fra (.fra LeA.nil))))))))))))))) rfl) keepN)) (fun _ => rfl) fun k8 => (kr_one (kr_own (ow_appN (fun _ => rfl) (er_tupN (ar_cons (or_v (fun _ => rfl)) (ar_cons (er_bin (er_bin (or_v (fun _ => rfl)) (or_v (fun _ => rfl)) keepN) (er_bin (er_callS (i := 1) (gr_st (fun _ => rfl) (gr_v er_c gr_nil)) (FnR.a fun xs s ps h => match xs, ps, h with | [a0, a1], _, rfl => ⟨fun s => [.dct true s, .v a1], rfl, fun _ => rfl, r_L_draw a1⟩) rfl rfl (by decide) (fun _ => rfl) (fun _ _ => rfl) (fun _ => (.fre rfl (.fre rfl (.fre rfl (.fre rfl (.fre rfl (.fre rfl (.fre rfl (.fre rfl (.fra (.fra (.fre rfl (.fra (.fra (.fra LeA.nil))))))))))))))) rfl) er_c keepN) keepN) ar_nil keepN) keepN) rfl) (fun _ => rfl)) fun replies9 => (kr_cut (fun s => [.is (.ro p_xs), .is (.dct false s), .is (.v x2), .is (.v many3), .is (.v fault4), .is (.own false replies9), .is (.v x7), .is (.v k8), .any, .any, .is .un, .any, .any, .any]) (fun _ => rfl) (kr_next (fun _ => (.same (.same (.same (.same (.same (.same (.any rfl (.any rfl (.same (.same (.same (.same (.same (.same LeA.nil)))))))))))))))))))))))) fun y10 => (by
    with_reducible refine kr_par (rr_e (er_callB (ar_cons (or_own (fun _ => rfl)) ar_nil (keepS (fun _ _ => rfl))))) (rr_l (lr_lstN (ar_cons er_c (ar_cons (er_tupN ar_nil rfl) (ar_cons (er_tupN (ar_cons er_c ar_nil keepN) rfl) (ar_cons (er_tupN (ar_cons er_c (ar_cons er_c (ar_cons er_c ar_nil keepN) keepN) keepN) rfl) (ar_cons (er_fz (lr_lstN (ar_cons er_c (ar_cons er_c ar_nil keepN) keepN) rfl)) (ar_cons (er_tupN (ar_cons er_c (ar_cons er_c ar_nil keepN) keepN) rfl) (ar_cons (er_tupN (ar_cons er_c (ar_cons er_c ar_nil keepN) keepN) rfl) (ar_cons (er_tupN (ar_cons er_c (ar_cons er_c ar_nil keepN) keepN) rfl) (ar_cons er_c (ar_cons er_c ar_nil keepN) keepN) keepN) keepN) keepN) keepN) keepN) keepN) keepN) keepN) rfl)) (by decide) (fun _ => rfl) (fun _ => rfl) (fun replies11 things12 => ?_)
    exact (kr_for (I := fun (y13 : List PyData) => fun s => [.is (.ro p_xs), .is (.dct false s), .is (.v x2), .is (.v many3), .is (.v fault4), .is (.v replies11), .any, .any, .is (.own false y13), .any, .is .un, .any, .any, .any]) (ir_range1 (ar_cons (er_bin (er_callB (ar_cons (or_v (fun _ => rfl)) ar_nil keepN)) er_c keepN) ar_nil keepN)) (fun _ => (.same (.same (.same (.same (.same (.same (.same (.same (.same (.same (.same (.same (.same (.same LeA.nil))))))))))))))) (fun x14 y13 => by unfold B_law_2; exact (pk_nm (fun _ => rfl) (pk_nil (by unfold m_law_2; exact (kr_one (kr_own (ow_ext (fun _ => rfl) (er_fz (lr_lcS (ir_range1 (ar_cons (er_bin (er_callB (ar_cons (or_v (fun _ => rfl)) ar_nil keepN)) er_c keepN) ar_nil keepN)) (fun _ => rfl) (fun j15 => (pk_nm (fun _ => rfl) (pk_nil (lc_td (X := fun s => [.fre, .fre, .fre, .fre, .fre, .fre, .fre, .fre, .fre, .fre, .fre, .fre, .fre, .fre]) tr_yes (er_tupN (ar_cons (or_v (fun _ => rfl)) (ar_cons (or_v (fun _ => rfl)) ar_nil keepN) keepN) rfl) (fun _ => LeA.refl _) (fun _ => LeA.refl _))))) (fun _ _ => LeA.refl _))) (fun _ => rfl)) fun things16 => (kr_cut (fun s => [.is (.ro p_xs), .is (.dct false s), .is (.v x2), .is (.v many3), .is (.v fault4), .is (.v replies11), .any, .any, .is (.own false things16), .is (.v x14), .is .un, .any, .any, .any]) (fun _ => rfl) (kr_next (fun _ => (.same (.same (.same (.same (.same (.same (.same (.same (.same (.any rfl (.same (.same (.same (.same LeA.nil))))))))))))))))))))))) fun y17 => (kr_set (rr_e (er_bin (or_own (fun _ => rfl)) (er_fz (lr_lstN (ar_cons (er_tupN (ar_cons (er_un er_c) (ar_cons er_c ar_nil keepN) keepN) rfl) (ar_cons (er_tupN (ar_cons er_c (ar_cons (er_un er_c) ar_nil keepN) keepN) rfl) (ar_cons (er_tupN (ar_cons (er_bin er_c er_c keepN) (ar_cons er_c ar_nil keepN) keepN) rfl) (ar_cons (er_tupN (ar_cons er_c (ar_cons (er_bin er_c er_c keepN) ar_nil keepN) keepN) rfl) (ar_cons (er_tupN (ar_cons (er_tupN (ar_cons er_c (ar_cons er_c ar_nil keepN) keepN) rfl) (ar_cons (er_tupN (ar_cons er_c (ar_cons er_c ar_nil keepN) keepN) rfl) ar_nil keepN) keepN) rfl) (ar_cons (er_tupN (ar_cons er_c (ar_cons er_c ar_nil keepN) keepN) rfl) ar_nil keepN) keepN) keepN) keepN) keepN) keepN) rfl)) (keepS (fun _ _ => rfl)))) (fun _ => rfl) fun things18 => (kr_one (kr_for (I := fun (y19 : Unit) => fun s => [.is (.ro p_xs), .is (.dct false s), .is (.v x2), .is (.v many3), .is (.v fault4), .is (.v replies11), .any, .any, .is (.v things18), .any, .is .un, .any, .any, .any]) (ir_it (or_v (fun _ => rfl))) (fun _ => (.same (.same (.same (.same (.same (.same (.same (.same (.same (.same (.same (.same (.same (.same LeA.nil))))))))))))))) (fun x20 y19 => by unfold B_law_3; exact (pk_nm (fun _ => rfl) (pk_nil (by unfold m_law_3; exact (kr_par (rr_e (er_callB (ar_cons (er_tupN (ar_cons (or_v (fun _ => rfl)) (ar_cons (or_v (fun _ => rfl)) ar_nil keepN) keepN) rfl) ar_nil keepN))) (rr_e (er_callB (ar_cons (er_call (gr_v (or_v (fun _ => rfl)) (gr_v (or_v (fun _ => rfl)) gr_nil)) (FnR.a fun xs s ps h => match xs, ps, h with | [a0, a1], _, rfl => ⟨fun _ => [.v a0, .v a1], rfl, fun _ => rfl, r_L_judged a0 a1⟩) rfl (by decide) (fun _ => (.fre rfl (.fre rfl (.fre rfl (.fre rfl (.fre rfl (.fre rfl (.fra (.fra (.fre rfl (.fra (.fre rfl (.fre rfl (.fra (.fra LeA.nil))))))))))))))) rfl) ar_nil keepN))) (by decide) (fun _ => rfl) (fun _ => rfl) fun seennow21 due22 => (kr_if (J := fun (y23 : Unit) => fun s => [.is (.ro p_xs), .is (.dct false s), .is (.v x2), .is (.v many3), .is (.v fault4), .is (.v replies11), .any, .any, .is (.v things18), .any, .is .un, .is (.v x20), .is (.v seennow21), .is (.v due22)]) (tr_t (er_bin (er_callB (ar_cons (er_lam (Ab := fun s => [.is (.ro p_xs), .is .un, .is (.v x2), .is (.v many3), .is (.v fault4), .is (.v replies11), .any, .any, .is (.v things18), .any, .is .un, .is (.v x20), .is (.v seennow21), .is (.v due22)]) (Xb := fun s => [.is (.ro p_xs), .is .un, .is (.v x2), .is (.v many3), .is (.v fault4), .is (.v replies11), .any, .any, .is (.v things18), .any, .is .un, .is (.v x20), .is (.v seennow21), .is (.v due22)]) (fun _ => rfl) (fun _ => rfl) (er_call (gr_v (or_v (fun _ => rfl)) (gr_v (or_v (fun _ => rfl)) gr_nil)) (FnR.a fun xs s ps h => match xs, ps, h with | [a0, a1], _, rfl => ⟨fun _ => [.v a0, .v a1], rfl, fun _ => rfl, r_lets_breach a0 a1⟩) rfl (by decide) (fun _ => (.same (.same (.same (.same (.same (.same (.same (.same (.same (.same (.same (.same (.same (.same LeA.nil))))))))))))))) rfl) r_L_said (fun _ => (.fre rfl (.fre rfl (.fre rfl (.fre rfl (.fre rfl (.fre rfl (.fra (.fra (.fre rfl (.fra (.fre rfl (.fre rfl (.fre rfl (.fre rfl LeA.nil)))))))))))))))) ar_nil keepN)) (or_v (fun _ => rfl)) keepN)) (kr_one (kr_ret er_c (fun _ => (.fre rfl (.fre rfl (.fre rfl (.fre rfl (.fre rfl (.fre rfl (.fra (.fra (.fre rfl (.fra (.fre rfl (.fre rfl (.fre rfl (.fre rfl LeA.nil))))))))))))))))) (kr_next (fun _ => (.same (.same (.same (.same (.same (.same (.same (.same (.same (.same (.same (.same (.same (.same LeA.nil)))))))))))))))) fun y23 => (kr_if (J := fun (y24 : Unit) => fun s => [.is (.ro p_xs), .is (.dct false s), .is (.v x2), .is (.v many3), .is (.v fault4), .is (.v replies11), .any, .any, .is (.v things18), .any, .is .un, .is (.v x20), .is (.v seennow21), .is (.v due22)]) (tr_t (er_bin (er_callB (ar_cons (er_lam (Ab := fun s => [.is (.ro p_xs), .is .un, .is (.v x2), .is (.v many3), .is (.v fault4), .is (.v replies11), .any, .any, .is (.v things18), .any, .is .un, .is (.v x20), .is (.v seennow21), .is (.v due22)]) (Xb := fun s => [.is (.ro p_xs), .is .un, .is (.v x2), .is (.v many3), .is (.v fault4), .is (.v replies11), .any, .any, .is (.v things18), .any, .is .un, .is (.v x20), .is (.v seennow21), .is (.v due22)]) (fun _ => rfl) (fun _ => rfl) (er_callW gr_nil (gr_v (or_v (fun _ => rfl)) (gr_v (or_v (fun _ => rfl)) gr_nil)) (fun i h => nomatch h) (FnR.a fun xs s ps h => match xs, ps, h with | [a0, a1], _, rfl => ⟨fun _ => [.v a0, .v a1], rfl, fun _ => rfl, r_lets_breach a0 a1⟩) rfl (by decide) (fun _ => (.same (.same (.same (.same (.same (.same (.same (.same (.same (.same (.same (.same (.same (.same LeA.nil))))))))))))))) rfl rfl rfl) r_L_said (fun _ => (.fre rfl (.fre rfl (.fre rfl (.fre rfl (.fre rfl (.fre rfl (.fra (.fra (.fre rfl (.fra (.fre rfl (.fre rfl (.fre rfl (.fre rfl LeA.nil)))))))))))))))) ar_nil keepN)) (or_v (fun _ => rfl)) keepN)) (kr_one (kr_ret er_c (fun _ => (.fre rfl (.fre rfl (.fre rfl (.fre rfl (.fre rfl (.fre rfl (.fra (.fra (.fre rfl (.fra (.fre rfl (.fre rfl (.fre rfl (.fre rfl LeA.nil))))))))))))))))) (kr_next (fun _ => (.same (.same (.same (.same (.same (.same (.same (.same (.same (.same (.same (.same (.same (.same LeA.nil)))))))))))))))) fun y24 => (kr_one (kr_if (J := fun (y25 : Unit) => fun s => [.is (.ro p_xs), .is (.dct false s), .is (.v x2), .is (.v many3), .is (.v fault4), .is (.v replies11), .any, .any, .is (.v things18), .any, .is .un, .is (.v x20), .is (.v seennow21), .is (.v due22)]) (tr_t (er_bin (er_callB (ar_cons (er_tupN (ar_cons (or_v (fun _ => rfl)) (ar_cons (or_v (fun _ => rfl)) ar_nil keepN) keepN) rfl) ar_nil keepN)) (or_v (fun _ => rfl)) keepN)) (kr_one (kr_ret er_c (fun _ => (.fre rfl (.fre rfl (.fre rfl (.fre rfl (.fre rfl (.fre rfl (.fra (.fra (.fre rfl (.fra (.fre rfl (.fre rfl (.fre rfl (.fre rfl LeA.nil))))))))))))))))) (kr_next (fun _ => (.same (.same (.same (.same (.same (.same (.same (.same (.same (.same (.same (.same (.same (.same LeA.nil)))))))))))))))) fun y25 => (kr_next (fun _ => (.same (.same (.same (.same (.same (.same (.same (.same (.same (.same (.same (.any rfl (.any rfl (.any rfl LeA.nil))))))))))))))))))))))))) fun y26 => (kr_next (fun _ => (.same (.same (.any rfl (.any rfl (.any rfl (.any rfl (.same (.same (.any rfl (.same (.same (.same (.same (.same LeA.nil)))))))))))))))))))))))))))) fun y27 => (kr_one (kr_ret er_c (fun _ => (.fre rfl (.fre rfl (.fra (.fra (.fra (.fra (.fra (.fra (.fra (.fra (.fre rfl (.fra (.fra (.fra LeA.nil))))))))))))))))))
end
end Md

namespace Md
open PySem
open PySem.Spec
open PyProof.Rows
open L2
open L2.Dl
theorem runF {nn : Nat} {m : DS} {ps e l : Nv} {x : PyData} (h : m (ps ++ List.replicate (nn - ps.length) .un) = .rt x e) (h2 : outP e ps 0 = some l) : mkFn nn m ps = .ok (.d x) l := by
  unfold mkFn; rw [h]; simp only [h2, outR]
theorem runK {nn : Nat} {m : DS} {ps e l : Nv} {d : DV} (h : m (ps ++ List.replicate (nn - ps.length) .un) = .rtD d e) (h2 : outP e ps 0 = some l) : mkFn nn m ps = .ok (.k d) l := by
  unfold mkFn; rw [h]; simp only [h2, outR]
theorem modOk {i j : Int} (h : 0 < j) : gModI (.int i) (.int j) = some (.int (i % j)) := if_pos h
theorem divOk {i j : Int} (h : 0 < j) (h2 : j < 1073741824) : gDivI (.int i) (.int j) = some (.int (i / j)) := if_pos ⟨h, h2⟩
theorem mulL {i j : Int} (h : -(2 ^ 64) < i) (h2 : i < 2 ^ 64) : gMul (.int i) (.int j) = some (.int (i * j)) := if_pos (.inl ⟨h, h2⟩)
theorem canLay_ints : ∀ cs : List Int, PyData.canLayAll0 (cs.map .int) = true
  | [] => rfl
  | _ :: r => by rw [List.map_cons]; simp [PyData.canLayAll0, PyData.canLay0, canLay_ints r]
theorem depth_ints : ∀ cs : List Int, PyData.depthAll (cs.map .int) = 0
  | [] => rfl
  | _ :: r => by rw [List.map_cons]; simp [PyData.depthAll, PyData.depth, depth_ints r]
theorem shaped_ints (cs : List Int) : SeqAt.shaped (.list (cs.map .int)) = true := by
  unfold SeqAt.shaped
  simp [PyData.canLay0, canLay_ints, PyData.depth, depth_ints]
theorem atI_okF {ds : List PyData} {i : Int} (h : 0 ≤ i) (h2 : i < ds.length) : ∃ x, atI ds i = some x ∧ ds[i.toNat]? = some x := by
  obtain ⟨n, rfl⟩ := Int.eq_ofNat_of_zero_le h
  have hn : n < ds.length := by omega
  refine ⟨ds[n], ?_, by simp [hn]⟩
  exact atI_nat (List.getElem?_eq_getElem hn)
section
variable {cs : List Int} {a l c m : Int}
/-- from the mixing on -/
theorem draw_tail {x b : Int} (hm : 0 < m) (hm2 : m < 1073741824) :
    ∃ r y, 0 ≤ r ∧ r < m ∧ (dSeq (dSet 5 (rE (dBin gModI (dBin gAdd (dBin gAdd (dBin gModI (dVar 4) (dC (.int 1000000207))) (dBin gMul (dC (.int 80051)) (dDGet 0 (dC (.str "count"))))) (dC (.int 67))) (dC (.int 2147483579)))))
  (dSeq (dSet 5 (rE (dBin gModI (dBin gAdd (dBin gAdd (dBin gMul (dVar 5) (dVar 5)) (dBin gMul (dC (.int 5754853)) (dDGet 0 (dC (.str "count"))))) (dC (.int 47))) (dC (.int 2147483549)))))
  (dRet (dBin gModI (dBin gDivI (dBin gModI (dBin gAdd (dBin gMul (dVar 5) (dVar 5)) (dBin gMul (dC (.int 43)) (dVar 5))) (dC (.int 2147483543))) (dC (.int 16))) (dVar 1))))) [.dct true (feedD cs a l c), .v (.int m), .un, .v (.int b), .v (.int x), .un]
    = .rt (.int r) [.dct true (feedD cs a l c), .v (.int m), .un, .v (.int b), .v (.int x), .v (.int y)] := by
  have r1 : ∀ z : Int, -(2 ^ 64) < z % 2147483579 ∧ z % 2147483579 < 2 ^ 64 := fun z => by
    have h1 := Int.emod_nonneg z (show (2147483579 : Int) ≠ 0 by decide)
    have h2 := Int.emod_lt_of_pos z (show (0 : Int) < 2147483579 by decide)
    omega
  have r2 : ∀ z : Int, -(2 ^ 64) < z % 2147483549 ∧ z % 2147483549 < 2 ^ 64 := fun z => by
    have h1 := Int.emod_nonneg z (show (2147483549 : Int) ≠ 0 by decide)
    have h2 := Int.emod_lt_of_pos z (show (0 : Int) < 2147483549 by decide)
    omega
  let y1 : Int := (x % 1000000207 + 80051 * c + 67) % 2147483579
  let y2 : Int := (y1 * y1 + 5754853 * c + 47) % 2147483549
  refine ⟨(y2 * y2 + 43 * y2) % 2147483543 / 16 % m, y2, Int.emod_nonneg _ (by omega), Int.emod_lt_of_pos _ hm, ?_⟩
  refine seqE (setE (binE (binE (binE (binE rfl rfl rfl rfl (modOk (j := 1000000207) (by decide))) (binE rfl rfl rfl rfl (mulL (i := 80051) (by decide) (by decide))) rfl rfl rfl) rfl rfl rfl rfl) rfl rfl rfl (modOk (j := 2147483579) (by decide))) rfl rfl) ?_
  refine seqE (setE (binE (binE (binE (binE rfl rfl rfl rfl (mulL (r1 _).1 (r1 _).2)) (binE rfl rfl rfl rfl (mulL (i := 5754853) (by decide) (by decide))) rfl rfl rfl) rfl rfl rfl rfl) rfl rfl rfl (modOk (j := 2147483549) (by decide))) rfl rfl) ?_
  exact retE (binE (binE (binE (binE (binE rfl rfl rfl rfl (mulL (r2 _).1 (r2 _).2)) (binE rfl rfl rfl rfl (mulL (i := 43) (by decide) (by decide))) rfl rfl rfl) rfl rfl rfl (modOk (j := 2147483543) (by decide))) rfl rfl rfl (divOk (j := 16) (by decide) (by decide))) rfl rfl rfl (modOk hm)) rfl
theorem draw_spec {d : DV} (hd : FeedOk d) (hm : 0 < m) (hm2 : m < 1073741824) : ∃ d' r, FeedOk d' ∧ 0 ≤ r ∧ r < m ∧ f_L_draw [.dct true d, .v (.int m)] = .ok (.d (.int r)) [.dct true d', .v (.int m)] := by
  obtain ⟨cs, a, l, c, rfl, ha⟩ := hd
  have run : ∀ {x : PyData} {e : Nv} {d' : DV} , m_L_draw [.dct true (feedD cs a l c), .v (.int m), .un, .un, .un, .un] = .rt x e → e[0]? = some (.dct true d') → e.length = 6 → f_L_draw [.dct true (feedD cs a l c), .v (.int m)] = .ok (.d x) [.dct true d', .v (.int m)] := by
    intro x e d' h1 h2 h3
    unfold f_L_draw mkFn
    show (match m_L_draw [.dct true (feedD cs a l c), .v (.int m), .un, .un, .un, .un] with | .rt x e => _ | .nx e => _ | .rtD d e => _ | .exc x e => _ | _ => _) = _
    rw [h1]
    simp only [outP, outS, h2, Slot.owns, Slot.par, outR, if_true, and_self, Bool.false_eq_true, if_false]
  have e1 : dDPut 0 (dC (.str "count")) (dBin gAdd (dDGet 0 (dC (.str "count"))) (dC (.int 1))) [.dct true (feedD cs a l c), .v (.int m), .un, .un, .un, .un] = .nx [.dct true (feedD cs a l (c + 1)), .v (.int m), .un, .un, .un, .un] := rfl
  by_cases hl : 0 < l
  · refine ⟨feedD cs a (l / m) (c + 1), l % m, ⟨_, _, _, _, rfl, ha⟩, Int.emod_nonneg _ (by omega), Int.emod_lt_of_pos _ hm, ?_⟩
    refine run (e := [.dct true (feedD cs a (l / m) (c + 1)), .v (.int m), .v (.int (l % m)), .un, .un, .un]) ?_ rfl rfl
    unfold m_L_draw
    refine seqE e1 (seqR (ifT (e := [.dct true (feedD cs a l (c + 1)), .v (.int m), .un, .un, .un, .un]) (tE (by
      show Res.ok (OV.d (PyData.bool (decide (0 < l)))) _ = _
      rw [decide_eq_true hl])) ?_))
    refine seqE (setE (binE rfl rfl rfl rfl (modOk hm)) rfl rfl) ?_
    refine seqE (putE (binE rfl rfl rfl rfl (divOk hm hm2)) rfl rfl rfl rfl rfl rfl (by show 4 < lenB; decide)) ?_
    rfl
  · -- the cell
    obtain ⟨x, hx⟩ : ∃ x : Int, dIfE (dT (dBin gNe (dDGet 0 (dC (.str "cells"))) (dFz (dLst dANil)))) (dBin gIx (dDGet 0 (dC (.str "cells"))) (dBin gModI (dVar 3) (dCallB gLen (dACons (dDGet 0 (dC (.str "cells"))) dANil)))) (dC (.int 19))
        [.dct true (feedD cs (a + 1) l (c + 1)), .v (.int m), .un, .v (.int a), .un, .un] = .ok (.d (.int x)) [.dct true (feedD cs (a + 1) l (c + 1)), .v (.int m), .un, .v (.int a), .un, .un] := by
      cases cs with
      | nil => exact ⟨19, rfl⟩
      | cons n r =>
        have hlen : 0 < (((n :: r).map PyData.int).length : Int) := by simp
        obtain ⟨z, hz, hz2⟩   := atI_okF (ds := (n :: r).map .int) (Int.emod_nonneg a (Int.ne_of_gt hlen)) (Int.emod_lt_of_pos a hlen)
        obtain ⟨x, rfl⟩ : ∃ x, z = .int x := by
          rw [List.getElem?_map] at hz2
          cases q : (n :: r)[(a % (((n :: r).map PyData.int).length : Int)).toNat]? with
          | none => rw [q] at hz2; cases hz2
          | some x => rw [q] at hz2; exact ⟨x, (Option.some.inj hz2).symm⟩
        refine ⟨x, ifeE (k := true) (tE (binE rfl rfl rfl rfl (z := .bool true) ?_)) ?_⟩
        · show (if SeqAt.shaped (.list ((n :: r).map .int)) && SeqAt.shaped (.list []) then _ else _) = _
          rw [shaped_ints]
          rfl
        · rw [if_pos rfl]
          exact binE rfl (binE rfl rfl rfl rfl (modOk hlen)) rfl rfl hz
    have e3 : dDPut 0 (dC (.str "at")) (dBin gAdd (dVar 3) (dC (.int 1))) [.dct true (feedD cs a l (c + 1)), .v (.int m), .un, .v (.int a), .un, .un] = .nx [.dct true (feedD cs (a + 1) l (c + 1)), .v (.int m), .un, .v (.int a), .un, .un] := rfl
    have e2 : dIfS (dT (dBin gGtI (dDGet 0 (dC (.str "left"))) (dC (.int 0)))) (dSeq (dSet 2 (rE (dBin gModI (dDGet 0 (dC (.str "left"))) (dVar 1))))
  (dSeq (dDPut 0 (dC (.str "left")) (dBin gDivI (dDGet 0 (dC (.str "left"))) (dVar 1)))
  (dRet (dVar 2)))) dNext [.dct true (feedD cs a l (c + 1)), .v (.int m), .un, .un, .un, .un] = .nx [.dct true (feedD cs a l (c + 1)), .v (.int m), .un, .un, .un, .un] :=
      ifF (e := [.dct true (feedD cs a l (c + 1)), .v (.int m), .un, .un, .un, .un]) (tE (by
        show Res.ok (OV.d (PyData.bool (decide (0 < l)))) _ = _
        rw [decide_eq_false hl])) rfl
    by_cases hb : (decide ((10 : Int) ^ 18 ≤ x) && decide (a < (cs.map PyData.int).length)) = true
    · rw [Bool.and_eq_true] at hb
      refine ⟨feedD cs (a + 1) (x / m) (c + 1), x % m, ⟨_, _, _, _, rfl, by omega⟩, Int.emod_nonneg _ (by omega), Int.emod_lt_of_pos _ hm, ?_⟩
      refine run (e := [.dct true (feedD cs (a + 1) (x / m) (c + 1)), .v (.int m), .un, .v (.int a), .v (.int x), .un]) ?_ rfl rfl
      unfold m_L_draw
      refine seqE e1 (seqE e2 (seqE (e := [.dct true (feedD cs a l (c + 1)), .v (.int m), .un, .v (.int a), .un, .un]) rfl (seqE e3 (seqE (setE hx rfl rfl) (seqR (ifT (e := [.dct true (feedD cs (a + 1) l (c + 1)), .v (.int m), .un, .v (.int a), .v (.int x), .un]) ?_ ?_))))))
      · show (if decide ((10 : Int) ^ 18 ≤ x) = true then _ else _) = _
        rw [if_pos hb.1]
        exact tE (by
          show Res.ok (OV.d (PyData.bool (decide (a < (cs.map PyData.int).length)))) _ = _
          rw [hb.2]; rfl)
      · refine seqE (putE (binE rfl rfl rfl rfl (divOk hm hm2)) rfl rfl rfl rfl rfl rfl (by show 4 < lenB; decide)) ?_
        exact retE (binE rfl rfl rfl rfl (modOk hm)) rfl
    · obtain ⟨r, y, h1, h2, h3⟩ := draw_tail (cs := cs) (a := a + 1) (l := l) (c := c + 1) (x := x) (b := a) hm hm2
      refine ⟨feedD cs (a + 1) l (c + 1), r, ⟨_, _, _, _, rfl, by omega⟩, h1, h2, ?_⟩
      refine run (e := [.dct true (feedD cs (a + 1) l (c + 1)), .v (.int m), .un, .v (.int a), .v (.int x), .v (.int y)]) ?_ rfl rfl
      unfold m_L_draw
      refine seqE e1 (seqE e2 (seqE (e := [.dct true (feedD cs a l (c + 1)), .v (.int m), .un, .v (.int a), .un, .un]) rfl (seqE e3 (seqE (setE hx rfl rfl) (seqE (ifF (e := [.dct true (feedD cs (a + 1) l (c + 1)), .v (.int m), .un, .v (.int a), .v (.int x), .un]) ?_ rfl) h3)))))
      show (if decide ((10 : Int) ^ 18 ≤ x) = true then _ else _) = _
      by_cases h10 : decide ((10 : Int) ^ 18 ≤ x) = true
      · rw [if_pos h10]
        refine tE ?_
        show Res.ok (OV.d (PyData.bool (decide (a < (cs.map PyData.int).length)))) _ = _
        rw [h10, Bool.true_and] at hb
        rw [Bool.eq_false_iff.mpr hb]; rfl
      · rw [if_neg h10]; rfl
end
theorem run_draw {m : Int} (hm : 0 < m) (hm2 : m < 1073741824) : RunT (F_L_draw (.int m)) fun y => ∃ r : Int, y = .int r ∧ 0 ≤ r ∧ r < m := fun d hd => by
  obtain ⟨d', r, h1, h2, h3, h4⟩ := draw_spec hd hm hm2
  refine ⟨.int r, d', h1, ?_, r, rfl, h2, h3⟩
  unfold F_L_draw drawE
  rw [h4]
theorem run_drawN {m : Int} (hm : 0 < m) (hm2 : m < 1073741824) : RunT (F_L_draw (.int m)) fun y => ∃ r : Nat, y = .int (r : Int) ∧ (r : Int) < m := (run_draw hm hm2).mono fun y hy => by
  obtain ⟨r, rfl, h0, h1⟩ := hy
  obtain ⟨n, rfl⟩ := Int.eq_ofNat_of_zero_le h0
  exact ⟨n, rfl, h1⟩
theorem feed_spec (xs : List Int) : f_L_feed [.ro (xs.map .int)] = .ok (.k (feedD (cutG xs none (some 63)) 0 0 0)) [.ro (xs.map .int)] := by
  have h : m_L_feed [.ro (xs.map .int)] = .rtD ⟨false, [(.str "cells", .list (cutG (xs.map .int) none (some 63))), (.str "at", .int 0), (.str "left", .int 0), (.str "count", .int 0)]⟩ [.ro (xs.map .int)] := rfl
  rw [cutG_map] at h
  exact runK (e := [.ro (xs.map .int)]) (show m_L_feed [.ro (xs.map .int)] = _ from h) rfl
theorem law_of (ns : List Int) (h : RunT K_law fun r => r = .rt (.bool true)) : ∃ ps, f_law [.ro (ns.map .int)] = .ok (.d (.bool true)) ps := by
  have hk : dkCall 1 f_L_feed [] (dACons (dVar 0) dANil) (.ro (ns.map .int) :: [.un, .un, .un, .un, .un, .un, .un, .un, .un, .un, .un, .un, .un]) = .ok (feedD (cutG ns none (some 63)) 0 0 0) (.ro (ns.map .int) :: [.un, .un, .un, .un, .un, .un, .un, .un, .un, .un, .un, .un, .un]) := by
    have hc : callDV f_L_feed [.sl 0] (.ro (ns.map .int) :: [.un, .un, .un, .un, .un, .un, .un, .un, .un, .un, .un, .un, .un]) = .ok (feedD (cutG ns none (some 63)) 0 0 0) (.ro (ns.map .int) :: [.un, .un, .un, .un, .un, .un, .un, .un, .un, .un, .un, .un, .un]) := by
      unfold callDV
      rw [if_pos (by rfl), show argL (.ro (ns.map .int) :: [.un, .un, .un, .un, .un, .un, .un, .un, .un, .un, .un, .un, .un]) [.sl 0] = some [.ro (ns.map .int)] from rfl]
      simp only [feed_spec]
      rfl
    exact hc
  have s1 : dSet 1 (rK (dkCall 1 f_L_feed [] (dACons (dVar 0) dANil))) (.ro (ns.map .int) :: [.un, .un, .un, .un, .un, .un, .un, .un, .un, .un, .un, .un, .un]) = .nx ((Slot.ro (ns.map .int) :: [.un, .un, .un, .un, .un, .un, .un, .un, .un, .un, .un, .un, .un]).set 1 (.dct false (feedD (cutG ns none (some 63)) 0 0 0))) := by
    unfold dSet rK
    rw [hk]
    rfl
  obtain ⟨a, d', _, h2, rfl⟩ := h (feedD (cutG ns none (some 63)) 0 0 0) ⟨_, _, _, _, rfl, by decide⟩
  have hat : ∀ e : Nv, At (e.map ASl.is) e := fun e => by
    induction e with
    | nil => exact .nil
    | cons x r ih => exact .cons (.is x) ih
  have q := k_law (ns.map .int) (feedD (cutG ns none (some 63)) 0 0 0) _ (hat ((Slot.ro (ns.map .int) :: [.un, .un, .un, .un, .un, .un, .un, .un, .un, .un, .un, .un, .un]).set 1 (.dct false (feedD (cutG ns none (some 63)) 0 0 0))))
  unfold RelS at q
  rw [h2] at q
  obtain ⟨e', h3, _⟩ := q
  refine ⟨_, runF (e := e') (show m_law (.ro (ns.map .int) :: [.un, .un, .un, .un, .un, .un, .un, .un, .un, .un, .un, .un, .un]) = _ from ?_) rfl⟩
  unfold m_law
  exact seqE s1 h3
end Md

--mx5
namespace Md
open PySem
open PySem.Spec
open PyProof.Rows
open L2
open L2.Dl
def noP (w : Str) : Ex := ⟨"NoPaper", [("at", .int (-1)), ("word", .str w)]⟩
def vP (w : Str) : PyData := .tuple [.str "paper", .str w, .int (-1)]
def vT : PyData := .tuple [.str "told", .bool true]
theorem need_t (w : Str) : F_need_breach (.bool true) (.str w) = eV .none := by kernel_rfl
theorem need_f (w : Str) : F_need_breach (.bool false) (.str w) = eX (noP w) := by kernel_rfl
theorem said_T : F_L_said (.ok (.bool true)) = eV vT := by kernel_rfl
theorem said_no (w : Str) : F_L_said (.exc (noP w)) = eV (vP w) := by kernel_rfl
def odd : List PyData := [.none, .tuple [], .tuple [.int 0], .tuple [.int 0, .int 0, .int 0], .list [.int 0, .int 1], .tuple [.int 0, .bool true], .tuple [.bool true, .int 0], .tuple [.int 0, .str "1"], .str "01", .int 0, .tuple [.tuple [.int 0, .int 0], .tuple [.int 0, .int 0]], .tuple [.none, .int 0]]
theorem odd_j (R : PyData) : ∀ x ∈ odd, F_L_judged R x = eV (vP "shape") := by
  intro x hx
  simp only [odd, List.mem_cons, List.not_mem_nil, or_false] at hx
  rcases hx with rfl | rfl | rfl | rfl | rfl | rfl | rfl | rfl | rfl | rfl | rfl | rfl <;> kernel_rfl
theorem odd_b (R : PyData) : ∀ x ∈ odd, F_lets_breach R x = eX (noP "shape") := by
  intro x hx
  simp only [odd, List.mem_cons, List.not_mem_nil, or_false] at hx
  rcases hx with rfl | rfl | rfl | rfl | rfl | rfl | rfl | rfl | rfl | rfl | rfl | rfl <;> kernel_rfl
def rp (r : Nat × Bool) : PyData := .tuple [.int (r.1 : Int), .bool r.2]
def rT (rs : List (Nat × Bool)) : PyData := .tuple (rs.map rp)
theorem isi_i (i : Int) : gIsi "int" (.int i) = some (.bool true) := by kernel_rfl
theorem isb_i (i : Int) : gIsi "bool" (.int i) = some (.bool false) := by kernel_rfl
theorem ist_t (xs : List PyData) : gIsi "tuple" (.tuple xs) = some (.bool true) := by kernel_rfl
theorem ne_nil (L : List Int) (h : ∀ x ∈ L, x.natAbs < 2 ^ 1000) : gNe (.list (L.map .int)) (.list []) = some (.bool (!decide (L = []))) := by
  have c1 : Ck ((1921 + 2) * (L.map PyData.int).length + 3) 1 (.list (L.map .int)) := ck_lst (n := 1921) (d := 0) fun x hx => by
    obtain ⟨i, hi, rfl⟩ := List.mem_map.mp hx
    exact ck_int (h i hi)
  have c2 : Ck 10000 1 (.list []) := (ck_lst (n := 0) (d := 0) (fun x hx => by cases hx)).up rfl rfl
  rw [gNe_ck c1 c2 rfl rfl]
  congr 3
  exact dq_iff (by
    rw [PyData.list.injEq]
    exact List.map_eq_nil_iff)
theorem gIx_rT {rs : List (Nat × Bool)} {i : Nat} (h : i < rs.length) : gIx (rT rs) (.int (i : Int)) = some (rp rs[i]) := by
  unfold rT
  rw [gIx_n (by rw [List.length_map]; exact h), List.getElem_map]
theorem len_rT (rs : List (Nat × Bool)) : gLen [rT rs] = some (.int rs.length) := by
  show some (PyData.int _) = _
  rw [List.length_map]
section
variable {rs : List (Nat × Bool)} {i j : Int} (hi : i.natAbs < 2 ^ 1000) (hj : j.natAbs < 2 ^ 1000)
theorem c1_spec : (eLc (fun one2 => stepE (tOrE (tNotE (tst (eUn (gIsi "int") (eV one2)))) (tOrE (tst (eUn (gIsi "bool") (eV one2))) (tst (eBin gLtI (eV one2) (eV (.int 0)))))) (eV one2)) [.int i, .int j] [] : EM Unit (List PyData)) = eV (([i, j].filter fun x => decide (x < 0)).map .int) := by
  have := lc_filter (S := Unit) (f := fun one2 => stepE (tOrE (tNotE (tst (eUn (gIsi "int") (eV one2)))) (tOrE (tst (eUn (gIsi "bool") (eV one2))) (tst (eBin gLtI (eV one2) (eV (.int 0)))))) (eV one2)) (e := PyData.int) (p := fun x => decide (x < 0)) (g := PyData.int) (xs := [i, j]) (acc := []) (fun x hx => by
    simp (maxSteps := 3000000) (disch := first | omega | (simp only [List.length_cons, List.length_nil, List.length_map, List.length_append, List.length_replicate]; omega)) only [isi_i, isb_i, aC_u, aN_u, eBin_u, eUn_u, tst_u, tstB_b, eNot_u, eAnd_u, eOr_u, tNotE_u, tAndE_u, tOrE_u, eIf_u, lenE_0, lenE_1, lenE_2, lenE_3, lenE_4, lenE_5, lenE_6, lenE_7, lenE_8, eTup_u, eLst_u, eFz_u, eCallB_u, eCallN_u, p0_u, pS_u, intE_i, eSl_u, eSlL_u, eIt_u, itsE_l, itsE_t, itsE_s, eRange1_u, eRange2_u, up1_t, up2_t, up3_t, up4_t, ls0_n, ls1_n, ls2_n, ls3_n, ls4_n, ls5_n, fnE_rt, fnE_nx, fnE_X, fnE_bnd, fnE_ite, gLen_tS, gAdd_tS, gSl_tS, eLC_u, stepE_t, extL_bnd, extL_l, eq_self, not_true_eq_false, not_false_eq_true, decide_true, decide_false, eAct_ok, eAct_ex, eLam_V, eLam_X, eLam_ite, oB_some, eRaise1, eTryAs_V, bnd_V, bnd_X, bnd_assoc, bnd_ite, lo_some, sJ_nx, sJ_rt, sJ_X, sJ_bnd, sJ_ite, eLift_V, eLift_X, eLift_ite, eLift_bnd, eLift_lo, gIx_0, gIx_1, gIx_2, gIx_3, gIxL_0, gIxL_1, gIxL_2, gIxL_3, hk_0, hk_1, hk_2, up3_hk, gAdd_i, gAddI_i, gSubI_i, gNeg_i, gLtI_i, gLeI_i, gGtI_i, gGeI_i, gLen_t, gLen_l, gEq_i, gEq_s, gNe_i, gNe_s, gIsN_n, gIsN_t, gNotN_n, gNotN_t, gTupleOf_l, gTupleOf_t, gListOf_l, gListOf_t, gMax2_i, gMin2_i, gSl_t, gSl_l, List.nil_append, List.cons_append, List.append_nil, Bool.not_eq_true', decide_eq_true_eq, decide_eq_false_iff_not, Bool.not_true, Bool.not_false, if_true, if_false, Bool.false_eq_true, reduceIte, List.length_cons, List.length_nil, gLen_tH, gSl_tH, eH_0, eH_1, eH_2, up3_eH, itsE_tS, itsE_tH, gNotN_tS, gIsN_tS, eEnum_u, itsL_tH, gRev_tH, gAdd_tH, rng1_n, rng2_n, appL_v, gIx_tS, gIx_tH, reduceCtorEq, stepE_f]
    by_cases c : x < 0 <;> simp only [c, decide_true, decide_false, if_true, if_false, stepE_t, stepE_f, Bool.false_eq_true, reduceIte, bnd_V]) (by show 0 + 2 ≤ 1000000; decide)
  rw [List.nil_append] at this
  exact this
theorem c2_spec : (eLc (fun one4 => stepE (tst (eBin gGeI (eV one4) (eCallB gLen (aC (eV (rT rs)) aN)))) (eV one4)) [.int i, .int j] [] : EM Unit (List PyData)) = eV (([i, j].filter fun x => decide (x ≥ (rs.length : Int))).map .int) := by
  have := lc_filter (S := Unit) (f := fun one4 => stepE (tst (eBin gGeI (eV one4) (eCallB gLen (aC (eV (rT rs)) aN)))) (eV one4)) (e := PyData.int) (p := fun x => decide (x ≥ (rs.length : Int))) (g := PyData.int) (xs := [i, j]) (acc := []) (fun x hx => by
    simp (maxSteps := 3000000) (disch := first | omega | (simp only [List.length_cons, List.length_nil, List.length_map, List.length_append, List.length_replicate]; omega)) only [len_rT, aC_u, aN_u, eBin_u, eUn_u, tst_u, tstB_b, eNot_u, eAnd_u, eOr_u, tNotE_u, tAndE_u, tOrE_u, eIf_u, lenE_0, lenE_1, lenE_2, lenE_3, lenE_4, lenE_5, lenE_6, lenE_7, lenE_8, eTup_u, eLst_u, eFz_u, eCallB_u, eCallN_u, p0_u, pS_u, intE_i, eSl_u, eSlL_u, eIt_u, itsE_l, itsE_t, itsE_s, eRange1_u, eRange2_u, up1_t, up2_t, up3_t, up4_t, ls0_n, ls1_n, ls2_n, ls3_n, ls4_n, ls5_n, fnE_rt, fnE_nx, fnE_X, fnE_bnd, fnE_ite, gLen_tS, gAdd_tS, gSl_tS, eLC_u, stepE_t, extL_bnd, extL_l, eq_self, not_true_eq_false, not_false_eq_true, decide_true, decide_false, eAct_ok, eAct_ex, eLam_V, eLam_X, eLam_ite, oB_some, eRaise1, eTryAs_V, bnd_V, bnd_X, bnd_assoc, bnd_ite, lo_some, sJ_nx, sJ_rt, sJ_X, sJ_bnd, sJ_ite, eLift_V, eLift_X, eLift_ite, eLift_bnd, eLift_lo, gIx_0, gIx_1, gIx_2, gIx_3, gIxL_0, gIxL_1, gIxL_2, gIxL_3, hk_0, hk_1, hk_2, up3_hk, gAdd_i, gAddI_i, gSubI_i, gNeg_i, gLtI_i, gLeI_i, gGtI_i, gGeI_i, gLen_t, gLen_l, gEq_i, gEq_s, gNe_i, gNe_s, gIsN_n, gIsN_t, gNotN_n, gNotN_t, gTupleOf_l, gTupleOf_t, gListOf_l, gListOf_t, gMax2_i, gMin2_i, gSl_t, gSl_l, List.nil_append, List.cons_append, List.append_nil, Bool.not_eq_true', decide_eq_true_eq, decide_eq_false_iff_not, Bool.not_true, Bool.not_false, if_true, if_false, Bool.false_eq_true, reduceIte, List.length_cons, List.length_nil, gLen_tH, gSl_tH, eH_0, eH_1, eH_2, up3_eH, itsE_tS, itsE_tH, gNotN_tS, gIsN_tS, eEnum_u, itsL_tH, gRev_tH, gAdd_tH, rng1_n, rng2_n, appL_v, gIx_tS, gIx_tH, reduceCtorEq, stepE_f]
    by_cases c : x ≥ (rs.length : Int) <;> simp only [c, decide_true, decide_false, if_true, if_false, stepE_t, stepE_f, Bool.false_eq_true, reduceIte, bnd_V]) (by show 0 + 2 ≤ 1000000; decide)
  rw [List.nil_append] at this
  exact this
def verd (rs : List (Nat × Bool)) (i j : Int) : Option Str :=
  if i < 0 ∨ j < 0 then some "shape"
  else if (rs.length : Int) ≤ i ∨ (rs.length : Int) ≤ j then some "places"
  else if (rs.getD i.toNat (0, false)).2 = true ∨ (rs.getD j.toNat (0, false)).2 = false then some "good"
  else if (rs.getD i.toNat (0, false)).1 ≤ (rs.getD j.toNat (0, false)).1 then none
  else some "less"
def vO : Option Str → PyData
  | some w => vP w
  | none => vT
theorem len2 : (((0 + 1 + 1 : Nat) : Nat) : Int) = 2 := rfl
theorem neg1 : gNeg (.int 1) = some (.int (-1)) := rfl
theorem vP_f (w : Str) : PyData.tuple [.str "paper", .str w, .int (-1)] = vP w := rfl
include hi hj
theorem judged_spec : F_L_judged (rT rs) (.tuple [.int i, .int j]) = eV (vO (verd rs i j)) := by
  have c1 := c1_spec (i := i) (j := j)
  have c2 := c2_spec (rs := rs) (i := i) (j := j)
  have n1 := ne_nil ([i, j].filter fun x => decide (x < 0)) (fun x hx => by
    have := (List.mem_filter.mp hx).1
    simp only [List.mem_cons, List.not_mem_nil, or_false] at this
    rcases this with rfl | rfl
    · exact hi
    · exact hj)
  have n2 := ne_nil ([i, j].filter fun x => decide (x ≥ (rs.length : Int))) (fun x hx => by
    have := (List.mem_filter.mp hx).1
    simp only [List.mem_cons, List.not_mem_nil, or_false] at this
    rcases this with rfl | rfl
    · exact hi
    · exact hj)
  have e1 : ([i, j].filter fun x => decide (x < 0)) = [] ↔ ¬ (i < 0 ∨ j < 0) := by
    rw [List.filter_eq_nil_iff]
    simp
  have e2 : ([i, j].filter fun x => decide (x ≥ (rs.length : Int))) = [] ↔ ¬ ((rs.length : Int) ≤ i ∨ (rs.length : Int) ≤ j) := by
    rw [List.filter_eq_nil_iff]
    simp
  revert c1 c2 n1 n2 e1 e2
  generalize ([i, j].filter fun x => decide (x < 0)) = L1
  generalize ([i, j].filter fun x => decide (x ≥ (rs.length : Int))) = L2
  intro c1 c2 n1 n2 e1 e2
  simp (maxSteps := 3000000) (disch := first | omega | (simp only [List.length_cons, List.length_nil, List.length_map, List.length_append, List.length_replicate]; omega)) only [aC_u, aN_u, eBin_u, eUn_u, tst_u, tstB_b, eNot_u, eAnd_u, eOr_u, tNotE_u, tAndE_u, tOrE_u, eIf_u, lenE_0, lenE_1, lenE_2, lenE_3, lenE_4, lenE_5, lenE_6, lenE_7, lenE_8, eTup_u, eLst_u, eFz_u, eCallB_u, eCallN_u, p0_u, pS_u, intE_i, eSl_u, eSlL_u, eIt_u, itsE_l, itsE_t, itsE_s, eRange1_u, eRange2_u, up1_t, up2_t, up3_t, up4_t, ls0_n, ls1_n, ls2_n, ls3_n, ls4_n, ls5_n, fnE_rt, fnE_nx, fnE_X, fnE_bnd, fnE_ite, gLen_tS, gAdd_tS, gSl_tS, eLC_u, stepE_t, extL_bnd, extL_l, eq_self, not_true_eq_false, not_false_eq_true, decide_true, decide_false, eAct_ok, eAct_ex, eLam_V, eLam_X, eLam_ite, oB_some, eRaise1, eTryAs_V, bnd_V, bnd_X, bnd_assoc, bnd_ite, lo_some, sJ_nx, sJ_rt, sJ_X, sJ_bnd, sJ_ite, eLift_V, eLift_X, eLift_ite, eLift_bnd, eLift_lo, gIx_0, gIx_1, gIx_2, gIx_3, gIxL_0, gIxL_1, gIxL_2, gIxL_3, hk_0, hk_1, hk_2, up3_hk, gAdd_i, gAddI_i, gSubI_i, gNeg_i, gLtI_i, gLeI_i, gGtI_i, gGeI_i, gLen_t, gLen_l, gEq_i, gEq_s, gNe_i, gNe_s, gIsN_n, gIsN_t, gNotN_n, gNotN_t, gTupleOf_l, gTupleOf_t, gListOf_l, gListOf_t, gMax2_i, gMin2_i, gSl_t, gSl_l, List.nil_append, List.cons_append, List.append_nil, Bool.not_eq_true', decide_eq_true_eq, decide_eq_false_iff_not, Bool.not_true, Bool.not_false, if_true, if_false, Bool.false_eq_true, reduceIte, List.length_cons, List.length_nil, gLen_tH, gSl_tH, eH_0, eH_1, eH_2, up3_eH, itsE_tS, itsE_tH, gNotN_tS, gIsN_tS, eEnum_u, itsL_tH, gRev_tH, gAdd_tH, rng1_n, rng2_n, appL_v, gIx_tS, gIx_tH, reduceCtorEq, stepE_f] at c1 c2
  unfold F_L_judged K_L_judged verd
  by_cases h1 : i < 0 ∨ j < 0
  · have : L1 ≠ [] := fun z => e1.mp z h1
    rw [if_pos h1]
    simp (maxSteps := 3000000) (disch := first | omega | (simp only [List.length_cons, List.length_nil, List.length_map, List.length_append, List.length_replicate]; omega)) only [ist_t, len2, c1, n1, this, neg1, aC_u, aN_u, eBin_u, eUn_u, tst_u, tstB_b, eNot_u, eAnd_u, eOr_u, tNotE_u, tAndE_u, tOrE_u, eIf_u, lenE_0, lenE_1, lenE_2, lenE_3, lenE_4, lenE_5, lenE_6, lenE_7, lenE_8, eTup_u, eLst_u, eFz_u, eCallB_u, eCallN_u, p0_u, pS_u, intE_i, eSl_u, eSlL_u, eIt_u, itsE_l, itsE_t, itsE_s, eRange1_u, eRange2_u, up1_t, up2_t, up3_t, up4_t, ls0_n, ls1_n, ls2_n, ls3_n, ls4_n, ls5_n, fnE_rt, fnE_nx, fnE_X, fnE_bnd, fnE_ite, gLen_tS, gAdd_tS, gSl_tS, eLC_u, stepE_t, extL_bnd, extL_l, eq_self, not_true_eq_false, not_false_eq_true, decide_true, decide_false, eAct_ok, eAct_ex, eLam_V, eLam_X, eLam_ite, oB_some, eRaise1, eTryAs_V, bnd_V, bnd_X, bnd_assoc, bnd_ite, lo_some, sJ_nx, sJ_rt, sJ_X, sJ_bnd, sJ_ite, eLift_V, eLift_X, eLift_ite, eLift_bnd, eLift_lo, gIx_0, gIx_1, gIx_2, gIx_3, gIxL_0, gIxL_1, gIxL_2, gIxL_3, hk_0, hk_1, hk_2, up3_hk, gAdd_i, gAddI_i, gSubI_i, gNeg_i, gLtI_i, gLeI_i, gGtI_i, gGeI_i, gLen_t, gLen_l, gEq_i, gEq_s, gNe_i, gNe_s, gIsN_n, gIsN_t, gNotN_n, gNotN_t, gTupleOf_l, gTupleOf_t, gListOf_l, gListOf_t, gMax2_i, gMin2_i, gSl_t, gSl_l, List.nil_append, List.cons_append, List.append_nil, Bool.not_eq_true', decide_eq_true_eq, decide_eq_false_iff_not, Bool.not_true, Bool.not_false, if_true, if_false, Bool.false_eq_true, reduceIte, List.length_cons, List.length_nil, gLen_tH, gSl_tH, eH_0, eH_1, eH_2, up3_eH, itsE_tS, itsE_tH, gNotN_tS, gIsN_tS, eEnum_u, itsL_tH, gRev_tH, gAdd_tH, rng1_n, rng2_n, appL_v, gIx_tS, gIx_tH, reduceCtorEq, stepE_f]
    rfl
  · rw [if_neg h1]
    have : L1 = [] := e1.mpr h1
    by_cases h2 : (rs.length : Int) ≤ i ∨ (rs.length : Int) ≤ j
    · have t2 : L2 ≠ [] := fun z => e2.mp z h2
      rw [if_pos h2]
      simp (maxSteps := 3000000) (disch := first | omega | (simp only [List.length_cons, List.length_nil, List.length_map, List.length_append, List.length_replicate]; omega)) only [ist_t, len2, c1, n1, this, c2, n2, t2, neg1, aC_u, aN_u, eBin_u, eUn_u, tst_u, tstB_b, eNot_u, eAnd_u, eOr_u, tNotE_u, tAndE_u, tOrE_u, eIf_u, lenE_0, lenE_1, lenE_2, lenE_3, lenE_4, lenE_5, lenE_6, lenE_7, lenE_8, eTup_u, eLst_u, eFz_u, eCallB_u, eCallN_u, p0_u, pS_u, intE_i, eSl_u, eSlL_u, eIt_u, itsE_l, itsE_t, itsE_s, eRange1_u, eRange2_u, up1_t, up2_t, up3_t, up4_t, ls0_n, ls1_n, ls2_n, ls3_n, ls4_n, ls5_n, fnE_rt, fnE_nx, fnE_X, fnE_bnd, fnE_ite, gLen_tS, gAdd_tS, gSl_tS, eLC_u, stepE_t, extL_bnd, extL_l, eq_self, not_true_eq_false, not_false_eq_true, decide_true, decide_false, eAct_ok, eAct_ex, eLam_V, eLam_X, eLam_ite, oB_some, eRaise1, eTryAs_V, bnd_V, bnd_X, bnd_assoc, bnd_ite, lo_some, sJ_nx, sJ_rt, sJ_X, sJ_bnd, sJ_ite, eLift_V, eLift_X, eLift_ite, eLift_bnd, eLift_lo, gIx_0, gIx_1, gIx_2, gIx_3, gIxL_0, gIxL_1, gIxL_2, gIxL_3, hk_0, hk_1, hk_2, up3_hk, gAdd_i, gAddI_i, gSubI_i, gNeg_i, gLtI_i, gLeI_i, gGtI_i, gGeI_i, gLen_t, gLen_l, gEq_i, gEq_s, gNe_i, gNe_s, gIsN_n, gIsN_t, gNotN_n, gNotN_t, gTupleOf_l, gTupleOf_t, gListOf_l, gListOf_t, gMax2_i, gMin2_i, gSl_t, gSl_l, List.nil_append, List.cons_append, List.append_nil, Bool.not_eq_true', decide_eq_true_eq, decide_eq_false_iff_not, Bool.not_true, Bool.not_false, if_true, if_false, Bool.false_eq_true, reduceIte, List.length_cons, List.length_nil, gLen_tH, gSl_tH, eH_0, eH_1, eH_2, up3_eH, itsE_tS, itsE_tH, gNotN_tS, gIsN_tS, eEnum_u, itsL_tH, gRev_tH, gAdd_tH, rng1_n, rng2_n, appL_v, gIx_tS, gIx_tH, reduceCtorEq, stepE_f]
      rfl
    · rw [if_neg h2]
      have t2 : L2 = [] := e2.mpr h2
      obtain ⟨a, rfl⟩ : ∃ a : Nat, i = (a : Int) := ⟨i.toNat, by omega⟩
      obtain ⟨b, rfl⟩ : ∃ b : Nat, j = (b : Int) := ⟨j.toNat, by omega⟩
      have ha : a < rs.length := by omega
      have hb : b < rs.length := by omega
      have g1 := gIx_rT ha
      have g2 := gIx_rT hb
      rw [Int.toNat_natCast, Int.toNat_natCast, List.getD_eq_getElem?_getD, List.getD_eq_getElem?_getD, List.getElem?_eq_getElem ha, List.getElem?_eq_getElem hb]
      simp only [Option.getD_some]
      revert g1 g2
      generalize rs[a] = x
      generalize rs[b] = y
      obtain ⟨k, p⟩ := x
      obtain ⟨l, q⟩ := y
      intro g1 g2
      unfold rp at g1 g2
      simp only [] at g1 g2
      simp (maxSteps := 3000000) (disch := first | omega | (simp only [List.length_cons, List.length_nil, List.length_map, List.length_append, List.length_replicate]; omega)) only [ist_t, len2, c1, n1, this, c2, n2, t2, g1, g2, neg1, aC_u, aN_u, eBin_u, eUn_u, tst_u, tstB_b, eNot_u, eAnd_u, eOr_u, tNotE_u, tAndE_u, tOrE_u, eIf_u, lenE_0, lenE_1, lenE_2, lenE_3, lenE_4, lenE_5, lenE_6, lenE_7, lenE_8, eTup_u, eLst_u, eFz_u, eCallB_u, eCallN_u, p0_u, pS_u, intE_i, eSl_u, eSlL_u, eIt_u, itsE_l, itsE_t, itsE_s, eRange1_u, eRange2_u, up1_t, up2_t, up3_t, up4_t, ls0_n, ls1_n, ls2_n, ls3_n, ls4_n, ls5_n, fnE_rt, fnE_nx, fnE_X, fnE_bnd, fnE_ite, gLen_tS, gAdd_tS, gSl_tS, eLC_u, stepE_t, extL_bnd, extL_l, eq_self, not_true_eq_false, not_false_eq_true, decide_true, decide_false, eAct_ok, eAct_ex, eLam_V, eLam_X, eLam_ite, oB_some, eRaise1, eTryAs_V, bnd_V, bnd_X, bnd_assoc, bnd_ite, lo_some, sJ_nx, sJ_rt, sJ_X, sJ_bnd, sJ_ite, eLift_V, eLift_X, eLift_ite, eLift_bnd, eLift_lo, gIx_0, gIx_1, gIx_2, gIx_3, gIxL_0, gIxL_1, gIxL_2, gIxL_3, hk_0, hk_1, hk_2, up3_hk, gAdd_i, gAddI_i, gSubI_i, gNeg_i, gLtI_i, gLeI_i, gGtI_i, gGeI_i, gLen_t, gLen_l, gEq_i, gEq_s, gNe_i, gNe_s, gIsN_n, gIsN_t, gNotN_n, gNotN_t, gTupleOf_l, gTupleOf_t, gListOf_l, gListOf_t, gMax2_i, gMin2_i, gSl_t, gSl_l, List.nil_append, List.cons_append, List.append_nil, Bool.not_eq_true', decide_eq_true_eq, decide_eq_false_iff_not, Bool.not_true, Bool.not_false, if_true, if_false, Bool.false_eq_true, reduceIte, List.length_cons, List.length_nil, gLen_tH, gSl_tH, eH_0, eH_1, eH_2, up3_eH, itsE_tS, itsE_tH, gNotN_tS, gIsN_tS, eEnum_u, itsL_tH, gRev_tH, gAdd_tH, rng1_n, rng2_n, appL_v, gIx_tS, gIx_tH, reduceCtorEq, stepE_f]
      have q1 : ((l : Int) ≥ (k : Int)) = (k ≤ l) := by
        refine propext ⟨fun h => ?_, fun h => ?_⟩ <;> omega
      by_cases h3 : k ≤ l
      · cases p <;> cases q <;> (simp (maxSteps := 3000000) (disch := first | omega | (simp only [List.length_cons, List.length_nil, List.length_map, List.length_append, List.length_replicate]; omega)) only [q1, h3, neg1, or_true, true_or, or_false, false_or, reduceCtorEq, aC_u, aN_u, eBin_u, eUn_u, tst_u, tstB_b, eNot_u, eAnd_u, eOr_u, tNotE_u, tAndE_u, tOrE_u, eIf_u, lenE_0, lenE_1, lenE_2, lenE_3, lenE_4, lenE_5, lenE_6, lenE_7, lenE_8, eTup_u, eLst_u, eFz_u, eCallB_u, eCallN_u, p0_u, pS_u, intE_i, eSl_u, eSlL_u, eIt_u, itsE_l, itsE_t, itsE_s, eRange1_u, eRange2_u, up1_t, up2_t, up3_t, up4_t, ls0_n, ls1_n, ls2_n, ls3_n, ls4_n, ls5_n, fnE_rt, fnE_nx, fnE_X, fnE_bnd, fnE_ite, gLen_tS, gAdd_tS, gSl_tS, eLC_u, stepE_t, extL_bnd, extL_l, eq_self, not_true_eq_false, not_false_eq_true, decide_true, decide_false, eAct_ok, eAct_ex, eLam_V, eLam_X, eLam_ite, oB_some, eRaise1, eTryAs_V, bnd_V, bnd_X, bnd_assoc, bnd_ite, lo_some, sJ_nx, sJ_rt, sJ_X, sJ_bnd, sJ_ite, eLift_V, eLift_X, eLift_ite, eLift_bnd, eLift_lo, gIx_0, gIx_1, gIx_2, gIx_3, gIxL_0, gIxL_1, gIxL_2, gIxL_3, hk_0, hk_1, hk_2, up3_hk, gAdd_i, gAddI_i, gSubI_i, gNeg_i, gLtI_i, gLeI_i, gGtI_i, gGeI_i, gLen_t, gLen_l, gEq_i, gEq_s, gNe_i, gNe_s, gIsN_n, gIsN_t, gNotN_n, gNotN_t, gTupleOf_l, gTupleOf_t, gListOf_l, gListOf_t, gMax2_i, gMin2_i, gSl_t, gSl_l, List.nil_append, List.cons_append, List.append_nil, Bool.not_eq_true', decide_eq_true_eq, decide_eq_false_iff_not, Bool.not_true, Bool.not_false, if_true, if_false, Bool.false_eq_true, reduceIte, List.length_cons, List.length_nil, gLen_tH, gSl_tH, eH_0, eH_1, eH_2, up3_eH, itsE_tS, itsE_tH, gNotN_tS, gIsN_tS, eEnum_u, itsL_tH, gRev_tH, gAdd_tH, rng1_n, rng2_n, appL_v, gIx_tS, gIx_tH, reduceCtorEq, stepE_f]; rfl)
      · cases p <;> cases q <;> (simp (maxSteps := 3000000) (disch := first | omega | (simp only [List.length_cons, List.length_nil, List.length_map, List.length_append, List.length_replicate]; omega)) only [q1, h3, neg1, or_true, true_or, or_false, false_or, reduceCtorEq, aC_u, aN_u, eBin_u, eUn_u, tst_u, tstB_b, eNot_u, eAnd_u, eOr_u, tNotE_u, tAndE_u, tOrE_u, eIf_u, lenE_0, lenE_1, lenE_2, lenE_3, lenE_4, lenE_5, lenE_6, lenE_7, lenE_8, eTup_u, eLst_u, eFz_u, eCallB_u, eCallN_u, p0_u, pS_u, intE_i, eSl_u, eSlL_u, eIt_u, itsE_l, itsE_t, itsE_s, eRange1_u, eRange2_u, up1_t, up2_t, up3_t, up4_t, ls0_n, ls1_n, ls2_n, ls3_n, ls4_n, ls5_n, fnE_rt, fnE_nx, fnE_X, fnE_bnd, fnE_ite, gLen_tS, gAdd_tS, gSl_tS, eLC_u, stepE_t, extL_bnd, extL_l, eq_self, not_true_eq_false, not_false_eq_true, decide_true, decide_false, eAct_ok, eAct_ex, eLam_V, eLam_X, eLam_ite, oB_some, eRaise1, eTryAs_V, bnd_V, bnd_X, bnd_assoc, bnd_ite, lo_some, sJ_nx, sJ_rt, sJ_X, sJ_bnd, sJ_ite, eLift_V, eLift_X, eLift_ite, eLift_bnd, eLift_lo, gIx_0, gIx_1, gIx_2, gIx_3, gIxL_0, gIxL_1, gIxL_2, gIxL_3, hk_0, hk_1, hk_2, up3_hk, gAdd_i, gAddI_i, gSubI_i, gNeg_i, gLtI_i, gLeI_i, gGtI_i, gGeI_i, gLen_t, gLen_l, gEq_i, gEq_s, gNe_i, gNe_s, gIsN_n, gIsN_t, gNotN_n, gNotN_t, gTupleOf_l, gTupleOf_t, gListOf_l, gListOf_t, gMax2_i, gMin2_i, gSl_t, gSl_l, List.nil_append, List.cons_append, List.append_nil, Bool.not_eq_true', decide_eq_true_eq, decide_eq_false_iff_not, Bool.not_true, Bool.not_false, if_true, if_false, Bool.false_eq_true, reduceIte, List.length_cons, List.length_nil, gLen_tH, gSl_tH, eH_0, eH_1, eH_2, up3_eH, itsE_tS, itsE_tH, gNotN_tS, gIsN_tS, eEnum_u, itsL_tH, gRev_tH, gAdd_tH, rng1_n, rng2_n, appL_v, gIx_tS, gIx_tH, reduceCtorEq, stepE_f]; rfl)
end
end Md

--mx5
namespace Md
open PySem
open PySem.Spec
open PyProof.Rows
open L2
open L2.Dl
theorem isn_spec (i : Int) : F_is_number (.int i) = eV (.bool (decide (i ≥ 0))) := by
  unfold F_is_number K_is_number
  simp (maxSteps := 3000000) (disch := first | omega | (simp only [List.length_cons, List.length_nil, List.length_map, List.length_append, List.length_replicate]; omega)) only [isi_i, isb_i, aC_u, aN_u, eBin_u, eUn_u, tst_u, tstB_b, eNot_u, eAnd_u, eOr_u, tNotE_u, tAndE_u, tOrE_u, eIf_u, lenE_0, lenE_1, lenE_2, lenE_3, lenE_4, lenE_5, lenE_6, lenE_7, lenE_8, eTup_u, eLst_u, eFz_u, eCallB_u, eCallN_u, p0_u, pS_u, intE_i, eSl_u, eSlL_u, eIt_u, itsE_l, itsE_t, itsE_s, eRange1_u, eRange2_u, up1_t, up2_t, up3_t, up4_t, ls0_n, ls1_n, ls2_n, ls3_n, ls4_n, ls5_n, fnE_rt, fnE_nx, fnE_X, fnE_bnd, fnE_ite, gLen_tS, gAdd_tS, gSl_tS, eLC_u, stepE_t, extL_bnd, extL_l, eq_self, not_true_eq_false, not_false_eq_true, decide_true, decide_false, eAct_ok, eAct_ex, eLam_V, eLam_X, eLam_ite, oB_some, eRaise1, eTryAs_V, bnd_V, bnd_X, bnd_assoc, bnd_ite, lo_some, sJ_nx, sJ_rt, sJ_X, sJ_bnd, sJ_ite, eLift_V, eLift_X, eLift_ite, eLift_bnd, eLift_lo, gIx_0, gIx_1, gIx_2, gIx_3, gIxL_0, gIxL_1, gIxL_2, gIxL_3, hk_0, hk_1, hk_2, up3_hk, gAdd_i, gAddI_i, gSubI_i, gNeg_i, gLtI_i, gLeI_i, gGtI_i, gGeI_i, gLen_t, gLen_l, gEq_i, gEq_s, gNe_i, gNe_s, gIsN_n, gIsN_t, gNotN_n, gNotN_t, gTupleOf_l, gTupleOf_t, gListOf_l, gListOf_t, gMax2_i, gMin2_i, gSl_t, gSl_l, List.nil_append, List.cons_append, List.append_nil, Bool.not_eq_true', decide_eq_true_eq, decide_eq_false_iff_not, Bool.not_true, Bool.not_false, if_true, if_false, Bool.false_eq_true, reduceIte, List.length_cons, List.length_nil, gLen_tH, gSl_tH, eH_0, eH_1, eH_2, up3_eH, itsE_tS, itsE_tH, gNotN_tS, gIsN_tS, eEnum_u, itsL_tH, gRev_tH, gAdd_tH, rng1_n, rng2_n, appL_v, gIx_tS, gIx_tH, reduceCtorEq, stepE_f]
def brO : Option Str → EM Unit PyData
  | some w => eX (noP w)
  | none => eV (.bool true)
theorem all2 (p q : Bool) : gAll [.list [.bool p, .bool q]] = some (.bool (p && (q && true))) := rfl
theorem max2 (i j : Int) : gMaxA [.tuple [.int i, .int j]] = some (.int (max i j)) := rfl
theorem breach_spec (rs : List (Nat × Bool)) (i j : Int) : F_lets_breach (rT rs) (.tuple [.int i, .int j]) = brO (verd rs i j) := by
  have c : (eLc (fun one1 => stepE (eV true) (Dl.bnd (aC (eV one1) aN) fun xs => eLift ((ls1 fun a0 => F_is_number a0) (xs ++ [])))) [.int i, .int j] [] : EM Unit (List PyData)) = eV [.bool (decide (i ≥ 0)), .bool (decide (j ≥ 0))] := by
    have := lc_map (S := Unit) (f := fun one1 => stepE (eV true) (Dl.bnd (aC (eV one1) aN) fun xs => eLift ((ls1 fun a0 => F_is_number a0) (xs ++ [])))) (e := PyData.int) (g := fun i => .bool (decide (i ≥ 0))) (xs := [i, j]) (acc := []) (fun x _ => by simp (maxSteps := 3000000) (disch := first | omega | (simp only [List.length_cons, List.length_nil, List.length_map, List.length_append, List.length_replicate]; omega)) only [isn_spec, aC_u, aN_u, eBin_u, eUn_u, tst_u, tstB_b, eNot_u, eAnd_u, eOr_u, tNotE_u, tAndE_u, tOrE_u, eIf_u, lenE_0, lenE_1, lenE_2, lenE_3, lenE_4, lenE_5, lenE_6, lenE_7, lenE_8, eTup_u, eLst_u, eFz_u, eCallB_u, eCallN_u, p0_u, pS_u, intE_i, eSl_u, eSlL_u, eIt_u, itsE_l, itsE_t, itsE_s, eRange1_u, eRange2_u, up1_t, up2_t, up3_t, up4_t, ls0_n, ls1_n, ls2_n, ls3_n, ls4_n, ls5_n, fnE_rt, fnE_nx, fnE_X, fnE_bnd, fnE_ite, gLen_tS, gAdd_tS, gSl_tS, eLC_u, stepE_t, extL_bnd, extL_l, eq_self, not_true_eq_false, not_false_eq_true, decide_true, decide_false, eAct_ok, eAct_ex, eLam_V, eLam_X, eLam_ite, oB_some, eRaise1, eTryAs_V, bnd_V, bnd_X, bnd_assoc, bnd_ite, lo_some, sJ_nx, sJ_rt, sJ_X, sJ_bnd, sJ_ite, eLift_V, eLift_X, eLift_ite, eLift_bnd, eLift_lo, gIx_0, gIx_1, gIx_2, gIx_3, gIxL_0, gIxL_1, gIxL_2, gIxL_3, hk_0, hk_1, hk_2, up3_hk, gAdd_i, gAddI_i, gSubI_i, gNeg_i, gLtI_i, gLeI_i, gGtI_i, gGeI_i, gLen_t, gLen_l, gEq_i, gEq_s, gNe_i, gNe_s, gIsN_n, gIsN_t, gNotN_n, gNotN_t, gTupleOf_l, gTupleOf_t, gListOf_l, gListOf_t, gMax2_i, gMin2_i, gSl_t, gSl_l, List.nil_append, List.cons_append, List.append_nil, Bool.not_eq_true', decide_eq_true_eq, decide_eq_false_iff_not, Bool.not_true, Bool.not_false, if_true, if_false, Bool.false_eq_true, reduceIte, List.length_cons, List.length_nil, gLen_tH, gSl_tH, eH_0, eH_1, eH_2, up3_eH, itsE_tS, itsE_tH, gNotN_tS, gIsN_tS, eEnum_u, itsL_tH, gRev_tH, gAdd_tH, rng1_n, rng2_n, appL_v, gIx_tS, gIx_tH, reduceCtorEq, stepE_f]) (by show 0 + 2 ≤ 1000000; decide)
    rw [List.nil_append] at this
    exact this
  simp (maxSteps := 3000000) (disch := first | omega | (simp only [List.length_cons, List.length_nil, List.length_map, List.length_append, List.length_replicate]; omega)) only [aC_u, aN_u, eBin_u, eUn_u, tst_u, tstB_b, eNot_u, eAnd_u, eOr_u, tNotE_u, tAndE_u, tOrE_u, eIf_u, lenE_0, lenE_1, lenE_2, lenE_3, lenE_4, lenE_5, lenE_6, lenE_7, lenE_8, eTup_u, eLst_u, eFz_u, eCallB_u, eCallN_u, p0_u, pS_u, intE_i, eSl_u, eSlL_u, eIt_u, itsE_l, itsE_t, itsE_s, eRange1_u, eRange2_u, up1_t, up2_t, up3_t, up4_t, ls0_n, ls1_n, ls2_n, ls3_n, ls4_n, ls5_n, fnE_rt, fnE_nx, fnE_X, fnE_bnd, fnE_ite, gLen_tS, gAdd_tS, gSl_tS, eLC_u, stepE_t, extL_bnd, extL_l, eq_self, not_true_eq_false, not_false_eq_true, decide_true, decide_false, eAct_ok, eAct_ex, eLam_V, eLam_X, eLam_ite, oB_some, eRaise1, eTryAs_V, bnd_V, bnd_X, bnd_assoc, bnd_ite, lo_some, sJ_nx, sJ_rt, sJ_X, sJ_bnd, sJ_ite, eLift_V, eLift_X, eLift_ite, eLift_bnd, eLift_lo, gIx_0, gIx_1, gIx_2, gIx_3, gIxL_0, gIxL_1, gIxL_2, gIxL_3, hk_0, hk_1, hk_2, up3_hk, gAdd_i, gAddI_i, gSubI_i, gNeg_i, gLtI_i, gLeI_i, gGtI_i, gGeI_i, gLen_t, gLen_l, gEq_i, gEq_s, gNe_i, gNe_s, gIsN_n, gIsN_t, gNotN_n, gNotN_t, gTupleOf_l, gTupleOf_t, gListOf_l, gListOf_t, gMax2_i, gMin2_i, gSl_t, gSl_l, List.nil_append, List.cons_append, List.append_nil, Bool.not_eq_true', decide_eq_true_eq, decide_eq_false_iff_not, Bool.not_true, Bool.not_false, if_true, if_false, Bool.false_eq_true, reduceIte, List.length_cons, List.length_nil, gLen_tH, gSl_tH, eH_0, eH_1, eH_2, up3_eH, itsE_tS, itsE_tH, gNotN_tS, gIsN_tS, eEnum_u, itsL_tH, gRev_tH, gAdd_tH, rng1_n, rng2_n, appL_v, gIx_tS, gIx_tH, reduceCtorEq, stepE_f] at c
  have m1 : (max i j < (rs.length : Int)) = ¬ ((rs.length : Int) ≤ i ∨ (rs.length : Int) ≤ j) := by
    refine propext ⟨fun h => ?_, fun h => ?_⟩ <;> omega
  unfold F_lets_breach K_lets_breach verd
  by_cases h1 : i < 0 ∨ j < 0
  · have : (decide (i ≥ 0) && (decide (j ≥ 0) && true)) = false := by
      rw [Bool.and_true, ← Bool.not_eq_true, Bool.and_eq_true, decide_eq_true_eq, decide_eq_true_eq]
      omega
    rw [if_pos h1]
    simp (maxSteps := 3000000) (disch := first | omega | (simp only [List.length_cons, List.length_nil, List.length_map, List.length_append, List.length_replicate]; omega)) only [ist_t, len2, c, all2, this, need_f, aC_u, aN_u, eBin_u, eUn_u, tst_u, tstB_b, eNot_u, eAnd_u, eOr_u, tNotE_u, tAndE_u, tOrE_u, eIf_u, lenE_0, lenE_1, lenE_2, lenE_3, lenE_4, lenE_5, lenE_6, lenE_7, lenE_8, eTup_u, eLst_u, eFz_u, eCallB_u, eCallN_u, p0_u, pS_u, intE_i, eSl_u, eSlL_u, eIt_u, itsE_l, itsE_t, itsE_s, eRange1_u, eRange2_u, up1_t, up2_t, up3_t, up4_t, ls0_n, ls1_n, ls2_n, ls3_n, ls4_n, ls5_n, fnE_rt, fnE_nx, fnE_X, fnE_bnd, fnE_ite, gLen_tS, gAdd_tS, gSl_tS, eLC_u, stepE_t, extL_bnd, extL_l, eq_self, not_true_eq_false, not_false_eq_true, decide_true, decide_false, eAct_ok, eAct_ex, eLam_V, eLam_X, eLam_ite, oB_some, eRaise1, eTryAs_V, bnd_V, bnd_X, bnd_assoc, bnd_ite, lo_some, sJ_nx, sJ_rt, sJ_X, sJ_bnd, sJ_ite, eLift_V, eLift_X, eLift_ite, eLift_bnd, eLift_lo, gIx_0, gIx_1, gIx_2, gIx_3, gIxL_0, gIxL_1, gIxL_2, gIxL_3, hk_0, hk_1, hk_2, up3_hk, gAdd_i, gAddI_i, gSubI_i, gNeg_i, gLtI_i, gLeI_i, gGtI_i, gGeI_i, gLen_t, gLen_l, gEq_i, gEq_s, gNe_i, gNe_s, gIsN_n, gIsN_t, gNotN_n, gNotN_t, gTupleOf_l, gTupleOf_t, gListOf_l, gListOf_t, gMax2_i, gMin2_i, gSl_t, gSl_l, List.nil_append, List.cons_append, List.append_nil, Bool.not_eq_true', decide_eq_true_eq, decide_eq_false_iff_not, Bool.not_true, Bool.not_false, if_true, if_false, Bool.false_eq_true, reduceIte, List.length_cons, List.length_nil, gLen_tH, gSl_tH, eH_0, eH_1, eH_2, up3_eH, itsE_tS, itsE_tH, gNotN_tS, gIsN_tS, eEnum_u, itsL_tH, gRev_tH, gAdd_tH, rng1_n, rng2_n, appL_v, gIx_tS, gIx_tH, reduceCtorEq, stepE_f]
    rfl
  · have p1 : (decide (i ≥ 0) && (decide (j ≥ 0) && true)) = true := by
      rw [Bool.and_true, Bool.and_eq_true, decide_eq_true_eq, decide_eq_true_eq]
      omega
    rw [if_neg h1]
    by_cases h2 : (rs.length : Int) ≤ i ∨ (rs.length : Int) ≤ j
    · rw [if_pos h2]
      simp (maxSteps := 3000000) (disch := first | omega | (simp only [List.length_cons, List.length_nil, List.length_map, List.length_append, List.length_replicate]; omega)) only [ist_t, len2, c, all2, p1, need_t, need_f, max2, len_rT, m1, h2, not_true_eq_false, aC_u, aN_u, eBin_u, eUn_u, tst_u, tstB_b, eNot_u, eAnd_u, eOr_u, tNotE_u, tAndE_u, tOrE_u, eIf_u, lenE_0, lenE_1, lenE_2, lenE_3, lenE_4, lenE_5, lenE_6, lenE_7, lenE_8, eTup_u, eLst_u, eFz_u, eCallB_u, eCallN_u, p0_u, pS_u, intE_i, eSl_u, eSlL_u, eIt_u, itsE_l, itsE_t, itsE_s, eRange1_u, eRange2_u, up1_t, up2_t, up3_t, up4_t, ls0_n, ls1_n, ls2_n, ls3_n, ls4_n, ls5_n, fnE_rt, fnE_nx, fnE_X, fnE_bnd, fnE_ite, gLen_tS, gAdd_tS, gSl_tS, eLC_u, stepE_t, extL_bnd, extL_l, eq_self, not_true_eq_false, not_false_eq_true, decide_true, decide_false, eAct_ok, eAct_ex, eLam_V, eLam_X, eLam_ite, oB_some, eRaise1, eTryAs_V, bnd_V, bnd_X, bnd_assoc, bnd_ite, lo_some, sJ_nx, sJ_rt, sJ_X, sJ_bnd, sJ_ite, eLift_V, eLift_X, eLift_ite, eLift_bnd, eLift_lo, gIx_0, gIx_1, gIx_2, gIx_3, gIxL_0, gIxL_1, gIxL_2, gIxL_3, hk_0, hk_1, hk_2, up3_hk, gAdd_i, gAddI_i, gSubI_i, gNeg_i, gLtI_i, gLeI_i, gGtI_i, gGeI_i, gLen_t, gLen_l, gEq_i, gEq_s, gNe_i, gNe_s, gIsN_n, gIsN_t, gNotN_n, gNotN_t, gTupleOf_l, gTupleOf_t, gListOf_l, gListOf_t, gMax2_i, gMin2_i, gSl_t, gSl_l, List.nil_append, List.cons_append, List.append_nil, Bool.not_eq_true', decide_eq_true_eq, decide_eq_false_iff_not, Bool.not_true, Bool.not_false, if_true, if_false, Bool.false_eq_true, reduceIte, List.length_cons, List.length_nil, gLen_tH, gSl_tH, eH_0, eH_1, eH_2, up3_eH, itsE_tS, itsE_tH, gNotN_tS, gIsN_tS, eEnum_u, itsL_tH, gRev_tH, gAdd_tH, rng1_n, rng2_n, appL_v, gIx_tS, gIx_tH, reduceCtorEq, stepE_f]
      rfl
    · rw [if_neg h2]
      obtain ⟨a, rfl⟩ : ∃ a : Nat, i = (a : Int) := ⟨i.toNat, by omega⟩
      obtain ⟨b, rfl⟩ : ∃ b : Nat, j = (b : Int) := ⟨j.toNat, by omega⟩
      have ha : a < rs.length := by omega
      have hb : b < rs.length := by omega
      have g1 := gIx_rT ha
      have g2 := gIx_rT hb
      rw [Int.toNat_natCast, Int.toNat_natCast, List.getD_eq_getElem?_getD, List.getD_eq_getElem?_getD, List.getElem?_eq_getElem ha, List.getElem?_eq_getElem hb]
      simp only [Option.getD_some]
      revert g1 g2
      generalize rs[a] = x
      generalize rs[b] = y
      obtain ⟨k, p⟩ := x
      obtain ⟨l, q⟩ := y
      intro g1 g2
      unfold rp at g1 g2
      simp only [] at g1 g2
      have q1 : ((l : Int) ≥ (k : Int)) = (k ≤ l) := by
        refine propext ⟨fun h => ?_, fun h => ?_⟩ <;> omega
      simp (maxSteps := 3000000) (disch := first | omega | (simp only [List.length_cons, List.length_nil, List.length_map, List.length_append, List.length_replicate]; omega)) only [ist_t, len2, c, all2, p1, need_t, need_f, max2, len_rT, m1, h2, not_false_eq_true, g1, g2, aC_u, aN_u, eBin_u, eUn_u, tst_u, tstB_b, eNot_u, eAnd_u, eOr_u, tNotE_u, tAndE_u, tOrE_u, eIf_u, lenE_0, lenE_1, lenE_2, lenE_3, lenE_4, lenE_5, lenE_6, lenE_7, lenE_8, eTup_u, eLst_u, eFz_u, eCallB_u, eCallN_u, p0_u, pS_u, intE_i, eSl_u, eSlL_u, eIt_u, itsE_l, itsE_t, itsE_s, eRange1_u, eRange2_u, up1_t, up2_t, up3_t, up4_t, ls0_n, ls1_n, ls2_n, ls3_n, ls4_n, ls5_n, fnE_rt, fnE_nx, fnE_X, fnE_bnd, fnE_ite, gLen_tS, gAdd_tS, gSl_tS, eLC_u, stepE_t, extL_bnd, extL_l, eq_self, not_true_eq_false, not_false_eq_true, decide_true, decide_false, eAct_ok, eAct_ex, eLam_V, eLam_X, eLam_ite, oB_some, eRaise1, eTryAs_V, bnd_V, bnd_X, bnd_assoc, bnd_ite, lo_some, sJ_nx, sJ_rt, sJ_X, sJ_bnd, sJ_ite, eLift_V, eLift_X, eLift_ite, eLift_bnd, eLift_lo, gIx_0, gIx_1, gIx_2, gIx_3, gIxL_0, gIxL_1, gIxL_2, gIxL_3, hk_0, hk_1, hk_2, up3_hk, gAdd_i, gAddI_i, gSubI_i, gNeg_i, gLtI_i, gLeI_i, gGtI_i, gGeI_i, gLen_t, gLen_l, gEq_i, gEq_s, gNe_i, gNe_s, gIsN_n, gIsN_t, gNotN_n, gNotN_t, gTupleOf_l, gTupleOf_t, gListOf_l, gListOf_t, gMax2_i, gMin2_i, gSl_t, gSl_l, List.nil_append, List.cons_append, List.append_nil, Bool.not_eq_true', decide_eq_true_eq, decide_eq_false_iff_not, Bool.not_true, Bool.not_false, if_true, if_false, Bool.false_eq_true, reduceIte, List.length_cons, List.length_nil, gLen_tH, gSl_tH, eH_0, eH_1, eH_2, up3_eH, itsE_tS, itsE_tH, gNotN_tS, gIsN_tS, eEnum_u, itsL_tH, gRev_tH, gAdd_tH, rng1_n, rng2_n, appL_v, gIx_tS, gIx_tH, reduceCtorEq, stepE_f]
      by_cases h3 : k ≤ l
      · cases p <;> cases q <;> (simp (maxSteps := 3000000) (disch := first | omega | (simp only [List.length_cons, List.length_nil, List.length_map, List.length_append, List.length_replicate]; omega)) only [q1, h3, need_t, need_f, or_true, true_or, or_false, false_or, reduceCtorEq, aC_u, aN_u, eBin_u, eUn_u, tst_u, tstB_b, eNot_u, eAnd_u, eOr_u, tNotE_u, tAndE_u, tOrE_u, eIf_u, lenE_0, lenE_1, lenE_2, lenE_3, lenE_4, lenE_5, lenE_6, lenE_7, lenE_8, eTup_u, eLst_u, eFz_u, eCallB_u, eCallN_u, p0_u, pS_u, intE_i, eSl_u, eSlL_u, eIt_u, itsE_l, itsE_t, itsE_s, eRange1_u, eRange2_u, up1_t, up2_t, up3_t, up4_t, ls0_n, ls1_n, ls2_n, ls3_n, ls4_n, ls5_n, fnE_rt, fnE_nx, fnE_X, fnE_bnd, fnE_ite, gLen_tS, gAdd_tS, gSl_tS, eLC_u, stepE_t, extL_bnd, extL_l, eq_self, not_true_eq_false, not_false_eq_true, decide_true, decide_false, eAct_ok, eAct_ex, eLam_V, eLam_X, eLam_ite, oB_some, eRaise1, eTryAs_V, bnd_V, bnd_X, bnd_assoc, bnd_ite, lo_some, sJ_nx, sJ_rt, sJ_X, sJ_bnd, sJ_ite, eLift_V, eLift_X, eLift_ite, eLift_bnd, eLift_lo, gIx_0, gIx_1, gIx_2, gIx_3, gIxL_0, gIxL_1, gIxL_2, gIxL_3, hk_0, hk_1, hk_2, up3_hk, gAdd_i, gAddI_i, gSubI_i, gNeg_i, gLtI_i, gLeI_i, gGtI_i, gGeI_i, gLen_t, gLen_l, gEq_i, gEq_s, gNe_i, gNe_s, gIsN_n, gIsN_t, gNotN_n, gNotN_t, gTupleOf_l, gTupleOf_t, gListOf_l, gListOf_t, gMax2_i, gMin2_i, gSl_t, gSl_l, List.nil_append, List.cons_append, List.append_nil, Bool.not_eq_true', decide_eq_true_eq, decide_eq_false_iff_not, Bool.not_true, Bool.not_false, if_true, if_false, Bool.false_eq_true, reduceIte, List.length_cons, List.length_nil, gLen_tH, gSl_tH, eH_0, eH_1, eH_2, up3_eH, itsE_tS, itsE_tH, gNotN_tS, gIsN_tS, eEnum_u, itsL_tH, gRev_tH, gAdd_tH, rng1_n, rng2_n, appL_v, gIx_tS, gIx_tH, reduceCtorEq, stepE_f]; rfl)
      · cases p <;> cases q <;> (simp (maxSteps := 3000000) (disch := first | omega | (simp only [List.length_cons, List.length_nil, List.length_map, List.length_append, List.length_replicate]; omega)) only [q1, h3, need_t, need_f, or_true, true_or, or_false, false_or, reduceCtorEq, aC_u, aN_u, eBin_u, eUn_u, tst_u, tstB_b, eNot_u, eAnd_u, eOr_u, tNotE_u, tAndE_u, tOrE_u, eIf_u, lenE_0, lenE_1, lenE_2, lenE_3, lenE_4, lenE_5, lenE_6, lenE_7, lenE_8, eTup_u, eLst_u, eFz_u, eCallB_u, eCallN_u, p0_u, pS_u, intE_i, eSl_u, eSlL_u, eIt_u, itsE_l, itsE_t, itsE_s, eRange1_u, eRange2_u, up1_t, up2_t, up3_t, up4_t, ls0_n, ls1_n, ls2_n, ls3_n, ls4_n, ls5_n, fnE_rt, fnE_nx, fnE_X, fnE_bnd, fnE_ite, gLen_tS, gAdd_tS, gSl_tS, eLC_u, stepE_t, extL_bnd, extL_l, eq_self, not_true_eq_false, not_false_eq_true, decide_true, decide_false, eAct_ok, eAct_ex, eLam_V, eLam_X, eLam_ite, oB_some, eRaise1, eTryAs_V, bnd_V, bnd_X, bnd_assoc, bnd_ite, lo_some, sJ_nx, sJ_rt, sJ_X, sJ_bnd, sJ_ite, eLift_V, eLift_X, eLift_ite, eLift_bnd, eLift_lo, gIx_0, gIx_1, gIx_2, gIx_3, gIxL_0, gIxL_1, gIxL_2, gIxL_3, hk_0, hk_1, hk_2, up3_hk, gAdd_i, gAddI_i, gSubI_i, gNeg_i, gLtI_i, gLeI_i, gGtI_i, gGeI_i, gLen_t, gLen_l, gEq_i, gEq_s, gNe_i, gNe_s, gIsN_n, gIsN_t, gNotN_n, gNotN_t, gTupleOf_l, gTupleOf_t, gListOf_l, gListOf_t, gMax2_i, gMin2_i, gSl_t, gSl_l, List.nil_append, List.cons_append, List.append_nil, Bool.not_eq_true', decide_eq_true_eq, decide_eq_false_iff_not, Bool.not_true, Bool.not_false, if_true, if_false, Bool.false_eq_true, reduceIte, List.length_cons, List.length_nil, gLen_tH, gSl_tH, eH_0, eH_1, eH_2, up3_eH, itsE_tS, itsE_tH, gNotN_tS, gIsN_tS, eEnum_u, itsL_tH, gRev_tH, gAdd_tH, rng1_n, rng2_n, appL_v, gIx_tS, gIx_tH, reduceCtorEq, stepE_f]; rfl)
theorem rok_b (b : Bool) : ROk 5 0 (.bool b) := by cases b <;> exact ⟨rfl, by decide +kernel, Nat.le_refl _, rfl⟩
theorem rok_rT {rs : List (Nat × Bool)} (l : rs.length ≤ 100) (h : ∀ r ∈ rs, r.1 ≤ 1000) : ROk 400000 2 (rT rs) := by
  refine (rok_tup (n := 1921 * 2 + 7) (d := 1) (xs := rs.map rp) fun x hx => ?_).mono ?_ (Nat.le_refl _)
  · obtain ⟨r, hr, rfl⟩ := List.mem_map.mp hx
    exact rok_tup2 (rok_int (log_small (k := 10) (by have := h r hr; omega) (by decide))) ((rok_b r.2).mono (by decide) (Nat.le_refl _))
  · rw [List.length_map]
    have := Nat.mul_le_mul_left (1921 * 2 + 7 + 2) l
    omega
theorem rok_odd : ∀ x ∈ odd, ROk 100 5 x := by
  intro x hx
  simp only [odd, List.mem_cons, List.not_mem_nil, or_false] at hx
  rcases hx with rfl | rfl | rfl | rfl | rfl | rfl | rfl | rfl | rfl | rfl | rfl | rfl <;> exact ⟨by decide +kernel, by decide +kernel, by decide +kernel, by decide +kernel⟩
def VOk (o : Option Str) : Prop := o = none ∨ o = some "shape" ∨ o = some "places" ∨ o = some "good" ∨ o = some "less"
theorem rok_vP {w : Str} (h : txB 20 w = true) : ROk 10000 1 (vP w) := (rok_tup3 (n := 1921) (d := 0) ((rok_s (by decide +kernel)).mono (by decide) (Nat.le_refl _)) ((rok_s h).mono (by decide) (Nat.le_refl _)) (rok_int (log_small (k := 10) (by decide) (by decide)))).mono (by decide) (Nat.le_refl _)
theorem rok_vT : ROk 10000 1 vT := (rok_tup2 (n := 300) (d := 0) (rok_s (by decide +kernel)) ((rok_b true).mono (by decide) (Nat.le_refl _))).mono (by decide) (Nat.le_refl _)
theorem rp_v {o : Option Str} (h : VOk o) : gRepr [vO o] = some (.str (vO o).shown) := by
  rcases h with rfl | rfl | rfl | rfl | rfl
  · exact rok_vT.repr (by decide) (by decide)
  all_goals exact (rok_vP (by decide +kernel)).repr (by decide) (by decide)
theorem verd_ok (rs : List (Nat × Bool)) (i j : Int) : VOk (verd rs i j) := by
  unfold verd VOk
  repeat' split
  all_goals simp
def Th (x : PyData) : Prop := x ∈ odd ∨ ∃ i j : Int, x = .tuple [.int i, .int j] ∧ i.natAbs < 2 ^ 1000 ∧ j.natAbs < 2 ^ 1000
theorem rok_th {x : PyData} (h : Th x) : ROk 4000 5 x := by
  rcases h with h | ⟨i, j, rfl, hi, hj⟩
  · exact (rok_odd x h).mono (by decide) (Nat.le_refl _)
  · exact (rok_tup2 (rok_int (log_small hi (by decide))) (rok_int (log_small hj (by decide)))).mono (by decide) (by decide)
theorem th_spec (rs : List (Nat × Bool)) {x : PyData} (h : Th x) : ∃ o, VOk o ∧ F_L_judged (rT rs) x = eV (vO o) ∧ F_lets_breach (rT rs) x = brO o := by
  rcases h with h | ⟨i, j, rfl, hi, hj⟩
  · exact ⟨some "shape", .inr (.inl rfl), odd_j _ x h, odd_b _ x h⟩
  · exact ⟨verd rs i j, verd_ok rs i j, judged_spec hi hj, breach_spec rs i j⟩
theorem lam_br {S : Type} (o : Option Str) : (eLam F_L_said (eLift (brO o)) : EM S PyData) = eV (vO o) := by
  have e : (eLift (brO o) : EM Unit PyData) = brO o := by cases o <;> rfl
  rw [e]
  cases o with
  | none => exact (eLam_V F_L_said (.bool true)).trans (by rw [said_T]; rfl)
  | some w => exact (eLam_X F_L_said (noP w)).trans (by rw [said_no]; rfl)
theorem law_3 {rs : List (Nat × Bool)} (l : rs.length ≤ 100) (hr : ∀ r ∈ rs, r.1 ≤ 1000) {x : PyData} (h : Th x) : B_law_3 (rT rs) x () = eV (.nx ()) := by
  obtain ⟨o, ok, j, b⟩ := th_spec rs h
  have r1 := (rok_tup2s (rok_rT l hr) (rok_th h)).repr (by decide) (by decide)
  have r2 := rp_v ok
  unfold B_law_3
  have pk : pick [1, 0] ([x] ++ [rT rs]) = [rT rs, x] := rfl
  have pk2 : pick [1, 0] [x, rT rs] = [rT rs, x] := rfl
  simp (maxSteps := 3000000) (disch := first | omega | (simp only [List.length_cons, List.length_nil, List.length_map, List.length_append, List.length_replicate]; omega)) only [j, b, r1, r2, lam_br, pk2, aC_u, aN_u, eBin_u, eUn_u, tst_u, tstB_b, eNot_u, eAnd_u, eOr_u, tNotE_u, tAndE_u, tOrE_u, eIf_u, lenE_0, lenE_1, lenE_2, lenE_3, lenE_4, lenE_5, lenE_6, lenE_7, lenE_8, eTup_u, eLst_u, eFz_u, eCallB_u, eCallN_u, p0_u, pS_u, intE_i, eSl_u, eSlL_u, eIt_u, itsE_l, itsE_t, itsE_s, eRange1_u, eRange2_u, up1_t, up2_t, up3_t, up4_t, ls0_n, ls1_n, ls2_n, ls3_n, ls4_n, ls5_n, fnE_rt, fnE_nx, fnE_X, fnE_bnd, fnE_ite, gLen_tS, gAdd_tS, gSl_tS, eLC_u, stepE_t, extL_bnd, extL_l, eq_self, not_true_eq_false, not_false_eq_true, decide_true, decide_false, eAct_ok, eAct_ex, eLam_V, eLam_X, eLam_ite, oB_some, eRaise1, eTryAs_V, bnd_V, bnd_X, bnd_assoc, bnd_ite, lo_some, sJ_nx, sJ_rt, sJ_X, sJ_bnd, sJ_ite, eLift_V, eLift_X, eLift_ite, eLift_bnd, eLift_lo, gIx_0, gIx_1, gIx_2, gIx_3, gIxL_0, gIxL_1, gIxL_2, gIxL_3, hk_0, hk_1, hk_2, up3_hk, gAdd_i, gAddI_i, gSubI_i, gNeg_i, gLtI_i, gLeI_i, gGtI_i, gGeI_i, gLen_t, gLen_l, gEq_i, gEq_s, gNe_i, gNe_s, gIsN_n, gIsN_t, gNotN_n, gNotN_t, gTupleOf_l, gTupleOf_t, gListOf_l, gListOf_t, gMax2_i, gMin2_i, gSl_t, gSl_l, List.nil_append, List.cons_append, List.append_nil, Bool.not_eq_true', decide_eq_true_eq, decide_eq_false_iff_not, Bool.not_true, Bool.not_false, if_true, if_false, Bool.false_eq_true, reduceIte, List.length_cons, List.length_nil, gLen_tH, gSl_tH, eH_0, eH_1, eH_2, up3_eH, itsE_tS, itsE_tH, gNotN_tS, gIsN_tS, eEnum_u, itsL_tH, gRev_tH, gAdd_tH, rng1_n, rng2_n, appL_v, gIx_tS, gIx_tH, reduceCtorEq, stepE_f]
def okR (rs : List (Nat × Bool)) : Prop := rs.length ≤ 100 ∧ ∀ r ∈ rs, r.1 ≤ 1000
theorem law_1 {many fault : Nat} (hm : 2 ≤ many) (hm2 : many ≤ 100) (x : PyData) {rs : List (Nat × Bool)} (h : ∀ r ∈ rs, r.1 ≤ 1000) (l : rs.length ≤ 90) : RunT (B_law_1 (.int (many : Int)) (.int (fault : Int)) x (rs.map rp)) fun r => ∃ rs' : List (Nat × Bool), r = .nx (rs'.map rp) ∧ (∀ r ∈ rs', r.1 ≤ 1000) ∧ rs'.length = rs.length + 1 := by
  have au := fun a => appL_u (S := DV) (rs.map rp) a (by rw [List.length_map]; omega)
  unfold B_law_1
  simp (maxSteps := 3000000) (disch := first | omega | (simp only [List.length_cons, List.length_nil, List.length_map, List.length_append, List.length_replicate]; omega)) only [aC_u, aN_u, eBin_u, eUn_u, tst_u, tstB_b, eNot_u, eAnd_u, eOr_u, tNotE_u, tAndE_u, tOrE_u, eIf_u, lenE_0, lenE_1, lenE_2, lenE_3, lenE_4, lenE_5, lenE_6, lenE_7, lenE_8, eTup_u, eLst_u, eFz_u, eCallB_u, eCallN_u, p0_u, pS_u, intE_i, eSl_u, eSlL_u, eIt_u, itsE_l, itsE_t, itsE_s, eRange1_u, eRange2_u, up1_t, up2_t, up3_t, up4_t, ls0_n, ls1_n, ls2_n, ls3_n, ls4_n, ls5_n, fnE_rt, fnE_nx, fnE_X, fnE_bnd, fnE_ite, gLen_tS, gAdd_tS, gSl_tS, eLC_u, stepE_t, extL_bnd, extL_l, eq_self, not_true_eq_false, not_false_eq_true, decide_true, decide_false, eAct_ok, eAct_ex, eLam_V, eLam_X, eLam_ite, oB_some, eRaise1, eTryAs_V, bnd_V, bnd_X, bnd_assoc, bnd_ite, lo_some, sJ_nx, sJ_rt, sJ_X, sJ_bnd, sJ_ite, eLift_V, eLift_X, eLift_ite, eLift_bnd, eLift_lo, gIx_0, gIx_1, gIx_2, gIx_3, gIxL_0, gIxL_1, gIxL_2, gIxL_3, hk_0, hk_1, hk_2, up3_hk, gAdd_i, gAddI_i, gSubI_i, gNeg_i, gLtI_i, gLeI_i, gGtI_i, gGeI_i, gLen_t, gLen_l, gEq_i, gEq_s, gNe_i, gNe_s, gIsN_n, gIsN_t, gNotN_n, gNotN_t, gTupleOf_l, gTupleOf_t, gListOf_l, gListOf_t, gMax2_i, gMin2_i, gSl_t, gSl_l, List.nil_append, List.cons_append, List.append_nil, Bool.not_eq_true', decide_eq_true_eq, decide_eq_false_iff_not, Bool.not_true, Bool.not_false, if_true, if_false, Bool.false_eq_true, reduceIte, List.length_cons, List.length_nil, gLen_tH, gSl_tH, eH_0, eH_1, eH_2, up3_eH, itsE_tS, itsE_tH, gNotN_tS, gIsN_tS, eEnum_u, itsL_tH, gRev_tH, gAdd_tH, rng1_n, rng2_n, appL_v, gIx_tS, gIx_tH, reduceCtorEq, stepE_f]
  refine (run_drawN (by omega) (by omega)).bnd fun y_ ky => ?_
  obtain ⟨k, rfl, kl⟩ := ky
  simp (maxSteps := 3000000) (disch := first | omega | (simp only [List.length_cons, List.length_nil, List.length_map, List.length_append, List.length_replicate]; omega)) only [au, aC_u, aN_u, eBin_u, eUn_u, tst_u, tstB_b, eNot_u, eAnd_u, eOr_u, tNotE_u, tAndE_u, tOrE_u, eIf_u, lenE_0, lenE_1, lenE_2, lenE_3, lenE_4, lenE_5, lenE_6, lenE_7, lenE_8, eTup_u, eLst_u, eFz_u, eCallB_u, eCallN_u, p0_u, pS_u, intE_i, eSl_u, eSlL_u, eIt_u, itsE_l, itsE_t, itsE_s, eRange1_u, eRange2_u, up1_t, up2_t, up3_t, up4_t, ls0_n, ls1_n, ls2_n, ls3_n, ls4_n, ls5_n, fnE_rt, fnE_nx, fnE_X, fnE_bnd, fnE_ite, gLen_tS, gAdd_tS, gSl_tS, eLC_u, stepE_t, extL_bnd, extL_l, eq_self, not_true_eq_false, not_false_eq_true, decide_true, decide_false, eAct_ok, eAct_ex, eLam_V, eLam_X, eLam_ite, oB_some, eRaise1, eTryAs_V, bnd_V, bnd_X, bnd_assoc, bnd_ite, lo_some, sJ_nx, sJ_rt, sJ_X, sJ_bnd, sJ_ite, eLift_V, eLift_X, eLift_ite, eLift_bnd, eLift_lo, gIx_0, gIx_1, gIx_2, gIx_3, gIxL_0, gIxL_1, gIxL_2, gIxL_3, hk_0, hk_1, hk_2, up3_hk, gAdd_i, gAddI_i, gSubI_i, gNeg_i, gLtI_i, gLeI_i, gGtI_i, gGeI_i, gLen_t, gLen_l, gEq_i, gEq_s, gNe_i, gNe_s, gIsN_n, gIsN_t, gNotN_n, gNotN_t, gTupleOf_l, gTupleOf_t, gListOf_l, gListOf_t, gMax2_i, gMin2_i, gSl_t, gSl_l, List.nil_append, List.cons_append, List.append_nil, Bool.not_eq_true', decide_eq_true_eq, decide_eq_false_iff_not, Bool.not_true, Bool.not_false, if_true, if_false, Bool.false_eq_true, reduceIte, List.length_cons, List.length_nil, gLen_tH, gSl_tH, eH_0, eH_1, eH_2, up3_eH, itsE_tS, itsE_tH, gNotN_tS, gIsN_tS, eEnum_u, itsL_tH, gRev_tH, gAdd_tH, rng1_n, rng2_n, appL_v, gIx_tS, gIx_tH, reduceCtorEq, stepE_f]
  refine (run_drawN (by omega) (by omega)).bnd fun y_ qy => ?_
  obtain ⟨q, rfl, ql⟩ := qy
  have nb : ∀ p q : Bool, gNe (.bool p) (.bool q) = some (.bool (xor p q)) := by intro p q; cases p <;> cases q <;> kernel_rfl
  simp (maxSteps := 3000000) (disch := first | omega | (simp only [List.length_cons, List.length_nil, List.length_map, List.length_append, List.length_replicate]; omega)) only [List.length_map, nb, aC_u, aN_u, eBin_u, eUn_u, tst_u, tstB_b, eNot_u, eAnd_u, eOr_u, tNotE_u, tAndE_u, tOrE_u, eIf_u, lenE_0, lenE_1, lenE_2, lenE_3, lenE_4, lenE_5, lenE_6, lenE_7, lenE_8, eTup_u, eLst_u, eFz_u, eCallB_u, eCallN_u, p0_u, pS_u, intE_i, eSl_u, eSlL_u, eIt_u, itsE_l, itsE_t, itsE_s, eRange1_u, eRange2_u, up1_t, up2_t, up3_t, up4_t, ls0_n, ls1_n, ls2_n, ls3_n, ls4_n, ls5_n, fnE_rt, fnE_nx, fnE_X, fnE_bnd, fnE_ite, gLen_tS, gAdd_tS, gSl_tS, eLC_u, stepE_t, extL_bnd, extL_l, eq_self, not_true_eq_false, not_false_eq_true, decide_true, decide_false, eAct_ok, eAct_ex, eLam_V, eLam_X, eLam_ite, oB_some, eRaise1, eTryAs_V, bnd_V, bnd_X, bnd_assoc, bnd_ite, lo_some, sJ_nx, sJ_rt, sJ_X, sJ_bnd, sJ_ite, eLift_V, eLift_X, eLift_ite, eLift_bnd, eLift_lo, gIx_0, gIx_1, gIx_2, gIx_3, gIxL_0, gIxL_1, gIxL_2, gIxL_3, hk_0, hk_1, hk_2, up3_hk, gAdd_i, gAddI_i, gSubI_i, gNeg_i, gLtI_i, gLeI_i, gGtI_i, gGeI_i, gLen_t, gLen_l, gEq_i, gEq_s, gNe_i, gNe_s, gIsN_n, gIsN_t, gNotN_n, gNotN_t, gTupleOf_l, gTupleOf_t, gListOf_l, gListOf_t, gMax2_i, gMin2_i, gSl_t, gSl_l, List.nil_append, List.cons_append, List.append_nil, Bool.not_eq_true', decide_eq_true_eq, decide_eq_false_iff_not, Bool.not_true, Bool.not_false, if_true, if_false, Bool.false_eq_true, reduceIte, List.length_cons, List.length_nil, gLen_tH, gSl_tH, eH_0, eH_1, eH_2, up3_eH, itsE_tS, itsE_tH, gNotN_tS, gIsN_tS, eEnum_u, itsL_tH, gRev_tH, gAdd_tH, rng1_n, rng2_n, appL_v, gIx_tS, gIx_tH, reduceCtorEq, stepE_f]
  refine RunT.V ⟨rs ++ [(1 + k, xor (decide (1 + (k : Int) ≤ (fault : Int))) (decide ((q : Int) = 0)))], ?_, fun r hr => ?_, ?_⟩
  · rw [List.map_append]
    congr 2
  · rcases List.mem_append.mp hr with hr | hr
    · exact h r hr
    · rw [List.mem_singleton.mp hr]
      show 1 + k ≤ 1000
      omega
  · rw [List.length_append]
    rfl
theorem t0 (n : Nat) (hn : n < 1000) : rng1 [.int ((n : Int) + 1)] = some (rangeL 0 (n + 1)) := by
  have e : (n : Int) + 1 = ((n + 1 : Nat) : Int) := by omega
  rw [e]
  exact rng1_n (n + 1) (by omega)
theorem t1 {B : PyData} {n : Nat} (hn : n < 1000) (gl : gLen [B] = some (.int (n : Int))) : eRange1 (aC (eBin gAdd (eCallB gLen (aC (eV B) aN)) (eV (.int 1))) aN) = eV (S := DV) (rangeL 0 (n+1)) := by
  have q := t0 n hn
  have g : (aC (eBin gAdd (eCallB gLen (aC (eV B) aN)) (eV (.int 1))) aN) = (eV [.int ((n : Int) + 1)] : EM DV (List PyData)) := by
    simp only [eBin_u, eCallB_u, aC_u, aN_u, bnd_V, oB_some, lo_some, gl, gAdd_i]
  unfold eRange1
  rw [g, bnd_V, q, lo_some]
def pairs (i : Int) (n : Nat) : List PyData := (List.range n).map fun (j : Nat) => PyData.tuple [.int i, .int (0 + (j : Int))]
theorem law_2 {rs : List (Nat × Bool)} (l : rs.length ≤ 100) {i : Int} {ys : List PyData} (ly : ys.length ≤ 900000) : B_law_2 (rT rs) (.int i) ys = eV (.nx (ys ++ pairs i (rs.length + 1))) := by
  have q := t1 (B := rT rs) (n := rs.length) (by omega) (len_rT rs)
  revert q
  generalize hn : rs.length + 1 = n
  intro q
  have c : (eLc (fun j15 => stepE (eV true) (eTup (aC (eV (.int i)) (aC (eV j15) aN)))) (rangeL 0 n) [] : EM DV (List PyData)) = eV (pairs i n) := lc_range (fun j _ => by simp (maxSteps := 3000000) (disch := first | omega | (simp only [List.length_cons, List.length_nil, List.length_map, List.length_append, List.length_replicate]; omega)) only [aC_u, aN_u, eBin_u, eUn_u, tst_u, tstB_b, eNot_u, eAnd_u, eOr_u, tNotE_u, tAndE_u, tOrE_u, eIf_u, lenE_0, lenE_1, lenE_2, lenE_3, lenE_4, lenE_5, lenE_6, lenE_7, lenE_8, eTup_u, eLst_u, eFz_u, eCallB_u, eCallN_u, p0_u, pS_u, intE_i, eSl_u, eSlL_u, eIt_u, itsE_l, itsE_t, itsE_s, eRange1_u, eRange2_u, up1_t, up2_t, up3_t, up4_t, ls0_n, ls1_n, ls2_n, ls3_n, ls4_n, ls5_n, fnE_rt, fnE_nx, fnE_X, fnE_bnd, fnE_ite, gLen_tS, gAdd_tS, gSl_tS, eLC_u, stepE_t, extL_bnd, extL_l, eq_self, not_true_eq_false, not_false_eq_true, decide_true, decide_false, eAct_ok, eAct_ex, eLam_V, eLam_X, eLam_ite, oB_some, eRaise1, eTryAs_V, bnd_V, bnd_X, bnd_assoc, bnd_ite, lo_some, sJ_nx, sJ_rt, sJ_X, sJ_bnd, sJ_ite, eLift_V, eLift_X, eLift_ite, eLift_bnd, eLift_lo, gIx_0, gIx_1, gIx_2, gIx_3, gIxL_0, gIxL_1, gIxL_2, gIxL_3, hk_0, hk_1, hk_2, up3_hk, gAdd_i, gAddI_i, gSubI_i, gNeg_i, gLtI_i, gLeI_i, gGtI_i, gGeI_i, gLen_t, gLen_l, gEq_i, gEq_s, gNe_i, gNe_s, gIsN_n, gIsN_t, gNotN_n, gNotN_t, gTupleOf_l, gTupleOf_t, gListOf_l, gListOf_t, gMax2_i, gMin2_i, gSl_t, gSl_l, List.nil_append, List.cons_append, List.append_nil, Bool.not_eq_true', decide_eq_true_eq, decide_eq_false_iff_not, Bool.not_true, Bool.not_false, if_true, if_false, Bool.false_eq_true, reduceIte, List.length_cons, List.length_nil, gLen_tH, gSl_tH, eH_0, eH_1, eH_2, up3_eH, itsE_tS, itsE_tH, gNotN_tS, gIsN_tS, eEnum_u, itsL_tH, gRev_tH, gAdd_tH, rng1_n, rng2_n, appL_v, gIx_tS, gIx_tH, reduceCtorEq, stepE_f]) (by omega)
  simp (maxSteps := 3000000) (disch := first | omega | (simp only [List.length_cons, List.length_nil, List.length_map, List.length_append, List.length_replicate]; omega)) only [aC_u, aN_u, eBin_u, eUn_u, tst_u, tstB_b, eNot_u, eAnd_u, eOr_u, tNotE_u, tAndE_u, tOrE_u, eIf_u, lenE_0, lenE_1, lenE_2, lenE_3, lenE_4, lenE_5, lenE_6, lenE_7, lenE_8, eTup_u, eLst_u, eFz_u, eCallB_u, eCallN_u, p0_u, pS_u, intE_i, eSl_u, eSlL_u, eIt_u, itsE_l, itsE_t, itsE_s, eRange1_u, eRange2_u, up1_t, up2_t, up3_t, up4_t, ls0_n, ls1_n, ls2_n, ls3_n, ls4_n, ls5_n, fnE_rt, fnE_nx, fnE_X, fnE_bnd, fnE_ite, gLen_tS, gAdd_tS, gSl_tS, eLC_u, stepE_t, extL_bnd, extL_l, eq_self, not_true_eq_false, not_false_eq_true, decide_true, decide_false, eAct_ok, eAct_ex, eLam_V, eLam_X, eLam_ite, oB_some, eRaise1, eTryAs_V, bnd_V, bnd_X, bnd_assoc, bnd_ite, lo_some, sJ_nx, sJ_rt, sJ_X, sJ_bnd, sJ_ite, eLift_V, eLift_X, eLift_ite, eLift_bnd, eLift_lo, gIx_0, gIx_1, gIx_2, gIx_3, gIxL_0, gIxL_1, gIxL_2, gIxL_3, hk_0, hk_1, hk_2, up3_hk, gAdd_i, gAddI_i, gSubI_i, gNeg_i, gLtI_i, gLeI_i, gGtI_i, gGeI_i, gLen_t, gLen_l, gEq_i, gEq_s, gNe_i, gNe_s, gIsN_n, gIsN_t, gNotN_n, gNotN_t, gTupleOf_l, gTupleOf_t, gListOf_l, gListOf_t, gMax2_i, gMin2_i, gSl_t, gSl_l, List.nil_append, List.cons_append, List.append_nil, Bool.not_eq_true', decide_eq_true_eq, decide_eq_false_iff_not, Bool.not_true, Bool.not_false, if_true, if_false, Bool.false_eq_true, reduceIte, List.length_cons, List.length_nil, gLen_tH, gSl_tH, eH_0, eH_1, eH_2, up3_eH, itsE_tS, itsE_tH, gNotN_tS, gIsN_tS, eEnum_u, itsL_tH, gRev_tH, gAdd_tH, rng1_n, rng2_n, appL_v, gIx_tS, gIx_tH, reduceCtorEq, stepE_f] at c
  have lp : (pairs i n).length = n := by unfold pairs; rw [List.length_map, List.length_range]
  unfold B_law_2
  rw [q]
  simp (maxSteps := 3000000) (disch := first | omega | (simp only [List.length_cons, List.length_nil, List.length_map, List.length_append, List.length_replicate]; omega)) only [c, lp, aC_u, aN_u, eBin_u, eUn_u, tst_u, tstB_b, eNot_u, eAnd_u, eOr_u, tNotE_u, tAndE_u, tOrE_u, eIf_u, lenE_0, lenE_1, lenE_2, lenE_3, lenE_4, lenE_5, lenE_6, lenE_7, lenE_8, eTup_u, eLst_u, eFz_u, eCallB_u, eCallN_u, p0_u, pS_u, intE_i, eSl_u, eSlL_u, eIt_u, itsE_l, itsE_t, itsE_s, eRange1_u, eRange2_u, up1_t, up2_t, up3_t, up4_t, ls0_n, ls1_n, ls2_n, ls3_n, ls4_n, ls5_n, fnE_rt, fnE_nx, fnE_X, fnE_bnd, fnE_ite, gLen_tS, gAdd_tS, gSl_tS, eLC_u, stepE_t, extL_bnd, extL_l, eq_self, not_true_eq_false, not_false_eq_true, decide_true, decide_false, eAct_ok, eAct_ex, eLam_V, eLam_X, eLam_ite, oB_some, eRaise1, eTryAs_V, bnd_V, bnd_X, bnd_assoc, bnd_ite, lo_some, sJ_nx, sJ_rt, sJ_X, sJ_bnd, sJ_ite, eLift_V, eLift_X, eLift_ite, eLift_bnd, eLift_lo, gIx_0, gIx_1, gIx_2, gIx_3, gIxL_0, gIxL_1, gIxL_2, gIxL_3, hk_0, hk_1, hk_2, up3_hk, gAdd_i, gAddI_i, gSubI_i, gNeg_i, gLtI_i, gLeI_i, gGtI_i, gGeI_i, gLen_t, gLen_l, gEq_i, gEq_s, gNe_i, gNe_s, gIsN_n, gIsN_t, gNotN_n, gNotN_t, gTupleOf_l, gTupleOf_t, gListOf_l, gListOf_t, gMax2_i, gMin2_i, gSl_t, gSl_l, List.nil_append, List.cons_append, List.append_nil, Bool.not_eq_true', decide_eq_true_eq, decide_eq_false_iff_not, Bool.not_true, Bool.not_false, if_true, if_false, Bool.false_eq_true, reduceIte, List.length_cons, List.length_nil, gLen_tH, gSl_tH, eH_0, eH_1, eH_2, up3_eH, itsE_tS, itsE_tH, gNotN_tS, gIsN_tS, eEnum_u, itsL_tH, gRev_tH, gAdd_tH, rng1_n, rng2_n, appL_v, gIx_tS, gIx_tH, reduceCtorEq, stepE_f]
theorem pairs_th {i : Int} {n : Nat} (hi : i.natAbs < 2 ^ 1000) (hn : n ≤ 1000) : ∀ y ∈ pairs i n, Th y := fun y hy => by
  obtain ⟨j, hj, rfl⟩ := List.mem_map.mp hy
  have := List.mem_range.mp hj
  exact .inr ⟨i, _, rfl, hi, Nat.lt_of_lt_of_le (show ((0 : Int) + (j : Int)).natAbs < 2 ^ 10 by omega) (Nat.pow_le_pow_right (by decide) (by decide))⟩
theorem pw : gPowI (.int 10) (.int 30) = some (.int 1000000000000000000000000000000) := by kernel_rfl
def front : List PyData := [.none, .tuple [], .tuple [.int 0], .tuple [.int 0, .int 0, .int 0], .list [.int 0, .int 1], .tuple [.int 0, .bool true], .tuple [.bool true, .int 0], .tuple [.int 0, .str "1"], .str "01", .int 0]
theorem front_th : ∀ y ∈ front, Th y := fun y hy => .inl (by
  simp only [front, odd, List.mem_cons, List.not_mem_nil, or_false] at hy ⊢
  rcases hy with rfl | rfl | rfl | rfl | rfl | rfl | rfl | rfl | rfl | rfl <;> simp)
def back : List PyData := [.tuple [.int (-1), .int 0], .tuple [.int 0, .int (-1)], .tuple [.int 1000000000000000000000000000000, .int 0], .tuple [.int 0, .int 1000000000000000000000000000000], .tuple [.tuple [.int 0, .int 0], .tuple [.int 0, .int 0]], .tuple [.none, .int 0]]
theorem back_th : ∀ y ∈ back, Th y := fun y hy => by
  simp only [back, List.mem_cons, List.not_mem_nil, or_false] at hy
  rcases hy with rfl | rfl | rfl | rfl | rfl | rfl
  · exact .inr ⟨_, _, rfl, by decide +kernel, by decide +kernel⟩
  · exact .inr ⟨_, _, rfl, by decide +kernel, by decide +kernel⟩
  · exact .inr ⟨_, _, rfl, by decide +kernel, by decide +kernel⟩
  · exact .inr ⟨_, _, rfl, by decide +kernel, by decide +kernel⟩
  · exact .inl (by simp [odd])
  · exact .inl (by simp [odd])
def K4 (y10 : List PyData) : EM DV (Fl Unit Unit) := (bnd (eCallB gTupleOf (aC (eV (.list y10)) aN)) fun replies11 => bnd (eLst (aC (eV PyData.none) (aC (eTup aN) (aC (eTup (aC (eV (.int 0)) aN)) (aC (eTup (aC (eV (.int 0)) (aC (eV (.int 0)) (aC (eV (.int 0)) aN)))) (aC (eFz (eLst (aC (eV (.int 0)) (aC (eV (.int 1)) aN)))) (aC (eTup (aC (eV (.int 0)) (aC (eV (.bool true)) aN))) (aC (eTup (aC (eV (.bool true)) (aC (eV (.int 0)) aN))) (aC (eTup (aC (eV (.int 0)) (aC (eV (.str "1")) aN))) (aC (eV (.str "01")) (aC (eV (.int 0)) aN))))))))))) fun things12 => (sJ (bnd (eRange1 (aC (eBin gAdd (eCallB gLen (aC (eV replies11) aN)) (eV (.int 1))) aN)) fun xs => eFor (B_law_2 replies11) xs things12) fun y17 => (bnd (eBin gAdd (eV (.list y17)) (eFz (eLst (aC (eTup (aC (eUn gNeg (eV (.int 1))) (aC (eV (.int 0)) aN))) (aC (eTup (aC (eV (.int 0)) (aC (eUn gNeg (eV (.int 1))) aN))) (aC (eTup (aC (eBin gPowI (eV (.int 10)) (eV (.int 30))) (aC (eV (.int 0)) aN))) (aC (eTup (aC (eV (.int 0)) (aC (eBin gPowI (eV (.int 10)) (eV (.int 30))) aN))) (aC (eTup (aC (eTup (aC (eV (.int 0)) (aC (eV (.int 0)) aN))) (aC (eTup (aC (eV (.int 0)) (aC (eV (.int 0)) aN))) aN))) (aC (eTup (aC (eV PyData.none) (aC (eV (.int 0)) aN))) aN))))))))) fun things18 => (sJ (bnd (eIt (eV things18)) fun xs => eFor (B_law_3 replies11) xs ()) fun y26 => (eV (.nx ()))))))
theorem B4_u (x : PyData) : B_law_4 x () = (bnd (eBin gAdd (eV (.int 2)) (bnd (aC (eV .none) (aC (eV (.int 20)) aN)) fun xs => (ls2 fun a0 a1 => F_L_draw a1) (xs ++ []))) fun many3 => (bnd (bnd (aC (eV .none) (aC (eV many3) aN)) fun xs => (ls2 fun a0 a1 => F_L_draw a1) (xs ++ [])) fun fault4 => bnd (eLst aN) fun replies5 => (sJ (bnd (eRange1 (aC (bnd (aC (eV .none) (aC (eV (.int 8)) aN)) fun xs => (ls2 fun a0 a1 => F_L_draw a1) (xs ++ [])) aN)) fun xs => eFor (B_law_1 many3 fault4) xs replies5) K4))) := rfl
theorem tail4 {rs : List (Nat × Bool)} (hr : ∀ r ∈ rs, r.1 ≤ 1000) (hl : rs.length ≤ 8) : RunT (K4 (rs.map rp)) fun r => ∃ s', r = .nx s' ∧ True := by
  have tr : (eCallB gTupleOf (aC (eV (.list (rs.map rp))) aN) : EM DV PyData) = eV (rT rs) := rfl
  have q := t1 (B := rT rs) (n := rs.length) (by omega) (len_rT rs)
  unfold K4
  rw [tr, bnd_V, q]
  revert q
  generalize hn : rs.length + 1 = n
  intro _
  simp (maxSteps := 3000000) (disch := first | omega | (simp only [List.length_cons, List.length_nil, List.length_map, List.length_append, List.length_replicate]; omega)) only [aC_u, aN_u, eBin_u, eUn_u, tst_u, tstB_b, eNot_u, eAnd_u, eOr_u, tNotE_u, tAndE_u, tOrE_u, eIf_u, lenE_0, lenE_1, lenE_2, lenE_3, lenE_4, lenE_5, lenE_6, lenE_7, lenE_8, eTup_u, eLst_u, eFz_u, eCallB_u, eCallN_u, p0_u, pS_u, intE_i, eSl_u, eSlL_u, eIt_u, itsE_l, itsE_t, itsE_s, eRange1_u, eRange2_u, up1_t, up2_t, up3_t, up4_t, ls0_n, ls1_n, ls2_n, ls3_n, ls4_n, ls5_n, fnE_rt, fnE_nx, fnE_X, fnE_bnd, fnE_ite, gLen_tS, gAdd_tS, gSl_tS, eLC_u, stepE_t, extL_bnd, extL_l, eq_self, not_true_eq_false, not_false_eq_true, decide_true, decide_false, eAct_ok, eAct_ex, eLam_V, eLam_X, eLam_ite, oB_some, eRaise1, eTryAs_V, bnd_V, bnd_X, bnd_assoc, bnd_ite, lo_some, sJ_nx, sJ_rt, sJ_X, sJ_bnd, sJ_ite, eLift_V, eLift_X, eLift_ite, eLift_bnd, eLift_lo, gIx_0, gIx_1, gIx_2, gIx_3, gIxL_0, gIxL_1, gIxL_2, gIxL_3, hk_0, hk_1, hk_2, up3_hk, gAdd_i, gAddI_i, gSubI_i, gNeg_i, gLtI_i, gLeI_i, gGtI_i, gGeI_i, gLen_t, gLen_l, gEq_i, gEq_s, gNe_i, gNe_s, gIsN_n, gIsN_t, gNotN_n, gNotN_t, gTupleOf_l, gTupleOf_t, gListOf_l, gListOf_t, gMax2_i, gMin2_i, gSl_t, gSl_l, List.nil_append, List.cons_append, List.append_nil, Bool.not_eq_true', decide_eq_true_eq, decide_eq_false_iff_not, Bool.not_true, Bool.not_false, if_true, if_false, Bool.false_eq_true, reduceIte, List.length_cons, List.length_nil, gLen_tH, gSl_tH, eH_0, eH_1, eH_2, up3_eH, itsE_tS, itsE_tH, gNotN_tS, gIsN_tS, eEnum_u, itsL_tH, gRev_tH, gAdd_tH, rng1_n, rng2_n, appL_v, gIx_tS, gIx_tH, reduceCtorEq, stepE_f]
  refine RunT.sJ (I := fun ys => (∀ y ∈ ys, Th y) ∧ ys.length ≤ 1000) ?_ fun ys hy => ?_
  · refine (RunT.forR (I := fun i ys => (∀ y ∈ ys, Th y) ∧ ys.length ≤ 10 + 10 * i) (n := n) (fun i ys hi hI => ?_) ⟨front_th, Nat.le_refl _⟩).mono fun r hr => ?_
    · rw [law_2 (by omega) (by have := hI.2; omega), hn]
      have lp : (pairs (i : Int) n).length = n := by unfold pairs; rw [List.length_map, List.length_range]
      refine RunT.V ⟨_, rfl, fun y hy => ?_, by rw [List.length_append, lp]; have := hI.2; omega⟩
      rcases List.mem_append.mp hy with hy | hy
      · exact hI.1 y hy
      · exact pairs_th (Nat.lt_of_lt_of_le (show ((i : Int)).natAbs < 2 ^ 10 by omega) (Nat.pow_le_pow_right (by decide) (by decide))) (by omega) y hy
    · obtain ⟨s, rfl, h1, h2⟩ := hr
      exact ⟨s, rfl, h1, by omega⟩
  obtain ⟨h1, h2⟩ := hy
  have ad : gAdd (.list ys) (.list back) = some (.list (ys ++ back)) := gAdd_l (by show _ + 6 ≤ 1000000; omega)
  have all : ∀ y ∈ ys ++ back, Th y := fun y hy => (List.mem_append.mp hy).elim (h1 y) (back_th y)
  have f := fun l => for_none (l := l) (S := DV) (b := B_law_3 (rT rs)) (xs := ys ++ back) fun x hx => law_3 (by omega) hr (all x hx)
  unfold back at ad f
  simp (maxSteps := 3000000) (disch := first | omega | (simp only [List.length_cons, List.length_nil, List.length_map, List.length_append, List.length_replicate]; omega)) only [neg1, pw, ad, f, aC_u, aN_u, eBin_u, eUn_u, tst_u, tstB_b, eNot_u, eAnd_u, eOr_u, tNotE_u, tAndE_u, tOrE_u, eIf_u, lenE_0, lenE_1, lenE_2, lenE_3, lenE_4, lenE_5, lenE_6, lenE_7, lenE_8, eTup_u, eLst_u, eFz_u, eCallB_u, eCallN_u, p0_u, pS_u, intE_i, eSl_u, eSlL_u, eIt_u, itsE_l, itsE_t, itsE_s, eRange1_u, eRange2_u, up1_t, up2_t, up3_t, up4_t, ls0_n, ls1_n, ls2_n, ls3_n, ls4_n, ls5_n, fnE_rt, fnE_nx, fnE_X, fnE_bnd, fnE_ite, gLen_tS, gAdd_tS, gSl_tS, eLC_u, stepE_t, extL_bnd, extL_l, eq_self, not_true_eq_false, not_false_eq_true, decide_true, decide_false, eAct_ok, eAct_ex, eLam_V, eLam_X, eLam_ite, oB_some, eRaise1, eTryAs_V, bnd_V, bnd_X, bnd_assoc, bnd_ite, lo_some, sJ_nx, sJ_rt, sJ_X, sJ_bnd, sJ_ite, eLift_V, eLift_X, eLift_ite, eLift_bnd, eLift_lo, gIx_0, gIx_1, gIx_2, gIx_3, gIxL_0, gIxL_1, gIxL_2, gIxL_3, hk_0, hk_1, hk_2, up3_hk, gAdd_i, gAddI_i, gSubI_i, gNeg_i, gLtI_i, gLeI_i, gGtI_i, gGeI_i, gLen_t, gLen_l, gEq_i, gEq_s, gNe_i, gNe_s, gIsN_n, gIsN_t, gNotN_n, gNotN_t, gTupleOf_l, gTupleOf_t, gListOf_l, gListOf_t, gMax2_i, gMin2_i, gSl_t, gSl_l, List.nil_append, List.cons_append, List.append_nil, Bool.not_eq_true', decide_eq_true_eq, decide_eq_false_iff_not, Bool.not_true, Bool.not_false, if_true, if_false, Bool.false_eq_true, reduceIte, List.length_cons, List.length_nil, gLen_tH, gSl_tH, eH_0, eH_1, eH_2, up3_eH, itsE_tS, itsE_tH, gNotN_tS, gIsN_tS, eEnum_u, itsL_tH, gRev_tH, gAdd_tH, rng1_n, rng2_n, appL_v, gIx_tS, gIx_tH, reduceCtorEq, stepE_f]
  exact RunT.V ⟨_, rfl, True.intro⟩
theorem law_4 (x : PyData) : RunT (B_law_4 x ()) fun r => ∃ s', r = .nx s' ∧ True := by
  rw [B4_u]
  simp (maxSteps := 3000000) (disch := first | omega | (simp only [List.length_cons, List.length_nil, List.length_map, List.length_append, List.length_replicate]; omega)) only [aC_u, aN_u, eBin_u, eUn_u, tst_u, tstB_b, eNot_u, eAnd_u, eOr_u, tNotE_u, tAndE_u, tOrE_u, eIf_u, lenE_0, lenE_1, lenE_2, lenE_3, lenE_4, lenE_5, lenE_6, lenE_7, lenE_8, eTup_u, eLst_u, eFz_u, eCallB_u, eCallN_u, p0_u, pS_u, intE_i, eSl_u, eSlL_u, eIt_u, itsE_l, itsE_t, itsE_s, eRange1_u, eRange2_u, up1_t, up2_t, up3_t, up4_t, ls0_n, ls1_n, ls2_n, ls3_n, ls4_n, ls5_n, fnE_rt, fnE_nx, fnE_X, fnE_bnd, fnE_ite, gLen_tS, gAdd_tS, gSl_tS, eLC_u, stepE_t, extL_bnd, extL_l, eq_self, not_true_eq_false, not_false_eq_true, decide_true, decide_false, eAct_ok, eAct_ex, eLam_V, eLam_X, eLam_ite, oB_some, eRaise1, eTryAs_V, bnd_V, bnd_X, bnd_assoc, bnd_ite, lo_some, sJ_nx, sJ_rt, sJ_X, sJ_bnd, sJ_ite, eLift_V, eLift_X, eLift_ite, eLift_bnd, eLift_lo, gIx_0, gIx_1, gIx_2, gIx_3, gIxL_0, gIxL_1, gIxL_2, gIxL_3, hk_0, hk_1, hk_2, up3_hk, gAdd_i, gAddI_i, gSubI_i, gNeg_i, gLtI_i, gLeI_i, gGtI_i, gGeI_i, gLen_t, gLen_l, gEq_i, gEq_s, gNe_i, gNe_s, gIsN_n, gIsN_t, gNotN_n, gNotN_t, gTupleOf_l, gTupleOf_t, gListOf_l, gListOf_t, gMax2_i, gMin2_i, gSl_t, gSl_l, List.nil_append, List.cons_append, List.append_nil, Bool.not_eq_true', decide_eq_true_eq, decide_eq_false_iff_not, Bool.not_true, Bool.not_false, if_true, if_false, Bool.false_eq_true, reduceIte, List.length_cons, List.length_nil, gLen_tH, gSl_tH, eH_0, eH_1, eH_2, up3_eH, itsE_tS, itsE_tH, gNotN_tS, gIsN_tS, eEnum_u, itsL_tH, gRev_tH, gAdd_tH, rng1_n, rng2_n, appL_v, gIx_tS, gIx_tH, reduceCtorEq, stepE_f]
  refine (run_drawN (by omega) (by omega)).bnd fun y_ my => ?_
  obtain ⟨m, rfl, ml⟩ := my
  have e2 : (2 : Int) + (m : Int) = ((2 + m : Nat) : Int) := by simp
  simp (maxSteps := 3000000) (disch := first | omega | (simp only [List.length_cons, List.length_nil, List.length_map, List.length_append, List.length_replicate]; omega)) only [e2, aC_u, aN_u, eBin_u, eUn_u, tst_u, tstB_b, eNot_u, eAnd_u, eOr_u, tNotE_u, tAndE_u, tOrE_u, eIf_u, lenE_0, lenE_1, lenE_2, lenE_3, lenE_4, lenE_5, lenE_6, lenE_7, lenE_8, eTup_u, eLst_u, eFz_u, eCallB_u, eCallN_u, p0_u, pS_u, intE_i, eSl_u, eSlL_u, eIt_u, itsE_l, itsE_t, itsE_s, eRange1_u, eRange2_u, up1_t, up2_t, up3_t, up4_t, ls0_n, ls1_n, ls2_n, ls3_n, ls4_n, ls5_n, fnE_rt, fnE_nx, fnE_X, fnE_bnd, fnE_ite, gLen_tS, gAdd_tS, gSl_tS, eLC_u, stepE_t, extL_bnd, extL_l, eq_self, not_true_eq_false, not_false_eq_true, decide_true, decide_false, eAct_ok, eAct_ex, eLam_V, eLam_X, eLam_ite, oB_some, eRaise1, eTryAs_V, bnd_V, bnd_X, bnd_assoc, bnd_ite, lo_some, sJ_nx, sJ_rt, sJ_X, sJ_bnd, sJ_ite, eLift_V, eLift_X, eLift_ite, eLift_bnd, eLift_lo, gIx_0, gIx_1, gIx_2, gIx_3, gIxL_0, gIxL_1, gIxL_2, gIxL_3, hk_0, hk_1, hk_2, up3_hk, gAdd_i, gAddI_i, gSubI_i, gNeg_i, gLtI_i, gLeI_i, gGtI_i, gGeI_i, gLen_t, gLen_l, gEq_i, gEq_s, gNe_i, gNe_s, gIsN_n, gIsN_t, gNotN_n, gNotN_t, gTupleOf_l, gTupleOf_t, gListOf_l, gListOf_t, gMax2_i, gMin2_i, gSl_t, gSl_l, List.nil_append, List.cons_append, List.append_nil, Bool.not_eq_true', decide_eq_true_eq, decide_eq_false_iff_not, Bool.not_true, Bool.not_false, if_true, if_false, Bool.false_eq_true, reduceIte, List.length_cons, List.length_nil, gLen_tH, gSl_tH, eH_0, eH_1, eH_2, up3_eH, itsE_tS, itsE_tH, gNotN_tS, gIsN_tS, eEnum_u, itsL_tH, gRev_tH, gAdd_tH, rng1_n, rng2_n, appL_v, gIx_tS, gIx_tH, reduceCtorEq, stepE_f]
  refine (run_drawN (by omega) (by omega)).bnd fun y_ fy => ?_
  obtain ⟨f, rfl, fl⟩ := fy
  refine (run_drawN (by omega) (by omega)).bnd fun y_ ty => ?_
  obtain ⟨t, rfl, tl⟩ := ty
  simp (maxSteps := 3000000) (disch := first | omega | (simp only [List.length_cons, List.length_nil, List.length_map, List.length_append, List.length_replicate]; omega)) only [aC_u, aN_u, eBin_u, eUn_u, tst_u, tstB_b, eNot_u, eAnd_u, eOr_u, tNotE_u, tAndE_u, tOrE_u, eIf_u, lenE_0, lenE_1, lenE_2, lenE_3, lenE_4, lenE_5, lenE_6, lenE_7, lenE_8, eTup_u, eLst_u, eFz_u, eCallB_u, eCallN_u, p0_u, pS_u, intE_i, eSl_u, eSlL_u, eIt_u, itsE_l, itsE_t, itsE_s, eRange1_u, eRange2_u, up1_t, up2_t, up3_t, up4_t, ls0_n, ls1_n, ls2_n, ls3_n, ls4_n, ls5_n, fnE_rt, fnE_nx, fnE_X, fnE_bnd, fnE_ite, gLen_tS, gAdd_tS, gSl_tS, eLC_u, stepE_t, extL_bnd, extL_l, eq_self, not_true_eq_false, not_false_eq_true, decide_true, decide_false, eAct_ok, eAct_ex, eLam_V, eLam_X, eLam_ite, oB_some, eRaise1, eTryAs_V, bnd_V, bnd_X, bnd_assoc, bnd_ite, lo_some, sJ_nx, sJ_rt, sJ_X, sJ_bnd, sJ_ite, eLift_V, eLift_X, eLift_ite, eLift_bnd, eLift_lo, gIx_0, gIx_1, gIx_2, gIx_3, gIxL_0, gIxL_1, gIxL_2, gIxL_3, hk_0, hk_1, hk_2, up3_hk, gAdd_i, gAddI_i, gSubI_i, gNeg_i, gLtI_i, gLeI_i, gGtI_i, gGeI_i, gLen_t, gLen_l, gEq_i, gEq_s, gNe_i, gNe_s, gIsN_n, gIsN_t, gNotN_n, gNotN_t, gTupleOf_l, gTupleOf_t, gListOf_l, gListOf_t, gMax2_i, gMin2_i, gSl_t, gSl_l, List.nil_append, List.cons_append, List.append_nil, Bool.not_eq_true', decide_eq_true_eq, decide_eq_false_iff_not, Bool.not_true, Bool.not_false, if_true, if_false, Bool.false_eq_true, reduceIte, List.length_cons, List.length_nil, gLen_tH, gSl_tH, eH_0, eH_1, eH_2, up3_eH, itsE_tS, itsE_tH, gNotN_tS, gIsN_tS, eEnum_u, itsL_tH, gRev_tH, gAdd_tH, rng1_n, rng2_n, appL_v, gIx_tS, gIx_tH, reduceCtorEq, stepE_f]
  refine RunT.sJ (I := fun ys => ∃ rs : List (Nat × Bool), ys = rs.map rp ∧ (∀ r ∈ rs, r.1 ≤ 1000) ∧ rs.length ≤ 8) ?_ fun ys hy => ?_
  · refine (RunT.forN (I := fun i ys => ∃ rs : List (Nat × Bool), ys = rs.map rp ∧ (∀ r ∈ rs, r.1 ≤ 1000) ∧ rs.length ≤ i) (j := 0) (fun x hx i ys hi hI => ?_) ⟨[], rfl, (by intro _ h; cases h), Nat.le_refl _⟩).mono fun r hr => ?_
    · rw [rangeL_len'] at hi
      obtain ⟨rs, rfl, h1, h2⟩ := hI
      refine (law_1 (many := 2 + m) (fault := f) (by omega) (by omega) x h1 (by omega)).mono fun r hr => ?_
      obtain ⟨rs', rfl, h3, h4⟩ := hr
      exact ⟨_, rfl, rs', rfl, h3, by omega⟩
    · obtain ⟨s, rfl, rs, rfl, h1, h2⟩ := hr
      rw [rangeL_len'] at h2
      exact ⟨_, rfl, rs, rfl, h1, by omega⟩
  obtain ⟨rs, rfl, hr, hl⟩ := hy
  exact tail4 hr hl
theorem run_law : RunT K_law fun r => r = .rt (.bool true) := by
  unfold K_law
  simp (maxSteps := 3000000) (disch := first | omega | (simp only [List.length_cons, List.length_nil, List.length_map, List.length_append, List.length_replicate]; omega)) only [aC_u, aN_u, eBin_u, eUn_u, tst_u, tstB_b, eNot_u, eAnd_u, eOr_u, tNotE_u, tAndE_u, tOrE_u, eIf_u, lenE_0, lenE_1, lenE_2, lenE_3, lenE_4, lenE_5, lenE_6, lenE_7, lenE_8, eTup_u, eLst_u, eFz_u, eCallB_u, eCallN_u, p0_u, pS_u, intE_i, eSl_u, eSlL_u, eIt_u, itsE_l, itsE_t, itsE_s, eRange1_u, eRange2_u, up1_t, up2_t, up3_t, up4_t, ls0_n, ls1_n, ls2_n, ls3_n, ls4_n, ls5_n, fnE_rt, fnE_nx, fnE_X, fnE_bnd, fnE_ite, gLen_tS, gAdd_tS, gSl_tS, eLC_u, stepE_t, extL_bnd, extL_l, eq_self, not_true_eq_false, not_false_eq_true, decide_true, decide_false, eAct_ok, eAct_ex, eLam_V, eLam_X, eLam_ite, oB_some, eRaise1, eTryAs_V, bnd_V, bnd_X, bnd_assoc, bnd_ite, lo_some, sJ_nx, sJ_rt, sJ_X, sJ_bnd, sJ_ite, eLift_V, eLift_X, eLift_ite, eLift_bnd, eLift_lo, gIx_0, gIx_1, gIx_2, gIx_3, gIxL_0, gIxL_1, gIxL_2, gIxL_3, hk_0, hk_1, hk_2, up3_hk, gAdd_i, gAddI_i, gSubI_i, gNeg_i, gLtI_i, gLeI_i, gGtI_i, gGeI_i, gLen_t, gLen_l, gEq_i, gEq_s, gNe_i, gNe_s, gIsN_n, gIsN_t, gNotN_n, gNotN_t, gTupleOf_l, gTupleOf_t, gListOf_l, gListOf_t, gMax2_i, gMin2_i, gSl_t, gSl_l, List.nil_append, List.cons_append, List.append_nil, Bool.not_eq_true', decide_eq_true_eq, decide_eq_false_iff_not, Bool.not_true, Bool.not_false, if_true, if_false, Bool.false_eq_true, reduceIte, List.length_cons, List.length_nil, gLen_tH, gSl_tH, eH_0, eH_1, eH_2, up3_eH, itsE_tS, itsE_tH, gNotN_tS, gIsN_tS, eEnum_u, itsL_tH, gRev_tH, gAdd_tH, rng1_n, rng2_n, appL_v, gIx_tS, gIx_tH, reduceCtorEq, stepE_f]
  refine RunT.sJ (I := fun _ => True) (RunT.for' (fun x _ s _ => ?_) True.intro) fun s _ => RunT.V rfl
  cases s
  exact law_4 x
theorem law_true (ns : List Int) (_ : ns.length ≤ 63) : ∃ ps, f_law [.ro (ns.map .int)] = .ok (.d (.bool true)) ps := law_of ns run_law
end Md

namespace Md
open PySem
open PySem.Spec
open PyProof.Rows
open L2
open L2.Dl
def topS (i : Nat) : Stmt := PySem.Challenge.pw_mendlines_k69_breaches_judged.main.body.getD i (.Pass ⟨0, 0, 0, 0⟩)
abbrev s_NoPaper_init : Stmt := clsInit (topS 5)
theorem sc_NoPaper_init : FnScope ["self", "word", "at"] ["self", "word", "at"] (defScope s_NoPaper_init) := ⟨rfl, rfl, rfl, by decide +kernel, rfl, by decide +kernel, by decide +kernel⟩
abbrev s_L_feed : Stmt := topS 20
abbrev N_L_feed : List Str := ["_law_script"]
abbrev P_L_feed : List Str := ["_law_script"]
theorem sc_L_feed : FnScope N_L_feed P_L_feed (defScope s_L_feed) := ⟨rfl, rfl, rfl, by decide +kernel, rfl, by decide +kernel, by decide +kernel⟩
abbrev s_L_draw : Stmt := topS 21
abbrev N_L_draw : List Str := ["_law_feed_here", "_law_many", "_law_figure", "_law_at", "_law_cell", "_law_mixed"]
abbrev P_L_draw : List Str := ["_law_feed_here", "_law_many"]
theorem sc_L_draw : FnScope N_L_draw P_L_draw (defScope s_L_draw) := ⟨rfl, rfl, rfl, by decide +kernel, rfl, by decide +kernel, by decide +kernel⟩
abbrev s_L_judged : Stmt := topS 24
abbrev N_L_judged : List Str := ["_law_replies", "_law_stuff", "_law_one", "_law_k", "_law_first", "_law_far", "_law_second"]
abbrev P_L_judged : List Str := ["_law_replies", "_law_stuff"]
theorem sc_L_judged : FnScope N_L_judged P_L_judged (defScope s_L_judged) := ⟨rfl, rfl, rfl, by decide +kernel, rfl, by decide +kernel, by decide +kernel⟩
abbrev s_L_no : Stmt := topS 22
abbrev N_L_no : List Str := ["_law_e", "_law_sorts"]
abbrev P_L_no : List Str := ["_law_e"]
theorem sc_L_no : FnScope N_L_no P_L_no (defScope s_L_no) := ⟨rfl, rfl, rfl, by decide +kernel, rfl, by decide +kernel, by decide +kernel⟩
abbrev s_L_said : Stmt := topS 23
abbrev N_L_said : List Str := ["_law_ask", "_law_refused", "_law_e"]
abbrev P_L_said : List Str := ["_law_ask"]
theorem sc_L_said : FnScope N_L_said P_L_said (defScope s_L_said) := ⟨rfl, rfl, rfl, by decide +kernel, rfl, by decide +kernel, by decide +kernel⟩
abbrev s_is_number : Stmt := topS 15
abbrev N_is_number : List Str := ["thing"]
abbrev P_is_number : List Str := ["thing"]
theorem sc_is_number : FnScope N_is_number P_is_number (defScope s_is_number) := ⟨rfl, rfl, rfl, by decide +kernel, rfl, by decide +kernel, by decide +kernel⟩
abbrev s_need_breach : Stmt := topS 17
abbrev N_need_breach : List Str := ["truth", "word"]
abbrev P_need_breach : List Str := ["truth", "word"]
theorem sc_need_breach : FnScope N_need_breach P_need_breach (defScope s_need_breach) := ⟨rfl, rfl, rfl, by decide +kernel, rfl, by decide +kernel, by decide +kernel⟩
abbrev s_lets_breach : Stmt := topS 18
abbrev N_lets_breach : List Str := ["answers", "thing", "is_pair", "one", "k", "is_good", "later", "truth"]
abbrev P_lets_breach : List Str := ["answers", "thing"]
theorem sc_lets_breach : FnScope N_lets_breach P_lets_breach (defScope s_lets_breach) := ⟨rfl, rfl, rfl, by decide +kernel, rfl, by decide +kernel, by decide +kernel⟩
abbrev s_law : Stmt := topS 25
abbrev N_law : List Str := ["_law_script", "_law_feed_here", "_law_lap", "_law_many", "_law_fault", "_law_replies", "_law_turn", "_law_k", "_law_things", "_law_i", "_law_j", "_law_stuff", "_law_seen_now", "_law_due"]
abbrev P_law : List Str := ["_law_script"]
theorem sc_law : FnScope N_law P_law (defScope s_law) := ⟨rfl, rfl, rfl, by decide +kernel, rfl, by decide +kernel, by decide +kernel⟩
section
variable [KF] {P : Program} {w : World} {mg : Str → Option Value} {base : Heap}
theorem b_L_feed (z_list : mg "list" = none) (cdv : Value) (a : Addr) (A : Around) (outer : List Env) (s : Shared) (H : Hp) (E : XK) (c : Cf) (hr : GRoom 0 (A.deeper (envOfC "_law_feed" (defScope s_L_feed) s.heap.objs.size a cdv))) (hmg : c.mg = mg) :
    PSs (cxOf (CXm true P w) P w KF.frag mg base N_L_feed "_law_feed" (defScope s_L_feed) a cdv A outer s H E) (defBody s_L_feed) (SOf (fun cls d _ H => E cls d H) c m_L_feed) :=
  (dss_one (ds_retK (dk_disp (pr_str (fun _ => (de_fz (dl_callTy call_list_of lf_listOf rfl z_list rfl (da_cons (de_slRo (i := 0) rfl rfl (visD rfl) dp_none (dp_some de_int)) da_nil)))) (pr_str (fun _ => de_int) (pr_str (fun _ => de_int) (pr_str (fun _ => de_int) pr_nil)))) rfl rfl (by decide) (by decide))))
theorem c_L_feed (z_list : mg "list" = none) {a : Addr} {fd : FuncData} (F : Fun KF.frag "_law_feed" "_law_feed" s_L_feed a fd) (gm : mg "_law_feed" = some (.ref a)) : CD true P w mg base 1 "_law_feed" s_L_feed P_L_feed f_L_feed a fd :=
  cd_mk F sc_L_feed gm fun cdv A outer s H E c hr hmg => b_L_feed z_list cdv a A outer s H E c hr hmg
theorem b_L_draw (z_len : mg "len" = none) (cdv : Value) (a : Addr) (A : Around) (outer : List Env) (s : Shared) (H : Hp) (E : XK) (c : Cf) (hr : GRoom 0 (A.deeper (envOfC "_law_draw" (defScope s_L_draw) s.heap.objs.size a cdv))) (hmg : c.mg = mg) :
    PSs (cxOf (CXm true P w) P w KF.frag mg base N_L_draw "_law_draw" (defScope s_L_draw) a cdv A outer s H E) (defBody s_L_draw) (SOf (fun cls d _ H => E cls d H) c m_L_draw) :=
  (dss_cons (ds_dput (i := 0) hr.u1 rfl (visD rfl) de_str (de_bin op_addA lf_addA (de_dget (i := 0) hr.u1 rfl (visD rfl) de_str (fun _ _ => rfl)) de_int))
  (dss_cons (ds_if (dt_cmp op_gt lf_gt (de_dget (i := 0) hr.u1 rfl (visD rfl) de_str (fun _ _ => rfl)) de_int rfl) (dss_cons (ds_set (i := 2) sc_L_draw.nd rfl (locD rfl) (dr_e (de_bin op_mod lf_mod (de_dget (i := 0) hr.u1 rfl (visD rfl) de_str (fun _ _ => rfl)) (de_var (i := 1) rfl (visD rfl)))))
  (dss_cons (ds_dput (i := 0) hr.u1 rfl (visD rfl) de_str (de_bin op_fdiv lf_div (de_dget (i := 0) hr.u1 rfl (visD rfl) de_str (fun _ _ => rfl)) (de_var (i := 1) rfl (visD rfl))))
  (dss_one (ds_ret (de_var (i := 2) rfl (visD rfl)))))) dss_nil)
  (dss_cons (ds_set (i := 3) sc_L_draw.nd rfl (locD rfl) (dr_e (de_dget (i := 0) hr.u1 rfl (visD rfl) de_str (fun _ _ => rfl))))
  (dss_cons (ds_dput (i := 0) hr.u1 rfl (visD rfl) de_str (de_bin op_addA lf_addA (de_var (i := 3) rfl (visD rfl)) de_int))
  (dss_cons (ds_set (i := 4) sc_L_draw.nd rfl (locD rfl) (dr_e (de_ifE2 (dt_cmp (op_neA hr.u64) lf_ne (de_dget (i := 0) hr.u1 rfl (visD rfl) de_str (fun _ _ => rfl)) (de_fz (dl_lst da_nil)) rfl) (de_ix rfl (de_dget (i := 0) hr.u1 rfl (visD rfl) de_str (fun _ _ => rfl)) (de_bin op_mod lf_mod (de_var (i := 3) rfl (visD rfl)) (de_callB cr_lenA lf_len rfl z_len rfl (da_cons (de_dget (i := 0) hr.u1 rfl (visD rfl) de_str (fun _ _ => rfl)) da_nil))) (fun _ _ => rfl)) de_int)))
  (dss_cons (ds_if (PW.pt (dw_and (dt_cmp op_ge lf_ge (de_var (i := 4) rfl (visD rfl)) (de_bin op_pow lf_pow de_int de_int) rfl) (dw_and1 (dt_cmp op_lt lf_lt (de_var (i := 3) rfl (visD rfl)) (de_callB cr_lenA lf_len rfl z_len rfl (da_cons (de_dget (i := 0) hr.u1 rfl (visD rfl) de_str (fun _ _ => rfl)) da_nil)) rfl)))) (dss_cons (ds_dput (i := 0) hr.u1 rfl (visD rfl) de_str (de_bin op_fdiv lf_div (de_var (i := 4) rfl (visD rfl)) (de_var (i := 1) rfl (visD rfl))))
  (dss_one (ds_ret (de_bin op_mod lf_mod (de_var (i := 4) rfl (visD rfl)) (de_var (i := 1) rfl (visD rfl)))))) dss_nil)
  (dss_cons (ds_set (i := 5) sc_L_draw.nd rfl (locD rfl) (dr_e (de_bin op_mod lf_mod (de_bin op_addA lf_addA (de_bin op_addA lf_addA (de_bin op_mod lf_mod (de_var (i := 4) rfl (visD rfl)) de_int) (de_bin op_mulA lf_mulA de_int (de_dget (i := 0) hr.u1 rfl (visD rfl) de_str (fun _ _ => rfl)))) de_int) de_int)))
  (dss_cons (ds_set (i := 5) sc_L_draw.nd rfl (locD rfl) (dr_e (de_bin op_mod lf_mod (de_bin op_addA lf_addA (de_bin op_addA lf_addA (de_bin op_mulA lf_mulA (de_var (i := 5) rfl (visD rfl)) (de_var (i := 5) rfl (visD rfl))) (de_bin op_mulA lf_mulA de_int (de_dget (i := 0) hr.u1 rfl (visD rfl) de_str (fun _ _ => rfl)))) de_int) de_int)))
  (dss_one (ds_ret (de_bin op_mod lf_mod (de_bin op_fdiv lf_div (de_bin op_mod lf_mod (de_bin op_addA lf_addA (de_bin op_mulA lf_mulA (de_var (i := 5) rfl (visD rfl)) (de_var (i := 5) rfl (visD rfl))) (de_bin op_mulA lf_mulA de_int (de_var (i := 5) rfl (visD rfl)))) de_int) de_int) (de_var (i := 1) rfl (visD rfl)))))))))))))
theorem c_L_draw (z_len : mg "len" = none) {a : Addr} {fd : FuncData} (F : Fun KF.frag "_law_draw" "_law_draw" s_L_draw a fd) (gm : mg "_law_draw" = some (.ref a)) : CD true P w mg base 1 "_law_draw" s_L_draw P_L_draw f_L_draw a fd :=
  cd_mk F sc_L_draw gm fun cdv A outer s H E c hr hmg => b_L_draw z_len cdv a A outer s H E c hr hmg
theorem b_L_judged (z_len : mg "len" = none) (z_isinstance : mg "isinstance" = none) (z_tuple : mg "tuple" = none) (z_bool : mg "bool" = none) (z_int : mg "int" = none) (cdv : Value) (a : Addr) (A : Around) (outer : List Env) (s : Shared) (H : Hp) (E : XK) (c : Cf) (hr : GRoom 0 (A.deeper (envOfC "_law_judged" (defScope s_L_judged) s.heap.objs.size a cdv))) (hmg : c.mg = mg) :
    PSs (cxOf (CXm true P w) P w KF.frag mg base N_L_judged "_law_judged" (defScope s_L_judged) a cdv A outer s H E) (defBody s_L_judged) (SOf (fun cls d _ H => E cls d H) c m_L_judged) :=
  (dss_cons (ds_if (PW.pt (dw_or (dt_not (dt_val (de_isi (T := "tuple") rfl (de_var (i := 1) rfl (visD rfl)) rfl z_isinstance rfl z_tuple rfl))) (dw_or1 (dt_cmp (op_neA hr.u64) lf_ne (de_callB cr_lenA lf_len rfl z_len rfl (da_cons (de_var (i := 1) rfl (visD rfl)) da_nil)) de_int rfl)))) (dss_one (ds_ret (de_tup (da_cons de_str (da_cons de_str (da_cons (de_un un_neg lf_neg de_int) da_nil)))))) dss_nil)
  (dss_cons (ds_if (dt_cmp (op_neA hr.u64) lf_ne (de_fz (dl_lc (own := [("_law_one", 2)]) rfl sc_L_judged.nd (di_seq rfl (de_var (i := 1) rfl (visD rfl))) (blkOk_by (by show blkC N_L_judged (defScope s_L_judged) _ _ = true; decide +kernel)) (by decide) (fun _ _ _ _ _ _ => (dg_nm (i := 2) sc_L_judged.nd rfl (locD rfl))) (fun _ _ _ _ _ _ => (dts_one (PW.pt (dw_or (dt_not (dt_val (de_isi (T := "int") rfl (de_var (i := 2) rfl (visD rfl)) rfl z_isinstance rfl z_int rfl))) (dw_or (dt_val (de_isi (T := "bool") rfl (de_var (i := 2) rfl (visD rfl)) rfl z_isinstance rfl z_bool rfl)) (dw_or1 (dt_cmp op_lt lf_lt (de_var (i := 2) rfl (visD rfl)) de_int rfl))))))) (fun _ _ _ _ _ _ => (de_var (i := 2) rfl (visD rfl))))) (de_fz (dl_lst da_nil)) rfl) (dss_one (ds_ret (de_tup (da_cons de_str (da_cons de_str (da_cons (de_un un_neg lf_neg de_int) da_nil)))))) dss_nil)
  (dss_cons (ds_if (dt_cmp (op_neA hr.u64) lf_ne (de_fz (dl_lc (own := [("_law_one", 2)]) rfl sc_L_judged.nd (di_seq rfl (de_var (i := 1) rfl (visD rfl))) (blkOk_by (by show blkC N_L_judged (defScope s_L_judged) _ _ = true; decide +kernel)) (by decide) (fun _ _ _ _ _ _ => (dg_nm (i := 2) sc_L_judged.nd rfl (locD rfl))) (fun _ _ _ _ _ _ => (dts_one (dt_cmp op_ge lf_ge (de_var (i := 2) rfl (visD rfl)) (de_callB cr_lenA lf_len rfl z_len rfl (da_cons (de_var (i := 0) rfl (visD rfl)) da_nil)) rfl))) (fun _ _ _ _ _ _ => (de_var (i := 2) rfl (visD rfl))))) (de_fz (dl_lst da_nil)) rfl) (dss_one (ds_ret (de_tup (da_cons de_str (da_cons de_str (da_cons (de_un un_neg lf_neg de_int) da_nil)))))) dss_nil)
  (dss_cons (ds_asg (de_tup (da_cons (de_ix rfl (de_var (i := 0) rfl (visD rfl)) (de_ix rfl (de_var (i := 1) rfl (visD rfl)) de_int (fun _ _ => rfl)) (fun _ _ => rfl)) (da_cons (de_ix rfl (de_var (i := 0) rfl (visD rfl)) (de_ix rfl (de_var (i := 1) rfl (visD rfl)) de_int (fun _ _ => rfl)) (fun _ _ => rfl)) da_nil))) (dg_tp rfl rfl (dgs_cons (dg_tp rfl rfl (dgs_cons (dg_nm (i := 3) sc_L_judged.nd rfl (locD rfl)) (dgs_cons (dg_nm (i := 4) sc_L_judged.nd rfl (locD rfl)) dgs_nil))) (dgs_cons (dg_tp rfl rfl (dgs_cons (dg_nm (i := 5) sc_L_judged.nd rfl (locD rfl)) (dgs_cons (dg_nm (i := 6) sc_L_judged.nd rfl (locD rfl)) dgs_nil))) dgs_nil))))
  (dss_cons (ds_if (PW.pt (dw_or (dt_val (de_var (i := 4) rfl (visD rfl))) (dw_or1 (dt_not (dt_val (de_var (i := 6) rfl (visD rfl))))))) (dss_one (ds_ret (de_tup (da_cons de_str (da_cons de_str (da_cons (de_un un_neg lf_neg de_int) da_nil)))))) dss_nil)
  (dss_one (ds_ret (de_ifE2 (dt_cmp op_ge lf_ge (de_var (i := 5) rfl (visD rfl)) (de_var (i := 3) rfl (visD rfl)) rfl) (de_tup (da_cons de_str (da_cons de_bl da_nil))) (de_tup (da_cons de_str (da_cons de_str (da_cons (de_un un_neg lf_neg de_int) da_nil))))))))))))
theorem c_L_judged (z_len : mg "len" = none) (z_isinstance : mg "isinstance" = none) (z_tuple : mg "tuple" = none) (z_bool : mg "bool" = none) (z_int : mg "int" = none) {a : Addr} {fd : FuncData} (F : Fun KF.frag "_law_judged" "_law_judged" s_L_judged a fd) (gm : mg "_law_judged" = some (.ref a)) : CD true P w mg base 1 "_law_judged" s_L_judged P_L_judged f_L_judged a fd :=
  cd_mk F sc_L_judged gm fun cdv A outer s H E c hr hmg => b_L_judged z_len z_isinstance z_tuple z_bool z_int cdv a A outer s H E c hr hmg
theorem b_L_no {J_NoPaper : Addr} (i_NoPaper : mg "NoPaper" = some (.ref J_NoPaper) ∧ IsTm KF.frag mg (.ref J_NoPaper) ci_NoPaper) {J_NoName : Addr} (i_NoName : mg "NoName" = some (.ref J_NoName) ∧ IsTm KF.frag mg (.ref J_NoName) ci_NoName) {J_NoStep : Addr} (i_NoStep : mg "NoStep" = some (.ref J_NoStep) ∧ IsTm KF.frag mg (.ref J_NoStep) ci_NoStep) {J_NoBack : Addr} (i_NoBack : mg "NoBack" = some (.ref J_NoBack) ∧ IsTm KF.frag mg (.ref J_NoBack) ci_NoBack) {J_NoPlace : Addr} (i_NoPlace : mg "NoPlace" = some (.ref J_NoPlace) ∧ IsTm KF.frag mg (.ref J_NoPlace) ci_NoPlace) {J_NoDoing : Addr} (i_NoDoing : mg "NoDoing" = some (.ref J_NoDoing) ∧ IsTm KF.frag mg (.ref J_NoDoing) ci_NoDoing) {J_NoMeeting : Addr} (i_NoMeeting : mg "NoMeeting" = some (.ref J_NoMeeting) ∧ IsTm KF.frag mg (.ref J_NoMeeting) ci_NoMeeting) {J_NoText : Addr} (i_NoText : mg "NoText" = some (.ref J_NoText) ∧ IsTm KF.frag mg (.ref J_NoText) ci_NoText) {J_NoLine : Addr} (i_NoLine : mg "NoLine" = some (.ref J_NoLine) ∧ IsTm KF.frag mg (.ref J_NoLine) ci_NoLine) {J_MendError : Addr} (i_MendError : mg "MendError" = some (.ref J_MendError) ∧ IsTm KF.frag mg (.ref J_MendError) ci_MendError) {J_WorkError : Addr} (i_WorkError : mg "WorkError" = some (.ref J_WorkError) ∧ IsTm KF.frag mg (.ref J_WorkError) ci_WorkError) {J_PaperError : Addr} (i_PaperError : mg "PaperError" = some (.ref J_PaperError) ∧ IsTm KF.frag mg (.ref J_PaperError) ci_PaperError) (q_word : FdTm KF.frag mg "word" fn_word) (q_at : FdTm KF.frag mg "at" fn_at) (q_name : FdTm KF.frag mg "name" fn_name) (z_isinstance : mg "isinstance" = none) (x : Ex) (ae : Addr) (cdv : Value) (a : Addr) (A : Around) (outer : List Env) (s : Shared) (H : Hp) (E : XK) (c : Cf) (oe : Obj) (hr : GRoom 0 (A.deeper (envOfC "_law_no" (defScope s_L_no) s.heap.objs.size a cdv))) (hmg : c.mg = mg) (ex_ : ExI (cxOf (CXm true P w) P w KF.frag mg base N_L_no "_law_no" (defScope s_L_no) a cdv A outer s H E) c ae oe x) (hot_ : L2H.HotC ((cxOf (CXm true P w) P w KF.frag mg base N_L_no "_law_no" (defScope s_L_no) a cdv A outer s H E).suite ae ((ae, oe) :: []))) :
    PSs ((cxOf (CXm true P w) P w KF.frag mg base N_L_no "_law_no" (defScope s_L_no) a cdv A outer s H E).suite ae ((ae, oe) :: [])) (defBody s_L_no) (SOf (fun _ _ _ _ => False) c (m_L_no x)) :=
  (dss_cons (ds_set (i := 1) sc_L_no.nd rfl (locD rfl) (dr_e (de_fz (dl_lst (da_cons (de_exIs (i := 0) (v := .ref _) ex_ rfl (visD rfl) i_NoPaper.2 (pe_glob rfl i_NoPaper.1 rfl) (fun _ h => h) rfl z_isinstance) (da_cons (de_exIs (i := 0) (v := .ref _) ex_ rfl (visD rfl) i_NoName.2 (pe_glob rfl i_NoName.1 rfl) (fun _ h => h) rfl z_isinstance) (da_cons (de_exIs (i := 0) (v := .ref _) ex_ rfl (visD rfl) i_NoStep.2 (pe_glob rfl i_NoStep.1 rfl) (fun _ h => h) rfl z_isinstance) (da_cons (de_exIs (i := 0) (v := .ref _) ex_ rfl (visD rfl) i_NoBack.2 (pe_glob rfl i_NoBack.1 rfl) (fun _ h => h) rfl z_isinstance) da_nil))))))))
  (dss_cons (ds_set (i := 1) sc_L_no.nd rfl (locD rfl) (dr_e (de_bin op_addA lf_addA (de_var (i := 1) rfl (visD rfl)) (de_fz (dl_lst (da_cons (de_exIs (i := 0) (v := .ref _) ex_ rfl (visD rfl) i_NoPlace.2 (pe_glob rfl i_NoPlace.1 rfl) (fun _ h => h) rfl z_isinstance) (da_cons (de_exIs (i := 0) (v := .ref _) ex_ rfl (visD rfl) i_NoDoing.2 (pe_glob rfl i_NoDoing.1 rfl) (fun _ h => h) rfl z_isinstance) (da_cons (de_exIs (i := 0) (v := .ref _) ex_ rfl (visD rfl) i_NoMeeting.2 (pe_glob rfl i_NoMeeting.1 rfl) (fun _ h => h) rfl z_isinstance) (da_cons (de_exIs (i := 0) (v := .ref _) ex_ rfl (visD rfl) i_NoText.2 (pe_glob rfl i_NoText.1 rfl) (fun _ h => h) rfl z_isinstance) da_nil)))))))))
  (dss_cons (ds_if (PW.pt (dw_or (dt_cmp (op_neA hr.u64) lf_ne (de_bm (id := "list.count") rfl PySem.F.slot_list_count rfl (mt_cntD hr.u65) (fun D H x y a b z Q s rx ry e q => lf_count s rx ry e q) (de_var (i := 1) rfl (visD rfl)) de_bl) de_int rfl) (dw_or (dt_cmp (op_inA hr.u65) lf_in de_bl (de_sl rfl (de_var (i := 1) rfl (visD rfl)) (dp_some de_int) dp_none) rfl) (dw_or1 (dt_val (de_exIs (i := 0) (v := .ref _) ex_ rfl (visD rfl) i_NoLine.2 (pe_glob rfl i_NoLine.1 rfl) (fun _ h => h) rfl z_isinstance)))))) (dss_one (ds_ret (de_tup (da_cons de_str da_nil)))) dss_nil)
  (dss_cons (ds_if (PW.pt (dw_or (dt_cmp (op_neA hr.u64) lf_ne (de_exIs (i := 0) (v := .ref _) ex_ rfl (visD rfl) i_PaperError.2 (pe_glob rfl i_PaperError.1 rfl) (fun _ h => h) rfl z_isinstance) (de_ix rfl (de_var (i := 1) rfl (visD rfl)) de_int (fun _ _ => rfl)) rfl) (dw_or (dt_cmp (op_neA hr.u64) lf_ne (de_exIs (i := 0) (v := .ref _) ex_ rfl (visD rfl) i_WorkError.2 (pe_glob rfl i_WorkError.1 rfl) (fun _ h => h) rfl z_isinstance) (de_ix rfl (de_var (i := 1) rfl (visD rfl)) de_int (fun _ _ => rfl)) rfl) (dw_or1 (dt_not (dt_val (de_exIs (i := 0) (v := .ref _) ex_ rfl (visD rfl) i_MendError.2 (pe_glob rfl i_MendError.1 rfl) (fun _ h => h) rfl z_isinstance))))))) (dss_one (ds_ret (de_tup (da_cons de_str da_nil)))) dss_nil)
  (dss_one (ds_ret (de_ifE2 (dt_val (de_ix rfl (de_var (i := 1) rfl (visD rfl)) de_int (fun _ _ => rfl))) (de_tup (da_cons de_str (da_cons (de_exF (i := 0) ex_ rfl (visD rfl) q_word) (da_cons (de_exF (i := 0) ex_ rfl (visD rfl) q_at) da_nil)))) (de_tup (da_cons de_str (da_cons (de_exF (i := 0) ex_ rfl (visD rfl) q_name) da_nil))))))))))
theorem c_L_no {J_NoPaper : Addr} (i_NoPaper : mg "NoPaper" = some (.ref J_NoPaper) ∧ IsTm KF.frag mg (.ref J_NoPaper) ci_NoPaper) {J_NoName : Addr} (i_NoName : mg "NoName" = some (.ref J_NoName) ∧ IsTm KF.frag mg (.ref J_NoName) ci_NoName) {J_NoStep : Addr} (i_NoStep : mg "NoStep" = some (.ref J_NoStep) ∧ IsTm KF.frag mg (.ref J_NoStep) ci_NoStep) {J_NoBack : Addr} (i_NoBack : mg "NoBack" = some (.ref J_NoBack) ∧ IsTm KF.frag mg (.ref J_NoBack) ci_NoBack) {J_NoPlace : Addr} (i_NoPlace : mg "NoPlace" = some (.ref J_NoPlace) ∧ IsTm KF.frag mg (.ref J_NoPlace) ci_NoPlace) {J_NoDoing : Addr} (i_NoDoing : mg "NoDoing" = some (.ref J_NoDoing) ∧ IsTm KF.frag mg (.ref J_NoDoing) ci_NoDoing) {J_NoMeeting : Addr} (i_NoMeeting : mg "NoMeeting" = some (.ref J_NoMeeting) ∧ IsTm KF.frag mg (.ref J_NoMeeting) ci_NoMeeting) {J_NoText : Addr} (i_NoText : mg "NoText" = some (.ref J_NoText) ∧ IsTm KF.frag mg (.ref J_NoText) ci_NoText) {J_NoLine : Addr} (i_NoLine : mg "NoLine" = some (.ref J_NoLine) ∧ IsTm KF.frag mg (.ref J_NoLine) ci_NoLine) {J_MendError : Addr} (i_MendError : mg "MendError" = some (.ref J_MendError) ∧ IsTm KF.frag mg (.ref J_MendError) ci_MendError) {J_WorkError : Addr} (i_WorkError : mg "WorkError" = some (.ref J_WorkError) ∧ IsTm KF.frag mg (.ref J_WorkError) ci_WorkError) {J_PaperError : Addr} (i_PaperError : mg "PaperError" = some (.ref J_PaperError) ∧ IsTm KF.frag mg (.ref J_PaperError) ci_PaperError) (q_word : FdTm KF.frag mg "word" fn_word) (q_at : FdTm KF.frag mg "at" fn_at) (q_name : FdTm KF.frag mg "name" fn_name) (z_isinstance : mg "isinstance" = none) {a : Addr} {fd : FuncData} (F : Fun KF.frag "_law_no" "_law_no" s_L_no a fd) (gm : mg "_law_no" = some (.ref a)) : ExD P w mg base 0 "_law_no" s_L_no "_law_e" N_L_no m_L_no a fd :=
  ⟨gm, F, fun y ae cdv A outer s H E c oe hr hmg ex_ hot_ => b_L_no i_NoPaper i_NoName i_NoStep i_NoBack i_NoPlace i_NoDoing i_NoMeeting i_NoText i_NoLine i_MendError i_WorkError i_PaperError q_word q_at q_name z_isinstance y ae cdv a A outer s H E c oe hr hmg ex_ hot_⟩
theorem b_L_said {H_MendError : Addr} (h_MendError : mg "MendError" = some (.ref H_MendError) ∧ Caught KF.frag mg (.ref H_MendError) ca_MendError) {a_L_no : Addr} {fd_L_no : FuncData} (c_L_no : ExD P w mg base 0 "_law_no" s_L_no "_law_e" N_L_no m_L_no a_L_no fd_L_no) (r : ARes) (cdv : Value) (a : Addr) (A : Around) (outer : List Env) (s : Shared) (H : Hp) (E : XK) (c : Cf) (hr : GRoom 1 (A.deeper (envOfC "_law_said" (defScope s_L_said) s.heap.objs.size a cdv))) (hmg : c.mg = mg) (hact : HAct true P w mg base N_L_said "_law_said" (defScope s_L_said) a cdv A outer s H E c "_law_ask" r) :
    PSs (cxOf (CXm true P w) P w KF.frag mg base N_L_said "_law_said" (defScope s_L_said) a cdv A outer s H E) (defBody s_L_said) (SOf (fun cls d _ H => E cls d H) c (m_L_said r)) :=
  (dss_cons (ds_set (i := 1) sc_L_said.nd rfl (locD rfl) (dr_e de_non))
  (dss_cons (ds_tryAsN (i := 2) rfl rfl sc_L_said.nd rfl rfl ⟨rfl, by decide, .inl h_MendError.1⟩ (tk_of rfl rfl rfl rfl) hmg h_MendError.2 (fun V1 pn1 xe1 tk1 hp1 => (dss_one (ds_ret (de_tup (da_cons de_str (da_cons (hact _ _ _ 0 _ _ tk1 rfl (visD rfl) rfl rfl) da_nil)))))) (fun _ _ _ x _ ex_ hot_ => (dss_one (ds_set (i := 1) sc_L_said.nd rfl (locD rfl) (dr_e (de_callX (i := 2) ex_ hot_ (hr.mono (by decide)) c_L_no sc_L_no rfl rfl (fun _ _ _ _ _ _ us h => match us, h with | [_], _ => rfl) rfl (visD rfl)))))))
  (dss_one (ds_ret (de_var (i := 1) rfl (visD rfl))))))
theorem c_L_said {H_MendError : Addr} (h_MendError : mg "MendError" = some (.ref H_MendError) ∧ Caught KF.frag mg (.ref H_MendError) ca_MendError) {a_L_no : Addr} {fd_L_no : FuncData} (c_L_no : ExD P w mg base 0 "_law_no" s_L_no "_law_e" N_L_no m_L_no a_L_no fd_L_no) {a : Addr} {fd : FuncData} (F : Fun KF.frag "_law_said" "_law_said" s_L_said a fd) (gm : mg "_law_said" = some (.ref a)) : LaD true P w mg base 1 "_law_said" s_L_said "_law_ask" N_L_said m_L_said a fd :=
  ⟨gm, F, fun r cdv A outer s H E c hr hmg hact => b_L_said h_MendError c_L_no r cdv a A outer s H E c hr hmg hact⟩
theorem b_is_number (z_isinstance : mg "isinstance" = none) (z_bool : mg "bool" = none) (z_int : mg "int" = none) (cdv : Value) (a : Addr) (A : Around) (outer : List Env) (s : Shared) (H : Hp) (E : XK) (c : Cf) (hr : GRoom 0 (A.deeper (envOfC "is_number" (defScope s_is_number) s.heap.objs.size a cdv))) (hmg : c.mg = mg) :
    PSs (cxOf (CXm true P w) P w KF.frag mg base N_is_number "is_number" (defScope s_is_number) a cdv A outer s H E) (defBody s_is_number) (SOf (fun cls d _ H => E cls d H) c m_is_number) :=
  (dss_one (ds_ret (de_and (de_isi (T := "int") rfl (de_var (i := 0) rfl (visD rfl)) rfl z_isinstance rfl z_int rfl) (de_and (de_not (de_isi (T := "bool") rfl (de_var (i := 0) rfl (visD rfl)) rfl z_isinstance rfl z_bool rfl)) (de_one (de_cmp op_ge lf_ge (de_var (i := 0) rfl (visD rfl)) de_int rfl))))))
theorem c_is_number (z_isinstance : mg "isinstance" = none) (z_bool : mg "bool" = none) (z_int : mg "int" = none) {a : Addr} {fd : FuncData} (F : Fun KF.frag "is_number" "is_number" s_is_number a fd) (gm : mg "is_number" = some (.ref a)) : CD true P w mg base 1 "is_number" s_is_number P_is_number f_is_number a fd :=
  cd_mk F sc_is_number gm fun cdv A outer s H E c hr hmg => b_is_number z_isinstance z_bool z_int cdv a A outer s H E c hr hmg
theorem b_need_breach {C_NoPaper I_NoPaper : Addr} {fi_NoPaper : FuncData} (x_NoPaper : XD P w mg base "NoPaper" ["word", "at"] C_NoPaper I_NoPaper fi_NoPaper) (cdv : Value) (a : Addr) (A : Around) (outer : List Env) (s : Shared) (H : Hp) (E : XK) (c : Cf) (hr : GRoom 2 (A.deeper (envOfC "need_breach" (defScope s_need_breach) s.heap.objs.size a cdv))) (hmg : c.mg = mg) :
    PSs (cxOf (CXm true P w) P w KF.frag mg base N_need_breach "need_breach" (defScope s_need_breach) a cdv A outer s H E) (defBody s_need_breach) (SOf (fun cls d _ H => E cls d H) c m_need_breach) :=
  (dss_one (ds_if (dt_not (dt_val (de_var (i := 0) rfl (visD rfl)))) (dss_one (ds_raiseX x_NoPaper rfl (tk_of rfl rfl rfl rfl) hmg rfl (hr.mono (by decide)).r rfl (da_cons (de_var (i := 1) rfl (visD rfl)) (da_cons (de_un un_neg lf_neg de_int) da_nil)))) dss_nil))
theorem c_need_breach {C_NoPaper I_NoPaper : Addr} {fi_NoPaper : FuncData} (x_NoPaper : XD P w mg base "NoPaper" ["word", "at"] C_NoPaper I_NoPaper fi_NoPaper) {a : Addr} {fd : FuncData} (F : Fun KF.frag "need_breach" "need_breach" s_need_breach a fd) (gm : mg "need_breach" = some (.ref a)) : CD true P w mg base 3 "need_breach" s_need_breach P_need_breach f_need_breach a fd :=
  cd_mk F sc_need_breach gm fun cdv A outer s H E c hr hmg => b_need_breach x_NoPaper cdv a A outer s H E c hr hmg
theorem b_lets_breach {a_is_number : Addr} {fd_is_number : FuncData} (c_is_number : CD true P w mg base 1 "is_number" s_is_number P_is_number f_is_number a_is_number fd_is_number) {a_need_breach : Addr} {fd_need_breach : FuncData} (c_need_breach : CD true P w mg base 3 "need_breach" s_need_breach P_need_breach f_need_breach a_need_breach fd_need_breach) (z_all : mg "all" = none) (z_len : mg "len" = none) (z_isinstance : mg "isinstance" = none) (z_tuple : mg "tuple" = none) (z_max : mg "max" = none) (cdv : Value) (a : Addr) (A : Around) (outer : List Env) (s : Shared) (H : Hp) (E : XK) (c : Cf) (hr : GRoom 3 (A.deeper (envOfC "lets_breach" (defScope s_lets_breach) s.heap.objs.size a cdv))) (hmg : c.mg = mg) :
    PSs (cxOf (CXm true P w) P w KF.frag mg base N_lets_breach "lets_breach" (defScope s_lets_breach) a cdv A outer s H E) (defBody s_lets_breach) (SOf (fun cls d _ H => E cls d H) c m_lets_breach) :=
  (dss_cons (ds_set (i := 2) sc_lets_breach.nd rfl (locD rfl) (dr_e (de_and (de_isi (T := "tuple") rfl (de_var (i := 1) rfl (visD rfl)) rfl z_isinstance rfl z_tuple rfl) (de_and (de_cmp (op_eqA hr.u64) lf_eq (de_callB cr_lenA lf_len rfl z_len rfl (da_cons (de_var (i := 1) rfl (visD rfl)) da_nil)) de_int rfl) (de_one (de_callB (cr_all rfl) lf_all rfl z_all rfl (da_cons (de_fz (dl_lc (own := [("one", 3)]) rfl sc_lets_breach.nd (di_seq rfl (de_var (i := 1) rfl (visD rfl))) (blkOk_by (by show blkC N_lets_breach (defScope s_lets_breach) _ _ = true; decide +kernel)) (by decide) (fun _ _ _ _ _ _ => (dg_nm (i := 3) sc_lets_breach.nd rfl (locD rfl))) (fun _ _ _ _ _ _ => dts_nil) (fun _ _ _ _ _ _ => (de_call (n := 1) (FnD.mono c_is_number.fn (by decide)) hr takesF hmg rfl c_is_number.gm c_is_number.kp (c_is_number.pb fun _ _ _ _ _ _ us h => match us, h with | [_], _ => rfl) .nil dfr_nil (da_cons (de_var (i := 3) rfl (visD rfl)) da_nil))))) da_nil)))))))
  (dss_cons (ds_exp (de_call (n := 2) (FnD.mono c_need_breach.fn (by decide)) hr (tk_of rfl rfl rfl rfl) hmg rfl c_need_breach.gm c_need_breach.kp (c_need_breach.pb fun _ _ _ _ _ _ us h => match us, h with | [_, _], _ => rfl) .nil dfr_nil (da_cons (de_var (i := 2) rfl (visD rfl)) (da_cons de_str da_nil))))
  (dss_cons (ds_exp (de_call (n := 2) (FnD.mono c_need_breach.fn (by decide)) hr (tk_of rfl rfl rfl rfl) hmg rfl c_need_breach.gm c_need_breach.kp (c_need_breach.pb fun _ _ _ _ _ _ us h => match us, h with | [_, _], _ => rfl) .nil dfr_nil (da_cons (de_cmp op_lt lf_lt (de_callB (cr_maxA rfl) lf_maxA rfl z_max rfl (da_cons (de_var (i := 1) rfl (visD rfl)) da_nil)) (de_callB cr_lenA lf_len rfl z_len rfl (da_cons (de_var (i := 0) rfl (visD rfl)) da_nil)) rfl) (da_cons de_str da_nil))))
  (dss_cons (ds_asg (de_tup (da_cons (de_ix rfl (de_var (i := 0) rfl (visD rfl)) (de_ix rfl (de_var (i := 1) rfl (visD rfl)) de_int (fun _ _ => rfl)) (fun _ _ => rfl)) (da_cons (de_ix rfl (de_var (i := 0) rfl (visD rfl)) (de_ix rfl (de_var (i := 1) rfl (visD rfl)) de_int (fun _ _ => rfl)) (fun _ _ => rfl)) da_nil))) (dg_tp rfl rfl (dgs_cons (dg_tp rfl rfl (dgs_cons (dg_nm (i := 4) sc_lets_breach.nd rfl (locD rfl)) (dgs_cons (dg_nm (i := 5) sc_lets_breach.nd rfl (locD rfl)) dgs_nil))) (dgs_cons (dg_tp rfl rfl (dgs_cons (dg_nm (i := 6) sc_lets_breach.nd rfl (locD rfl)) (dgs_cons (dg_nm (i := 7) sc_lets_breach.nd rfl (locD rfl)) dgs_nil))) dgs_nil))))
  (dss_cons (ds_exp (de_call (n := 2) (FnD.mono c_need_breach.fn (by decide)) hr (tk_of rfl rfl rfl rfl) hmg rfl c_need_breach.gm c_need_breach.kp (c_need_breach.pb fun _ _ _ _ _ _ us h => match us, h with | [_, _], _ => rfl) .nil dfr_nil (da_cons (de_and (de_not (de_var (i := 5) rfl (visD rfl))) (de_one (de_var (i := 7) rfl (visD rfl)))) (da_cons de_str da_nil))))
  (dss_cons (ds_exp (de_call (n := 2) (FnD.mono c_need_breach.fn (by decide)) hr (tk_of rfl rfl rfl rfl) hmg rfl c_need_breach.gm c_need_breach.kp (c_need_breach.pb fun _ _ _ _ _ _ us h => match us, h with | [_, _], _ => rfl) .nil dfr_nil (da_cons (de_cmp op_ge lf_ge (de_var (i := 6) rfl (visD rfl)) (de_var (i := 4) rfl (visD rfl)) rfl) (da_cons de_str da_nil))))
  (dss_one (ds_ret de_bl))))))))
theorem c_lets_breach {a_is_number : Addr} {fd_is_number : FuncData} (c_is_number : CD true P w mg base 1 "is_number" s_is_number P_is_number f_is_number a_is_number fd_is_number) {a_need_breach : Addr} {fd_need_breach : FuncData} (c_need_breach : CD true P w mg base 3 "need_breach" s_need_breach P_need_breach f_need_breach a_need_breach fd_need_breach) (z_all : mg "all" = none) (z_len : mg "len" = none) (z_isinstance : mg "isinstance" = none) (z_tuple : mg "tuple" = none) (z_max : mg "max" = none) {a : Addr} {fd : FuncData} (F : Fun KF.frag "lets_breach" "lets_breach" s_lets_breach a fd) (gm : mg "lets_breach" = some (.ref a)) : CD true P w mg base 4 "lets_breach" s_lets_breach P_lets_breach f_lets_breach a fd :=
  cd_mk F sc_lets_breach gm fun cdv A outer s H E c hr hmg => b_lets_breach c_is_number c_need_breach z_all z_len z_isinstance z_tuple z_max cdv a A outer s H E c hr hmg
theorem b_law {a_L_feed : Addr} {fd_L_feed : FuncData} (c_L_feed : CD true P w mg base 1 "_law_feed" s_L_feed P_L_feed f_L_feed a_L_feed fd_L_feed) {a_L_draw : Addr} {fd_L_draw : FuncData} (c_L_draw : CD true P w mg base 1 "_law_draw" s_L_draw P_L_draw f_L_draw a_L_draw fd_L_draw) {a_L_judged : Addr} {fd_L_judged : FuncData} (c_L_judged : CD true P w mg base 1 "_law_judged" s_L_judged P_L_judged f_L_judged a_L_judged fd_L_judged) {a_lets_breach : Addr} {fd_lets_breach : FuncData} (c_lets_breach : CD true P w mg base 4 "lets_breach" s_lets_breach P_lets_breach f_lets_breach a_lets_breach fd_lets_breach) {a_L_said : Addr} {fd_L_said : FuncData} (c_L_said : LaD true P w mg base 1 "_law_said" s_L_said "_law_ask" N_L_said m_L_said a_L_said fd_L_said) {tc tP : Addr} (tB : TabF base mg ("law" ++ ".<locals>." ++ "<lambda>") tc tP) (z_range : mg "range" = none) (z_tuple : mg "tuple" = none) (z_len : mg "len" = none) (z_repr : mg "repr" = none) (cdv : Value) (hcd : cdv = .ref tc) (a : Addr) (A : Around) (outer : List Env) (s : Shared) (H : Hp) (E : XK) (c : Cf) (hr : GRoom 6 (A.deeper (envOfC "law" (defScope s_law) s.heap.objs.size a cdv))) (hmg : c.mg = mg) :
    PSs (cxOf (CXm true P w) P w KF.frag mg base N_law "law" (defScope s_law) a cdv A outer s H E) (defBody s_law) (SOf (fun cls d _ H => E cls d H) c m_law) :=
  (dss_cons (ds_set (i := 1) sc_law.nd rfl (locD rfl) (dr_k (dk_call (n := 1) (FnD.mono c_L_feed.fn (by decide)) hr (tk_of rfl rfl rfl rfl) hmg rfl c_L_feed.gm c_L_feed.kp (c_L_feed.pb fun _ _ _ _ _ _ us h => match us, h with | [_], _ => rfl) .nil dfr_nil (da_cons (de_var (i := 0) rfl (visD rfl)) da_nil))))
  (dss_cons (ds_for (passes_of rfl) rfl (di_range1 rfl z_range (da_cons de_int da_nil)) (dg_nm (i := 2) sc_law.nd rfl (locD rfl)) (dss_cons (ds_set (i := 3) sc_law.nd rfl (locD rfl) (dr_e (de_bin op_addA lf_addA de_int (de_call (n := 2) (FnD.mono c_L_draw.fn (by decide)) hr (tk_of rfl rfl rfl rfl) hmg rfl c_L_draw.gm c_L_draw.kp (c_L_draw.pb fun _ _ _ _ _ _ us h => match us, h with | [_, _], _ => rfl) .nil dfr_nil (da_cons (de_var (i := 1) rfl (visD rfl)) (da_cons de_int da_nil))))))
  (dss_cons (ds_parT (i := 4) (j := 5) rfl sc_law.nd rfl rfl (locD rfl) (locD rfl) (dr_e (de_call (n := 2) (FnD.mono c_L_draw.fn (by decide)) hr (tk_of rfl rfl rfl rfl) hmg rfl c_L_draw.gm c_L_draw.kp (c_L_draw.pb fun _ _ _ _ _ _ us h => match us, h with | [_, _], _ => rfl) .nil dfr_nil (da_cons (de_var (i := 1) rfl (visD rfl)) (da_cons (de_var (i := 3) rfl (visD rfl)) da_nil)))) (fun _ _ => (dr_l (dl_lst da_nil))) rfl rfl)
  (dss_cons (ds_for (passes_of rfl) rfl (di_range1 rfl z_range (da_cons (de_call (n := 2) (FnD.mono c_L_draw.fn (by decide)) hr (tk_of rfl rfl rfl rfl) hmg rfl c_L_draw.gm c_L_draw.kp (c_L_draw.pb fun _ _ _ _ _ _ us h => match us, h with | [_, _], _ => rfl) .nil dfr_nil (da_cons (de_var (i := 1) rfl (visD rfl)) (da_cons de_int da_nil))) da_nil)) (dg_nm (i := 6) sc_law.nd rfl (locD rfl)) (dss_cons (ds_set (i := 7) sc_law.nd rfl (locD rfl) (dr_e (de_bin op_addA lf_addA de_int (de_call (n := 2) (FnD.mono c_L_draw.fn (by decide)) hr (tk_of rfl rfl rfl rfl) hmg rfl c_L_draw.gm c_L_draw.kp (c_L_draw.pb fun _ _ _ _ _ _ us h => match us, h with | [_, _], _ => rfl) .nil dfr_nil (da_cons (de_var (i := 1) rfl (visD rfl)) (da_cons (de_bin op_sub lf_sub (de_var (i := 3) rfl (visD rfl)) de_int) da_nil))))))
  (dss_one (ds_exp (de_app (i := 5) rfl (visD rfl) (de_tup (da_cons (de_var (i := 7) rfl (visD rfl)) (da_cons (de_cmp (op_neA hr.u64) lf_ne (de_cmp op_le lf_le (de_var (i := 7) rfl (visD rfl)) (de_var (i := 4) rfl (visD rfl)) rfl) (de_cmp (op_eqA hr.u64) lf_eq (de_call (n := 2) (FnD.mono c_L_draw.fn (by decide)) hr (tk_of rfl rfl rfl rfl) hmg rfl c_L_draw.gm c_L_draw.kp (c_L_draw.pb fun _ _ _ _ _ _ us h => match us, h with | [_, _], _ => rfl) .nil dfr_nil (da_cons (de_var (i := 1) rfl (visD rfl)) (da_cons de_int da_nil))) de_int rfl) rfl) da_nil))))))))
  (dss_cons (ds_parT (i := 5) (j := 8) rfl sc_law.nd rfl rfl (locD rfl) (locD rfl) (dr_e (de_callTy call_tuple_of lf_tupleOf rfl z_tuple rfl (da_cons (de_var (i := 5) rfl (visD rfl)) da_nil))) (fun _ _ => (dr_l (dl_lst (da_cons de_non (da_cons (de_tup da_nil) (da_cons (de_tup (da_cons de_int da_nil)) (da_cons (de_tup (da_cons de_int (da_cons de_int (da_cons de_int da_nil)))) (da_cons (de_fz (dl_lst (da_cons de_int (da_cons de_int da_nil)))) (da_cons (de_tup (da_cons de_int (da_cons de_bl da_nil))) (da_cons (de_tup (da_cons de_bl (da_cons de_int da_nil))) (da_cons (de_tup (da_cons de_int (da_cons de_str da_nil))) (da_cons de_str (da_cons de_int da_nil))))))))))))) rfl rfl)
  (dss_cons (ds_for (passes_of rfl) rfl (di_range1 rfl z_range (da_cons (de_bin op_addA lf_addA (de_callB cr_lenA lf_len rfl z_len rfl (da_cons (de_var (i := 5) rfl (visD rfl)) da_nil)) de_int) da_nil)) (dg_nm (i := 9) sc_law.nd rfl (locD rfl)) (dss_one (ds_exp (de_ext (i := 8) rfl rfl (visD rfl) (de_fz (dl_lc (own := [("_law_j", 10)]) rfl sc_law.nd (di_range1 rfl z_range (da_cons (de_bin op_addA lf_addA (de_callB cr_lenA lf_len rfl z_len rfl (da_cons (de_var (i := 5) rfl (visD rfl)) da_nil)) de_int) da_nil)) (blkOk_by (by show blkC N_law (defScope s_law) _ _ = true; decide +kernel)) (by decide) (fun _ _ _ _ _ _ => (dg_nm (i := 10) sc_law.nd rfl (locD rfl))) (fun _ _ _ _ _ _ => dts_nil) (fun _ _ _ _ _ _ => (de_tup (da_cons (de_var (i := 9) rfl (visD rfl)) (da_cons (de_var (i := 10) rfl (visD rfl)) da_nil))))))))))
  (dss_cons (ds_set (i := 8) sc_law.nd rfl (locD rfl) (dr_e (de_bin op_addA lf_addA (de_var (i := 8) rfl (visD rfl)) (de_fz (dl_lst (da_cons (de_tup (da_cons (de_un un_neg lf_neg de_int) (da_cons de_int da_nil))) (da_cons (de_tup (da_cons de_int (da_cons (de_un un_neg lf_neg de_int) da_nil))) (da_cons (de_tup (da_cons (de_bin op_pow lf_pow de_int de_int) (da_cons de_int da_nil))) (da_cons (de_tup (da_cons de_int (da_cons (de_bin op_pow lf_pow de_int de_int) da_nil))) (da_cons (de_tup (da_cons (de_tup (da_cons de_int (da_cons de_int da_nil))) (da_cons (de_tup (da_cons de_int (da_cons de_int da_nil))) da_nil))) (da_cons (de_tup (da_cons de_non (da_cons de_int da_nil))) da_nil)))))))))))
  (dss_one (ds_for (passes_of rfl) rfl (di_seq rfl (de_var (i := 8) rfl (visD rfl))) (dg_nm (i := 11) sc_law.nd rfl (locD rfl)) (dss_cons (ds_par (i := 12) (j := 13) rfl sc_law.nd rfl rfl (by decide) rfl rfl (dr_e (de_callB (call_reprD hr.g hr.u110) lf_repr rfl z_repr rfl (da_cons (de_tup (da_cons (de_var (i := 5) rfl (visD rfl)) (da_cons (de_var (i := 11) rfl (visD rfl)) da_nil))) da_nil))) (fun _ _ => (dr_e (de_callB (call_reprD hr.g hr.u110) lf_repr rfl z_repr rfl (da_cons (de_call (n := 2) (FnD.mono c_L_judged.fn (by decide)) hr (tk_of rfl rfl rfl rfl) hmg rfl c_L_judged.gm c_L_judged.kp (c_L_judged.pb fun _ _ _ _ _ _ us h => match us, h with | [_, _], _ => rfl) .nil dfr_nil (da_cons (de_var (i := 5) rfl (visD rfl)) (da_cons (de_var (i := 11) rfl (visD rfl)) da_nil))) da_nil)))) rfl)
  (dss_cons (ds_if (dt_cmp (op_neA hr.u64) lf_ne (de_callB (call_reprD hr.g hr.u110) lf_repr rfl z_repr rfl (da_cons (de_lam (kg := 5) (kl := 4) hmg rfl rfl c_L_said.gm' c_L_said.kp c_L_said.F sc_L_said rfl (c_L_said.pb fun _ _ _ _ _ _ us h => match us, h with | [_], _ => rfl) (hr.mono (by decide)) (by decide) ⟨_, _, tB.TB, hcd, tB.mem, tB.only⟩ (LamX.lamS_by rfl) rfl (tk_of rfl rfl rfl rfl) (fun _ _ _ _ _ => rfl) (fun _ _ _ _ _ _ _ _ hr hmg => (de_call (n := 2) (FnD.mono c_lets_breach.fn (by decide)) hr (tk_of rfl rfl rfl rfl) hmg rfl c_lets_breach.gm c_lets_breach.kp (c_lets_breach.pb fun _ _ _ _ _ _ us h => match us, h with | [_, _], _ => rfl) .nil dfr_nil (da_cons (de_var (i := 5) rfl (visD rfl)) (da_cons (de_var (i := 11) rfl (visD rfl)) da_nil)))) (fun r cdv s H E c' hr hmg hact => c_L_said.bd r cdv _ _ s H E c' (hr.mono (by decide)) hmg hact)) da_nil)) (de_var (i := 13) rfl (visD rfl)) rfl) (dss_one (ds_ret de_bl)) dss_nil)
  (dss_cons (ds_if (dt_cmp (op_neA hr.u64) lf_ne (de_callB (call_reprD hr.g hr.u110) lf_repr rfl z_repr rfl (da_cons (de_lam (kg := 5) (kl := 4) hmg rfl rfl c_L_said.gm' c_L_said.kp c_L_said.F sc_L_said rfl (c_L_said.pb fun _ _ _ _ _ _ us h => match us, h with | [_], _ => rfl) (hr.mono (by decide)) (by decide) ⟨_, _, tB.TB, hcd, tB.mem, tB.only⟩ (LamX.lamS_by rfl) rfl (tk_of rfl rfl rfl rfl) (fun _ _ _ _ _ => rfl) (fun _ _ _ _ _ _ _ _ hr hmg => (de_callW0 (ks := ["thing", "answers"]) (FnD.mono c_lets_breach.fn (by decide)) hr (tk_of rfl rfl rfl rfl) hmg rfl c_lets_breach.gm c_lets_breach.kp (c_lets_breach.kb (n := 0) (ks := ["thing", "answers"]) (ix := [1, 0]) fun _ _ _ _ _ _ us ws h1 h2 => match us, ws, h1, h2 with | [], [_, _], _, _ => rfl) .nil dfr_nil (dak_cons (de_var (i := 11) rfl (visD rfl)) (dak_cons (de_var (i := 5) rfl (visD rfl)) dak_nil)))) (fun r cdv s H E c' hr hmg hact => c_L_said.bd r cdv _ _ s H E c' (hr.mono (by decide)) hmg hact)) da_nil)) (de_var (i := 13) rfl (visD rfl)) rfl) (dss_one (ds_ret de_bl)) dss_nil)
  (dss_one (ds_if (dt_cmp (op_neA hr.u64) lf_ne (de_callB (call_reprD hr.g hr.u110) lf_repr rfl z_repr rfl (da_cons (de_tup (da_cons (de_var (i := 5) rfl (visD rfl)) (da_cons (de_var (i := 11) rfl (visD rfl)) da_nil))) da_nil)) (de_var (i := 12) rfl (visD rfl)) rfl) (dss_one (ds_ret de_bl)) dss_nil))))))))))))))
  (dss_one (ds_ret de_bl))))
theorem c_law {a_L_feed : Addr} {fd_L_feed : FuncData} (c_L_feed : CD true P w mg base 1 "_law_feed" s_L_feed P_L_feed f_L_feed a_L_feed fd_L_feed) {a_L_draw : Addr} {fd_L_draw : FuncData} (c_L_draw : CD true P w mg base 1 "_law_draw" s_L_draw P_L_draw f_L_draw a_L_draw fd_L_draw) {a_L_judged : Addr} {fd_L_judged : FuncData} (c_L_judged : CD true P w mg base 1 "_law_judged" s_L_judged P_L_judged f_L_judged a_L_judged fd_L_judged) {a_lets_breach : Addr} {fd_lets_breach : FuncData} (c_lets_breach : CD true P w mg base 4 "lets_breach" s_lets_breach P_lets_breach f_lets_breach a_lets_breach fd_lets_breach) {a_L_said : Addr} {fd_L_said : FuncData} (c_L_said : LaD true P w mg base 1 "_law_said" s_L_said "_law_ask" N_L_said m_L_said a_L_said fd_L_said) {tc tP : Addr} (tB : TabF base mg ("law" ++ ".<locals>." ++ "<lambda>") tc tP) (z_range : mg "range" = none) (z_tuple : mg "tuple" = none) (z_len : mg "len" = none) (z_repr : mg "repr" = none) {a : Addr} {fd : FuncData} (F : Fun KF.frag "law" "law" s_law a fd) (gm : mg "law" = some (.ref a)) (hc : fd.code = .ref tc) : CD true P w mg base 7 "law" s_law P_law f_law a fd :=
  cd_mkT F sc_law gm hc fun cdv hcd A outer s H E c hr hmg => b_law c_L_feed c_L_draw c_L_judged c_lets_breach c_L_said tB z_range z_tuple z_len z_repr cdv hcd a A outer s H E c hr hmg
end
end Md

namespace Md
open PySem
open PySem.Spec
open PyProof.Rows
open L2
open L2.Dl
theorem all_mk {l : PySem.W.OpenLaw} {w : World} {K : PySem.W.Frag} {h : Heap} {mg : Str → Option Value} {fa : Addr} (X : K.In h) (G : h.Ns mainGlobals mg) (hfa : mg "law" = some (.ref fa))
    {od0 an0 : Option Addr} {sl0 : Array (Option Value)} {f0 : Addr} {oc0 kV0 dc0 pm0 cd0 ct0 : Value} {od1 an1 : Option Addr} {sl1 : Array (Option Value)} {f1 : Addr} {oc1 kV1 dc1 pm1 cd1 ct1 : Value} {od2 an2 : Option Addr} {sl2 : Array (Option Value)} {f2 : Addr} {oc2 kV2 dc2 pm2 cd2 ct2 : Value} {od3 an3 : Option Addr} {sl3 : Array (Option Value)} {f3 : Addr} {oc3 kV3 dc3 pm3 cd3 ct3 : Value} {od4 an4 : Option Addr} {sl4 : Array (Option Value)} {f4 : Addr} {oc4 kV4 dc4 pm4 cd4 ct4 : Value} {od5 an5 : Option Addr} {sl5 : Array (Option Value)} {f5 : Addr} {oc5 kV5 dc5 pm5 cd5 ct5 : Value} {od6 an6 : Option Addr} {sl6 : Array (Option Value)} {f6 : Addr} {oc6 kV6 dc6 pm6 cd6 ct6 : Value} {od7 an7 : Option Addr} {sl7 : Array (Option Value)} {f7 : Addr} {oc7 kV7 dc7 pm7 cd7 ct7 : Value} {od8 an8 : Option Addr} {sl8 : Array (Option Value)} {f8 : Addr} {oc8 kV8 dc8 pm8 cd8 ct8 : Value}
    (a0 : PySem.W.nsIn K mainGlobals "_law_feed" = some (some (.ref f0))) (l0 : K.lookup f0 = some ⟨oc0, od0, .func (PySem.W.fnOf "_law_feed" "_law_feed" (defArgs s_L_feed) (defBody s_L_feed) (defScope s_L_feed) .none kV0 dc0 pm0 an0 cd0 ct0), sl0⟩) (c0 : PySem.W.codeIn K cd0 "_law_feed" = true) (k0 : PySem.W.keepIn K (.ref f0) = true)
    (a1 : PySem.W.nsIn K mainGlobals "_law_draw" = some (some (.ref f1))) (l1 : K.lookup f1 = some ⟨oc1, od1, .func (PySem.W.fnOf "_law_draw" "_law_draw" (defArgs s_L_draw) (defBody s_L_draw) (defScope s_L_draw) .none kV1 dc1 pm1 an1 cd1 ct1), sl1⟩) (c1 : PySem.W.codeIn K cd1 "_law_draw" = true) (k1 : PySem.W.keepIn K (.ref f1) = true)
    (a2 : PySem.W.nsIn K mainGlobals "_law_judged" = some (some (.ref f2))) (l2 : K.lookup f2 = some ⟨oc2, od2, .func (PySem.W.fnOf "_law_judged" "_law_judged" (defArgs s_L_judged) (defBody s_L_judged) (defScope s_L_judged) .none kV2 dc2 pm2 an2 cd2 ct2), sl2⟩) (c2 : PySem.W.codeIn K cd2 "_law_judged" = true) (k2 : PySem.W.keepIn K (.ref f2) = true)
    (a3 : PySem.W.nsIn K mainGlobals "_law_no" = some (some (.ref f3))) (l3 : K.lookup f3 = some ⟨oc3, od3, .func (PySem.W.fnOf "_law_no" "_law_no" (defArgs s_L_no) (defBody s_L_no) (defScope s_L_no) .none kV3 dc3 pm3 an3 cd3 ct3), sl3⟩) (c3 : PySem.W.codeIn K cd3 "_law_no" = true) (k3 : PySem.W.keepIn K (.ref f3) = true)
    (a4 : PySem.W.nsIn K mainGlobals "_law_said" = some (some (.ref f4))) (l4 : K.lookup f4 = some ⟨oc4, od4, .func (PySem.W.fnOf "_law_said" "_law_said" (defArgs s_L_said) (defBody s_L_said) (defScope s_L_said) .none kV4 dc4 pm4 an4 cd4 ct4), sl4⟩) (c4 : PySem.W.codeIn K cd4 "_law_said" = true) (k4 : PySem.W.keepIn K (.ref f4) = true)
    (a5 : PySem.W.nsIn K mainGlobals "is_number" = some (some (.ref f5))) (l5 : K.lookup f5 = some ⟨oc5, od5, .func (PySem.W.fnOf "is_number" "is_number" (defArgs s_is_number) (defBody s_is_number) (defScope s_is_number) .none kV5 dc5 pm5 an5 cd5 ct5), sl5⟩) (c5 : PySem.W.codeIn K cd5 "is_number" = true) (k5 : PySem.W.keepIn K (.ref f5) = true)
    (a6 : PySem.W.nsIn K mainGlobals "need_breach" = some (some (.ref f6))) (l6 : K.lookup f6 = some ⟨oc6, od6, .func (PySem.W.fnOf "need_breach" "need_breach" (defArgs s_need_breach) (defBody s_need_breach) (defScope s_need_breach) .none kV6 dc6 pm6 an6 cd6 ct6), sl6⟩) (c6 : PySem.W.codeIn K cd6 "need_breach" = true) (k6 : PySem.W.keepIn K (.ref f6) = true)
    (a7 : PySem.W.nsIn K mainGlobals "lets_breach" = some (some (.ref f7))) (l7 : K.lookup f7 = some ⟨oc7, od7, .func (PySem.W.fnOf "lets_breach" "lets_breach" (defArgs s_lets_breach) (defBody s_lets_breach) (defScope s_lets_breach) .none kV7 dc7 pm7 an7 cd7 ct7), sl7⟩) (c7 : PySem.W.codeIn K cd7 "lets_breach" = true) (k7 : PySem.W.keepIn K (.ref f7) = true)
    (a8 : PySem.W.nsIn K mainGlobals "law" = some (some (.ref f8))) (l8 : K.lookup f8 = some ⟨oc8, od8, .func (PySem.W.fnOf "law" "law" (defArgs s_law) (defBody s_law) (defScope s_law) .none kV8 dc8 pm8 an8 cd8 ct8), sl8⟩) (c8 : PySem.W.codeIn K cd8 "law" = true) (k8 : PySem.W.keepIn K (.ref f8) = true)
    (z_list : PySem.W.nsIn K mainGlobals "list" = some none)
    (z_len : PySem.W.nsIn K mainGlobals "len" = some none)
    (z_isinstance : PySem.W.nsIn K mainGlobals "isinstance" = some none)
    (z_tuple : PySem.W.nsIn K mainGlobals "tuple" = some none)
    (z_bool : PySem.W.nsIn K mainGlobals "bool" = some none)
    (z_int : PySem.W.nsIn K mainGlobals "int" = some none)
    (z_all : PySem.W.nsIn K mainGlobals "all" = some none)
    (z_max : PySem.W.nsIn K mainGlobals "max" = some none)
    (z_range : PySem.W.nsIn K mainGlobals "range" = some none)
    (z_repr : PySem.W.nsIn K mainGlobals "repr" = some none)
    {C_NoPaper I_NoPaper B_NoPaper N_NoPaper : Addr} {nm_NoPaper q_NoPaper : Str} {bs_NoPaper bm_NoPaper su_NoPaper : List Value} {sn_NoPaper : List Str} {ab_NoPaper : Bool} {co_NoPaper : Option Bool} {dd_NoPaper od_NoPaper an_NoPaper : Option Addr} {k0_NoPaper k1_NoPaper k2_NoPaper k3_NoPaper k5_NoPaper : Option Value} {oc_NoPaper kV_NoPaper dc_NoPaper pm_NoPaper cd_NoPaper ct_NoPaper : Value} {sl_NoPaper : Array (Option Value)}
    (e1_NoPaper : PySem.W.nsIn K mainGlobals "NoPaper" = some (some (.ref C_NoPaper))) (e2_NoPaper : K.lookup C_NoPaper = some (excClassObj nm_NoPaper q_NoPaper C_NoPaper N_NoPaper bs_NoPaper bm_NoPaper true sn_NoPaper su_NoPaper ab_NoPaper co_NoPaper dd_NoPaper k0_NoPaper k1_NoPaper k2_NoPaper k3_NoPaper k5_NoPaper "ValueError.__new__")) (e3_NoPaper : PySem.HandSPX.refsVE bm_NoPaper = true)
    (e4_NoPaper : PySem.W.findIn K (.ref C_NoPaper) "__setattr__" = some (some (.builtin "object.__setattr__"))) (e5_NoPaper : PySem.W.subIn K (.ref C_NoPaper) (.type "BaseException") = some true) (e6_NoPaper : PySem.W.typeIn K (.ref C_NoPaper) = some (.type "type")) (e7_NoPaper : PySem.W.keepIn K (.ref C_NoPaper) = true)
    (e8_NoPaper : PySem.W.findIn K (.ref C_NoPaper) "__init__" = some (some (.ref I_NoPaper))) (e9_NoPaper : PySem.W.typeIn K (.ref I_NoPaper) = some (.type "function"))
    (ea_NoPaper : K.lookup I_NoPaper = some ⟨oc_NoPaper, od_NoPaper, .func (PySem.W.fnOf "__init__" "NoPaper.__init__" (defArgs s_NoPaper_init) (defBody s_NoPaper_init) (defScope s_NoPaper_init) .none kV_NoPaper dc_NoPaper pm_NoPaper an_NoPaper cd_NoPaper ct_NoPaper), sl_NoPaper⟩) (eb_NoPaper : PySem.W.codeIn K cd_NoPaper "NoPaper.__init__" = true) (ec_NoPaper : PySem.W.keepIn K (.ref I_NoPaper) = true)
    (f0_NoPaper : PySem.W.findIn K (.ref C_NoPaper) "word" = some none)
    (f1_NoPaper : PySem.W.findIn K (.ref C_NoPaper) "at" = some none)
    (b1_NoPaper : PySem.W.nsIn K mainGlobals "PaperError" = some (some (.ref B_NoPaper))) (b2_NoPaper : PySem.W.specialIn K (.ref B_NoPaper) "__getattribute__" = some (some (.builtin "type.__getattribute__"))) (b3_NoPaper : PySem.W.typeIn K (.ref B_NoPaper) = some (.type "type")) (b4_NoPaper : PySem.W.readsIn K B_NoPaper (.type "type") = true) (b5_NoPaper : PySem.W.findCls K (.ref B_NoPaper) (.type "type") "__init__" = some (.val (.builtin "ValueError.__init__")))
    {H_MendError : Addr} (g_MendError : PySem.W.nsIn K mainGlobals "MendError" = some (some (.ref H_MendError)))
    (m_MendError_NoPaper : PySem.W.exmOne K (.ref C_NoPaper) (.ref H_MendError) = some true)
    (xa_NoPaper : PySem.W.findIn K (.ref C_NoPaper) "__getattribute__" = some (some (.builtin "BaseException.__getattribute__"))) (xb_NoPaper : PySem.W.findIn K (.ref C_NoPaper) "__getattr__" = some none) (xd_NoPaper : PySem.W.hasDictIn K C_NoPaper = true) (xe_NoPaper : PySem.W.findIn K (.ref C_NoPaper) "__class__" = some (some (.builtin "object.__class__"))) (xo_NoPaper : PySem.W.mroIn K C_NoPaper (.type "object") = some true)
    (xf : PySem.W.specialIn K (.builtin "object.__class__") "__get__" = some (some (.builtin "getset_descriptor.__get__"))) (xg : PySem.W.takesIn K (.builtin "object.__class__") = some true)
    {J_NoPaper : Addr} (w_NoPaper : PySem.W.nsIn K mainGlobals "NoPaper" = some (some (.ref J_NoPaper)))
    {J_NoName : Addr} (w_NoName : PySem.W.nsIn K mainGlobals "NoName" = some (some (.ref J_NoName)))
    {J_NoStep : Addr} (w_NoStep : PySem.W.nsIn K mainGlobals "NoStep" = some (some (.ref J_NoStep)))
    {J_NoBack : Addr} (w_NoBack : PySem.W.nsIn K mainGlobals "NoBack" = some (some (.ref J_NoBack)))
    {J_NoPlace : Addr} (w_NoPlace : PySem.W.nsIn K mainGlobals "NoPlace" = some (some (.ref J_NoPlace)))
    {J_NoDoing : Addr} (w_NoDoing : PySem.W.nsIn K mainGlobals "NoDoing" = some (some (.ref J_NoDoing)))
    {J_NoMeeting : Addr} (w_NoMeeting : PySem.W.nsIn K mainGlobals "NoMeeting" = some (some (.ref J_NoMeeting)))
    {J_NoText : Addr} (w_NoText : PySem.W.nsIn K mainGlobals "NoText" = some (some (.ref J_NoText)))
    {J_NoLine : Addr} (w_NoLine : PySem.W.nsIn K mainGlobals "NoLine" = some (some (.ref J_NoLine)))
    {J_MendError : Addr} (w_MendError : PySem.W.nsIn K mainGlobals "MendError" = some (some (.ref J_MendError)))
    {J_WorkError : Addr} (w_WorkError : PySem.W.nsIn K mainGlobals "WorkError" = some (some (.ref J_WorkError)))
    {J_PaperError : Addr} (w_PaperError : PySem.W.nsIn K mainGlobals "PaperError" = some (some (.ref J_PaperError)))
    (u_NoPaper_NoPaper : PySem.W.kitOne K (.ref C_NoPaper) (.ref J_NoPaper) = some true)
    (u_NoName_NoPaper : PySem.W.kitOne K (.ref C_NoPaper) (.ref J_NoName) = some false)
    (u_NoStep_NoPaper : PySem.W.kitOne K (.ref C_NoPaper) (.ref J_NoStep) = some false)
    (u_NoBack_NoPaper : PySem.W.kitOne K (.ref C_NoPaper) (.ref J_NoBack) = some false)
    (u_NoPlace_NoPaper : PySem.W.kitOne K (.ref C_NoPaper) (.ref J_NoPlace) = some false)
    (u_NoDoing_NoPaper : PySem.W.kitOne K (.ref C_NoPaper) (.ref J_NoDoing) = some false)
    (u_NoMeeting_NoPaper : PySem.W.kitOne K (.ref C_NoPaper) (.ref J_NoMeeting) = some false)
    (u_NoText_NoPaper : PySem.W.kitOne K (.ref C_NoPaper) (.ref J_NoText) = some false)
    (u_NoLine_NoPaper : PySem.W.kitOne K (.ref C_NoPaper) (.ref J_NoLine) = some false)
    (u_MendError_NoPaper : PySem.W.kitOne K (.ref C_NoPaper) (.ref J_MendError) = some true)
    (u_WorkError_NoPaper : PySem.W.kitOne K (.ref C_NoPaper) (.ref J_WorkError) = some false)
    (u_PaperError_NoPaper : PySem.W.kitOne K (.ref C_NoPaper) (.ref J_PaperError) = some true)
    (nt : (K.all fun q => !voidT q.2) = true) (tf0 : TabFact mg h "law")
    : ∃ (fd : FuncData) (ts : List (Addr × Str)) (cs : List (Addr × Addr)), (∀ p ∈ cs, h.get? p.2 = some { cls := .none, data := .fields #[] }) ∧ (∀ p ∈ cs, K.lookup p.2 = none) ∧ (∀ p ∈ cs, PySem.W.CodeHd h p.1 p.2) ∧ (∀ p ∈ ts, p.1 ∈ cs.map (·.2)) ∧ (∀ (s : Shared) (v : Value), BindsTo s fd ⟨[v], []⟩ [("_law_script", v)]) ∧ ∀ base : Heap, K.In base → base.Ns mainGlobals mg → (∀ p ∈ cs, LamX.TabB base mg p.1 p.2) → @FnD true l.prog w K mg base 7 fa fd ["_law_script"] (@fnSp ⟨K, ts⟩ mg 1 f_law) := by
  obtain ⟨tc0, tP0, ec0, ta0, tb0, tk0, tt0⟩ := tab_of X nt tf0 (PySem.W.mg_of X G a8) l8
  subst ec0
  letI : KF := ⟨K, ([(tP0, "law" ++ ".<locals>." ++ "<lambda>")] : List (Addr × Str))⟩
  have e := hfa.symm.trans (PySem.W.mg_of X G a8)
  cases e
  have y_list := PySem.W.mg_none_of X G z_list
  have y_len := PySem.W.mg_none_of X G z_len
  have y_isinstance := PySem.W.mg_none_of X G z_isinstance
  have y_tuple := PySem.W.mg_none_of X G z_tuple
  have y_bool := PySem.W.mg_none_of X G z_bool
  have y_int := PySem.W.mg_none_of X G z_int
  have y_all := PySem.W.mg_none_of X G z_all
  have y_max := PySem.W.mg_none_of X G z_max
  have y_range := PySem.W.mg_none_of X G z_range
  have y_repr := PySem.W.mg_none_of X G z_repr
  refine ⟨PySem.W.fnOf "law" "law" (defArgs s_law) (defBody s_law) (defScope s_law) .none kV8 dc8 pm8 an8 (.ref tc0) ct8, ([(tP0, "law" ++ ".<locals>." ++ "<lambda>")] : List (Addr × Str)), [(tc0, tP0)], fun p hp => ?_, fun p hp => ?_, fun p hp => ?_, fun p hp => ?_, fun s v => .of_eq rfl, fun base _ _ htb => ?_⟩
  · simp only [List.mem_cons, List.not_mem_nil, or_false] at hp
    subst hp; exact ta0
  · simp only [List.mem_cons, List.not_mem_nil, or_false] at hp
    subst hp; exact tb0
  · simp only [List.mem_cons, List.not_mem_nil, or_false] at hp
    subst hp; exact tk0
  · simp only [List.mem_cons, List.not_mem_nil, or_false] at hp
    subst hp; exact by simp
  have tB0 : TabF base mg ("law" ++ ".<locals>." ++ "<lambda>") tc0 tP0 := ⟨htb (tc0, tP0) (by simp), by show _ ∈ ([(tP0, "law" ++ ".<locals>." ++ "<lambda>")] : List (Addr × Str)); simp, fun p hp e => by
    have hp : p ∈ ([(tP0, "law" ++ ".<locals>." ++ "<lambda>")] : List (Addr × Str)) := hp
    simp only [List.mem_cons, List.not_mem_nil, or_false] at hp
    subst hp; rfl⟩
  have x_NoPaper : XD l.prog w mg base "NoPaper" ["word", "at"] C_NoPaper I_NoPaper _ := ⟨PySem.W.mg_of X G e1_NoPaper, (oex_mk e2_NoPaper e3_NoPaper e4_NoPaper e5_NoPaper e6_NoPaper e7_NoPaper), e8_NoPaper, e9_NoPaper, ok_init2 (fun_mk (st := s_NoPaper_init) ea_NoPaper eb_NoPaper ec_NoPaper) sc_NoPaper_init rfl (oex_mk e2_NoPaper e3_NoPaper e4_NoPaper e5_NoPaper e6_NoPaper e7_NoPaper) f0_NoPaper f1_NoPaper (fun cdv A outer s H E => ps_expr (pe_ginit rfl (PySem.W.mg_of X G b1_NoPaper) (by decide) b2_NoPaper b3_NoPaper b4_NoPaper b5_NoPaper (pa_cons (pe_var (i := 0) rfl (.inl rfl)) (pa_cons pe_str pa_nil)))) (fun cdv A outer s H E => ps_ost (pe_var (i := 0) rfl (.inl rfl)) (pe_var (i := 1) rfl (.inl rfl))) (fun cdv A outer s H E => ps_ost (pe_var (i := 0) rfl (.inl rfl)) (pe_var (i := 2) rfl (.inl rfl))), (fun_mk (st := s_NoPaper_init) ea_NoPaper eb_NoPaper ec_NoPaper).binds fun _ _ _ _ _ _ us hl => match us, hl with | [_, _, _], _ => rfl⟩
  have j_MendError : mg "MendError" = some (.ref H_MendError) ∧ Caught K mg (.ref H_MendError) ca_MendError := ⟨PySem.W.mg_of X G g_MendError, caught_of fun p hp => by
    simp only [List.mem_cons, List.not_mem_nil, or_false] at hp
    subst hp; exact ⟨C_NoPaper, PySem.W.mg_of X G e1_NoPaper, m_MendError_NoPaper⟩⟩
  have ex_NoPaper : ExcC K C_NoPaper := ⟨xa_NoPaper, xb_NoPaper, e5_NoPaper, xd_NoPaper, xe_NoPaper, xf, xg, xo_NoPaper⟩
  have ji_NoPaper : mg "NoPaper" = some (.ref J_NoPaper) ∧ IsTm K mg (.ref J_NoPaper) ci_NoPaper := ⟨PySem.W.mg_of X G w_NoPaper, isTm_of fun p hp => by
    simp only [List.mem_cons, List.not_mem_nil, or_false] at hp
    subst hp; exact ⟨C_NoPaper, PySem.W.mg_of X G e1_NoPaper, ex_NoPaper, u_NoPaper_NoPaper⟩⟩
  have ji_NoName : mg "NoName" = some (.ref J_NoName) ∧ IsTm K mg (.ref J_NoName) ci_NoName := ⟨PySem.W.mg_of X G w_NoName, isTm_of fun p hp => by
    simp only [List.mem_cons, List.not_mem_nil, or_false] at hp
    subst hp; exact ⟨C_NoPaper, PySem.W.mg_of X G e1_NoPaper, ex_NoPaper, u_NoName_NoPaper⟩⟩
  have ji_NoStep : mg "NoStep" = some (.ref J_NoStep) ∧ IsTm K mg (.ref J_NoStep) ci_NoStep := ⟨PySem.W.mg_of X G w_NoStep, isTm_of fun p hp => by
    simp only [List.mem_cons, List.not_mem_nil, or_false] at hp
    subst hp; exact ⟨C_NoPaper, PySem.W.mg_of X G e1_NoPaper, ex_NoPaper, u_NoStep_NoPaper⟩⟩
  have ji_NoBack : mg "NoBack" = some (.ref J_NoBack) ∧ IsTm K mg (.ref J_NoBack) ci_NoBack := ⟨PySem.W.mg_of X G w_NoBack, isTm_of fun p hp => by
    simp only [List.mem_cons, List.not_mem_nil, or_false] at hp
    subst hp; exact ⟨C_NoPaper, PySem.W.mg_of X G e1_NoPaper, ex_NoPaper, u_NoBack_NoPaper⟩⟩
  have ji_NoPlace : mg "NoPlace" = some (.ref J_NoPlace) ∧ IsTm K mg (.ref J_NoPlace) ci_NoPlace := ⟨PySem.W.mg_of X G w_NoPlace, isTm_of fun p hp => by
    simp only [List.mem_cons, List.not_mem_nil, or_false] at hp
    subst hp; exact ⟨C_NoPaper, PySem.W.mg_of X G e1_NoPaper, ex_NoPaper, u_NoPlace_NoPaper⟩⟩
  have ji_NoDoing : mg "NoDoing" = some (.ref J_NoDoing) ∧ IsTm K mg (.ref J_NoDoing) ci_NoDoing := ⟨PySem.W.mg_of X G w_NoDoing, isTm_of fun p hp => by
    simp only [List.mem_cons, List.not_mem_nil, or_false] at hp
    subst hp; exact ⟨C_NoPaper, PySem.W.mg_of X G e1_NoPaper, ex_NoPaper, u_NoDoing_NoPaper⟩⟩
  have ji_NoMeeting : mg "NoMeeting" = some (.ref J_NoMeeting) ∧ IsTm K mg (.ref J_NoMeeting) ci_NoMeeting := ⟨PySem.W.mg_of X G w_NoMeeting, isTm_of fun p hp => by
    simp only [List.mem_cons, List.not_mem_nil, or_false] at hp
    subst hp; exact ⟨C_NoPaper, PySem.W.mg_of X G e1_NoPaper, ex_NoPaper, u_NoMeeting_NoPaper⟩⟩
  have ji_NoText : mg "NoText" = some (.ref J_NoText) ∧ IsTm K mg (.ref J_NoText) ci_NoText := ⟨PySem.W.mg_of X G w_NoText, isTm_of fun p hp => by
    simp only [List.mem_cons, List.not_mem_nil, or_false] at hp
    subst hp; exact ⟨C_NoPaper, PySem.W.mg_of X G e1_NoPaper, ex_NoPaper, u_NoText_NoPaper⟩⟩
  have ji_NoLine : mg "NoLine" = some (.ref J_NoLine) ∧ IsTm K mg (.ref J_NoLine) ci_NoLine := ⟨PySem.W.mg_of X G w_NoLine, isTm_of fun p hp => by
    simp only [List.mem_cons, List.not_mem_nil, or_false] at hp
    subst hp; exact ⟨C_NoPaper, PySem.W.mg_of X G e1_NoPaper, ex_NoPaper, u_NoLine_NoPaper⟩⟩
  have ji_MendError : mg "MendError" = some (.ref J_MendError) ∧ IsTm K mg (.ref J_MendError) ci_MendError := ⟨PySem.W.mg_of X G w_MendError, isTm_of fun p hp => by
    simp only [List.mem_cons, List.not_mem_nil, or_false] at hp
    subst hp; exact ⟨C_NoPaper, PySem.W.mg_of X G e1_NoPaper, ex_NoPaper, u_MendError_NoPaper⟩⟩
  have ji_WorkError : mg "WorkError" = some (.ref J_WorkError) ∧ IsTm K mg (.ref J_WorkError) ci_WorkError := ⟨PySem.W.mg_of X G w_WorkError, isTm_of fun p hp => by
    simp only [List.mem_cons, List.not_mem_nil, or_false] at hp
    subst hp; exact ⟨C_NoPaper, PySem.W.mg_of X G e1_NoPaper, ex_NoPaper, u_WorkError_NoPaper⟩⟩
  have ji_PaperError : mg "PaperError" = some (.ref J_PaperError) ∧ IsTm K mg (.ref J_PaperError) ci_PaperError := ⟨PySem.W.mg_of X G w_PaperError, isTm_of fun p hp => by
    simp only [List.mem_cons, List.not_mem_nil, or_false] at hp
    subst hp; exact ⟨C_NoPaper, PySem.W.mg_of X G e1_NoPaper, ex_NoPaper, u_PaperError_NoPaper⟩⟩
  have jq_word : FdTm K mg "word" fn_word := fdTm_of fun n hn => by
    unfold fn_word at hn
    simp only [List.mem_cons, List.not_mem_nil, or_false] at hn
    subst hn; exact ⟨C_NoPaper, PySem.W.mg_of X G e1_NoPaper, ex_NoPaper, f0_NoPaper⟩
  have jq_at : FdTm K mg "at" fn_at := fdTm_of fun n hn => by
    unfold fn_at at hn
    simp only [List.mem_cons, List.not_mem_nil, or_false] at hn
    subst hn; exact ⟨C_NoPaper, PySem.W.mg_of X G e1_NoPaper, ex_NoPaper, f1_NoPaper⟩
  have jq_name : FdTm K mg "name" fn_name := fdTm_of fun n hn => by
    unfold fn_name at hn
    simp only [List.mem_cons, List.not_mem_nil, or_false] at hn
  have h_L_feed := c_L_feed (P := l.prog) (w := w) (base := base) y_list (fun_mk (st := s_L_feed) l0 c0 k0) (PySem.W.mg_of X G a0)
  have h_L_draw := c_L_draw (P := l.prog) (w := w) (base := base) y_len (fun_mk (st := s_L_draw) l1 c1 k1) (PySem.W.mg_of X G a1)
  have h_L_judged := c_L_judged (P := l.prog) (w := w) (base := base) y_len y_isinstance y_tuple y_bool y_int (fun_mk (st := s_L_judged) l2 c2 k2) (PySem.W.mg_of X G a2)
  have h_L_no := c_L_no (P := l.prog) (w := w) (base := base) ji_NoPaper ji_NoName ji_NoStep ji_NoBack ji_NoPlace ji_NoDoing ji_NoMeeting ji_NoText ji_NoLine ji_MendError ji_WorkError ji_PaperError jq_word jq_at jq_name y_isinstance (fun_mk (st := s_L_no) l3 c3 k3) (PySem.W.mg_of X G a3)
  have h_L_said := c_L_said (P := l.prog) (w := w) (base := base) j_MendError h_L_no (fun_mk (st := s_L_said) l4 c4 k4) (PySem.W.mg_of X G a4)
  have h_is_number := c_is_number (P := l.prog) (w := w) (base := base) y_isinstance y_bool y_int (fun_mk (st := s_is_number) l5 c5 k5) (PySem.W.mg_of X G a5)
  have h_need_breach := c_need_breach (P := l.prog) (w := w) (base := base) x_NoPaper (fun_mk (st := s_need_breach) l6 c6 k6) (PySem.W.mg_of X G a6)
  have h_lets_breach := c_lets_breach (P := l.prog) (w := w) (base := base) h_is_number h_need_breach y_all y_len y_isinstance y_tuple y_max (fun_mk (st := s_lets_breach) l7 c7 k7) (PySem.W.mg_of X G a7)
  have h_law := c_law (P := l.prog) (w := w) (base := base) h_L_feed h_L_draw h_L_judged h_lets_breach h_L_said tB0 y_range y_tuple y_len y_repr (fun_mk (st := s_law) l8 c8 k8) (PySem.W.mg_of X G a8) rfl
  exact h_law.fn
end Md
open PySem
open PySem.W
open PyProof.Rows
set_option maxHeartbeats 0 in
theorem PySem.Challenge.cw_mendlines_k69_breaches_judged_holds : PySem.Challenge.rw_mendlines_k69_breaches_judged.Holds := by
  w_on; o_law; k_head; (case hw => w_witness2)
  k_fill
  refine L2.walk_ofT (m := true) (l := PySem.Challenge.rw_mendlines_k69_breaches_judged) (n := 63) (k := 7) (x := "_law_script") (fn := Md.f_law) (ls := ["law"]) rfl (by decide) rfl ⟨⟨rfl, by decide, by decide⟩, rfl⟩ (fun w h Y => PySem.W.km_in_of Y) (by decide +kernel) ?F Md.law_true
  case F =>
    intro w mg fa h KX G hmg htf
    refine' Md.all_mk KX G hmg ?a0 ?l0 ?c0 ?k0 ?a1 ?l1 ?c1 ?k1 ?a2 ?l2 ?c2 ?k2 ?a3 ?l3 ?c3 ?k3 ?a4 ?l4 ?c4 ?k4 ?a5 ?l5 ?c5 ?k5 ?a6 ?l6 ?c6 ?k6 ?a7 ?l7 ?c7 ?k7 ?a8 ?l8 ?c8 ?k8 ?z_list ?z_len ?z_isinstance ?z_tuple ?z_bool ?z_int ?z_all ?z_max ?z_range ?z_repr ?e1_NoPaper ?e2_NoPaper ?e3_NoPaper ?e4_NoPaper ?e5_NoPaper ?e6_NoPaper ?e7_NoPaper ?e8_NoPaper ?e9_NoPaper ?ea_NoPaper ?eb_NoPaper ?ec_NoPaper ?f0_NoPaper ?f1_NoPaper ?b1_NoPaper ?b2_NoPaper ?b3_NoPaper ?b4_NoPaper ?b5_NoPaper ?g_MendError ?m_MendError_NoPaper ?xa_NoPaper ?xb_NoPaper ?xd_NoPaper ?xe_NoPaper ?xo_NoPaper ?xf ?xg ?w_NoPaper ?w_NoName ?w_NoStep ?w_NoBack ?w_NoPlace ?w_NoDoing ?w_NoMeeting ?w_NoText ?w_NoLine ?w_MendError ?w_WorkError ?w_PaperError ?u_NoPaper_NoPaper ?u_NoName_NoPaper ?u_NoStep_NoPaper ?u_NoBack_NoPaper ?u_NoPlace_NoPaper ?u_NoDoing_NoPaper ?u_NoMeeting_NoPaper ?u_NoText_NoPaper ?u_NoLine_NoPaper ?u_MendError_NoPaper ?u_WorkError_NoPaper ?u_PaperError_NoPaper ?nt ?tf0
    (case a0 => k_is); (case l0 => k_is); (case c0 => k_is); (case k0 => k_is); (case a1 => k_is); (case l1 => k_is); (case c1 => k_is); (case k1 => k_is); (case a2 => k_is); (case l2 => k_is); (case c2 => k_is); (case k2 => k_is); (case a3 => k_is); (case l3 => k_is); (case c3 => k_is); (case k3 => k_is); (case a4 => k_is); (case l4 => k_is); (case c4 => k_is); (case k4 => k_is); (case a5 => k_is); (case l5 => k_is); (case c5 => k_is); (case k5 => k_is); (case a6 => k_is); (case l6 => k_is); (case c6 => k_is); (case k6 => k_is); (case a7 => k_is); (case l7 => k_is); (case c7 => k_is); (case k7 => k_is); (case a8 => k_is); (case l8 => k_is); (case c8 => k_is); (case k8 => k_is); (case z_list => k_is); (case z_len => k_is); (case z_isinstance => k_is); (case z_tuple => k_is); (case z_bool => k_is); (case z_int => k_is); (case z_all => k_is); (case z_max => k_is); (case z_range => k_is); (case z_repr => k_is); (case e1_NoPaper => k_is); (case e2_NoPaper => k_is); (case e3_NoPaper => exact rfl); (case e4_NoPaper => k_is); (case e5_NoPaper => k_is); (case e6_NoPaper => k_is); (case e7_NoPaper => k_is); (case e8_NoPaper => k_is); (case e9_NoPaper => k_is); (case ea_NoPaper => k_is); (case eb_NoPaper => k_is); (case ec_NoPaper => k_is); (case f0_NoPaper => k_is); (case f1_NoPaper => k_is); (case b1_NoPaper => k_is); (case b2_NoPaper => k_is); (case b3_NoPaper => k_is); (case b4_NoPaper => k_is); (case b5_NoPaper => k_is); (case g_MendError => k_is); (case m_MendError_NoPaper => exact rfl); (case xa_NoPaper => k_is); (case xb_NoPaper => k_is); (case xd_NoPaper => k_is); (case xe_NoPaper => k_is); (case xo_NoPaper => k_is); (case xf => k_is); (case xg => k_is); (case w_NoPaper => k_is); (case w_NoName => k_is); (case w_NoStep => k_is); (case w_NoBack => k_is); (case w_NoPlace => k_is); (case w_NoDoing => k_is); (case w_NoMeeting => k_is); (case w_NoText => k_is); (case w_NoLine => k_is); (case w_MendError => k_is); (case w_WorkError => k_is); (case w_PaperError => k_is); (case u_NoPaper_NoPaper => exact rfl); (case u_NoName_NoPaper => exact rfl); (case u_NoStep_NoPaper => exact rfl); (case u_NoBack_NoPaper => exact rfl); (case u_NoPlace_NoPaper => exact rfl); (case u_NoDoing_NoPaper => exact rfl); (case u_NoMeeting_NoPaper => exact rfl); (case u_NoText_NoPaper => exact rfl); (case u_NoLine_NoPaper => exact rfl); (case u_MendError_NoPaper => exact rfl); (case u_WorkError_NoPaper => exact rfl); (case u_PaperError_NoPaper => exact rfl); (case nt => exact rfl); (case tf0 => exact htf _ (by decide))

