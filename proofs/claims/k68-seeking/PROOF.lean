import PyProof.Rows.All
import Wide.All
import OpenK.AllK
import Wide.FinOn
import HandS.ForMost
import HandS.Exc
import HandS.Walk
import HandS.Deep
import HandS.TupAny
import HandS.Flow
import HandS.Wide
import HandS.Style
import HandS.IsInst
import PyProof.ReprRoads
import HandS.Words
import HandS.Defaults
import HandS.MakeKwOnly
import HandS.CallSlots
import HandS.ExcOwn
import KE.SortData
import HandS.SortRule
import HandS.Ends
import KE.GoesEnum
import HandS.Iter
import HandS.TupLe
import PySem.Challenge.RW_mendlines_k68_seeking
set_option Elab.async false
set_option linter.all false
set_option maxRecDepth 99999
set_option maxHeartbeats 3999999
namespace L2.Dl
open PySem
open PySem.Spec
open PyProof.Rows

/-- the module's written part, for the whole of a proof -/
class KF where
  frag : PySem.W.Frag
variable [KF]
mutual
inductive Rp (D : Hp) : V → PyData → Prop
  | non : Rp D .non .none
  | bl (b : Bool) : Rp D (.bl b) (.bool b)
  | int (i : Int) : Rp D (.int i) (.int i)
  | str (x : Str) : Rp D (.str x) (.str x)
  | lst {a : Addr} {vs : List V} {ds : List PyData} : D a = some (.lst vs) → RpL D vs ds → Rp D (.ref a) (.list ds)
  | tup {a : Addr} {vs : List V} {ds : List PyData} : D a = some (.tup vs) → RpL D vs ds → Rp D (.ref a) (.tuple ds)
  | nilK {a : Addr} : SqT KF.frag (fun _ => none) a [] → Rp D (.ref a) (.tuple [])
inductive RpL (D : Hp) : List V → List PyData → Prop
  | nil : RpL D [] []
  | cons {v : V} {vs : List V} {d : PyData} {ds : List PyData} : Rp D v d → RpL D vs ds → RpL D (v :: vs) (d :: ds)
end
mutual
theorem Rp.mono {D D' : Hp} (s : Same D D') : ∀ {v : V} {d : PyData}, Rp D v d → Rp D' v d
  | _, _, .non => .non
  | _, _, .bl b => .bl b
  | _, _, .int i => .int i
  | _, _, .str x => .str x
  | _, _, .lst h r => .lst (s _ _ h) (RpL.mono s r)
  | _, _, .tup h r => .tup (s _ _ h) (RpL.mono s r)
  | _, _, .nilK h => .nilK h
theorem RpL.mono {D D' : Hp} (s : Same D D') : ∀ {vs : List V} {ds : List PyData}, RpL D vs ds → RpL D' vs ds
  | _, _, .nil => .nil
  | _, _, .cons h r => .cons (Rp.mono s h) (RpL.mono s r)
end
theorem sqT_any {K : PySem.W.Frag} {D : Hp} {a : Addr} {vs : List V} (h : SqT K (fun _ => none) a vs) : SqT K D a vs := by
  rcases h with (h | ⟨o, h⟩) | h
  · cases h
  · cases h
  · exact .inr h
mutual
theorem Rp.dp {D : Hp} : ∀ {v : V} {d : PyData}, Rp D v d → Dp KF.frag D v d
  | _, _, .non => .non
  | _, _, .bl b => .bl b
  | _, _, .int i => .int i
  | _, _, .str x => .str x
  | _, _, .lst h r => .lst (.inl (.inl h)) (RpL.dp r)
  | _, _, .tup h r => .tup (.inl (.inl h)) (RpL.dp r)
  | _, _, .nilK h => .tup (sqT_any h) .nil
theorem RpL.dp {D : Hp} : ∀ {vs : List V} {ds : List PyData}, RpL D vs ds → DpAll KF.frag D vs ds
  | _, _, .nil => .nil
  | _, _, .cons h r => .cons (Rp.dp h) (RpL.dp r)
end
theorem RpL.length {D : Hp} : ∀ {vs : List V} {ds : List PyData}, RpL D vs ds → vs.length = ds.length
  | _, _, .nil => rfl
  | _, _, .cons _ r => congrArg (· + 1) (RpL.length r)
theorem RpL.append {D : Hp} : ∀ {vs ws : List V} {ds es : List PyData}, RpL D vs ds → RpL D ws es → RpL D (vs ++ ws) (ds ++ es)
  | _, _, _, _, .nil, q => q
  | _, _, _, _, .cons h r, q => .cons h (RpL.append r q)
theorem RpL.get {D : Hp} : ∀ {vs : List V} {ds : List PyData} {i : Nat} {v : V}, RpL D vs ds → vs[i]? = some v → ∃ d, ds[i]? = some d ∧ Rp D v d
  | _, _, _, _, .nil, e => by simp at e
  | _, _, 0, _, .cons h _, e => by
    simp at e
    subst e
    exact ⟨_, rfl, h⟩
  | _, _, i + 1, v, .cons _ r, e => by
    obtain ⟨d, h1, h2⟩ := RpL.get (i := i) (v := v) r (by simpa using e)
    exact ⟨d, by simpa using h1, h2⟩
theorem RpL.get' {D : Hp} : ∀ {vs : List V} {ds : List PyData} {i : Nat} {d : PyData}, RpL D vs ds → ds[i]? = some d → ∃ v, vs[i]? = some v ∧ Rp D v d
  | _, _, _, _, .nil, e => by simp at e
  | _, _, 0, _, .cons h _, e => by
    simp at e
    subst e
    exact ⟨_, rfl, h⟩
  | _, _, i + 1, d, .cons _ r, e => by
    obtain ⟨v, h1, h2⟩ := RpL.get' (i := i) (d := d) r (by simpa using e)
    exact ⟨v, by simpa using h1, h2⟩
theorem DpAll.length {K : PySem.W.Frag} {D : Hp} : ∀ {vs : List V} {ds : List PyData}, DpAll K D vs ds → vs.length = ds.length
  | _, _, .nil => rfl
  | _, _, .cons _ r => congrArg (· + 1) (DpAll.length r)
mutual
theorem Dp.mono {K : PySem.W.Frag} {D D' : Hp} (s : Same D D') : ∀ {v : V} {d : PyData}, Dp K D v d → Dp K D' v d
  | _, _, .non => .non
  | _, _, .bl b => .bl b
  | _, _, .int i => .int i
  | _, _, .str x => .str x
  | _, _, .lst h r => .lst (s.seq h) (DpAll.mono s r)
  | _, _, .tup (xs := xs) h r => .tup (by
      rcases h with (h | ⟨o, h⟩) | h
      · exact .inl (.inl (s _ _ h))
      · exact .inl (.inr ⟨o, s _ _ h⟩)
      · exact .inr h) (DpAll.mono s r)
theorem DpAll.mono {K : PySem.W.Frag} {D D' : Hp} (s : Same D D') : ∀ {vs : List V} {ds : List PyData}, DpAll K D vs ds → DpAll K D' vs ds
  | _, _, .nil => .nil
  | _, _, .cons h r => .cons (Dp.mono s h) (DpAll.mono s r)
end

/-- a dict: whether its keys are tuples, its pairs -/
structure DV where
  t : Bool
  kvs : List (PyData × PyData)
inductive Slot where
  | un
  | v (d : PyData)
  | own (par : Bool) (xs : List PyData)
  | dct (par : Bool) (kvs : DV)
  | gl (x : Str)
  | ro (xs : List PyData)
abbrev Nv := List Slot
/-- what an expression comes to: a value that stays, the thing a slot owns, a def -/
inductive OV where
  | d (x : PyData)
  | sl (i : Nat)
  | gl (x : Str)
structure Ex where
  cls : Str
  fs : List (Str × PyData)
inductive Res (α : Type) where
  | ok (a : α) (e : Nv)
  | exc (x : Ex) (e : Nv)
  | stuck
inductive SRes where
  | nx (e : Nv)
  | rt (d : PyData) (e : Nv)
  | rtD (kvs : DV) (e : Nv)
  | bk (e : Nv)
  | ct (e : Nv)
  | exc (x : Ex) (e : Nv)
  | stuck
abbrev DE := Nv → Res OV
abbrev DT := Nv → Res Bool
abbrev DL := Nv → Res (List PyData)
abbrev DK := Nv → Res DV
abbrev DS := Nv → SRes

/-- fixed while a def runs: the written part, the module's names, what others hold, the addresses of what was handed in -/
structure Cf where
  mg : Str → Option Value
  B : Hp
  pa : Nat → Option Addr

abbrev Cf.K (_ : Cf) : PySem.W.Frag := KF.frag
def kD : Key → PyData
  | .inl i => .int i
  | .inr x => .str x
def kDT (ks : List Key) : PyData := .tuple (ks.map kD)
def DctOk (D H : Hp) (a : Addr) (d : DV) : Prop :=
  (d.t = false ∧ ∃ kv : List (Key × V), H a = some (.dK kv) ∧ Paired (fun (p : Key × V) (q : PyData × PyData) => q.1 = kD p.1 ∧ Rp D p.2 q.2) kv d.kvs) ∨
  (d.t = true ∧ ∃ kv : List (List Key × V), H a = some (.dT kv) ∧ Paired (fun (p : List Key × V) (q : PyData × PyData) => q.1 = kDT p.1 ∧ Rp D p.2 q.2) kv d.kvs)
theorem DctOk.mono {D D' H H' : Hp} {a : Addr} {kvs : DV} (h : DctOk D H a kvs) (s : Same D D') (e : H' a = H a) : DctOk D' H' a kvs := by
  rcases h with ⟨h0, kv, h1, h2⟩ | ⟨h0, kv, h1, h2⟩
  · exact .inl ⟨h0, kv, e.trans h1, Paired.mapP h2 fun p q z => ⟨z.1, z.2.mono s⟩⟩
  · exact .inr ⟨h0, kv, e.trans h1, Paired.mapP h2 fun p q z => ⟨z.1, z.2.mono s⟩⟩
theorem DctOk.tracked {D H : Hp} {a : Addr} {d : DV} (h : DctOk D H a d) : ∃ u, H a = some u := by
  rcases h with ⟨_, kv, h1, _⟩ | ⟨_, kv, h1, _⟩ <;> exact ⟨_, h1⟩
def SlotOk (c : Cf) (D H : Hp) (i : Nat) (x : Option V) : Slot → Prop
  | .un => True
  | .v d => ∃ v, x = some v ∧ Rp D v d
  | .own p xs => ∃ a vs, x = some (.ref a) ∧ H a = some (.lst vs) ∧ RpL D vs xs ∧ D a = none ∧ c.B a = none ∧ (p = true → c.pa i = some a)
  | .dct p kvs => ∃ a, x = some (.ref a) ∧ DctOk D H a kvs ∧ D a = none ∧ c.B a = none ∧ (p = true → c.pa i = some a)
  | .gl n => ∃ f, x = some (.ref f) ∧ c.mg n = some (.ref f)
  | .ro xs => ∃ a vs, x = some (.ref a) ∧ SqL c.K D a vs ∧ RpL D vs xs
def Slot.owns : Slot → Bool
  | .own _ _ => true
  | .dct _ _ => true
  | _ => false
structure Sim (c : Cf) (D : Hp) (env : Nv) (σ : St) (H : Hp) : Prop where
  dh : Same D H
  bh : Same c.B H
  bd : ∀ a o, c.B a = some o → D a = none
  len : env.length = σ.length
  slot : ∀ (i : Nat) (s : Slot), env[i]? = some s → SlotOk c D H i ((σ[i]?).join) s
  apart : ∀ (i j : Nat) (s t : Slot) (a : Addr), env[i]? = some s → env[j]? = some t → s.owns = true → t.owns = true → (σ[i]?).join = some (V.ref a) → (σ[j]?).join = some (V.ref a) → i = j

theorem SlotOk.lift {c : Cf} {D D' H H' : Hp} {i : Nat} {x : Option V} {s : Slot} (h : SlotOk c D H i x s) (sD : Same D D') (hH : ∀ a, x = some (.ref a) → s.owns = true → H' a = H a ∧ (D a = none → D' a = none)) : SlotOk c D' H' i x s := by
  cases s with
  | un => trivial
  | v d => obtain ⟨v, e, r⟩ := h; exact ⟨v, e, r.mono sD⟩
  | own p xs =>
    obtain ⟨a, vs, e, h1, h2, h3, h4, h5⟩ := h
    obtain ⟨k1, k2⟩ := hH a e rfl
    exact ⟨a, vs, e, k1.trans h1, h2.mono sD, k2 h3, h4, h5⟩
  | dct p kvs =>
    obtain ⟨a, e, h1, h3, h4, h5⟩ := h
    obtain ⟨k1, k2⟩ := hH a e rfl
    exact ⟨a, e, h1.mono sD k1, k2 h3, h4, h5⟩
  | gl n => exact h
  | ro xs => obtain ⟨a, vs, e, h1, h2⟩ := h; exact ⟨a, vs, e, sD.seq h1, h2.mono sD⟩
/-- the address that an owning slot holds is tracked in H -/
theorem SlotOk.tracked {c : Cf} {D H : Hp} {i : Nat} {x : Option V} {s : Slot} (h : SlotOk c D H i x s) (o : s.owns = true) : ∃ a u, x = some (.ref a) ∧ H a = some u ∧ D a = none ∧ c.B a = none := by
  cases s with
  | own p xs => obtain ⟨a, vs, e, h1, h2, h3, h4, h5⟩ := h; exact ⟨a, _, e, h1, h3, h4⟩
  | dct p kvs =>
    obtain ⟨a, e, h1, h3, h4, h5⟩ := h
    obtain ⟨u, hu⟩ := h1.tracked
    exact ⟨a, u, e, hu, h3, h4⟩
  | un => cases o
  | v d => cases o
  | gl n => cases o
  | ro xs => cases o

theorem same_upd' {H : Hp} {p : Addr} {o : HO} (h : H p = none) : Same H (upd H p o) := fun b x e => by
  rw [upd_ne (ne_of_none e h)]
  exact e
section
variable {c : Cf} {D D' : Hp} {env : Nv} {σ : St} {H H' : Hp} {p : Addr} {o : HO}
/-- a new thing stands at p, in the frozen part -/
theorem Sim.laid (S : Sim c D env σ H) (hp : H p = none) (o : HO) : Sim c (upd D p o) env σ (upd H p o) := by
  have hpD : D p = none := S.dh.free hp
  have hpB : c.B p = none := S.bh.free hp
  refine ⟨fun a u e => ?_, S.bh.trans (same_upd' hp), fun a u e => ?_, S.len, fun i s e => (S.slot i s e).lift (same_upd' hpD) fun a ea ho => ?_, S.apart⟩
  · by_cases ha : a = p
    · subst ha; rw [upd_same] at e ⊢; exact e
    · rw [upd_ne ha] at e ⊢; exact S.dh a u e
  · have ha : a ≠ p := ne_of_none e hpB
    rw [upd_ne ha]; exact S.bd a u e
  · obtain ⟨a', u, e1, e2, e3, e4⟩ := (S.slot i s e).tracked ho
    rw [ea] at e1; cases e1
    have ha : a ≠ p := ne_of_none e2 hp
    rw [upd_ne ha, upd_ne ha]
    exact ⟨rfl, fun z => z⟩
/-- .. outside of it -/
theorem Sim.grow (S : Sim c D env σ H) (hp : H p = none) (o : HO) : Sim c D env σ (upd H p o) := by
  refine ⟨S.dh.trans (same_upd' hp), S.bh.trans (same_upd' hp), S.bd, S.len, fun i s e => (S.slot i s e).lift (Same.refl D) fun a ea ho => ?_, S.apart⟩
  obtain ⟨a', u, e1, e2, e3, e4⟩ := (S.slot i s e).tracked ho
  rw [ea] at e1; cases e1
  exact ⟨upd_ne (ne_of_none e2 hp), fun z => z⟩
end
end L2.Dl

namespace L2.Dl
open PySem
open PySem.Spec
open PyProof.Rows
variable [KF]

def OVR (c : Cf) (D : Hp) (σ : St) (v : V) : OV → Prop
  | .d x => Rp D v x
  | .sl i => (σ[i]?).join = some v
  | .gl n => ∃ f, v = .ref f ∧ c.mg n = some (.ref f)
inductive OVRL (c : Cf) (D : Hp) (σ : St) : List V → List OV → Prop
  | nil : OVRL c D σ [] []
  | cons {v : V} {vs : List V} {o : OV} {os : List OV} : OVR c D σ v o → OVRL c D σ vs os → OVRL c D σ (v :: vs) (o :: os)
theorem OVR.mono {c : Cf} {D D' : Hp} {σ : St} {v : V} {o : OV} (h : OVR c D σ v o) (s : Same D D') : OVR c D' σ v o := by
  cases o with
  | d x => exact Rp.mono s h
  | sl i => exact h
  | gl n => exact h
theorem OVRL.mono {c : Cf} {D D' : Hp} {σ : St} (s : Same D D') : ∀ {vs : List V} {os : List OV}, OVRL c D σ vs os → OVRL c D' σ vs os
  | _, _, .nil => .nil
  | _, _, .cons h r => .cons (h.mono s) (OVRL.mono s r)
def getOV (env : Nv) : OV → Option PyData
  | .d x => some x
  | .sl i => match env[i]? with
    | some (.own _ xs) => some (.list xs)
    | some (.v d) => some d
    | _ => none
  | .gl _ => none
def pinOV (env : Nv) : OV → Option (PyData × Nv)
  | .d x => some (x, env)
  | .sl i => match env[i]? with
    | some (.own false xs) => some (.list xs, env.set i (.v (.list xs)))
    | some (.v d) => some (d, env)
    | _ => none
  | .gl _ => none
section
variable {c : Cf} {D D0 D' : Hp} {env env' : Nv} {σ : St} {H H' : Hp} {v : V} {o : OV} {x : PyData}
theorem Sim.sl (S : Sim c D env σ H) {i : Nat} {s : Slot} (e : env[i]? = some s) (h : (σ[i]?).join = some v) : SlotOk c D H i (some v) s := by
  have := S.slot i s e
  rw [h] at this
  exact this
theorem Sim.get (S : Sim c D env σ H) (r : OVR c D0 σ v o) (s : Same D0 D) (g : getOV env o = some x) : Dp c.K H v x := by
  cases o with
  | d y =>
    cases g
    exact Dp.mono S.dh (Rp.dp (r.mono s))
  | sl i =>
    have r : (σ[i]?).join = some v := r
    simp only [getOV] at g
    split at g
    · rename_i p xs e
      cases g
      obtain ⟨a, vs, e1, h1, h2, h3⟩ := S.sl e r
      cases e1
      exact .lst (.inl (.inl h1)) (DpAll.mono S.dh (RpL.dp h2))
    · rename_i d e
      cases g
      obtain ⟨v', e1, h1⟩ := S.sl e r
      cases e1
      exact Dp.mono S.dh (Rp.dp h1)
    · cases g
  | gl n => cases g
/-- an owned list becomes a value that stays -/
theorem Sim.freeze (S : Sim c D env σ H) {i : Nat} {xs : List PyData} (e : env[i]? = some (.own false xs)) (h : (σ[i]?).join = some v) :
    ∃ D', Sim c D' (env.set i (.v (.list xs))) σ H ∧ Same D D' ∧ Rp D' v (.list xs) := by
  obtain ⟨a, vs, e1, h1, h2, h3, h4, h5⟩ := S.sl e h
  cases e1
  have hi : i < env.length := (List.getElem?_eq_some_iff.mp e).1
  refine ⟨upd D a (.lst vs), ⟨fun b u q => ?_, S.bh, fun b u q => ?_, by simpa using S.len, fun j s q => ?_, fun j k s t b ej ek oj ok hj hk => ?_⟩, same_upd' h3, .lst upd_same (h2.mono (same_upd' h3))⟩
  · by_cases hb : b = a
    · subst hb; rw [upd_same] at q; cases q; exact h1
    · rw [upd_ne hb] at q; exact S.dh b u q
  · have hb : b ≠ a := ne_of_none q h4
    rw [upd_ne hb]; exact S.bd b u q
  · by_cases hj : j = i
    · subst hj
      rw [List.getElem?_set_self hi] at q
      cases q
      exact ⟨_, h, .lst upd_same (h2.mono (same_upd' h3))⟩
    · rw [List.getElem?_set_ne (Ne.symm hj)] at q
      refine (S.slot j s q).lift (same_upd' h3) fun b eb ho => ⟨rfl, fun hn => ?_⟩
      have hb : b ≠ a := by
        rintro rfl
        exact hj (S.apart j i s _ b q e ho rfl eb h)
      rw [upd_ne hb]; exact hn
  · have nj : j ≠ i := by
      rintro rfl
      rw [List.getElem?_set_self hi] at ej; cases ej; cases oj
    have nk : k ≠ i := by
      rintro rfl
      rw [List.getElem?_set_self hi] at ek; cases ek; cases ok
    rw [List.getElem?_set_ne (Ne.symm nj)] at ej
    rw [List.getElem?_set_ne (Ne.symm nk)] at ek
    exact S.apart j k s t b ej ek oj ok hj hk
theorem Sim.pin (S : Sim c D env σ H) (r : OVR c D σ v o) (g : pinOV env o = some (x, env')) : ∃ D', Sim c D' env' σ H ∧ Same D D' ∧ Rp D' v x := by
  cases o with
  | d y => cases g; exact ⟨D, S, Same.refl D, r⟩
  | sl i =>
    have r : (σ[i]?).join = some v := r
    simp only [pinOV] at g
    split at g
    · rename_i xs e
      cases g
      exact S.freeze e r
    · rename_i d e
      cases g
      obtain ⟨v', e1, h1⟩ := S.sl e r
      cases e1
      exact ⟨D, S, Same.refl D, h1⟩
    · cases g
  | gl n => cases g
end

def ExR (c : Cf) (D H : Hp) (x : Ex) (cls : Value) (d : Option Addr) : Prop :=
  ∃ C, cls = .ref C ∧ c.mg x.cls = some (.ref C) ∧
    match d with
    | some a => ∃ fs : List (Str × V), H a = some (.xd fs) ∧ Paired (fun (p : Str × V) (q : Str × PyData) => p.1 = q.1 ∧ Rp D p.2 q.2) fs x.fs
    | none => x.fs = []
def PostX (W : WX) (c : Cf) (D : Hp) (σ : St) (x : Ex) (env' : Nv) : Prop :=
  ∀ cls d H' D', Sim c D' env' σ H' → Same D D' → ExR c D' H' x cls d → W cls d σ H'
def PostE (W : WX) (c : Cf) (D : Hp) (σ : St) (Q : VK) : Res OV → Prop
  | .ok o env' => ∀ v H' D', Sim c D' env' σ H' → Same D D' → OVR c D' σ v o → Q v H'
  | .exc x env' => PostX W c D σ x env'
  | .stuck => False
def PostT (W : WX) (c : Cf) (D : Hp) (σ : St) (Q : Bool → Hp → Prop) : Res Bool → Prop
  | .ok b env' => ∀ H' D', Sim c D' env' σ H' → Same D D' → Q b H'
  | .exc x env' => PostX W c D σ x env'
  | .stuck => False
def PostA (W : WX) (c : Cf) (D : Hp) (σ : St) (Q : List V → Hp → Prop) : Res (List OV) → Prop
  | .ok os env' => ∀ vs H' D', Sim c D' env' σ H' → Same D D' → OVRL c D' σ vs os → Q vs H'
  | .exc x env' => PostX W c D σ x env'
  | .stuck => False
/-- a new list: its address is not tracked yet -/
def PostL (W : WX) (c : Cf) (D : Hp) (σ : St) (Q : VK) : Res (List PyData) → Prop
  | .ok xs env' => ∀ p vs H' D', Sim c D' env' σ H' → Same D D' → H' p = none → RpL D' vs xs → Q (.ref p) (upd H' p (.lst vs))
  | .exc x env' => PostX W c D σ x env'
  | .stuck => False
/-- a new dict -/
def PostK (W : WX) (c : Cf) (D : Hp) (σ : St) (Q : VK) : Res DV → Prop
  | .ok kvs env' => ∀ p o H' D', Sim c D' env' σ H' → Same D D' → H' p = none → DctOk D' (upd H' p o) p kvs → Q (.ref p) (upd H' p o)
  | .exc x env' => PostX W c D σ x env'
  | .stuck => False
def PostS (W : WX) (c : Cf) (D : Hp) (De : Ends) : SRes → Prop
  | .nx env' => ∀ σ' H' D', Sim c D' env' σ' H' → Same D D' → De.nx σ' H'
  | .bk env' => ∀ σ' H' D', Sim c D' env' σ' H' → Same D D' → De.bk σ' H'
  | .ct env' => ∀ σ' H' D', Sim c D' env' σ' H' → Same D D' → De.ct σ' H'
  | .rt x env' => ∀ v σ' H' D', Sim c D' env' σ' H' → Same D D' → Rp D' v x → De.rt v H'
  | .rtD kvs env' => ∀ p o σ' H' D', Sim c D' env' σ' H' → Same D D' → H' p = none → DctOk D' (upd H' p o) p kvs → De.rt (.ref p) (upd H' p o)
  | .exc x env' => ∀ σ', PostX W c D σ' x env'
  | .stuck => False
def EOf (W : WX) (c : Cf) (d : DE) : TE := fun σ H Q => ∃ D env, Sim c D env σ H ∧ PostE W c D σ Q (d env)
def TOf (W : WX) (c : Cf) (d : DT) : TT := fun σ H Q => ∃ D env, Sim c D env σ H ∧ PostT W c D σ Q (d env)
def AOf (W : WX) (c : Cf) (d : Nv → Res (List OV)) : TA := fun σ H Q => ∃ D env, Sim c D env σ H ∧ PostA W c D σ Q (d env)
def LOf (W : WX) (c : Cf) (d : DL) : TE := fun σ H Q => ∃ D env, Sim c D env σ H ∧ PostL W c D σ Q (d env)
def KOf' (W : WX) (c : Cf) (d : DK) : TE := fun σ H Q => ∃ D env, Sim c D env σ H ∧ PostK W c D σ Q (d env)
def SOf (W : WX) (c : Cf) (d : DS) : TS := fun De σ H => ∃ D env, Sim c D env σ H ∧ PostS W c D De (d env)

def Res.bd {α β : Type} (r : Res α) (k : α → Nv → Res β) : Res β := match r with
  | .ok a e => k a e
  | .exc x e => .exc x e
  | .stuck => .stuck
def Res.bs {α : Type} (r : Res α) (k : α → Nv → SRes) : SRes := match r with
  | .ok a e => k a e
  | .exc x e => .exc x e
  | .stuck => .stuck
def optR {α : Type} (o : Option α) (env : Nv) : Res α := match o with
  | some a => .ok a env
  | none => .stuck

section
variable {X : Cx} {e : Expr} {st : Stmt} {sts : List Stmt} {es : List Expr}
theorem _root_.L2.PE.weak {t t' : TE} (h : PE X e t) (w : ∀ σ H Q, t' σ H Q → t σ H Q) : PE X e t' := ⟨fun pins s σ H Q I q => h.run pins s σ H Q I (w σ H Q q)⟩
theorem _root_.L2.PT.weak {t t' : TT} (h : PT X e t) (w : ∀ σ H Q, t' σ H Q → t σ H Q) : PT X e t' := ⟨fun pins s σ H Q I q => h.run pins s σ H Q I (w σ H Q q)⟩
theorem _root_.L2.PA.weak {t t' : TA} (h : PA X es t) (w : ∀ σ H Q, t' σ H Q → t σ H Q) : PA X es t' := ⟨fun pos pins s σ H Q I q => h.run pos pins s σ H Q I (w σ H Q q)⟩
theorem _root_.L2.PS.weak {t t' : TS} (h : PS X st t) (w : ∀ D σ H, t' D σ H → t D σ H) : PS X st t' := ⟨fun pins s σ H D I q => h.run pins s σ H D I (w D σ H q)⟩
theorem _root_.L2.PSs.weak {t t' : TS} (h : PSs X sts t) (w : ∀ D σ H, t' D σ H → t D σ H) : PSs X sts t' := ⟨fun pins s σ H D I q => h.run pins s σ H D I (w D σ H q)⟩
end

section
variable {W : WX} {c : Cf} {D D1 : Hp} {env : Nv} {σ : St} {H : Hp} {x : Ex}
theorem PostX.mono {env' : Nv} (h : PostX W c D σ x env') (s : Same D D1) : PostX W c D1 σ x env' := fun cls d H' D' S q r => h cls d H' D' S (s.trans q) r
theorem PostE.mono {Q : VK} {r : Res OV} (h : PostE W c D σ Q r) (s : Same D D1) : PostE W c D1 σ Q r := by
  cases r with
  | ok o e => exact fun v H' D' S q r => h v H' D' S (s.trans q) r
  | exc x e => exact PostX.mono h s
  | stuck => exact h
theorem PostT.mono {Q : Bool → Hp → Prop} {r : Res Bool} (h : PostT W c D σ Q r) (s : Same D D1) : PostT W c D1 σ Q r := by
  cases r with
  | ok o e => exact fun H' D' S q => h H' D' S (s.trans q)
  | exc x e => exact PostX.mono h s
  | stuck => exact h
theorem PostA.mono {Q : List V → Hp → Prop} {r : Res (List OV)} (h : PostA W c D σ Q r) (s : Same D D1) : PostA W c D1 σ Q r := by
  cases r with
  | ok o e => exact fun v H' D' S q r => h v H' D' S (s.trans q) r
  | exc x e => exact PostX.mono h s
  | stuck => exact h
theorem PostL.mono {Q : VK} {r : Res (List PyData)} (h : PostL W c D σ Q r) (s : Same D D1) : PostL W c D1 σ Q r := by
  cases r with
  | ok o e => exact fun p vs H' D' S q r => h p vs H' D' S (s.trans q) r
  | exc x e => exact PostX.mono h s
  | stuck => exact h
theorem PostK.mono {Q : VK} {r : Res DV} (h : PostK W c D σ Q r) (s : Same D D1) : PostK W c D1 σ Q r := by
  cases r with
  | ok o e => exact fun p vs H' D' S q r => h p vs H' D' S (s.trans q) r
  | exc x e => exact PostX.mono h s
  | stuck => exact h
theorem PostS.mono {De : Ends} {r : SRes} (h : PostS W c D De r) (s : Same D D1) : PostS W c D1 De r := by
  cases r with
  | nx e => exact fun σ' H' D' S q => h σ' H' D' S (s.trans q)
  | bk e => exact fun σ' H' D' S q => h σ' H' D' S (s.trans q)
  | ct e => exact fun σ' H' D' S q => h σ' H' D' S (s.trans q)
  | rt y e => exact fun v σ' H' D' S q r => h v σ' H' D' S (s.trans q) r
  | rtD y e => exact fun p o σ' H' D' S q r => h p o σ' H' D' S (s.trans q) r
  | exc x e => exact fun σ' => PostX.mono (h σ') s
  | stuck => exact h

/-- an expression first, then what its result asks: E(xpression) into any end P -/
theorem EOf.bind {r : Res OV} {R : V → Hp → Prop} (hx : ∀ y e, r = .exc y e → PostX W c D σ y e) (hs : r ≠ .stuck)
    (h : ∀ o env1, r = .ok o env1 → ∀ v H1 D1, Sim c D1 env1 σ H1 → Same D D1 → OVR c D1 σ v o → R v H1) : PostE W c D σ R r := by
  cases r with
  | ok o e => exact fun v H1 D1 S q rr => h o e rfl v H1 D1 S q rr
  | exc y e => exact hx y e rfl
  | stuck => exact absurd rfl hs
theorem PostE.bd {r : Res OV} {k : OV → Nv → Res OV} {Q : VK} (h : PostE W c D σ Q (r.bd k)) :
    PostE W c D σ (fun v H1 => ∃ D1 env1 o, Sim c D1 env1 σ H1 ∧ Same D D1 ∧ OVR c D1 σ v o ∧ r = .ok o env1 ∧ PostE W c D1 σ Q (k o env1)) r := by
  cases r with
  | ok o e => exact fun v H1 D1 S q rr => ⟨D1, e, o, S, q, rr, rfl, PostE.mono h q⟩
  | exc y e => exact h
  | stuck => exact h
theorem PostE.bdT {r : Res OV} {k : OV → Nv → Res Bool} {Q : Bool → Hp → Prop} (h : PostT W c D σ Q (r.bd k)) :
    PostE W c D σ (fun v H1 => ∃ D1 env1 o, Sim c D1 env1 σ H1 ∧ Same D D1 ∧ OVR c D1 σ v o ∧ r = .ok o env1 ∧ PostT W c D1 σ Q (k o env1)) r := by
  cases r with
  | ok o e => exact fun v H1 D1 S q rr => ⟨D1, e, o, S, q, rr, rfl, PostT.mono h q⟩
  | exc y e => exact h
  | stuck => exact h
theorem PostE.bdA {r : Res OV} {k : OV → Nv → Res (List OV)} {Q : List V → Hp → Prop} (h : PostA W c D σ Q (r.bd k)) :
    PostE W c D σ (fun v H1 => ∃ D1 env1 o, Sim c D1 env1 σ H1 ∧ Same D D1 ∧ OVR c D1 σ v o ∧ r = .ok o env1 ∧ PostA W c D1 σ Q (k o env1)) r := by
  cases r with
  | ok o e => exact fun v H1 D1 S q rr => ⟨D1, e, o, S, q, rr, rfl, PostA.mono h q⟩
  | exc y e => exact h
  | stuck => exact h
theorem PostE.bdL {r : Res OV} {k : OV → Nv → Res (List PyData)} {Q : VK} (h : PostL W c D σ Q (r.bd k)) :
    PostE W c D σ (fun v H1 => ∃ D1 env1 o, Sim c D1 env1 σ H1 ∧ Same D D1 ∧ OVR c D1 σ v o ∧ r = .ok o env1 ∧ PostL W c D1 σ Q (k o env1)) r := by
  cases r with
  | ok o e => exact fun v H1 D1 S q rr => ⟨D1, e, o, S, q, rr, rfl, PostL.mono h q⟩
  | exc y e => exact h
  | stuck => exact h
theorem PostE.bs {r : Res OV} {k : OV → Nv → SRes} {De : Ends} (h : PostS W c D De (r.bs k)) :
    PostE W c D σ (fun v H1 => ∃ D1 env1 o, Sim c D1 env1 σ H1 ∧ Same D D1 ∧ OVR c D1 σ v o ∧ r = .ok o env1 ∧ PostS W c D1 De (k o env1)) r := by
  cases r with
  | ok o e => exact fun v H1 D1 S q rr => ⟨D1, e, o, S, q, rr, rfl, PostS.mono h q⟩
  | exc y e => exact h σ
  | stuck => exact h
theorem PostA.bd {r : Res (List OV)} {k : List OV → Nv → Res OV} {Q : VK} (h : PostE W c D σ Q (r.bd k)) :
    PostA W c D σ (fun v H1 => ∃ D1 env1 o, Sim c D1 env1 σ H1 ∧ Same D D1 ∧ OVRL c D1 σ v o ∧ r = .ok o env1 ∧ PostE W c D1 σ Q (k o env1)) r := by
  cases r with
  | ok o e => exact fun v H1 D1 S q rr => ⟨D1, e, o, S, q, rr, rfl, PostE.mono h q⟩
  | exc y e => exact h
  | stuck => exact h
theorem PostA.bdL {r : Res (List OV)} {k : List OV → Nv → Res (List PyData)} {Q : VK} (h : PostL W c D σ Q (r.bd k)) :
    PostA W c D σ (fun v H1 => ∃ D1 env1 o, Sim c D1 env1 σ H1 ∧ Same D D1 ∧ OVRL c D1 σ v o ∧ r = .ok o env1 ∧ PostL W c D1 σ Q (k o env1)) r := by
  cases r with
  | ok o e => exact fun v H1 D1 S q rr => ⟨D1, e, o, S, q, rr, rfl, PostL.mono h q⟩
  | exc y e => exact h
  | stuck => exact h
theorem PostA.bdA {r : Res (List OV)} {k : List OV → Nv → Res (List OV)} {Q : List V → Hp → Prop} (h : PostA W c D σ Q (r.bd k)) :
    PostA W c D σ (fun v H1 => ∃ D1 env1 o, Sim c D1 env1 σ H1 ∧ Same D D1 ∧ OVRL c D1 σ v o ∧ r = .ok o env1 ∧ PostA W c D1 σ Q (k o env1)) r := by
  cases r with
  | ok o e => exact fun v H1 D1 S q rr => ⟨D1, e, o, S, q, rr, rfl, PostA.mono h q⟩
  | exc y e => exact h
  | stuck => exact h
theorem PostT.bd {r : Res Bool} {k : Bool → Nv → Res OV} {Q : VK} (h : PostE W c D σ Q (r.bd k)) :
    PostT W c D σ (fun b H1 => ∃ D1 env1, Sim c D1 env1 σ H1 ∧ Same D D1 ∧ r = .ok b env1 ∧ PostE W c D1 σ Q (k b env1)) r := by
  cases r with
  | ok o e => exact fun H1 D1 S q => ⟨D1, e, S, q, rfl, PostE.mono h q⟩
  | exc y e => exact h
  | stuck => exact h
theorem PostT.bdT {r : Res Bool} {k : Bool → Nv → Res Bool} {Q : Bool → Hp → Prop} (h : PostT W c D σ Q (r.bd k)) :
    PostT W c D σ (fun b H1 => ∃ D1 env1, Sim c D1 env1 σ H1 ∧ Same D D1 ∧ r = .ok b env1 ∧ PostT W c D1 σ Q (k b env1)) r := by
  cases r with
  | ok o e => exact fun H1 D1 S q => ⟨D1, e, S, q, rfl, PostT.mono h q⟩
  | exc y e => exact h
  | stuck => exact h
theorem PostT.bs {r : Res Bool} {k : Bool → Nv → SRes} {De : Ends} (h : PostS W c D De (r.bs k)) :
    PostT W c D σ (fun b H1 => ∃ D1 env1, Sim c D1 env1 σ H1 ∧ Same D D1 ∧ r = .ok b env1 ∧ PostS W c D1 De (k b env1)) r := by
  cases r with
  | ok o e => exact fun H1 D1 S q => ⟨D1, e, S, q, rfl, PostS.mono h q⟩
  | exc y e => exact h σ
  | stuck => exact h
theorem PostL.bs {r : Res (List PyData)} {k : List PyData → Nv → SRes} {De : Ends} (h : PostS W c D De (r.bs k)) :
    PostL W c D σ (fun v H1 => ∃ D1 env1 xs p vs H', v = .ref p ∧ H1 = upd H' p (.lst vs) ∧ H' p = none ∧ RpL D1 vs xs ∧ Sim c D1 env1 σ H' ∧ Same D D1 ∧ r = .ok xs env1 ∧ PostS W c D1 De (k xs env1)) r := by
  cases r with
  | ok o e => exact fun p vs H1 D1 S q hp rr => ⟨D1, e, o, p, vs, H1, rfl, rfl, hp, rr, S, q, rfl, PostS.mono h q⟩
  | exc y e => exact h σ
  | stuck => exact h
end
end L2.Dl

namespace L2.Dl
open PySem
open PySem.Spec
open PyProof.Rows
variable [KF]

/-- read at this moment: the thing itself may be one that a slot owns -/
def Rq (D H : Hp) (v : V) (x : PyData) : Prop :=
  Rp D v x ∨ ∃ a vs ds, v = .ref a ∧ x = .list ds ∧ H a = some (.lst vs) ∧ RpL D vs ds
theorem Rq.dp {D H : Hp} {v : V} {x : PyData} (r : Rq D H v x) (s : Same D H) : Dp KF.frag H v x := by
  rcases r with r | ⟨a, vs, ds, rfl, rfl, e, r⟩
  · exact Dp.mono s (Rp.dp r)
  · exact .lst (.inl (.inl e)) (DpAll.mono s (RpL.dp r))
section
variable {c : Cf} {D D0 D' : Hp} {env env' : Nv} {σ : St} {H H' : Hp} {v : V} {o : OV} {x : PyData}
theorem Sim.getq (S : Sim c D env σ H) (r : OVR c D0 σ v o) (s : Same D0 D) (g : getOV env o = some x) : Rq D H v x := by
  cases o with
  | d y => cases g; exact .inl (r.mono s)
  | sl i =>
    have r : (σ[i]?).join = some v := r
    simp only [getOV] at g
    split at g
    · rename_i p xs e
      cases g
      obtain ⟨a, vs, e1, h1, h2, h3⟩ := S.sl e r
      cases e1
      exact .inr ⟨a, vs, xs, rfl, rfl, h1, h2⟩
    · rename_i d e
      cases g
      obtain ⟨v', e1, h1⟩ := S.sl e r
      cases e1
      exact .inl h1
    · cases g
  | gl n => cases g
end
theorem Rq.int {D H : Hp} {v : V} {i : Int} (r : Rq D H v (.int i)) : v = .int i := by
  rcases r with r | ⟨_, _, _, _, e, _⟩
  · cases r; rfl
  · cases e
theorem Rq.str {D H : Hp} {v : V} {i : Str} (r : Rq D H v (.str i)) : v = .str i := by
  rcases r with r | ⟨_, _, _, _, e, _⟩
  · cases r; rfl
  · cases e
theorem Rq.bl {D H : Hp} {v : V} {i : Bool} (r : Rq D H v (.bool i)) : v = .bl i := by
  rcases r with r | ⟨_, _, _, _, e, _⟩
  · cases r; rfl
  · cases e
theorem Rq.non {D H : Hp} {v : V} (r : Rq D H v .none) : v = .non := by
  rcases r with r | ⟨_, _, _, _, e, _⟩
  · cases r; rfl
  · cases e
theorem Rq.isNon {D H : Hp} {v : V} {x : PyData} (r : Rq D H v x) : (v = .non) ↔ x = .none := by
  rcases r with r | ⟨_, _, _, rfl, rfl, _⟩
  · cases r <;> simp
  · simp
theorem Rp.tupS {D : Hp} {v : V} {ds : List PyData} (r : Rp D v (.tuple ds)) : ∃ a vs, v = .ref a ∧ SqT KF.frag D a vs ∧ RpL D vs ds := by
  cases r with
  | tup h q => exact ⟨_, _, rfl, .of h, q⟩
  | nilK h => exact ⟨_, _, rfl, sqT_any h, .nil⟩
theorem _root_.L2.SqT.same {K : PySem.W.Frag} {D H : Hp} {a : Addr} {vs : List V} (h : SqT K D a vs) (s : Same D H) : SqT K H a vs := by
  rcases h with (h | ⟨o, h⟩) | h
  · exact .inl (.inl (s _ _ h))
  · exact .inl (.inr ⟨o, s _ _ h⟩)
  · exact .inr h
theorem Rq.tup {D H : Hp} {v : V} {ds : List PyData} (r : Rq D H v (.tuple ds)) : Rp D v (.tuple ds) ∧ ∃ a vs, v = .ref a ∧ SqT KF.frag D a vs ∧ RpL D vs ds := by
  rcases r with r | ⟨_, _, _, _, e, _⟩
  · exact ⟨r, r.tupS⟩
  · cases e
theorem Rq.lst {D H : Hp} {v : V} {ds : List PyData} (r : Rq D H v (.list ds)) (s : Same D H) : ∃ a vs, v = .ref a ∧ H a = some (.lst vs) ∧ RpL D vs ds := by
  rcases r with r | ⟨a, vs, es, rfl, e, h, q⟩
  · cases r with
    | lst h q => exact ⟨_, _, rfl, s _ _ h, q⟩
  · cases e; exact ⟨a, vs, rfl, h, q⟩

/-- a result at this moment: of the frozen part, or a new tuple -/
def NewR (D H : Hp) (v : V) (z : PyData) (H' : Hp) : Prop :=
  (H' = H ∧ Rp D v z) ∨ (∃ p vs zs, v = .ref p ∧ H p = none ∧ H' = upd H p (.tup vs) ∧ z = .tuple zs ∧ RpL D vs zs) ∨
  ∃ p vs zs, v = .ref p ∧ H p = none ∧ H' = upd H p (.lst vs) ∧ z = .list zs ∧ RpL D vs zs
theorem NewR.tup {D H : Hp} {p : Addr} {vs : List V} {zs : List PyData} (hp : H p = none) (r : RpL D vs zs) : NewR D H (.ref p) (.tuple zs) (upd H p (.tup vs)) := .inr (.inl ⟨p, vs, zs, rfl, hp, rfl, rfl, r⟩)
theorem NewR.lst {D H : Hp} {p : Addr} {vs : List V} {zs : List PyData} (hp : H p = none) (r : RpL D vs zs) : NewR D H (.ref p) (.list zs) (upd H p (.lst vs)) := .inr (.inr ⟨p, vs, zs, rfl, hp, rfl, rfl, r⟩)
theorem NewR.bool {D H H' : Hp} {v : V} {k : Bool} (n : NewR D H v (.bool k) H') : H' = H ∧ v = .bl k := by
  rcases n with ⟨e, r⟩ | ⟨_, _, _, _, _, _, e, _⟩ | ⟨_, _, _, _, _, _, e, _⟩
  · cases r; exact ⟨e, rfl⟩
  · cases e
  · cases e
theorem NewR.of {D H : Hp} {v : V} {z : PyData} (r : Rp D v z) : NewR D H v z H := .inl ⟨rfl, r⟩
section
variable {W : WX} {c : Cf} {D : Hp} {env : Nv} {σ : St} {H H' : Hp} {v : V} {z : PyData} {Q : VK}
theorem Sim.new (S : Sim c D env σ H) (n : NewR D H v z H') (p : PostE W c D σ Q (.ok (.d z) env)) : Q v H' := by
  rcases n with ⟨rfl, r⟩ | ⟨a, vs, zs, rfl, hp, rfl, rfl, r⟩ | ⟨a, vs, zs, rfl, hp, rfl, rfl, r⟩
  · exact p v H' D S (Same.refl D) r
  · have hD : D a = none := S.dh.free hp
    exact p _ _ _ (S.laid hp _) (same_upd' hD) (.tup upd_same (r.mono (same_upd' hD)))
  · have hD : D a = none := S.dh.free hp
    exact p _ _ _ (S.laid hp _) (same_upd' hD) (.lst upd_same (r.mono (same_upd' hD)))
end
/-- a two-place operation's leaf -/
def Lf (K : PySem.W.Frag) (r : R2) (g : PyData → PyData → Option PyData) : Prop :=
  ∀ (D H : Hp) (x y : V) (a b z : PyData) (Q : VK), Same D H → Rq D H x a → Rq D H y b → g a b = some z → (∀ v H', NewR D H v z H' → Q v H') → r x y H Q
def dBin (g : PyData → PyData → Option PyData) (da db : DE) : DE := fun env => (da env).bd fun a e1 => (db e1).bd fun b e2 =>
  match getOV e2 a, getOV e2 b with
  | some x, some y => match g x y with
    | some z => .ok (.d z) e2
    | none => .stuck
  | _, _ => .stuck
section
variable {X : Cx} {W : WX} {c : Cf} {a b : Expr} {da db : DE} {pos : Pos} {r : R2} {g : PyData → PyData → Option PyData}
theorem bin_core (lf : Lf c.K r g) {σ : St} {H : Hp} {Q : VK} (h : EOf W c (dBin g da db) σ H Q) : tOp r (EOf W c da) (EOf W c db) σ H Q := by
  obtain ⟨D, env, S, p⟩ := h
  refine ⟨D, env, S, ?_⟩
  have p1 := PostE.bd p
  revert p1
  cases da env with
  | stuck => exact fun z => z
  | exc y e => exact fun z => z
  | ok o1 e1 =>
    intro p1 v H1 D1 S1 s1 r1
    obtain ⟨D2, env2, o, S2, s2, r2, e, p2⟩ := p1 v H1 D1 S1 s1 r1
    cases e
    refine ⟨D2, e1, S2, ?_⟩
    have p3 := PostE.bd p2
    revert p3
    cases db e1 with
    | stuck => exact fun z => z
    | exc y e => exact fun z => z
    | ok o2 e2 =>
      intro p3 w H3 D3 S3 s3 r3
      obtain ⟨D4, env4, o4, S4, s4, r4, e, p4⟩ := p3 w H3 D3 S3 s3 r3
      cases e
      cases g1 : getOV e2 o1 with
      | none => simp only [g1] at p4; exact p4.elim
      | some x =>
        cases g2 : getOV e2 o2 with
        | none => simp only [g1, g2] at p4; exact p4.elim
        | some y =>
          simp only [g1, g2] at p4
          cases g3 : g x y with
          | none => simp only [g3] at p4; exact p4.elim
          | some z =>
            simp only [g3] at p4
            exact lf D4 H3 v w x y z Q S4.dh (S4.getq r2 s4 g1) (S4.getq r4 (Same.refl _) g2) g3 fun u H' n => S4.new n p4
theorem de_bin {op : Operator} (ho : OpR X (binaryOp op) r) (lf : Lf c.K r g) (ha : PE X a (EOf W c da)) (hb : PE X b (EOf W c db)) : PE X (.BinOp a op b pos) (EOf W c (dBin g da db)) :=
  (pe_op ho ha hb).weak fun _ _ _ h => bin_core lf h
theorem de_cmp {op : CmpOp} (ho : OpR X (compareOp op) r) (lf : Lf c.K r g) (ha : PE X a (EOf W c da)) (hb : PE X b (EOf W c db)) (hm : behindInMarks op b = false) : PE X (.Compare a [op] [b] pos) (EOf W c (dBin g da db)) :=
  (pe_cmpR ho ha hb hm).weak fun _ _ _ h => bin_core lf h
def boolOV (e : Nv) : OV → Res Bool
  | .d (.bool b) => .ok b e
  | _ => .stuck
/-- a test by an expression that comes to a bool -/
def dT (d : DE) : DT := fun env => (d env).bd fun o e => boolOV e o
theorem test_core {d : DE} {σ : St} {H : Hp} {Q : Bool → Hp → Prop} (h : TOf W c (dT d) σ H Q) : EOf W c d σ H fun x H' => ∃ k, x = .bl k ∧ Q k H' := by
  obtain ⟨D, env, S, p⟩ := h
  refine ⟨D, env, S, ?_⟩
  have p1 := PostE.bdT p
  revert p1
  cases d env with
  | stuck => exact fun z => z
  | exc y e => exact fun z => z
  | ok o1 e1 =>
    intro p1 v H1 D1 S1 s1 r1
    obtain ⟨D2, env2, o, S2, s2, r2, e, p2⟩ := p1 v H1 D1 S1 s1 r1
    cases e
    cases o1 with
    | sl i => exact p2.elim
    | gl n => exact p2.elim
    | d x =>
      cases x with
      | bool k =>
        have r2 : Rp D2 v (.bool k) := r2
        cases r2
        exact ⟨k, rfl, p2 H1 D2 S2 (Same.refl _)⟩
      | _ => exact p2.elim
theorem dt_cmp {op : CmpOp} (ho : OpR X (compareOp op) r) (lf : Lf c.K r g) (ha : PE X a (EOf W c da)) (hb : PE X b (EOf W c db)) (hm : behindInMarks op b = false) : PT X (.Compare a [op] [b] pos) (TOf W c (dT (dBin g da db))) :=
  (pt_cmpR ho ha hb hm).weak fun σ H Q h => bin_core lf (test_core h)
theorem dt_val {e : Expr} {d : DE} (h : PE X e (EOf W c d)) (he : ∀ whole, isTrue e X.env whole = (do let v ← whole; standAt e.pos; holding [v] (truthy v)) := by intro _; rfl) : PT X e (TOf W c (dT d)) :=
  (pt_val h he).weak fun σ H Q h => by
    have := test_core h
    exact this
end
def g2I (f : Int → Int → Option PyData) : PyData → PyData → Option PyData
  | .int i, .int j => f i j
  | _, _ => none
section
variable {K : PySem.W.Frag}
theorem lf_int {C : Int → Int → Prop} {h : Int → Int → V} {f : Int → Int → Option PyData} (hf : ∀ i j z, f i j = some z → C i j ∧ ∀ D, Rp D (h i j) z) : Lf KF.frag (rI C h) (g2I f) := by
  intro D H x y a b z Q s rx ry e q
  cases a <;> try (cases e; done)
  cases b <;> try (cases e; done)
  obtain ⟨h1, h2⟩ := hf _ _ _ e
  exact ⟨_, _, rx.int, ry.int, h1, q _ _ (.of (h2 D))⟩
theorem lf_int0 {h : Int → Int → V} {f : Int → Int → PyData} (hf : ∀ i j D, Rp D (h i j) (f i j)) : Lf KF.frag (rI0 h) (g2I fun i j => some (f i j)) := by
  intro D H x y a b z Q s rx ry e q
  cases a <;> try (cases e; done)
  cases b <;> try (cases e; done)
  cases e
  exact ⟨_, _, rx.int, ry.int, q _ _ (.of (hf _ _ D))⟩
def gAddI := g2I fun i j => some (.int (i + j))
def gSubI := g2I fun i j => some (.int (i - j))
def gMulI := g2I fun i j => if (-(2 ^ 64) < i ∧ i < 2 ^ 64) ∨ (-(2 ^ 64) < j ∧ j < 2 ^ 64) then some (.int (i * j)) else none
def gModI := g2I fun i j => if 0 < j then some (.int (i % j)) else none
def gDivI := g2I fun i j => if 0 < j ∧ j < 1073741824 then some (.int (i / j)) else none
def gPowI := g2I fun i j => if 0 ≤ j ∧ j ≤ 1000000 ∧ i.natAbs < 2 ^ 64 then some (.int (i ^ j.toNat)) else none
theorem lf_add : Lf KF.frag (rI0 fun i j => .int (i + j)) gAddI := lf_int0 fun _ _ _ => .int _
theorem lf_sub : Lf KF.frag (rI0 fun i j => .int (i - j)) gSubI := lf_int0 fun _ _ _ => .int _
theorem lf_mul : Lf KF.frag (rI CMul fun i j => .int (i * j)) gMulI := lf_int fun i j z e => by
  split at e
  · rename_i h; cases e; exact ⟨h, fun _ => .int _⟩
  · cases e
theorem lf_mod : Lf KF.frag (rI (fun _ j => 0 < j) fun i j => .int (i % j)) gModI := lf_int fun i j z e => by
  split at e
  · rename_i h; cases e; exact ⟨h, fun _ => .int _⟩
  · cases e
theorem lf_div : Lf KF.frag (rI CDiv fun i j => .int (i / j)) gDivI := lf_int fun i j z e => by
  split at e
  · rename_i h; cases e; exact ⟨h, fun _ => .int _⟩
  · cases e
theorem lf_pow : Lf KF.frag (rI CPow fun i j => .int (i ^ j.toNat)) gPowI := lf_int fun i j z e => by
  split at e
  · rename_i h; cases e; exact ⟨h, fun _ => .int _⟩
  · cases e
def gLtI := g2I fun i j => some (.bool (decide (i < j)))
def gLeI := g2I fun i j => some (.bool (decide (i ≤ j)))
def gGtI := g2I fun i j => some (.bool (decide (j < i)))
def gGeI := g2I fun i j => some (.bool (decide (j ≤ i)))
theorem lf_lt : Lf KF.frag (rI0 fun i j => .bl (decide (i < j))) gLtI := lf_int0 fun _ _ _ => .bl _
theorem lf_le : Lf KF.frag (rI0 fun i j => .bl (decide (i ≤ j))) gLeI := lf_int0 fun _ _ _ => .bl _
theorem lf_gt : Lf KF.frag (rI0 fun i j => .bl (decide (j < i))) gGtI := lf_int0 fun _ _ _ => .bl _
theorem lf_ge : Lf KF.frag (rI0 fun i j => .bl (decide (j ≤ i))) gGeI := lf_int0 fun _ _ _ => .bl _
/-- == of two texts, two numbers (of any size), and of data -/
def gEq : PyData → PyData → Option PyData
  | .str x, .str y => some (.bool (decide (x = y)))
  | .int x, .int y => some (.bool (decide (x = y)))
  | a, b => if SeqAt.shaped a && SeqAt.shaped b then some (.bool (PyData.eqv a b)) else none
def gNe : PyData → PyData → Option PyData
  | .str x, .str y => some (.bool (!decide (x = y)))
  | .int x, .int y => some (.bool (!decide (x = y)))
  | a, b => if SeqAt.shaped a && SeqAt.shaped b then some (.bool (!PyData.eqv a b)) else none
def rEqA (K : PySem.W.Frag) : R2 := fun x y H Q => rEq x y H Q ∨ rEqD K x y H Q
def rNeA (K : PySem.W.Frag) : R2 := fun x y H Q => rNe x y H Q ∨ rNeD K x y H Q
theorem op_eqA {X : Cx} (hu : X.A.units + 64 < cLine) : OpR X (compareOp .Eq) (rEqA X.K) := by
  intro pins s σ H x y v u Q I rx ry h
  rcases h with h | h
  · exact op_eq pins s σ H x y v u Q I rx ry h
  · exact op_eqD hu pins s σ H x y v u Q I rx ry h
theorem op_neA {X : Cx} (hu : X.A.units + 64 < cLine) : OpR X (compareOp .NotEq) (rNeA X.K) := by
  intro pins s σ H x y v u Q I rx ry h
  rcases h with h | h
  · exact op_ne pins s σ H x y v u Q I rx ry h
  · exact op_neD hu pins s σ H x y v u Q I rx ry h
theorem dec_vstr {i j : Str} : decide (V.str i = V.str j) = decide (i = j) := decide_eq_decide.mpr ⟨fun h => V.str.inj h, fun h => congrArg V.str h⟩
theorem dec_vint {i j : Int} : decide (V.int i = V.int j) = decide (i = j) := decide_eq_decide.mpr ⟨fun h => V.int.inj h, fun h => congrArg V.int h⟩
theorem lf_eq : Lf KF.frag (rEqA KF.frag) gEq := by
  intro D H x y a b z Q s rx ry e q
  unfold gEq at e
  split at e
  · cases e
    rw [rx.str, ry.str]
    refine .inl ⟨rfl, ?_⟩
    rw [dec_vstr]
    exact q _ _ (.of (.bl _))
  · cases e
    rw [rx.int, ry.int]
    refine .inl ⟨rfl, ?_⟩
    rw [dec_vint]
    exact q _ _ (.of (.bl _))
  · split at e
    · rename_i h
      rw [Bool.and_eq_true] at h
      cases e
      exact .inr ⟨_, _, rx.dp s, ry.dp s, h.1, h.2, q _ _ (.of (.bl _))⟩
    · cases e
theorem lf_ne : Lf KF.frag (rNeA KF.frag) gNe := by
  intro D H x y a b z Q s rx ry e q
  unfold gNe at e
  split at e
  · cases e
    rw [rx.str, ry.str]
    refine .inl ⟨rfl, ?_⟩
    rw [dec_vstr]
    exact q _ _ (.of (.bl _))
  · cases e
    rw [rx.int, ry.int]
    refine .inl ⟨rfl, ?_⟩
    rw [dec_vint]
    exact q _ _ (.of (.bl _))
  · split at e
    · rename_i h
      rw [Bool.and_eq_true] at h
      cases e
      exact .inr ⟨_, _, rx.dp s, ry.dp s, h.1, h.2, q _ _ (.of (.bl _))⟩
    · cases e
def gIsN : PyData → PyData → Option PyData
  | .none, .none => some (.bool true)
  | .bool _, .none | .int _, .none | .str _, .none | .list _, .none | .tuple _, .none => some (.bool false)
  | _, _ => none
def gNotN : PyData → PyData → Option PyData
  | .none, .none => some (.bool false)
  | .bool _, .none | .int _, .none | .str _, .none | .list _, .none | .tuple _, .none => some (.bool true)
  | _, _ => none
theorem lf_isN : Lf KF.frag (fun x y H Q => y = .non ∧ Q (.bl (decide (x = .non))) H) gIsN := by
  intro D H x y a b z Q s rx ry e q
  cases b <;> try (cases a <;> cases e; done)
  refine ⟨ry.non, ?_⟩
  have h := rx.isNon
  cases a <;> cases e <;> simp only [h, reduceCtorEq, decide_true, decide_false] <;> exact q _ _ (.of (.bl _))
theorem lf_notN : Lf KF.frag (fun x y H Q => y = .non ∧ Q (.bl (!decide (x = .non))) H) gNotN := by
  intro D H x y a b z Q s rx ry e q
  cases b <;> try (cases a <;> cases e; done)
  refine ⟨ry.non, ?_⟩
  have h := rx.isNon
  cases a <;> cases e <;> simp only [h, reduceCtorEq, decide_true, decide_false, Bool.not_true, Bool.not_false] <;> exact q _ _ (.of (.bl _))
end
end L2.Dl

namespace L2.Dl
open PySem
open PySem.Spec
open PyProof.Rows
variable [KF]

def gIn (a b : PyData) : Option PyData :=
  if SeqAt.shaped a && SeqAt.shaped b then match b with
    | .list ds => some (.bool (ds.any fun z => PyData.eqv z a))
    | .tuple ds => some (.bool (ds.any fun z => PyData.eqv z a))
    | _ => none
  else none
def gNotIn (a b : PyData) : Option PyData :=
  if SeqAt.shaped a && SeqAt.shaped b then match b with
    | .list ds => some (.bool (!ds.any fun z => PyData.eqv z a))
    | .tuple ds => some (.bool (!ds.any fun z => PyData.eqv z a))
    | _ => none
  else none
def rInA (K : PySem.W.Frag) : R2 := fun x y H Q => ∃ d e z, Dp K H x d ∧ Dp K H y e ∧ gIn d e = some (.bool z) ∧ Q (.bl z) H
def rNotInA (K : PySem.W.Frag) : R2 := fun x y H Q => ∃ d e z, Dp K H x d ∧ Dp K H y e ∧ gNotIn d e = some (.bool z) ∧ Q (.bl z) H
section
variable {X : Cx}
theorem op_inA (hu : X.A.units + 65 < cLine) : OpR X (compareOp .In) (rInA X.K) := by
  intro pins s σ H x y v u Q I rx ry h
  obtain ⟨d, e, z, hd, he, g, q⟩ := h
  obtain ⟨as, r1⟩ := Dp.reads I d x v hd rx
  obtain ⟨bs, r2⟩ := Dp.reads I e y u he ry
  unfold gIn at g
  split at g
  · rename_i hs
    rw [Bool.and_eq_true] at hs
    split at g
    · cases g
      exact SeqAt.in_list_reads r2 r1 (SeqAt.canLay_of_shaped hs.2) (SeqAt.canLay_of_shaped hs.1) (room_in_shaped hs.1 hu) ⟨.bl _, H, I, rfl, q⟩
    · cases g
      exact SeqAt.in_tuple_reads r2 r1 (SeqAt.canLay_of_shaped hs.2) (SeqAt.canLay_of_shaped hs.1) (room_in_shaped hs.1 hu) ⟨.bl _, H, I, rfl, q⟩
    · cases g
  · cases g
theorem op_notInA (hu : X.A.units + 65 < cLine) : OpR X (compareOp .NotIn) (rNotInA X.K) := by
  intro pins s σ H x y v u Q I rx ry h
  obtain ⟨d, e, z, hd, he, g, q⟩ := h
  obtain ⟨as, r1⟩ := Dp.reads I d x v hd rx
  obtain ⟨bs, r2⟩ := Dp.reads I e y u he ry
  unfold gNotIn at g
  split at g
  · rename_i hs
    rw [Bool.and_eq_true] at hs
    split at g
    · cases g
      exact SeqAt.notIn_list_reads r2 r1 (SeqAt.canLay_of_shaped hs.2) (SeqAt.canLay_of_shaped hs.1) (room_in_shaped hs.1 hu) ⟨.bl _, H, I, rfl, q⟩
    · cases g
      exact SeqAt.notIn_tuple_reads r2 r1 (SeqAt.canLay_of_shaped hs.2) (SeqAt.canLay_of_shaped hs.1) (room_in_shaped hs.1 hu) ⟨.bl _, H, I, rfl, q⟩
    · cases g
  · cases g
end
section
variable {K : PySem.W.Frag}
theorem gIn_bool {a b z : PyData} (h : gIn a b = some z) : ∃ k, z = .bool k := by
  unfold gIn at h
  split at h
  · split at h <;> first | (cases h; exact ⟨_, rfl⟩) | cases h
  · cases h
theorem gNotIn_bool {a b z : PyData} (h : gNotIn a b = some z) : ∃ k, z = .bool k := by
  unfold gNotIn at h
  split at h
  · split at h <;> first | (cases h; exact ⟨_, rfl⟩) | cases h
  · cases h
theorem lf_in : Lf KF.frag (rInA KF.frag) gIn := by
  intro D H x y a b z Q s rx ry e q
  obtain ⟨k, rfl⟩ := gIn_bool e
  exact ⟨a, b, k, rx.dp s, ry.dp s, e, q _ _ (.of (.bl _))⟩
theorem lf_notIn : Lf KF.frag (rNotInA KF.frag) gNotIn := by
  intro D H x y a b z Q s rx ry e q
  obtain ⟨k, rfl⟩ := gNotIn_bool e
  exact ⟨a, b, k, rx.dp s, ry.dp s, e, q _ _ (.of (.bl _))⟩

abbrev lenB : Nat := 1000000
theorem lenB_le {n : Nat} (h : n ≤ lenB) : n ≤ sizeLine := by
  rw [sizeLine_eq]
  exact Nat.le_trans h (by decide)
def gAdd : PyData → PyData → Option PyData
  | .int i, .int j => some (.int (i + j))
  | .str i, .str j => if i.length + j.length ≤ lenB then some (.str (i ++ j)) else none
  | .tuple xs, .tuple ys => if xs.length + ys.length ≤ lenB then some (.tuple (xs ++ ys)) else none
  | .list xs, .list ys => if xs.length + ys.length ≤ lenB then some (.list (xs ++ ys)) else none
  | _, _ => none
def rAddA (K : PySem.W.Frag) : R2 := fun x y H Q => rI0 (fun i j => .int (i + j)) x y H Q ∨
  (∃ i j, x = .str i ∧ y = .str j ∧ i.length + j.length ≤ sizeLine ∧ Q (.str (i ++ j)) H) ∨ rCatA K x y H Q ∨ rCat x y H Q
theorem op_addA {X : Cx} : OpR X (binaryOp .Add) (rAddA X.K) := by
  intro pins s σ H x y v u Q I rx ry h
  rcases h with h | h | h | h
  · exact op_add pins s σ H x y v u Q I rx ry h
  · exact op_add_str pins s σ H x y v u Q I rx ry h
  · exact op_catA pins s σ H x y v u Q I rx ry h
  · exact op_cat pins s σ H x y v u Q I rx ry h
theorem lf_addA : Lf KF.frag (rAddA KF.frag) gAdd := by
  intro D H x y a b z Q s rx ry e q
  unfold gAdd at e
  split at e
  · cases e
    exact .inl ⟨_, _, rx.int, ry.int, q _ _ (.of (.int _))⟩
  · split at e
    · rename_i h
      cases e
      exact .inr (.inl ⟨_, _, rx.str, ry.str, lenB_le h, q _ _ (.of (.str _))⟩)
    · cases e
  · split at e
    · rename_i xs ys h
      cases e
      obtain ⟨rx', p, vs, rfl, hp, rp⟩ := rx.tup
      obtain ⟨ry', p', ws, rfl, hp', rp'⟩ := ry.tup
      refine .inr (.inr (.inl ⟨p, p', vs, ws, rfl, rfl, hp.same s, hp'.same s, ?_, fun e => ?_, fun _ e => ?_, fun _ _ n hn => ?_⟩))
      · rw [rp.length, rp'.length]; exact lenB_le h
      · subst e
        cases rp
        exact q _ _ (.of ry')
      · subst e
        cases rp'
        rw [List.append_nil] at q
        exact q _ _ (.of rx')
      · exact q _ _ (.tup hn (rp.append rp'))
    · cases e
  · split at e
    · rename_i xs ys h
      cases e
      obtain ⟨p, vs, rfl, hp, rp⟩ := rx.lst s
      obtain ⟨p', ws, rfl, hp', rp'⟩ := ry.lst s
      refine .inr (.inr (.inr ⟨p, p', vs, ws, rfl, rfl, hp, hp', ?_, fun n hn => q _ _ (.lst hn (rp.append rp'))⟩))
      rw [rp.length, rp'.length]; exact lenB_le h
    · cases e
  · cases e
end

def dVar (i : Nat) : DE := fun env => match env[i]? with
  | some (.v d) => .ok (.d d) env
  | some (.own _ _) => .ok (.sl i) env
  | some (.dct _ _) => .ok (.sl i) env
  | some (.ro _) => .ok (.sl i) env
  | some (.gl n) => .ok (.gl n) env
  | _ => .stuck
def dC (x : PyData) : DE := fun env => .ok (.d x) env
def dGl (n : Str) : DE := fun env => .ok (.gl n) env
section
variable {X : Cx} {W : WX} {c : Cf} {pos : Pos}
theorem de_var {i : Nat} {x : Str} (hN : X.N[i]? = some x) (hv : Vis X.env.scope x) (hd : (x == ("__debug__" : Str)) = false := by decide) (hcd : (x == ("__classdict__" : Str)) = false := by decide) : PE X (.Name x pos) (EOf W c (dVar i)) :=
  (pe_var hN hv hd hcd).weak fun σ H Q ⟨D, env, S, p⟩ => by
    have hj : ∀ {v : V}, (σ[i]?).join = some v → σ[i]? = some (some v) := fun {v} h => by
      cases q : σ[i]? with
      | none => rw [q] at h; cases h
      | some w => rw [q] at h; cases w <;> first | (cases h; rfl) | cases h
    unfold dVar at p
    split at p
    · rename_i d e
      obtain ⟨v, h1, h2⟩ := S.slot i _ e
      exact ⟨v, hj h1, p v H D S (Same.refl _) h2⟩
    · rename_i b xs e
      obtain ⟨a, vs, h1, h2⟩ := S.slot i _ e
      exact ⟨_, hj h1, p _ H D S (Same.refl _) h1⟩
    · rename_i b xs e
      obtain ⟨a, h1, h2⟩ := S.slot i _ e
      exact ⟨_, hj h1, p _ H D S (Same.refl _) h1⟩
    · rename_i xs e
      obtain ⟨a, vs, h1, h2⟩ := S.slot i _ e
      exact ⟨_, hj h1, p _ H D S (Same.refl _) h1⟩
    · rename_i n e
      obtain ⟨f, h1, h2⟩ := S.slot i _ e
      exact ⟨_, hj h1, p _ H D S (Same.refl _) ⟨f, rfl, h2⟩⟩
    · exact p.elim
theorem de_int {i : Int} {j pos} : PE X (.Constant (.int i) j pos) (EOf W c (dC (.int i))) := pe_int.weak fun σ H Q ⟨D, env, S, p⟩ => p _ H D S (Same.refl _) (.int i)
theorem de_bl {b : Bool} {j pos} : PE X (.Constant (.bool b) j pos) (EOf W c (dC (.bool b))) := pe_bl.weak fun σ H Q ⟨D, env, S, p⟩ => p _ H D S (Same.refl _) (.bl b)
theorem de_non {j pos} : PE X (.Constant .none j pos) (EOf W c (dC .none)) := pe_non.weak fun σ H Q ⟨D, env, S, p⟩ => p _ H D S (Same.refl _) .non
theorem de_str {x : Str} {j pos} : PE X (.Constant (.str x) j pos) (EOf W c (dC (.str x))) := pe_str.weak fun σ H Q ⟨D, env, S, p⟩ => p _ H D S (Same.refl _) (.str x)
/-- a def or a class of the module as a value -/
theorem de_gl {x : Str} {f : Addr} (hg : Gl X x) (hm : X.mg x = some (.ref f)) (hc : c.mg = X.mg) (hd : (x == ("__debug__" : Str)) = false := by decide) : PE X (.Name x pos) (EOf W c (dGl x)) :=
  (pe_glob (v := .ref f) hg hm rfl hd).weak fun σ H Q ⟨D, env, S, p⟩ => p _ H D S (Same.refl _) ⟨f, rfl, by rw [hc]; exact hm⟩
/-- a number, a text of the module -/
theorem de_glI {x : Str} {i : Int} {t : Tok} (hg : Gl X x) (hm : X.mg x = some (.int i t)) (hd : (x == ("__debug__" : Str)) = false := by decide) : PE X (.Name x pos) (EOf W c (dC (.int i))) :=
  (pe_glob (v := .int i) hg hm ⟨t, rfl⟩ hd).weak fun σ H Q ⟨D, env, S, p⟩ => p _ H D S (Same.refl _) (.int i)
theorem de_glS {x : Str} {i : Str} {t : Tok} (hg : Gl X x) (hm : X.mg x = some (.str i t)) (hd : (x == ("__debug__" : Str)) = false := by decide) : PE X (.Name x pos) (EOf W c (dC (.str i))) :=
  (pe_glob (v := .str i) hg hm ⟨t, rfl⟩ hd).weak fun σ H Q ⟨D, env, S, p⟩ => p _ H D S (Same.refl _) (.str i)
end
def dANil : Nv → Res (List OV) := fun env => .ok [] env
def dACons (d : DE) (r : Nv → Res (List OV)) : Nv → Res (List OV) := fun env => (d env).bd fun o e1 => (r e1).bd fun os e2 => .ok (o :: os) e2
section
variable {X : Cx} {W : WX} {c : Cf} {pos : Pos} {e : Expr} {es : List Expr} {d : DE} {r : Nv → Res (List OV)}
theorem da_nil : PA X [] (AOf W c dANil) := pa_nil.weak fun σ H Q ⟨D, env, S, p⟩ => p _ H D S (Same.refl _) .nil
theorem da_cons (he : PE X e (EOf W c d)) (hr : PA X es (AOf W c r)) (hs : starEach (e :: es) X.env = (false, eval e X.env) :: starEach es X.env := by rfl) : PA X (e :: es) (AOf W c (dACons d r)) :=
  (pa_cons he hr hs).weak fun σ H Q ⟨D, env, S, p⟩ => by
    refine ⟨D, env, S, ?_⟩
    have p1 := PostE.bdA p
    revert p1
    cases d env with
    | stuck => exact fun z => z
    | exc y e => exact fun z => z
    | ok o1 e1 =>
      intro p1 v H1 D1 S1 s1 r1
      obtain ⟨D2, env2, o, S2, s2, r2, e, p2⟩ := p1 v H1 D1 S1 s1 r1
      cases e
      refine ⟨D2, e1, S2, ?_⟩
      have p3 := PostA.bdA p2
      revert p3
      cases r e1 with
      | stuck => exact fun z => z
      | exc y e => exact fun z => z
      | ok o2 e2 =>
        intro p3 w H3 D3 S3 s3 r3
        obtain ⟨D4, env4, o4, S4, s4, r4, e, p4⟩ := p3 w H3 D3 S3 s3 r3
        cases e
        exact p4 _ H3 D4 S4 (Same.refl _) (.cons (r2.mono s4) r4)
end
def pinAll : List OV → Nv → Option (List PyData × Nv)
  | [], e => some ([], e)
  | o :: r, e => match pinOV e o with
    | none => none
    | some (x, e1) => match pinAll r e1 with
      | none => none
      | some (xs, e2) => some (x :: xs, e2)
theorem Sim.pinAll {c : Cf} {σ : St} {H : Hp} : ∀ {os : List OV} {D : Hp} {env env' : Nv} {vs : List V} {xs : List PyData}, Sim c D env σ H → OVRL c D σ vs os → Dl.pinAll os env = some (xs, env') → ∃ D', Sim c D' env' σ H ∧ Same D D' ∧ RpL D' vs xs
  | [], D, env, env', vs, xs, S, r, g => by
    cases r
    cases g
    exact ⟨D, S, Same.refl _, .nil⟩
  | o :: os, D, env, env', vs, xs, S, r, g => by
    cases r with
    | cons r1 r2 =>
      unfold Dl.pinAll at g
      split at g
      · cases g
      · rename_i x e1 h1
        split at g
        · cases g
        · rename_i ys e2 h2
          cases g
          obtain ⟨D1, S1, s1, q1⟩ := S.pin r1 h1
          obtain ⟨D2, S2, s2, q2⟩ := S1.pinAll (r2.mono s1) h2
          exact ⟨D2, S2, s1.trans s2, .cons (q1.mono s2) q2⟩
def tupOf (os : List OV) (e : Nv) : Res OV := match pinAll os e with
  | some (xs, e') => if xs.length ≤ lenB then .ok (.d (.tuple xs)) e' else .stuck
  | none => .stuck
def lstOf (os : List OV) (e : Nv) : Res (List PyData) := match pinAll os e with
  | some (xs, e') => if xs.length ≤ lenB then .ok xs e' else .stuck
  | none => .stuck
def dTup (r : Nv → Res (List OV)) : DE := fun env => (r env).bd tupOf
def dLst (r : Nv → Res (List OV)) : DL := fun env => (r env).bd lstOf
/-- a new list that stays as it is -/
def dFz (l : DL) : DE := fun env => (l env).bd fun xs e => .ok (.d (.list xs)) e
section
variable {X : Cx} {W : WX} {c : Cf} {pos : Pos} {e : Expr} {es : List Expr} {d : DE} {r : Nv → Res (List OV)}
theorem de_tup {x1} (h : PA X es (AOf W c r)) : PE X (.Tuple es x1 pos) (EOf W c (dTup r)) :=
  (pe_tup h).weak fun σ H Q ⟨D, env, S, p⟩ => by
    refine ⟨D, env, S, ?_⟩
    have p1 := PostA.bd p
    revert p1
    cases r env with
    | stuck => exact fun z => z
    | exc y e => exact fun z => z
    | ok o1 e1 =>
      intro p1 v H1 D1 S1 s1 r1
      obtain ⟨D2, env2, o, S2, s2, r2, e, p2⟩ := p1 v H1 D1 S1 s1 r1
      cases e
      unfold tupOf at p2
      split at p2
      · rename_i xs e' hp
        obtain ⟨D3, S3, s3, r3⟩ := S2.pinAll r2 hp
        split at p2
        · rename_i hl
          refine ⟨by rw [r3.length]; exact lenB_le hl, fun q hq => ?_⟩
          have hqD : D3 q = none := S3.dh.free hq
          exact p2 _ _ _ (S3.laid hq _) (s3.trans (same_upd' hqD)) (.tup upd_same (r3.mono (same_upd' hqD)))
        · exact p2.elim
      · exact p2.elim
theorem dl_lst (h : PA X es (AOf W c r)) : PE X (.List es pos) (LOf W c (dLst r)) :=
  (pe_lst h).weak fun σ H Q ⟨D, env, S, p⟩ => by
    refine ⟨D, env, S, ?_⟩
    have p1 := PostA.bdL p
    revert p1
    cases r env with
    | stuck => exact fun z => z
    | exc y e => exact fun z => z
    | ok o1 e1 =>
      intro p1 v H1 D1 S1 s1 r1
      obtain ⟨D2, env2, o, S2, s2, r2, e, p2⟩ := p1 v H1 D1 S1 s1 r1
      cases e
      unfold lstOf at p2
      split at p2
      · rename_i xs e' hp
        obtain ⟨D3, S3, s3, r3⟩ := S2.pinAll r2 hp
        split at p2
        · rename_i hl
          exact ⟨by rw [r3.length]; exact lenB_le hl, fun q hq => p2 q _ _ _ S3 s3 hq r3⟩
        · exact p2.elim
      · exact p2.elim
theorem de_fz {l : DL} (h : PE X e (LOf W c l)) : PE X e (EOf W c (dFz l)) :=
  h.weak fun σ H Q ⟨D, env, S, p⟩ => by
    refine ⟨D, env, S, ?_⟩
    unfold dFz at p
    cases g : l env with
    | stuck => rw [g] at p; exact p
    | exc y e => rw [g] at p; exact p
    | ok xs e1 =>
      rw [g] at p
      intro q vs H1 D1 S1 s1 hq r1
      have hqD : D1 q = none := S1.dh.free hq
      exact p _ _ _ (S1.laid hq _) (s1.trans (same_upd' hqD)) (.lst upd_same (r1.mono (same_upd' hqD)))
end
end L2.Dl

namespace L2.Dl
open PySem
open PySem.Spec
open PyProof.Rows
variable [KF]

def dNotT (t : DT) : DT := fun env => (t env).bd fun b e => .ok (!b) e
def dAndT (t u : DT) : DT := fun env => (t env).bd fun b e => if b = true then u e else .ok false e
def dOrT (t u : DT) : DT := fun env => (t env).bd fun b e => if b = true then .ok true e else u e
def dIfE (t : DT) (a b : DE) : DE := fun env => (t env).bd fun k e => if k = true then a e else b e
def boolE (k : Bool) (e : Nv) : Res OV := .ok (.d (.bool k)) e
def dNot (d : DE) : DE := fun env => (dT d env).bd fun b e => boolE (!b) e
def dAnd (a b : DE) : DE := fun env => (dT a env).bd fun k e => if k = true then b e else boolE false e
def dOr (a b : DE) : DE := fun env => (dT a env).bd fun k e => if k = true then boolE true e else b e
section
variable {X : Cx} {W : WX} {c : Cf} {pos : Pos} {a b : Expr} {rest : List Expr} {t u : DT} {da db : DE}
theorem postT_ok {D : Hp} {env : Nv} {σ : St} {k : Bool} {Q : Bool → Hp → Prop} {H : Hp} (S : Sim c D env σ H) (p : PostT W c D σ Q (.ok k env)) : Q k H := p H D S (Same.refl _)
theorem dt_not (ha : PT X a (TOf W c t)) : PT X (.UnaryOp .Not a pos) (TOf W c (dNotT t)) :=
  (pt_not ha).weak fun σ H Q ⟨D, env, S, p⟩ => by
    refine ⟨D, env, S, ?_⟩
    have p1 := PostT.bdT p
    revert p1
    cases t env with
    | stuck => exact fun z => z
    | exc y e => exact fun z => z
    | ok k e1 =>
      intro p1 H1 D1 S1 s1
      obtain ⟨D2, env2, S2, s2, e, p2⟩ := p1 H1 D1 S1 s1
      cases e
      exact postT_ok S2 p2
theorem and_core {σ : St} {H : Hp} {Q : Bool → Hp → Prop} (h : TOf W c (dAndT t u) σ H Q) : tAnd (TOf W c t) (TOf W c u) σ H Q := by
  obtain ⟨D, env, S, p⟩ := h
  refine ⟨D, env, S, ?_⟩
  have p1 := PostT.bdT p
  revert p1
  cases t env with
  | stuck => exact fun z => z
  | exc y e => exact fun z => z
  | ok k e1 =>
    intro p1 H1 D1 S1 s1
    obtain ⟨D2, env2, S2, s2, e, p2⟩ := p1 H1 D1 S1 s1
    cases e
    cases k with
    | true => exact iteT ⟨D2, e1, S2, p2⟩
    | false => exact iteF (postT_ok S2 p2)
theorem or_core {σ : St} {H : Hp} {Q : Bool → Hp → Prop} (h : TOf W c (dOrT t u) σ H Q) : tOr (TOf W c t) (TOf W c u) σ H Q := by
  obtain ⟨D, env, S, p⟩ := h
  refine ⟨D, env, S, ?_⟩
  have p1 := PostT.bdT p
  revert p1
  cases t env with
  | stuck => exact fun z => z
  | exc y e => exact fun z => z
  | ok k e1 =>
    intro p1 H1 D1 S1 s1
    obtain ⟨D2, env2, S2, s2, e, p2⟩ := p1 H1 D1 S1 s1
    cases e
    cases k with
    | false => exact iteF ⟨D2, e1, S2, p2⟩
    | true => exact iteT (postT_ok S2 p2)
theorem _root_.L2.PW.weak {e : Expr} {t t' : TT} (h : PW X e t) (w : ∀ σ H Q, t' σ H Q → t σ H Q) : PW X e t' := ⟨fun wh pins s σ H Q I q => h.run wh pins s σ H Q I (w σ H Q q)⟩
theorem dw_and1 (ha : PT X a (TOf W c t)) : PW X (.BoolOp .And [a] pos) (TOf W c t) := pw_and1 ha
theorem dw_or1 (ha : PT X a (TOf W c t)) : PW X (.BoolOp .Or [a] pos) (TOf W c t) := pw_or1 ha
theorem dw_and (ha : PT X a (TOf W c t)) (hb : PW X (.BoolOp .And (b :: rest) pos) (TOf W c u)) : PW X (.BoolOp .And (a :: b :: rest) pos) (TOf W c (dAndT t u)) := (pw_and ha hb).weak fun _ _ _ => and_core
theorem dw_or (ha : PT X a (TOf W c t)) (hb : PW X (.BoolOp .Or (b :: rest) pos) (TOf W c u)) : PW X (.BoolOp .Or (a :: b :: rest) pos) (TOf W c (dOrT t u)) := (pw_or ha hb).weak fun _ _ _ => or_core
theorem de_ifE (hc : PT X (a) (TOf W c t)) {e1 e2 : Expr} (ha : PE X e1 (EOf W c da)) (hb : PE X e2 (EOf W c db)) : PE X (.IfExp a e1 e2 pos) (EOf W c (dIfE t da db)) :=
  (pe_ifExp hc ha hb).weak fun σ H Q ⟨D, env, S, p⟩ => by
    refine ⟨D, env, S, ?_⟩
    have p1 := PostT.bd p
    revert p1
    cases t env with
    | stuck => exact fun z => z
    | exc y e => exact fun z => z
    | ok k e1 =>
      intro p1 H1 D1 S1 s1
      obtain ⟨D2, env2, S2, s2, e, p2⟩ := p1 H1 D1 S1 s1
      cases e
      cases k with
      | true => exact iteT ⟨D2, e1, S2, p2⟩
      | false => exact iteF ⟨D2, e1, S2, p2⟩
/-- the value of a bool expression, then by cases -/
theorem val_core {d : DE} {k : Bool → Nv → Res OV} {σ : St} {H : Hp} {Q : VK} {D : Hp} {env : Nv} (S : Sim c D env σ H) (p : PostE W c D σ Q ((dT d env).bd k)) :
    EOf W c d σ H fun x H1 => ∃ b, x = .bl b ∧ ∃ D1 e1, Sim c D1 e1 σ H1 ∧ PostE W c D1 σ Q (k b e1) := by
  refine ⟨D, env, S, ?_⟩
  unfold dT at p
  cases g : d env with
  | stuck => rw [g] at p; exact p
  | exc y e => rw [g] at p; exact p
  | ok o e1 =>
    rw [g] at p
    intro v H1 D1 S1 s1 r1
    cases o with
    | sl i => exact p.elim
    | gl n => exact p.elim
    | d x =>
      cases x with
      | bool b =>
        have r1 : Rp D1 v (.bool b) := r1
        cases r1
        exact ⟨b, rfl, D1, e1, S1, PostE.mono (Q := Q) p s1⟩
      | _ => exact p.elim
theorem de_not (ha : PE X a (EOf W c da)) : PE X (.UnaryOp .Not a pos) (EOf W c (dNot da)) :=
  (pe_not ha).weak fun σ H Q ⟨D, env, S, p⟩ => by
    obtain ⟨D', env', S', q⟩ := val_core S p
    refine ⟨D', env', S', ?_⟩
    revert q
    cases da env' with
    | stuck => exact fun z => z
    | exc y e => exact fun z => z
    | ok o e1 =>
      intro q v H1 D1 S1 s1 r1
      obtain ⟨b, rfl, D2, e2, S2, p2⟩ := q v H1 D1 S1 s1 r1
      exact ⟨b, rfl, p2 _ H1 D2 S2 (Same.refl _) (.bl _)⟩
theorem de_one {op} (h : PE X a (EOf W c da)) : PE X (.BoolOp op [a] pos) (EOf W c da) := pe_one h
theorem de_and (ha : PE X a (EOf W c da)) (hb : PE X (.BoolOp .And (b :: rest) pos) (EOf W c db)) : PE X (.BoolOp .And (a :: b :: rest) pos) (EOf W c (dAnd da db)) :=
  (pe_and ha hb).weak fun σ H Q ⟨D, env, S, p⟩ => by
    obtain ⟨D', env', S', q⟩ := val_core S p
    refine ⟨D', env', S', ?_⟩
    revert q
    cases da env' with
    | stuck => exact fun z => z
    | exc y e => exact fun z => z
    | ok o e1 =>
      intro q v H1 D1 S1 s1 r1
      obtain ⟨b, rfl, D2, e2, S2, p2⟩ := q v H1 D1 S1 s1 r1
      refine ⟨b, rfl, ?_⟩
      cases b with
      | true => exact iteT ⟨D2, e2, S2, p2⟩
      | false => exact iteF (p2 _ H1 D2 S2 (Same.refl _) (.bl _))
theorem de_or (ha : PE X a (EOf W c da)) (hb : PE X (.BoolOp .Or (b :: rest) pos) (EOf W c db)) : PE X (.BoolOp .Or (a :: b :: rest) pos) (EOf W c (dOr da db)) :=
  (pe_or ha hb).weak fun σ H Q ⟨D, env, S, p⟩ => by
    obtain ⟨D', env', S', q⟩ := val_core S p
    refine ⟨D', env', S', ?_⟩
    revert q
    cases da env' with
    | stuck => exact fun z => z
    | exc y e => exact fun z => z
    | ok o e1 =>
      intro q v H1 D1 S1 s1 r1
      obtain ⟨b, rfl, D2, e2, S2, p2⟩ := q v H1 D1 S1 s1 r1
      refine ⟨b, rfl, ?_⟩
      cases b with
      | false => exact iteF ⟨D2, e2, S2, p2⟩
      | true => exact iteT (p2 _ H1 D2 S2 (Same.refl _) (.bl _))
end
/-- a one-place operation's leaf -/
def Lf1 (r : V → Hp → VK → Prop) (g : PyData → Option PyData) : Prop :=
  ∀ (D H : Hp) (x : V) (a z : PyData) (Q : VK), Same D H → Rq D H x a → g a = some z → (∀ v H', NewR D H v z H' → Q v H') → r x H Q
def dUn (g : PyData → Option PyData) (da : DE) : DE := fun env => (da env).bd fun a e1 =>
  match getOV e1 a with
  | some x => match g x with
    | some z => .ok (.d z) e1
    | none => .stuck
  | none => .stuck
section
variable {X : Cx} {W : WX} {c : Cf} {pos : Pos} {a b : Expr} {da db : DE} {g : PyData → Option PyData} {r : V → Hp → VK → Prop}
theorem un_core (lf : Lf1 r g) {σ : St} {H : Hp} {Q : VK} (h : EOf W c (dUn g da) σ H Q) : EOf W c da σ H fun x H1 => r x H1 Q := by
  obtain ⟨D, env, S, p⟩ := h
  refine ⟨D, env, S, ?_⟩
  have p1 := PostE.bd p
  revert p1
  cases da env with
  | stuck => exact fun z => z
  | exc y e => exact fun z => z
  | ok o1 e1 =>
    intro p1 v H1 D1 S1 s1 r1
    obtain ⟨D2, env2, o, S2, s2, r2, e, p2⟩ := p1 v H1 D1 S1 s1 r1
    cases e
    cases g1 : getOV e1 o1 with
    | none => simp only [g1] at p2; exact p2.elim
    | some x =>
      simp only [g1] at p2
      cases g3 : g x with
      | none => simp only [g3] at p2; exact p2.elim
      | some z =>
        simp only [g3] at p2
        exact lf D2 H1 v x z Q S2.dh (S2.getq r2 (Same.refl _) g1) g3 fun u H' n => S2.new n p2
theorem de_un {op : UnaryOp} (ho : UnR X (unaryOp op) r) (lf : Lf1 r g) (ha : PE X a (EOf W c da)) : PE X (.UnaryOp op a pos) (EOf W c (dUn g da)) :=
  (pe_un ho ha).weak fun _ _ _ h => un_core lf h
def gNeg : PyData → Option PyData
  | .int i => some (.int (-i))
  | _ => none
theorem lf_neg : Lf1 (rU fun i => .int (-i)) gNeg := by
  intro D H x a z Q s rx e q
  cases a <;> try (cases e; done)
  cases e
  exact ⟨_, rx.int, q _ _ (.of (.int _))⟩
end
def dChain (g g' : PyData → PyData → Option PyData) (da db dc : DE) : DE := fun env => (da env).bd fun a e1 => (db e1).bd fun b e2 =>
  match getOV e2 a, getOV e2 b with
  | some x, some y => match g x y with
    | some (.bool true) => (dc e2).bd fun w e3 => match getOV e3 b, getOV e3 w with
      | some y', some z => match g' y' z with
        | some u => .ok (.d u) e3
        | none => .stuck
      | _, _ => .stuck
    | some (.bool false) => boolE false e2
    | _ => .stuck
  | _, _ => .stuck
section
variable {X : Cx} {W : WX} {c : Cf} {pos : Pos} {a b e3 : Expr} {da db dc : DE} {g g' : PyData → PyData → Option PyData} {r r' : R2}
/-- the leaf of a comparison whose result is a bool -/
theorem chain_core (lf : Lf c.K r g) (lf' : Lf c.K r' g') {σ : St} {H : Hp} {Q : VK} (h : EOf W c (dChain g g' da db dc) σ H Q) : tChain r r' (EOf W c da) (EOf W c db) (EOf W c dc) σ H Q := by
  obtain ⟨D, env, S, p⟩ := h
  refine ⟨D, env, S, ?_⟩
  have p1 := PostE.bd p
  revert p1
  cases da env with
  | stuck => exact fun z => z
  | exc y e => exact fun z => z
  | ok o1 e1 =>
    intro p1 v H1 D1 S1 s1 r1
    obtain ⟨D2, env2, o, S2, s2, r2, e, p2⟩ := p1 v H1 D1 S1 s1 r1
    cases e
    refine ⟨D2, e1, S2, ?_⟩
    have p3 := PostE.bd p2
    revert p3
    cases db e1 with
    | stuck => exact fun z => z
    | exc y e => exact fun z => z
    | ok o2 e2 =>
      intro p3 w H3 D3 S3 s3 r3
      obtain ⟨D4, env4, o4, S4, s4, r4, e, p4⟩ := p3 w H3 D3 S3 s3 r3
      cases e
      cases g1 : getOV e2 o1 with
      | none => simp only [g1] at p4; exact p4.elim
      | some x =>
        cases g2 : getOV e2 o2 with
        | none => simp only [g1, g2] at p4; exact p4.elim
        | some y =>
          simp only [g1, g2] at p4
          cases g3 : g x y with
          | none => simp only [g3] at p4; exact p4.elim
          | some z =>
            simp only [g3] at p4
            refine lf D4 H3 v w x y z _ S4.dh (S4.getq r2 s4 g1) (S4.getq r4 (Same.refl _) g2) g3 fun u H' n => ?_
            cases z with
            | bool k =>
              obtain ⟨rfl, rfl⟩ := n.bool
              · refine ⟨k, rfl, ?_⟩
                cases k with
                | false => exact iteF (p4 _ _ D4 S4 (Same.refl _) (.bl false))
                | true =>
                  refine iteT ⟨D4, e2, S4, ?_⟩
                  have p5 := PostE.bd p4
                  revert p5
                  cases dc e2 with
                  | stuck => exact fun z => z
                  | exc y e => exact fun z => z
                  | ok o5 e5 =>
                    intro p5 w5 H5 D5 S5 s5 r5
                    obtain ⟨D6, env6, o6, S6, s6, r6, e, p6⟩ := p5 w5 H5 D5 S5 s5 r5
                    cases e
                    cases g5 : getOV e5 o2 with
                    | none => simp only [g5] at p6; exact p6.elim
                    | some y' =>
                      cases g6 : getOV e5 o5 with
                      | none => simp only [g5, g6] at p6; exact p6.elim
                      | some z' =>
                        simp only [g5, g6] at p6
                        cases g7 : g' y' z' with
                        | none => simp only [g7] at p6; exact p6.elim
                        | some u' =>
                          simp only [g7] at p6
                          exact lf' D6 H5 w w5 y' z' u' Q S6.dh (S6.getq r4 s6 g5) (S6.getq r6 (Same.refl _) g6) g7 fun u H' n => S6.new n p6
            | _ => exact p4.elim
theorem de_chain {op op' : CmpOp} (ho : OpR X (compareOp op) r) (ho' : OpR X (compareOp op') r') (lf : Lf c.K r g) (lf' : Lf c.K r' g') (ha : PE X a (EOf W c da)) (hb : PE X b (EOf W c db)) (hc : PE X e3 (EOf W c dc))
    (hm : lastMarks [op, op'] [b, e3] = false := by with_unfolding_all rfl) : PE X (.Compare a [op, op'] [b, e3] pos) (EOf W c (dChain g g' da db dc)) := (pe_chain ho ho' ha hb hc hm).weak fun _ _ _ h => chain_core lf lf' h
theorem dt_chain {op op' : CmpOp} (ho : OpR X (compareOp op) r) (ho' : OpR X (compareOp op') r') (lf : Lf c.K r g) (lf' : Lf c.K r' g') (ha : PE X a (EOf W c da)) (hb : PE X b (EOf W c db)) (hc : PE X e3 (EOf W c dc))
    (hm : lastMarks [op, op'] [b, e3] = false := by with_unfolding_all rfl) : PT X (.Compare a [op, op'] [b, e3] pos) (TOf W c (dT (dChain g g' da db dc))) := (pt_chain ho ho' ha hb hc hm).weak fun _ _ _ h => chain_core lf lf' (test_core h)
end
theorem RpL.at {D : Hp} {vs : List V} {ds : List PyData} {i : Int} {d : PyData} (r : RpL D vs ds) (h : atI ds i = some d) : ∃ v, atI vs i = some v ∧ Rp D v d := by
  unfold atI at h ⊢
  rw [r.length]
  cases e : ixN ds.length i with
  | none => rw [e] at h; cases h
  | some j =>
    rw [e] at h
    obtain ⟨v, h1, h2⟩ := r.get' (show ds[j]? = some d from h)
    exact ⟨v, h1, h2⟩
def gIx : PyData → PyData → Option PyData
  | .list ds, .int i => atI ds i
  | .tuple ds, .int i => atI ds i
  | .str z, .int i => if z.length ≤ lenB then (match atI z.cps.toList i with | some c => some (.str ⟨#[c]⟩) | none => none) else none
  | _, _ => none
theorem lf_ix : Lf KF.frag (rIx KF.frag) gIx := by
  intro D H x y a b z Q s rx ry e q
  unfold gIx at e
  split at e
  · obtain ⟨p, vs, rfl, h1, h2⟩ := rx.lst s
    obtain ⟨v, h3, h4⟩ := h2.at e
    exact .inl ⟨p, vs, _, v, rfl, ry.int, .of h1, h3, q _ _ (.of h4)⟩
  · obtain ⟨_, p, vs, rfl, h1, h2⟩ := rx.tup
    obtain ⟨v, h3, h4⟩ := h2.at e
    exact .inr (.inl ⟨p, vs, _, v, rfl, ry.int, h1.same s, h3, q _ _ (.of h4)⟩)
  · split at e
    · rename_i h
      split at e
      · rename_i c hc
        cases e
        exact .inr (.inr ⟨_, _, c, rx.str, ry.int, lenB_le h, hc, q _ _ (.of (.str _))⟩)
      · cases e
    · cases e
  · cases e
section
variable {X : Cx} {W : WX} {c : Cf} {pos : Pos} {a b : Expr} {da db : DE}
theorem de_ix (hK : c.K = X.K) (ha : PE X a (EOf W c da)) (hb : PE X b (EOf W c db)) (hs : PlainIx b) : PE X (.Subscript a b pos) (EOf W c (dBin gIx da db)) :=
  (pe_ix (ix_seq (X := X)) ha hb hs).weak fun _ _ _ h => bin_core (by rw [← hK]; exact lf_ix) h
end
end L2.Dl

namespace L2.Dl
open PySem
open PySem.Spec
open PyProof.Rows
variable [KF]

inductive RqL (D H : Hp) : List V → List PyData → Prop
  | nil : RqL D H [] []
  | cons {v : V} {vs : List V} {x : PyData} {xs : List PyData} : Rq D H v x → RqL D H vs xs → RqL D H (v :: vs) (x :: xs)
def getAll (e : Nv) : List OV → Option (List PyData)
  | [] => some []
  | o :: r => match getOV e o with
    | none => none
    | some x => match getAll e r with
      | none => none
      | some xs => some (x :: xs)
theorem Sim.getAll {c : Cf} {D : Hp} {σ : St} {H : Hp} {env : Nv} (S : Sim c D env σ H) : ∀ {os : List OV} {vs : List V} {xs : List PyData}, OVRL c D σ vs os → Dl.getAll env os = some xs → RqL D H vs xs
  | [], vs, xs, r, g => by
    cases r
    cases g
    exact .nil
  | o :: os, vs, xs, r, g => by
    cases r with
    | cons r1 r2 =>
      unfold Dl.getAll at g
      split at g
      · cases g
      · rename_i x h1
        split at g
        · cases g
        · rename_i ys h2
          cases g
          exact .cons (S.getq r1 (Same.refl _) h1) (S.getAll r2 h2)
/-- a builtin's leaf -/
def LfA (r : List V → Hp → VK → Prop) (g : List PyData → Option PyData) : Prop :=
  ∀ (D H : Hp) (vs : List V) (xs : List PyData) (z : PyData) (Q : VK), Same D H → RqL D H vs xs → g xs = some z → (∀ v H', NewR D H v z H' → Q v H') → r vs H Q
/-- .. whose result is a new list -/
def LfN (r : List V → Hp → VK → Prop) (g : List PyData → Option (List PyData)) : Prop :=
  ∀ (D H : Hp) (vs : List V) (xs : List PyData) (zs : List PyData) (Q : VK), Same D H → RqL D H vs xs → g xs = some zs → (∀ p ws, H p = none → RpL D ws zs → Q (.ref p) (upd H p (.lst ws))) → r vs H Q
def dCallB (g : List PyData → Option PyData) (r : Nv → Res (List OV)) : DE := fun env => (r env).bd fun os e => match getAll e os with
  | some xs => match g xs with
    | some z => .ok (.d z) e
    | none => .stuck
  | none => .stuck
def dCallN (g : List PyData → Option (List PyData)) (r : Nv → Res (List OV)) : DL := fun env => (r env).bd fun os e => match getAll e os with
  | some xs => match g xs with
    | some z => .ok z e
    | none => .stuck
  | none => .stuck
section
variable {X : Cx} {W : WX} {c : Cf} {pos p : Pos} {e : Expr} {es : List Expr} {ra : Nv → Res (List OV)} {g : List PyData → Option PyData} {gn : List PyData → Option (List PyData)} {r : List V → Hp → VK → Prop} {id T : String} {x : Str}
theorem callB_core (lf : LfA r g) {σ : St} {H : Hp} {Q : VK} (h : EOf W c (dCallB g ra) σ H Q) : tCB r (AOf W c ra) σ H Q := by
  obtain ⟨D, env, S, p⟩ := h
  refine ⟨D, env, S, ?_⟩
  have p1 := PostA.bd p
  revert p1
  cases ra env with
  | stuck => exact fun z => z
  | exc y e => exact fun z => z
  | ok o1 e1 =>
    intro p1 v H1 D1 S1 s1 r1
    obtain ⟨D2, env2, o, S2, s2, r2, e, p2⟩ := p1 v H1 D1 S1 s1 r1
    cases e
    cases g1 : getAll e1 o1 with
    | none => simp only [g1] at p2; exact p2.elim
    | some xs =>
      simp only [g1] at p2
      cases g3 : g xs with
      | none => simp only [g3] at p2; exact p2.elim
      | some z =>
        simp only [g3] at p2
        exact lf D2 H1 v xs z Q S2.dh (S2.getAll r2 g1) g3 fun u H' n => S2.new n p2
theorem callN_core (lf : LfN r gn) {σ : St} {H : Hp} {Q : VK} (h : LOf W c (dCallN gn ra) σ H Q) : tCB r (AOf W c ra) σ H Q := by
  obtain ⟨D, env, S, p⟩ := h
  refine ⟨D, env, S, ?_⟩
  have p1 := PostA.bdL p
  revert p1
  cases ra env with
  | stuck => exact fun z => z
  | exc y e => exact fun z => z
  | ok o1 e1 =>
    intro p1 v H1 D1 S1 s1 r1
    obtain ⟨D2, env2, o, S2, s2, r2, e, p2⟩ := p1 v H1 D1 S1 s1 r1
    cases e
    cases g1 : getAll e1 o1 with
    | none => simp only [g1] at p2; exact p2.elim
    | some xs =>
      simp only [g1] at p2
      cases g3 : gn xs with
      | none => simp only [g3] at p2; exact p2.elim
      | some z =>
        simp only [g3] at p2
        exact lf D2 H1 v xs z Q S2.dh (S2.getAll r2 g1) g3 fun q ws hq rq => p2 q ws H1 D2 S2 (Same.refl _) hq rq
theorem de_callB (hc : CallR X (.builtin id) r) (lf : LfA r g) (hg : Gl X x) (hm : X.mg x = none) (hv : bootBuiltins x = some (.builtin id)) (ha : PA X (e :: es) (AOf W c ra)) (hn : x ≠ "__name__" := by decide) (hdb : (x == ("__debug__" : Str)) = false := by decide)
    (he : starEach (e :: es) X.env = (false, eval e X.env) :: starEach es X.env := by rfl) (hpl : (backTo pos (starEach es X.env)).any (·.1) = false := by rfl) : PE X (.Call (.Name x p) (e :: es) [] pos) (EOf W c (dCallB g ra)) :=
  (pe_callB hc hg hm hv ha hn hdb he hpl).weak fun _ _ _ h => callB_core lf h
theorem de_callTy (hc : CallR X (.type T) r) (lf : LfA r g) (hg : Gl X x) (hm : X.mg x = none) (hv : bootBuiltins x = some (.type T)) (ha : PA X (e :: es) (AOf W c ra)) (hn : x ≠ "__name__" := by decide) (hdb : (x == ("__debug__" : Str)) = false := by decide)
    (he : starEach (e :: es) X.env = (false, eval e X.env) :: starEach es X.env := by rfl) (hpl : (backTo pos (starEach es X.env)).any (·.1) = false := by rfl) : PE X (.Call (.Name x p) (e :: es) [] pos) (EOf W c (dCallB g ra)) :=
  (pe_callTy hc hg hm hv ha hn hdb he hpl).weak fun _ _ _ h => callB_core lf h
theorem dl_callB (hc : CallR X (.builtin id) r) (lf : LfN r gn) (hg : Gl X x) (hm : X.mg x = none) (hv : bootBuiltins x = some (.builtin id)) (ha : PA X (e :: es) (AOf W c ra)) (hn : x ≠ "__name__" := by decide) (hdb : (x == ("__debug__" : Str)) = false := by decide)
    (he : starEach (e :: es) X.env = (false, eval e X.env) :: starEach es X.env := by rfl) (hpl : (backTo pos (starEach es X.env)).any (·.1) = false := by rfl) : PE X (.Call (.Name x p) (e :: es) [] pos) (LOf W c (dCallN gn ra)) :=
  (pe_callB hc hg hm hv ha hn hdb he hpl).weak fun _ _ _ h => callN_core lf h
theorem dl_callTy (hc : CallR X (.type T) r) (lf : LfN r gn) (hg : Gl X x) (hm : X.mg x = none) (hv : bootBuiltins x = some (.type T)) (ha : PA X (e :: es) (AOf W c ra)) (hn : x ≠ "__name__" := by decide) (hdb : (x == ("__debug__" : Str)) = false := by decide)
    (he : starEach (e :: es) X.env = (false, eval e X.env) :: starEach es X.env := by rfl) (hpl : (backTo pos (starEach es X.env)).any (·.1) = false := by rfl) : PE X (.Call (.Name x p) (e :: es) [] pos) (LOf W c (dCallN gn ra)) :=
  (pe_callTy hc hg hm hv ha hn hdb he hpl).weak fun _ _ _ h => callN_core lf h
end
theorem RqL.one {D H : Hp} {vs : List V} {x : PyData} (r : RqL D H vs [x]) : ∃ v, vs = [v] ∧ Rq D H v x := by
  cases r with
  | cons h t => cases t; exact ⟨_, rfl, h⟩
theorem RqL.two {D H : Hp} {vs : List V} {x y : PyData} (r : RqL D H vs [x, y]) : ∃ v w, vs = [v, w] ∧ Rq D H v x ∧ Rq D H w y := by
  cases r with
  | cons h t =>
    obtain ⟨w, rfl, h2⟩ := RqL.one t
    exact ⟨_, _, rfl, h, h2⟩
def gLen : List PyData → Option PyData
  | [.list xs] => some (.int xs.length)
  | [.tuple xs] => some (.int xs.length)
  | [.str z] => if z.length ≤ lenB then some (.int z.length) else none
  | _ => none
def rLenA (K : PySem.W.Frag) : List V → Hp → VK → Prop := fun xs H Q =>
  (∃ p ys, xs = [.ref p] ∧ (SqL K H p ys ∨ SqT K H p ys) ∧ Q (.int ys.length) H) ∨ ∃ z, xs = [.str z] ∧ z.length ≤ sizeLine ∧ Q (.int z.length) H
theorem cr_lenA {X : Cx} : CallR X (.builtin "len") (rLenA X.K) := call_len_seq.or call_len_str
theorem lf_len : LfA (rLenA KF.frag) gLen := by
  intro D H vs xs z Q s r e q
  unfold gLen at e
  split at e
  · cases e
    obtain ⟨v, rfl, h⟩ := r.one
    obtain ⟨p, ws, rfl, h1, h2⟩ := h.lst s
    exact .inl ⟨p, ws, rfl, .inl (.of h1), by rw [h2.length]; exact q _ _ (.of (.int _))⟩
  · cases e
    obtain ⟨v, rfl, h⟩ := r.one
    obtain ⟨_, p, ws, rfl, h1, h2⟩ := h.tup
    exact .inl ⟨p, ws, rfl, .inr (h1.same s), by rw [h2.length]; exact q _ _ (.of (.int _))⟩
  · split at e
    · rename_i hl
      cases e
      obtain ⟨v, rfl, h⟩ := r.one
      rw [h.str]
      exact .inr ⟨_, rfl, lenB_le hl, q _ _ (.of (.int _))⟩
    · cases e
  · cases e
def gListOf : List PyData → Option (List PyData)
  | [.list xs] => some xs
  | [.tuple xs] => some xs
  | _ => none
theorem lf_listOf : LfN (fun xs H Q => ∃ p ys, xs = [.ref p] ∧ (SqL KF.frag H p ys ∨ SqT KF.frag H p ys) ∧ ∀ l, H l = none → Q (.ref l) (upd H l (.lst ys))) gListOf := by
  intro D H vs xs z Q s r e q
  unfold gListOf at e
  split at e
  · cases e
    obtain ⟨v, rfl, h⟩ := r.one
    obtain ⟨p, ws, rfl, h1, h2⟩ := h.lst s
    exact ⟨p, ws, rfl, .inl (.of h1), fun l hl => q l ws hl h2⟩
  · cases e
    obtain ⟨v, rfl, h⟩ := r.one
    obtain ⟨_, p, ws, rfl, h1, h2⟩ := h.tup
    exact ⟨p, ws, rfl, .inr (h1.same s), fun l hl => q l ws hl h2⟩
  · cases e
def gTupleOf : List PyData → Option PyData
  | [.list xs] => some (.tuple xs)
  | [.tuple xs] => some (.tuple xs)
  | _ => none
theorem lf_tupleOf : LfA (fun xs H Q => ∃ p ys, xs = [.ref p] ∧ ((SqL KF.frag H p ys ∧ ∀ l, H l = none → Q (.ref l) (upd H l (.tup ys))) ∨ (SqT KF.frag H p ys ∧ Q (.ref p) H))) gTupleOf := by
  intro D H vs xs z Q s r e q
  unfold gTupleOf at e
  split at e
  · cases e
    obtain ⟨v, rfl, h⟩ := r.one
    obtain ⟨p, ws, rfl, h1, h2⟩ := h.lst s
    exact ⟨p, ws, rfl, .inl ⟨.of h1, fun l hl => q _ _ (.tup hl h2)⟩⟩
  · cases e
    obtain ⟨v, rfl, h⟩ := r.one
    obtain ⟨h', p, ws, rfl, h1, h2⟩ := h.tup
    exact ⟨p, ws, rfl, .inr ⟨h1.same s, q _ _ (.of h')⟩⟩
  · cases e
/-- the bools, the ints of a list -/
def boolsOf : List PyData → Option (List Bool)
  | [] => some []
  | .bool b :: r => match boolsOf r with
    | some bs => some (b :: bs)
    | none => none
  | _ :: _ => none
def intsOf : List PyData → Option (List Int)
  | [] => some []
  | .int b :: r => match intsOf r with
    | some bs => some (b :: bs)
    | none => none
  | _ :: _ => none
theorem RpL.bools {D : Hp} : ∀ {vs : List V} {xs : List PyData} {bs : List Bool}, RpL D vs xs → boolsOf xs = some bs → vs = bs.map V.bl
  | [], [], bs, .nil, e => by cases e; rfl
  | _ :: _, x :: xs, bs, .cons h r, e => by
    cases x with
    | bool b =>
      cases h
      unfold boolsOf at e
      split at e
      · rename_i cs hc; cases e; rw [RpL.bools r hc]; rfl
      · cases e
    | _ => cases e
theorem RpL.ints {D : Hp} : ∀ {vs : List V} {xs : List PyData} {bs : List Int}, RpL D vs xs → intsOf xs = some bs → vs = bs.map V.int
  | [], [], bs, .nil, e => by cases e; rfl
  | _ :: _, x :: xs, bs, .cons h r, e => by
    cases x with
    | int b =>
      cases h
      unfold intsOf at e
      split at e
      · rename_i cs hc; cases e; rw [RpL.ints r hc]; rfl
      · cases e
    | _ => cases e
def gAll : List PyData → Option PyData
  | [.list xs] => match boolsOf xs with
    | some bs => some (.bool (bs.all id))
    | none => none
  | _ => none
def gAny : List PyData → Option PyData
  | [.list xs] => match boolsOf xs with
    | some bs => some (.bool (bs.any id))
    | none => none
  | _ => none
def gSum : List PyData → Option PyData
  | [.list xs] => match intsOf xs with
    | some bs => some (.int bs.sum)
    | none => none
  | _ => none
theorem lf_all : LfA (rAll KF.frag) gAll := by
  intro D H vs xs z Q s r e q
  unfold gAll at e
  split at e
  · split at e
    · rename_i xs bs hb
      cases e
      obtain ⟨v, rfl, h⟩ := r.one
      obtain ⟨p, ws, rfl, h1, h2⟩ := h.lst s
      exact ⟨p, bs, rfl, by rw [← h2.bools hb]; exact .of h1, q _ _ (.of (.bl _))⟩
    · cases e
  · cases e
theorem lf_any : LfA (rAny KF.frag) gAny := by
  intro D H vs xs z Q s r e q
  unfold gAny at e
  split at e
  · split at e
    · rename_i xs bs hb
      cases e
      obtain ⟨v, rfl, h⟩ := r.one
      obtain ⟨p, ws, rfl, h1, h2⟩ := h.lst s
      exact ⟨p, bs, rfl, by rw [← h2.bools hb]; exact .of h1, q _ _ (.of (.bl _))⟩
    · cases e
  · cases e
theorem lf_sum : LfA (rSum KF.frag) gSum := by
  intro D H vs xs z Q s r e q
  unfold gSum at e
  split at e
  · split at e
    · rename_i xs bs hb
      cases e
      obtain ⟨v, rfl, h⟩ := r.one
      obtain ⟨p, ws, rfl, h1, h2⟩ := h.lst s
      exact ⟨p, bs, rfl, by rw [← h2.ints hb]; exact .of h1, q _ _ (.of (.int _))⟩
    · cases e
  · cases e
def gMax2 : List PyData → Option PyData
  | [.int i, .int j] => some (.int (if j > i then j else i))
  | _ => none
def gMin2 : List PyData → Option PyData
  | [.int i, .int j] => some (.int (if j < i then j else i))
  | _ => none
theorem lf_max2 : LfA (fun xs H Q => ∃ i j, xs = [V.int i, V.int j] ∧ Q (.int (if j > i then j else i)) H) gMax2 := by
  intro D H vs xs z Q s r e q
  unfold gMax2 at e
  split at e
  · cases e
    obtain ⟨v, w, rfl, h, h'⟩ := r.two
    rw [h.int, h'.int]
    exact ⟨_, _, rfl, q _ _ (.of (.int _))⟩
  · cases e
theorem lf_min2 : LfA (fun xs H Q => ∃ i j, xs = [V.int i, V.int j] ∧ Q (.int (if j < i then j else i)) H) gMin2 := by
  intro D H vs xs z Q s r e q
  unfold gMin2 at e
  split at e
  · cases e
    obtain ⟨v, w, rfl, h, h'⟩ := r.two
    rw [h.int, h'.int]
    exact ⟨_, _, rfl, q _ _ (.of (.int _))⟩
  · cases e
/-- the greatest, the least of ints -/
def maxL : List Int → Int
  | [] => 0
  | [x] => x
  | x :: r => max x (maxL r)
def minL : List Int → Int
  | [] => 0
  | [x] => x
  | x :: r => min x (minL r)
theorem maxL_spec : ∀ ns : List Int, ns ≠ [] → maxL ns ∈ ns ∧ ∀ y ∈ ns, y ≤ maxL ns
  | [], h => absurd rfl h
  | [x], _ => by simp [maxL]
  | x :: y :: r, _ => by
    obtain ⟨h1, h2⟩ := maxL_spec (y :: r) (by simp)
    have e : maxL (x :: y :: r) = max x (maxL (y :: r)) := rfl
    rw [e]
    constructor
    · by_cases h : x ≤ maxL (y :: r)
      · rw [Int.max_eq_right h]; exact List.mem_cons_of_mem _ h1
      · rw [Int.max_eq_left (by omega)]; exact List.mem_cons_self
    · intro z hz
      rcases List.mem_cons.mp hz with rfl | hz
      · exact Int.le_max_left _ _
      · exact Int.le_trans (h2 z hz) (Int.le_max_right _ _)
theorem minL_spec : ∀ ns : List Int, ns ≠ [] → minL ns ∈ ns ∧ ∀ y ∈ ns, minL ns ≤ y
  | [], h => absurd rfl h
  | [x], _ => by simp [minL]
  | x :: y :: r, _ => by
    obtain ⟨h1, h2⟩ := minL_spec (y :: r) (by simp)
    have e : minL (x :: y :: r) = min x (minL (y :: r)) := rfl
    rw [e]
    constructor
    · by_cases h : x ≤ minL (y :: r)
      · rw [Int.min_eq_left h]; exact List.mem_cons_self
      · rw [Int.min_eq_right (by omega)]; exact List.mem_cons_of_mem _ h1
    · intro z hz
      rcases List.mem_cons.mp hz with rfl | hz
      · exact Int.min_le_left _ _
      · exact Int.le_trans (Int.min_le_right _ _) (h2 z hz)
def gMaxL : List PyData → Option PyData
  | [.list xs] => match intsOf xs with
    | some (b :: bs) => some (.int (maxL (b :: bs)))
    | _ => none
  | _ => none
def gMinL : List PyData → Option PyData
  | [.list xs] => match intsOf xs with
    | some (b :: bs) => some (.int (minL (b :: bs)))
    | _ => none
  | _ => none
theorem lf_maxL : LfA (rMax KF.frag) gMaxL := by
  intro D H vs xs z Q s r e q
  unfold gMaxL at e
  split at e
  · split at e
    · rename_i xs b bs hb
      cases e
      obtain ⟨v, rfl, h⟩ := r.one
      obtain ⟨p, ws, rfl, h1, h2⟩ := h.lst s
      refine ⟨p, b :: bs, rfl, by rw [← h2.ints hb]; exact .of h1, by simp, fun m hm hy => ?_⟩
      obtain ⟨k1, k2⟩ := maxL_spec (b :: bs) (by simp)
      have : m = maxL (b :: bs) := Int.le_antisymm (k2 m hm) (hy _ k1)
      rw [this]
      exact q _ _ (.of (.int _))
    · cases e
  · cases e
theorem lf_minL : LfA (rMin KF.frag) gMinL := by
  intro D H vs xs z Q s r e q
  unfold gMinL at e
  split at e
  · split at e
    · rename_i xs b bs hb
      cases e
      obtain ⟨v, rfl, h⟩ := r.one
      obtain ⟨p, ws, rfl, h1, h2⟩ := h.lst s
      refine ⟨p, b :: bs, rfl, by rw [← h2.ints hb]; exact .of h1, by simp, fun m hm hy => ?_⟩
      obtain ⟨k1, k2⟩ := minL_spec (b :: bs) (by simp)
      have : m = minL (b :: bs) := Int.le_antisymm (hy _ k1) (k2 m hm)
      rw [this]
      exact q _ _ (.of (.int _))
    · cases e
  · cases e
end L2.Dl

namespace L2.Dl
open PySem
open PySem.Spec
open PyProof.Rows
variable [KF]

def tyName : PyData → String
  | .none => "NoneType"
  | .bool _ => "bool"
  | .int _ => "int"
  | .str _ => "str"
  | .list _ => "list"
  | .tuple _ => "tuple"
  | .dict _ => "dict"
def gIsi (T : String) (x : PyData) : Option PyData := (kitB (tyName x) T).map PyData.bool
theorem Rq.ty {D H : Hp} {v : V} {x : PyData} (r : Rq D H v x) (s : Same D H) : TyX KF.frag H v (.type (tyName x)) := by
  rcases r with r | ⟨a, vs, ds, rfl, rfl, e, r⟩
  · cases r with
    | non => exact .base .non
    | bl b => exact .base (.bl b)
    | int i => exact .base (.int i)
    | str i => exact .base (.str i)
    | lst h _ => exact .base (.lst (s _ _ h))
    | tup h _ => exact .base (.tup (s _ _ h))
    | nilK h =>
      rcases h with (h | ⟨o, h⟩) | ⟨o, its, n, hk, hc, _⟩
      · cases h
      · cases h
      · exact .kTuple hk hc
  · exact .base (.lst e)
section
variable {X : Cx} {W : WX} {c : Cf} {pos p p2 : Pos} {a : Expr} {da : DE} {T : String} {tn : Str}
theorem de_isi (hK : c.K = X.K) (ha : PE X a (EOf W c da)) (hg : Gl X "isinstance") (hm : X.mg "isinstance" = none) (hg2 : Gl X tn) (hm2 : X.mg tn = none) (hv : bootBuiltins tn = some (.type T)) (hn : tn ≠ "__name__" := by decide) (hdb : (tn == ("__debug__" : Str)) = false := by decide)
    (he : starEach [a, .Name tn p2] X.env = (false, eval a X.env) :: starEach [.Name tn p2] X.env := by rfl) (he2 : starEach [.Name tn p2] X.env = (false, eval (.Name tn p2) X.env) :: starEach [] X.env := by rfl)
    (hpl : (backTo pos (starEach [.Name tn p2] X.env)).any (·.1) = false := by rfl) : PE X (.Call (.Name "isinstance" p) [a, .Name tn p2] [] pos) (EOf W c (dUn (gIsi T) da)) :=
  (pe_callB call_isi hg hm boot_isinstance (pa_cons ha (pa_cons (pe_bltn (v := .ty T) hg2 hm2 hv rfl hn hdb) pa_nil he2) he) (by decide) (by decide) he hpl).weak fun σ H Q h => by
    have h2 := un_core (r := fun x H1 Q => rIsi X.K [x, .ty T] H1 Q) (g := gIsi T) (fun D H x a z Q s rx e q => by
      unfold gIsi at e
      cases k : kitB (tyName a) T with
      | none => rw [k] at e; cases e
      | some b =>
        rw [k] at e
        cases e
        exact ⟨x, .ty T, _, _, b, rfl, .ty T, hK ▸ rx.ty s, kit_ty k, q _ _ (.of (.bl b))⟩) h
    exact h2
end
def gRepr : List PyData → Option PyData
  | [d] => if d.showable = true ∧ d.shown.length ≤ lenB ∧ d.depth ≤ 100 ∧ d.hasDict = false then some (.str d.shown) else none
  | _ => none
def rReprD (K : PySem.W.Frag) : List V → Hp → VK → Prop := fun xs H Q => ∃ x d, xs = [x] ∧ Dp K H x d ∧ d.showable = true ∧ d.shown.length ≤ sizeLine ∧ d.depth ≤ 100 ∧ d.hasDict = false ∧ Q (.str d.shown) H
theorem call_reprD {X : Cx} (hg : X.A.guards = some []) (hu : X.A.units + 110 < cLine) : CallR X (.builtin "repr") (rReprD X.K) := by
  intro pins s σ H xs us Q I r h
  obtain ⟨x, d, rfl, hd, h1, h2, h3, h4, q⟩ := h
  obtain ⟨u, rfl, ru⟩ := Vals.one r
  obtain ⟨as, rd⟩ := Dp.reads I d x u hd ru
  have hsm := PyData.noDict_hsm (d := d) (as := as) h4
  have fin : ∀ (h' : Heap) (t : Tok) (tk : Nat), (∀ b o, s.heap.get? b = some o → h'.get? b = some o) → EP X pins σ Q (.str d.shown t) { s with heap := h', toks := tk } := fun h' t tk hk =>
    ⟨.str d.shown, H, I.kept hk, ⟨t, rfl⟩, q⟩
  cases hd with
  | non => cases ru; exact PySem.P.repr_of_none (fin _ _ _ fun _ _ e => e)
  | bl b => cases ru; exact PySem.P.repr_of_bool (fin _ _ _ fun _ _ e => e)
  | int i => obtain ⟨t, rfl⟩ := ru; exact PySem.P.repr_of_int (of_decide_eq_true h1) (fin _ _ _ fun _ _ e => e)
  | str i => obtain ⟨t, rfl⟩ := ru; exact PySem.P.repr_of_str (fin _ _ _ fun _ _ e => e) h2
  | lst h r' =>
    cases ru
    exact repr_of_reads' rd h1 hsm hg (by omega) (fun _ _ e => e) (fun h' t tk hk => fin h' t tk hk) h2
  | tup h r' =>
    cases ru
    exact repr_of_reads' rd h1 hsm hg (by omega) (fun _ _ e => e) (fun h' t tk hk => fin h' t tk hk) h2
theorem lf_repr : LfA (rReprD KF.frag) gRepr := by
  intro D H vs xs z Q s r e q
  unfold gRepr at e
  split at e
  · split at e
    · rename_i h
      cases e
      obtain ⟨v, rfl, h'⟩ := r.one
      exact ⟨v, _, rfl, h'.dp s, h.1, lenB_le h.2.1, h.2.2.1, h.2.2.2, q _ _ (.of (.str _))⟩
    · cases e
  · cases e
end L2.Dl

namespace L2.Dl
open PySem
open PySem.Spec
open PyProof.Rows
variable [KF]

def Slot.par : Slot → Bool
  | .own p _ => p
  | .dct p _ => p
  | _ => false
def freeAt (env : Nv) (i : Nat) : Bool := match env[i]? with
  | some s => !s.par
  | none => false
def setS (env : Nv) (i : Nat) (s : Slot) : SRes := if freeAt env i = true then .nx (env.set i s) else .stuck
section
variable {c : Cf} {D D' : Hp} {env env' : Nv} {σ : St} {H H' : Hp} {v : V} {s : Slot}
theorem freeAt_lt {i : Nat} (h : freeAt env i = true) : i < env.length := by
  unfold freeAt at h
  split at h
  · rename_i s e; exact (List.getElem?_eq_some_iff.mp e).1
  · cases h
theorem join_set_self {i : Nat} (h : i < σ.length) : ((σ.set i (some v))[i]?).join = some v := by
  rw [List.getElem?_set_self h] <;> rfl
theorem join_set_ne {i j : Nat} (h : i ≠ j) : ((σ.set i (some v))[j]?).join = (σ[j]?).join := by
  rw [List.getElem?_set_ne h]
/-- a slot that is made: what it holds is its own alone -/
def NewSlot (c : Cf) (D : Hp) (env : Nv) (σ : St) (H : Hp) (v : V) (s : Slot) : Prop :=
  SlotOk c D H 0 (some v) s ∧ s.par = false ∧ (s.owns = true → ∀ (j : Nat) (t : Slot) (a : Addr), env[j]? = some t → t.owns = true → (σ[j]?).join = some (V.ref a) → v ≠ .ref a)
theorem SlotOk.anyIx {i j : Nat} {x : Option V} (h : SlotOk c D H i x s) (p : s.par = false) : SlotOk c D H j x s := by
  cases s with
  | own q xs =>
    obtain ⟨a, vs, e, h1, h2, h3, h4, h5⟩ := h
    cases (show q = false from p)
    exact ⟨a, vs, e, h1, h2, h3, h4, fun z => nomatch z⟩
  | dct q kvs =>
    obtain ⟨a, e, h1, h3, h4, h5⟩ := h
    cases (show q = false from p)
    exact ⟨a, e, h1, h3, h4, fun z => nomatch z⟩
  | un => trivial
  | v d => exact h
  | gl n => exact h
  | ro xs => exact h
theorem Sim.setS (S : Sim c D env σ H) {i : Nat} (hi : i < env.length) (n : NewSlot c D env σ H v s) : Sim c D (env.set i s) (σ.set i (some v)) H := by
  have hl : i < σ.length := by rw [← S.len]; exact hi
  refine ⟨S.dh, S.bh, S.bd, by simpa using S.len, fun j t q => ?_, fun j k t u b ej ek oj ok hj hk => ?_⟩
  · by_cases hj : i = j
    · subst hj
      rw [List.getElem?_set_self hi] at q
      cases q
      rw [join_set_self hl]
      exact n.1.anyIx n.2.1
    · rw [List.getElem?_set_ne hj] at q
      rw [join_set_ne hj]
      exact S.slot j t q
  · by_cases h1 : i = j
    · by_cases h2 : i = k
      · exact h1.symm.trans h2
      · subst h1
        rw [List.getElem?_set_self hi] at ej
        cases ej
        rw [join_set_self hl] at hj
        rw [List.getElem?_set_ne h2] at ek
        rw [join_set_ne h2] at hk
        exact absurd (Option.some.inj hj) (n.2.2 oj k u b ek ok hk)
    · by_cases h2 : i = k
      · subst h2
        rw [List.getElem?_set_self hi] at ek
        cases ek
        rw [join_set_self hl] at hk
        rw [List.getElem?_set_ne h1] at ej
        rw [join_set_ne h1] at hj
        exact absurd (Option.some.inj hk) (n.2.2 ok j t b ej oj hj)
      · rw [List.getElem?_set_ne h1] at ej
        rw [join_set_ne h1] at hj
        rw [List.getElem?_set_ne h2] at ek
        rw [join_set_ne h2] at hk
        exact S.apart j k t u b ej ek oj ok hj hk
theorem NewSlot.ofV {x : PyData} (r : Rp D v x) : NewSlot c D env σ H v (.v x) := ⟨⟨v, rfl, r⟩, rfl, fun z => nomatch z⟩
theorem NewSlot.gl {n : Str} {f : Addr} (h : c.mg n = some (.ref f)) : NewSlot c D env σ H (.ref f) (.gl n) := ⟨⟨f, rfl, h⟩, rfl, fun z => nomatch z⟩
theorem Sim.apartNew (S : Sim c D env σ H) {p : Addr} (hp : H p = none) : ∀ (j : Nat) (t : Slot) (a : Addr), env[j]? = some t → t.owns = true → (σ[j]?).join = some (V.ref a) → V.ref p ≠ .ref a := fun j t a ej oj hj e => by
  cases e
  obtain ⟨a', u, e1, e2, _⟩ := (S.slot j t ej).tracked oj
  rw [hj] at e1; cases e1
  rw [hp] at e2; cases e2
theorem Sim.newOwn (S : Sim c D env σ H) {p : Addr} {vs : List V} {xs : List PyData} (hp : H p = none) (r : RpL D vs xs) : NewSlot c D env σ (upd H p (.lst vs)) (.ref p) (.own false xs) :=
  ⟨⟨p, vs, rfl, upd_same, r, S.dh.free hp, S.bh.free hp, fun z => nomatch z⟩, rfl, fun _ => S.apartNew hp⟩
theorem Sim.newDct (S : Sim c D env σ H) {p : Addr} {o : HO} {kvs : DV} (hp : H p = none) (r : DctOk D (upd H p o) p kvs) : NewSlot c D env σ (upd H p o) (.ref p) (.dct false kvs) :=
  ⟨⟨p, rfl, r, S.dh.free hp, S.bh.free hp, fun z => nomatch z⟩, rfl, fun _ => S.apartNew hp⟩
/-- an owned list is changed -/
theorem Sim.putOwn (S : Sim c D env σ H) {i : Nat} {p : Bool} {xs ys : List PyData} {a : Addr} {ws : List V} (e : env[i]? = some (.own p xs)) (ha : (σ[i]?).join = some (.ref a)) (r : RpL D ws ys) :
    Sim c D (env.set i (.own p ys)) σ (upd H a (.lst ws)) := by
  have hi : i < env.length := (List.getElem?_eq_some_iff.mp e).1
  obtain ⟨a', vs, e1, h1, h2, h3, h4, h5⟩ := S.sl e ha
  cases e1
  refine ⟨fun b u q => ?_, fun b u q => ?_, S.bd, by simpa using S.len, fun j t q => ?_, fun j k t u b ej ek oj ok hj hk => ?_⟩
  · have hb : b ≠ a := ne_of_none q h3
    rw [upd_ne hb]; exact S.dh b u q
  · have hb : b ≠ a := ne_of_none q h4
    rw [upd_ne hb]; exact S.bh b u q
  · by_cases hj : i = j
    · subst hj
      rw [List.getElem?_set_self hi] at q
      cases q
      exact ⟨a, ws, ha, upd_same, r, h3, h4, h5⟩
    · rw [List.getElem?_set_ne hj] at q
      refine (S.slot j t q).lift (Same.refl D) fun b eb ho => ⟨upd_ne ?_, fun z => z⟩
      rintro rfl
      exact hj (S.apart i j _ _ b e q rfl ho ha eb)
  · have key : ∀ (j : Nat) (t : Slot), (env.set i (.own p ys))[j]? = some t → t.owns = true → ∃ t', env[j]? = some t' ∧ t'.owns = true := fun j t ej oj => by
      by_cases h : i = j
      · subst h; exact ⟨_, e, rfl⟩
      · rw [List.getElem?_set_ne h] at ej; exact ⟨t, ej, oj⟩
    obtain ⟨t', e1, o1⟩ := key j t ej oj
    obtain ⟨u', e2, o2⟩ := key k u ek ok
    exact S.apart j k t' u' b e1 e2 o1 o2 hj hk
/-- an owned dict is changed -/
theorem Sim.putDct (S : Sim c D env σ H) {i : Nat} {p : Bool} {xs ys : DV} {a : Addr} {o : HO} (e : env[i]? = some (.dct p xs)) (ha : (σ[i]?).join = some (.ref a)) (r : DctOk D (upd H a o) a ys) :
    Sim c D (env.set i (.dct p ys)) σ (upd H a o) := by
  have hi : i < env.length := (List.getElem?_eq_some_iff.mp e).1
  obtain ⟨a', e1, h1, h3, h4, h5⟩ := S.sl e ha
  cases e1
  refine ⟨fun b u q => ?_, fun b u q => ?_, S.bd, by simpa using S.len, fun j t q => ?_, fun j k t u b ej ek oj ok hj hk => ?_⟩
  · have hb : b ≠ a := ne_of_none q h3
    rw [upd_ne hb]; exact S.dh b u q
  · have hb : b ≠ a := ne_of_none q h4
    rw [upd_ne hb]; exact S.bh b u q
  · by_cases hj : i = j
    · subst hj
      rw [List.getElem?_set_self hi] at q
      cases q
      exact ⟨a, ha, r, h3, h4, h5⟩
    · rw [List.getElem?_set_ne hj] at q
      refine (S.slot j t q).lift (Same.refl D) fun b eb ho => ⟨upd_ne ?_, fun z => z⟩
      rintro rfl
      exact hj (S.apart i j _ _ b e q rfl ho ha eb)
  · have key : ∀ (j : Nat) (t : Slot), (env.set i (.dct p ys))[j]? = some t → t.owns = true → ∃ t', env[j]? = some t' ∧ t'.owns = true := fun j t ej oj => by
      by_cases h : i = j
      · subst h; exact ⟨_, e, rfl⟩
      · rw [List.getElem?_set_ne h] at ej; exact ⟨t, ej, oj⟩
    obtain ⟨t', e1, o1⟩ := key j t ej oj
    obtain ⟨u', e2, o2⟩ := key k u ek ok
    exact S.apart j k t' u' b e1 e2 o1 o2 hj hk
end

abbrev DR := Nv → Res Slot
def PostR (W : WX) (c : Cf) (D : Hp) (σ : St) (Q : VK) : Res Slot → Prop
  | .ok s env' => ∀ v H' D', Sim c D' env' σ H' → Same D D' → NewSlot c D' env' σ H' v s → Q v H'
  | .exc x env' => PostX W c D σ x env'
  | .stuck => False
def ROf (W : WX) (c : Cf) (d : DR) : TE := fun σ H Q => ∃ D env, Sim c D env σ H ∧ PostR W c D σ Q (d env)
def slotOf (e : Nv) : OV → Res Slot
  | .gl n => .ok (.gl n) e
  | o => match pinOV e o with
    | some (x, e') => .ok (.v x) e'
    | none => .stuck
def rE (d : DE) : DR := fun env => (d env).bd fun o e => slotOf e o
def rL (d : DL) : DR := fun env => (d env).bd fun xs e => .ok (.own false xs) e
def rK (d : DK) : DR := fun env => (d env).bd fun xs e => .ok (.dct false xs) e
section
variable {X : Cx} {W : WX} {c : Cf} {e : Expr} {d : DE} {l : DL} {k : DK}
theorem dr_e (h : PE X e (EOf W c d)) : PE X e (ROf W c (rE d)) := h.weak fun σ H Q ⟨D, env, S, p⟩ => by
  refine ⟨D, env, S, ?_⟩
  unfold rE at p
  cases g : d env with
  | stuck => rw [g] at p; exact p
  | exc y e => rw [g] at p; exact p
  | ok o e1 =>
    rw [g] at p
    intro v H1 D1 S1 s1 r1
    cases o with
    | gl n =>
      obtain ⟨f, rfl, h⟩ := r1
      exact p _ H1 D1 S1 s1 (.gl h)
    | d x =>
      exact p _ H1 D1 S1 s1 (.ofV r1)
    | sl i =>
      have p : PostR W c D σ Q (match pinOV e1 (.sl i) with | some (x, e') => .ok (.v x) e' | none => .stuck) := p
      split at p
      · rename_i x e' hp
        obtain ⟨D2, S2, s2, r2⟩ := S1.pin r1 hp
        exact p _ H1 D2 S2 (s1.trans s2) (.ofV r2)
      · exact p.elim
theorem dr_l (h : PE X e (LOf W c l)) : PE X e (ROf W c (rL l)) := h.weak fun σ H Q ⟨D, env, S, p⟩ => by
  refine ⟨D, env, S, ?_⟩
  unfold rL at p
  cases g : l env with
  | stuck => rw [g] at p; exact p
  | exc y e => rw [g] at p; exact p
  | ok xs e1 =>
    rw [g] at p
    exact fun q vs H1 D1 S1 s1 hq r1 => p _ _ D1 (S1.grow hq _) s1 (S1.newOwn hq r1)
theorem dr_k (h : PE X e (KOf' W c k)) : PE X e (ROf W c (rK k)) := h.weak fun σ H Q ⟨D, env, S, p⟩ => by
  refine ⟨D, env, S, ?_⟩
  unfold rK at p
  cases g : k env with
  | stuck => rw [g] at p; exact p
  | exc y e => rw [g] at p; exact p
  | ok xs e1 =>
    rw [g] at p
    exact fun q o H1 D1 S1 s1 hq r1 => p _ _ D1 (S1.grow hq _) s1 (S1.newDct hq r1)
end
end L2.Dl

namespace L2.Dl
open PySem
open PySem.Spec
open PyProof.Rows
variable [KF]

def SRes.sq (r : SRes) (k : DS) : SRes := match r with
  | .nx e => k e
  | r => r
def dNext : DS := .nx
def dSeq (a b : DS) : DS := fun env => (a env).sq b
def dExp (d : DE) : DS := fun env => (d env).bs fun _ e => .nx e
def dExpL (d : DL) : DS := fun env => (d env).bs fun _ e => .nx e
def retOf (o : OV) (e : Nv) : SRes := match pinOV e o with
  | some (x, e') => .rt x e'
  | none => .stuck
def dRet (d : DE) : DS := fun env => (d env).bs retOf
def dRetK (d : DK) : DS := fun env => (d env).bs fun kvs e => .rtD kvs e
def dRetN : DS := fun env => .rt .none env
def dIfS (t : DT) (a b : DS) : DS := fun env => (t env).bs fun k e => if k = true then a e else b e
def dSet (i : Nat) (d : DR) : DS := fun env => (d env).bs fun s e => setS e i s
def dBrk : DS := .bk
def dCnt : DS := .ct
def dStuck : DS := fun _ => .stuck
section
variable {X : Cx} {W : WX} {c : Cf} {pos : Pos} {e : Expr} {st : Stmt} {sts : List Stmt} {a b : DS} {d : DE} {l : DL} {k : DK} {r : DR} {t : DT}
theorem PostR.bs {D : Hp} {σ : St} {r : Res Slot} {k : Slot → Nv → SRes} {De : Ends} (h : PostS W c D De (r.bs k)) :
    PostR W c D σ (fun v H1 => ∃ D1 env1 s, Sim c D1 env1 σ H1 ∧ Same D D1 ∧ NewSlot c D1 env1 σ H1 v s ∧ r = .ok s env1 ∧ PostS W c D1 De (k s env1)) r := by
  cases r with
  | ok o e => exact fun v H1 D1 S q rr => ⟨D1, e, o, S, q, rr, rfl, PostS.mono h q⟩
  | exc y e => exact h σ
  | stuck => exact h
theorem PostK.bs {D : Hp} {σ : St} {r : Res DV} {k : DV → Nv → SRes} {De : Ends} (h : PostS W c D De (r.bs k)) :
    PostK W c D σ (fun v H1 => ∃ D1 env1 kvs p o H', v = .ref p ∧ H1 = upd H' p o ∧ H' p = none ∧ DctOk D1 (upd H' p o) p kvs ∧ Sim c D1 env1 σ H' ∧ Same D D1 ∧ r = .ok kvs env1 ∧ PostS W c D1 De (k kvs env1)) r := by
  cases r with
  | ok kvs e => exact fun p o H1 D1 S q hp rr => ⟨D1, e, kvs, p, o, H1, rfl, rfl, hp, rr, S, q, rfl, PostS.mono h q⟩
  | exc y e => exact h σ
  | stuck => exact h
theorem dss_nil : PSs X [] (SOf W c dNext) := pss_nil.weak fun De σ H ⟨D, env, S, p⟩ => p σ H D S (Same.refl _)
theorem seq_core {De : Ends} {σ : St} {H : Hp} (h : SOf W c (dSeq a b) De σ H) : tSeq (SOf W c a) (SOf W c b) De σ H := by
  obtain ⟨D, env, S, p⟩ := h
  refine ⟨D, env, S, ?_⟩
  have p : PostS W c D De ((a env).sq b) := p
  show PostS W c D { De with nx := SOf W c b De } (a env)
  cases g : a env with
  | nx e1 =>
    rw [g] at p
    exact fun σ' H' D' S' s' => ⟨D', e1, S', PostS.mono (r := b e1) p s'⟩
  | bk e1 => rw [g] at p; exact p
  | ct e1 => rw [g] at p; exact p
  | rt x e1 => rw [g] at p; exact p
  | rtD x e1 => rw [g] at p; exact p
  | exc x e1 => rw [g] at p; exact p
  | stuck => rw [g] at p; exact p
theorem dss_cons (h1 : PS X st (SOf W c a)) (h2 : PSs X sts (SOf W c b)) : PSs X (st :: sts) (SOf W c (dSeq a b)) := (pss_cons h1 h2).weak fun _ _ _ => seq_core
theorem dss_one (h1 : PS X st (SOf W c a)) : PSs X [st] (SOf W c a) := pss_one h1
theorem ds_exp (he : PE X e (EOf W c d)) (hs : swapsWith e none pos.line X.env = pure false := by rfl) : PS X (.Expr e pos) (SOf W c (dExp d)) :=
  (ps_expr he hs).weak fun De σ H ⟨D, env, S, p⟩ => by
    refine ⟨D, env, S, ?_⟩
    have p1 := PostE.bs (σ := σ) p
    revert p1
    cases d env with
    | stuck => exact fun z => z
    | exc y e => exact fun z => z
    | ok o1 e1 =>
      intro p1 v H1 D1 S1 s1 r1
      obtain ⟨D2, env2, o, S2, s2, r2, e, p2⟩ := p1 v H1 D1 S1 s1 r1
      cases e
      exact p2 σ H1 D2 S2 (Same.refl _)
theorem ds_expL (he : PE X e (LOf W c l)) (hs : swapsWith e none pos.line X.env = pure false := by rfl) : PS X (.Expr e pos) (SOf W c (dExpL l)) :=
  (ps_expr he hs).weak fun De σ H ⟨D, env, S, p⟩ => by
    refine ⟨D, env, S, ?_⟩
    have p1 := PostL.bs (σ := σ) p
    revert p1
    cases l env with
    | stuck => exact fun z => z
    | exc y e => exact fun z => z
    | ok o1 e1 =>
      intro p1 v vs H1 D1 S1 s1 hp r1
      obtain ⟨D2, env2, xs, q, ws, H', e1, e2, hq, r2, S2, s2, e, p2⟩ := p1 v vs H1 D1 S1 s1 hp r1
      cases e
      rw [e2]
      exact p2 σ _ D2 (S2.grow hq _) (Same.refl _)
theorem ds_ret (he : PE X e (EOf W c d)) : PS X (.Return (some e) pos) (SOf W c (dRet d)) :=
  (ps_ret he).weak fun De σ H ⟨D, env, S, p⟩ => by
    refine ⟨D, env, S, ?_⟩
    have p1 := PostE.bs (σ := σ) p
    revert p1
    cases d env with
    | stuck => exact fun z => z
    | exc y e => exact fun z => z
    | ok o1 e1 =>
      intro p1 v H1 D1 S1 s1 r1
      obtain ⟨D2, env2, o, S2, s2, r2, e, p2⟩ := p1 v H1 D1 S1 s1 r1
      cases e
      unfold retOf at p2
      split at p2
      · rename_i x e' hp
        obtain ⟨D3, S3, s3, r3⟩ := S2.pin r2 hp
        exact p2 v σ H1 D3 S3 s3 r3
      · exact p2.elim
theorem ds_retK (he : PE X e (KOf' W c k)) : PS X (.Return (some e) pos) (SOf W c (dRetK k)) :=
  (ps_ret he).weak fun De σ H ⟨D, env, S, p⟩ => by
    refine ⟨D, env, S, ?_⟩
    have p1 := PostK.bs (σ := σ) p
    revert p1
    cases k env with
    | stuck => exact fun z => z
    | exc y e => exact fun z => z
    | ok o1 e1 =>
      intro p1 q o H1 D1 S1 s1 hq r1
      obtain ⟨D2, env2, kvs, q', o', H', e1, e2, hq', r2, S2, s2, e, p2⟩ := p1 q o H1 D1 S1 s1 hq r1
      cases e
      rw [e1, e2]
      exact p2 q' o' σ H' D2 S2 (Same.refl _) hq' r2
theorem ds_retN : PS X (.Return none pos) (SOf W c dRetN) := ps_retN.weak fun De σ H ⟨D, env, S, p⟩ => p .non σ H D S (Same.refl _) .non
theorem ds_if {x : Expr} {sa sb : List Stmt} (hc : PT X x (TOf W c t)) (ha : PSs X sa (SOf W c a)) (hb : PSs X sb (SOf W c b)) : PS X (.If x sa sb pos) (SOf W c (dIfS t a b)) :=
  (ps_if hc ha hb).weak fun De σ H ⟨D, env, S, p⟩ => by
    refine ⟨D, env, S, ?_⟩
    have p1 := PostT.bs (σ := σ) p
    revert p1
    cases t env with
    | stuck => exact fun z => z
    | exc y e => exact fun z => z
    | ok k e1 =>
      intro p1 H1 D1 S1 s1
      obtain ⟨D2, env2, S2, s2, e, p2⟩ := p1 H1 D1 S1 s1
      cases e
      cases k with
      | true => exact iteT ⟨D2, e1, S2, p2⟩
      | false => exact iteF ⟨D2, e1, S2, p2⟩
theorem ds_pass : PS X (.Pass pos) (SOf W c dNext) := ps_pass.weak fun De σ H ⟨D, env, S, p⟩ => p σ H D S (Same.refl _)
theorem ds_brk : PS X (.Break pos) (SOf W c dBrk) := ps_break.weak fun De σ H ⟨D, env, S, p⟩ => p σ H D S (Same.refl _)
theorem ds_cnt : PS X (.Continue pos) (SOf W c dCnt) := ps_continue.weak fun De σ H ⟨D, env, S, p⟩ => p σ H D S (Same.refl _)
theorem ds_stuck : PS X st (SOf W c dStuck) := ps_never.weak fun De σ H ⟨D, env, S, p⟩ => p
theorem dss_stuck : PSs X sts (SOf W c dStuck) := pss_never.weak fun De σ H ⟨D, env, S, p⟩ => p
/-- storing a slot's value -/
theorem set_core {De : Ends} {σ : St} {H : Hp} {i : Nat} (h : SOf W c (dSet i r) De σ H) : tAsg (ROf W c r) (gName i) De σ H := by
  obtain ⟨D, env, S, p⟩ := h
  refine ⟨D, env, S, ?_⟩
  have p1 := PostR.bs (σ := σ) p
  revert p1
  cases r env with
  | stuck => exact fun z => z
  | exc y e => exact fun z => z
  | ok s e1 =>
    intro p1 v H1 D1 S1 s1 n1
    obtain ⟨D2, env2, s', S2, s2, n2, e, p2⟩ := p1 v H1 D1 S1 s1 n1
    cases e
    unfold Dl.setS at p2
    split at p2
    · rename_i hf
      exact p2 _ H1 D2 (S2.setS (freeAt_lt hf) n2) (Same.refl _)
    · exact p2.elim
theorem ds_set {i : Nat} {x : Str} {pos' : Pos} (hN : X.N.Nodup) (hi : X.N[i]? = some x) (hx : Loc X.env.scope x) (he : PE X e (ROf W c r)) (hs : swapsWith e (some (.Name x pos')) pos.line X.env = pure false := by rfl) (hf : X.fn x = true ∨ X.env.scope.names.lookup x = some .local := by first | exact .inl rfl | exact .inr rfl | assumption) :
    PS X (.Assign [.Name x pos'] e pos) (SOf W c (dSet i r)) := (ps_set hN hi hx he hs hf).weak fun _ _ _ => set_core
end
def dPar (i j : Nat) (r q : DR) : DS := fun env => (r env).bs fun s e => (q e).bs fun t e1 => if i ≠ j ∧ freeAt e1 i = true ∧ freeAt e1 j = true then .nx ((e1.set i s).set j t) else .stuck
def Cf.withB (c : Cf) (B : Hp) : Cf := { c with B := B }
section
variable {W : WX} {c : Cf} {D : Hp} {env : Nv} {σ : St} {H : Hp} {v : V} {s : Slot}
theorem Sim.ofB {B : Hp} (S : Sim (c.withB B) D env σ H) (hB : Same c.B B) : Sim c D env σ H := by
  refine ⟨S.dh, hB.trans S.bh, fun a o e => S.bd a o (hB a o e), S.len, fun i s e => ?_, S.apart⟩
  have h := S.slot i s e
  cases s with
  | un => trivial
  | v d => exact h
  | own p xs => obtain ⟨a, vs, e, h1, h2, h3, h4, h5⟩ := h; exact ⟨a, vs, e, h1, h2, h3, hB.free h4, h5⟩
  | dct p kvs => obtain ⟨a, e, h1, h3, h4, h5⟩ := h; exact ⟨a, e, h1, h3, hB.free h4, h5⟩
  | gl n => exact h
  | ro xs => exact h
theorem Sim.toB (S : Sim c D env σ H) {a : Addr} {o : HO} (h1 : H a = some o) (h2 : D a = none) (h3 : ∀ (j : Nat) (t : Slot) (b : Addr), env[j]? = some t → t.owns = true → (σ[j]?).join = some (V.ref b) → V.ref a ≠ .ref b) : Sim (c.withB (upd c.B a o)) D env σ H := by
  have key : ∀ b, b ≠ a → c.B b = none → (upd c.B a o) b = none := fun b hb e => by rw [upd_ne hb]; exact e
  refine ⟨S.dh, fun b u q => ?_, fun b u q => ?_, S.len, fun i s e => ?_, S.apart⟩
  · have q : (upd c.B a o) b = some u := q
    by_cases hb : b = a
    · subst hb; rw [upd_same] at q; cases q; exact h1
    · rw [upd_ne hb] at q; exact S.bh b u q
  · have q : (upd c.B a o) b = some u := q
    by_cases hb : b = a
    · subst hb; exact h2
    · rw [upd_ne hb] at q; exact S.bd b u q
  · have h := S.slot i s e
    cases s with
    | un => trivial
    | v d => exact h
    | own p xs =>
      obtain ⟨b, vs, eb, k1, k2, k3, k4, k5⟩ := h
      exact ⟨b, vs, eb, k1, k2, k3, key b (fun z => h3 i _ b e rfl eb (by rw [z])) k4, k5⟩
    | dct p kvs =>
      obtain ⟨b, eb, k1, k3, k4, k5⟩ := h
      exact ⟨b, eb, k1, k3, key b (fun z => h3 i _ b e rfl eb (by rw [z])) k4, k5⟩
    | gl n => exact h
    | ro xs => exact h
/-- a made slot's thing is held while something else is reckoned: the B that holds it -/
theorem NewSlot.hold (S : Sim c D env σ H) (n : NewSlot c D env σ H v s) : ∃ B, Same c.B B ∧ Sim (c.withB B) D env σ H ∧
    ∀ {D' : Hp} {env' : Nv} {σ' : St} {H' : Hp}, Same D D' → Sim (c.withB B) D' env' σ' H' → NewSlot c D' env' σ' H' v s ∧ (s.owns = true → ∃ a, v = .ref a ∧ B a ≠ none) := by
  obtain ⟨h, hp, hd⟩ := n
  have triv : s.owns = false → ∃ B, Same c.B B ∧ Sim (c.withB B) D env σ H ∧
      ∀ {D' : Hp} {env' : Nv} {σ' : St} {H' : Hp}, Same D D' → Sim (c.withB B) D' env' σ' H' → NewSlot c D' env' σ' H' v s ∧ (s.owns = true → ∃ a, v = .ref a ∧ B a ≠ none) := fun ho =>
    ⟨c.B, Same.refl _, S, fun {D' env' σ' H'} sD S' => ⟨⟨h.lift sD (fun a _ (z : s.owns = true) => absurd (ho.symm.trans z) (by decide)), hp, fun (z : s.owns = true) => absurd (ho.symm.trans z) (by decide)⟩, fun (z : s.owns = true) => absurd (ho.symm.trans z) (by decide)⟩⟩
  cases s with
  | un => exact triv rfl
  | v d => exact triv rfl
  | gl n => exact triv rfl
  | ro xs => exact triv rfl
  | own p xs =>
    obtain ⟨a, vs, e, h1, h2, h3, h4, h5⟩ := h
    cases e
    have hB : Same c.B (upd c.B a (.lst vs)) := same_upd' h4
    refine ⟨upd c.B a (.lst vs), hB, S.toB h1 h3 (hd rfl), fun {D' env' σ' H'} sD S' => ⟨⟨⟨a, vs, rfl, S'.bh a _ upd_same, h2.mono sD, S'.bd a _ upd_same, h4, h5⟩, hp, fun _ j t b ej oj hj z => ?_⟩, fun _ => ⟨a, rfl, by rw [upd_same]; simp⟩⟩⟩
    cases z
    obtain ⟨b', u, e1, e2, e3, e4⟩ := (S'.slot j t ej).tracked oj
    rw [hj] at e1; cases e1
    rw [show (c.withB (upd c.B a (.lst vs))).B a = some (.lst vs) from upd_same] at e4
    cases e4
  | dct p kvs =>
    obtain ⟨a, e, h1, h3, h4, h5⟩ := h
    cases e
    obtain ⟨u, hu⟩ := h1.tracked
    have hB : Same c.B (upd c.B a u) := same_upd' h4
    refine ⟨upd c.B a u, hB, S.toB hu h3 (hd rfl), fun {D' env' σ' H'} sD S' => ⟨⟨⟨a, rfl, h1.mono sD ((S'.bh a _ upd_same).trans hu.symm), S'.bd a _ upd_same, h4, h5⟩, hp, fun _ j t b ej oj hj z => ?_⟩, fun _ => ⟨a, rfl, by rw [upd_same]; simp⟩⟩⟩
    cases z
    obtain ⟨b', u', e1, e2, e3, e4⟩ := (S'.slot j t ej).tracked oj
    rw [hj] at e1; cases e1
    rw [show (c.withB (upd c.B a u)).B a = some u from upd_same] at e4
    cases e4
theorem PostX.ofB {B : Hp} {x : Ex} (h : PostX W c D σ x env) (hB : Same c.B B) : PostX W (c.withB B) D σ x env := fun cls d H' D' S s r => h cls d H' D' (S.ofB hB) s r
theorem NewSlot.ofB {B : Hp} (n : NewSlot (c.withB B) D env σ H v s) (hB : Same c.B B) : NewSlot c D env σ H v s := by
  refine ⟨?_, n.2⟩
  have h := n.1
  cases s with
  | un => trivial
  | v d => exact h
  | own p xs => obtain ⟨a, vs, e, h1, h2, h3, h4, h5⟩ := h; exact ⟨a, vs, e, h1, h2, h3, hB.free h4, h5⟩
  | dct p kvs => obtain ⟨a, e, h1, h3, h4, h5⟩ := h; exact ⟨a, e, h1, h3, hB.free h4, h5⟩
  | gl n => exact h
  | ro xs => exact h
end
section
variable {X : Cx} {W : WX} {c : Cf} {pos : Pos} {a b : Expr} {r q : DR}
/-- the reading of the second while the first is held -/
def RB (W : WX) (c : Cf) (q : DR) : TE := fun σ H Q => ∃ B, ROf W (c.withB B) q σ H Q
theorem dr_b (h : ∀ B, PE X b (ROf W (c.withB B) q)) : PE X b (RB W c q) := ⟨fun pins s σ H Q I ⟨B, z⟩ => (h B).run pins s σ H Q I z⟩
theorem par_core {σ : St} {H : Hp} {i j : Nat} {De : Ends} {D : Hp} {env : Nv} (S : Sim c D env σ H) (p : PostS W c D De (dPar i j r q env)) :
    ROf W c r σ H fun v H1 => RB W c q σ H1 fun w H2 => ∀ (p : Addr) (o : HO) (H3 : Hp), (H3 = H2 ∨ (H2 p = none ∧ H3 = upd H2 p o)) → De.nx ((σ.set i (some v)).set j (some w)) H3 := by
  refine ⟨D, env, S, ?_⟩
  have p : PostS W c D De ((r env).bs fun s e => (q e).bs fun t e1 => if i ≠ j ∧ freeAt e1 i = true ∧ freeAt e1 j = true then .nx ((e1.set i s).set j t) else .stuck) := p
  revert p
  cases r env with
  | stuck => exact fun z => z
  | exc y e => exact fun z => z σ
  | ok s e1 =>
    intro p v H1 D1 S1 s1 n1
    have p : PostS W c D De ((q e1).bs fun t e1 => if i ≠ j ∧ freeAt e1 i = true ∧ freeAt e1 j = true then .nx ((e1.set i s).set j t) else .stuck) := p
    obtain ⟨B, hB, SB, back⟩ := n1.hold S1
    refine ⟨B, D1, e1, SB, ?_⟩
    revert p
    cases q e1 with
    | stuck => exact fun z => z
    | exc y e => exact fun z => PostX.ofB (PostX.mono (z σ) s1) hB
    | ok t e2 =>
      intro p w H3 D3 S3 s3 n3
      obtain ⟨nv, hv⟩ := back s3 S3
      have p : PostS W c D De (if i ≠ j ∧ freeAt e2 i = true ∧ freeAt e2 j = true then .nx ((e2.set i s).set j t) else .stuck) := p
      split at p
      · rename_i hf
        obtain ⟨hij, hfi, hfj⟩ := hf
        intro pa o H5 h5
        have S4 : Sim c D3 e2 σ H3 := S3.ofB hB
        have hS : Sim c D3 e2 σ H5 := by
          rcases h5 with rfl | ⟨hp, rfl⟩
          · exact S4
          · exact S4.grow hp o
        have up : ∀ {x : V} {u : Slot}, NewSlot c D3 e2 σ H3 x u → NewSlot c D3 e2 σ H5 x u := fun {x u} n => by
          rcases h5 with rfl | ⟨hp, rfl⟩
          · exact n
          · refine ⟨n.1.lift (Same.refl _) fun a ea ho => ?_, n.2⟩
            obtain ⟨a', u', k1, k2, k3, k4⟩ := n.1.tracked ho
            rw [ea] at k1; cases k1
            exact ⟨upd_ne (ne_of_none k2 hp), fun z => z⟩
        have A1 := hS.setS (freeAt_lt hfi) (up nv)
        have n4 : NewSlot c D3 (e2.set i s) (σ.set i (some v)) H5 w t := by
          obtain ⟨k1, k2, k3⟩ := up (n3.ofB hB)
          refine ⟨k1, k2, fun ho k u b ek ok hk z => ?_⟩
          by_cases hik : i = k
          · subst hik
            rw [List.getElem?_set_self (freeAt_lt hfi)] at ek
            cases ek
            rw [join_set_self (by rw [← hS.len]; exact freeAt_lt hfi)] at hk
            cases hk
            obtain ⟨a, hva, hBa⟩ := hv ok
            cases hva
            obtain ⟨a', u', m1, m2, m3, m4⟩ := n3.1.tracked ho
            cases m1
            cases z
            exact hBa m4
          · rw [List.getElem?_set_ne hik] at ek
            rw [join_set_ne hik] at hk
            exact k3 ho k u b ek ok hk z
        exact p _ _ D3 (A1.setS (by rw [List.length_set]; exact freeAt_lt hfj) n4) (s1.trans s3)
      · exact p.elim
/-- a, b = x, y: plain names of the frame, stored from the right -/
theorem ds_par {i j : Nat} {x y : Str} {px py pt : Pos} {kt k2 pt2} (hc : X.calm = true) (hN : X.N.Nodup) (hi : X.N[i]? = some x) (hj : X.N[j]? = some y) (hij : i ≠ j)
    (hx : X.env.scope.names.lookup x = some .local) (hy : X.env.scope.names.lookup y = some .local) (ha : PE X a (ROf W c r)) (hb : ∀ B, PE X b (ROf W (c.withB B) q))
    (hw : swappedStores [.Tuple [.Name x px, .Name y py] kt pt] (.Tuple [a, b] k2 pt2) X.env = pure (some [x, y]))
    (hs : swapsWithSole [.Tuple [.Name x px, .Name y py] kt pt] (.Tuple [a, b] k2 pt2) pos.line X.env = pure false := by rfl)
    (he : starEach [a, b] X.env = (false, eval a X.env) :: starEach [b] X.env := by rfl) (he2 : starEach [b] X.env = (false, eval b X.env) :: starEach [] X.env := by rfl) :
    PS X (.Assign [.Tuple [.Name x px, .Name y py] kt pt] (.Tuple [a, b] k2 pt2) pos) (SOf W c (dPar i j r q)) :=
  (ps_par hc hN hi hj hij hx hy (pa_cons ha (pa_cons (dr_b hb) pa_nil he2) he) hw hs).weak fun De σ H ⟨D, env, S, p⟩ => by
    have := par_core S p
    obtain ⟨D', env', S', p'⟩ := this
    refine ⟨D', env', S', ?_⟩
    revert p'
    cases r env' with
    | stuck => exact fun z => z
    | exc y e => exact fun z => z
    | ok s e1 =>
      intro p1 v H1 D1 S1 s1 n1
      obtain ⟨B, D2, env2, S2, p2⟩ := p1 v H1 D1 S1 s1 n1
      refine ⟨B, D2, env2, S2, ?_⟩
      revert p2
      cases q env2 with
      | stuck => exact fun z => z
      | exc y e => exact fun z => z
      | ok t e2 => exact fun p2 w H3 D3 S3 s3 n3 => ⟨v, w, rfl, p2 w H3 D3 S3 s3 n3 0 (.tup []) H3 (.inl rfl)⟩
/-- .. by a tuple that is made and taken apart -/
theorem ds_parT {i j : Nat} {x y : Str} {px py pt : Pos} {kt k2 pt2} (hc : X.calm = true) (hN : X.N.Nodup) (hi : X.N[i]? = some x) (hj : X.N[j]? = some y)
    (hx : Loc X.env.scope x) (hy : Loc X.env.scope y) (ha : PE X a (ROf W c r)) (hb : ∀ B, PE X b (ROf W (c.withB B) q)) (hf : X.fn x = true) (hf2 : X.fn y = true)
    (hs : swapsWithSole [.Tuple [.Name x px, .Name y py] kt pt] (.Tuple [a, b] k2 pt2) pos.line X.env = pure false := by rfl) (hw : swappedStores [.Tuple [.Name x px, .Name y py] kt pt] (.Tuple [a, b] k2 pt2) X.env = pure none := by rfl)
    (he : starEach [a, b] X.env = (false, eval a X.env) :: starEach [b] X.env := by rfl) (he2 : starEach [b] X.env = (false, eval b X.env) :: starEach [] X.env := by rfl) :
    PS X (.Assign [.Tuple [.Name x px, .Name y py] kt pt] (.Tuple [a, b] k2 pt2) pos) (SOf W c (dPar i j r q)) :=
  (ps_asg (pe_tup (pa_cons ha (pa_cons (dr_b hb) pa_nil he2) he)) (pg_tup (n := 2) hc (pgs_cons (pg_name hN hi hx (.inl hf)) (pgs_cons (pg_name hN hj hy (.inl hf2)) pgs_nil))) hs hw).weak fun De σ H ⟨D, env, S, p⟩ => by
    have := par_core S p
    obtain ⟨D', env', S', p'⟩ := this
    refine ⟨D', env', S', ?_⟩
    revert p'
    cases r env' with
    | stuck => exact fun z => z
    | exc y e => exact fun z => z
    | ok s e1 =>
      intro p1 v H1 D1 S1 s1 n1
      obtain ⟨B, D2, env2, S2, p2⟩ := p1 v H1 D1 S1 s1 n1
      refine ⟨B, D2, env2, S2, ?_⟩
      revert p2
      cases q env2 with
      | stuck => exact fun z => z
      | exc y e => exact fun z => z
      | ok t e2 => exact fun p2 w H3 D3 S3 s3 n3 => ⟨(by show 2 ≤ sizeLine; decide), fun pa hpa => ⟨pa, [v, w], rfl, .of upd_same, rfl, v, [w], rfl, w, [], rfl, rfl, p2 w H3 D3 S3 s3 n3 pa _ _ (.inr ⟨hpa, rfl⟩)⟩⟩
end
end L2.Dl

namespace L2.Dl
open PySem
open PySem.Spec
open PyProof.Rows
variable [KF]

mutual
inductive Pat where
  | nm (i : Nat)
  | tp (ps : Pats)
inductive Pats where
  | nil
  | cons (p : Pat) (ps : Pats)
end
def Pats.len : Pats → Nat
  | .nil => 0
  | .cons _ r => r.len + 1
mutual
def asgP : Pat → PyData → Nv → Option Nv
  | .nm i, x, env => if freeAt env i = true then some (env.set i (.v x)) else none
  | .tp ps, .tuple ds, env => asgPs ps ds env
  | .tp _, _, _ => none
def asgPs : Pats → List PyData → Nv → Option Nv
  | .nil, [], env => some env
  | .cons p ps, d :: ds, env => match asgP p d env with
    | some e => asgPs ps ds e
    | none => none
  | _, _, _ => none
end
theorem asgPs_len : ∀ {ps : Pats} {ds : List PyData} {env env' : Nv}, asgPs ps ds env = some env' → ds.length = ps.len
  | .nil, [], _, _, _ => rfl
  | .nil, _ :: _, _, _, h => by simp [asgPs] at h
  | .cons p ps, [], _, _, h => by simp [asgPs] at h
  | .cons p ps, d :: ds, env, env', h => by
    unfold asgPs at h
    split at h
    · exact congrArg (· + 1) (asgPs_len h)
    · cases h
mutual
def Pat.slots : Pat → List Nat
  | .nm i => [i]
  | .tp ps => ps.slots
def Pats.slots : Pats → List Nat
  | .nil => []
  | .cons p ps => p.slots ++ ps.slots
end
/-- σ' is σ but for these slots -/
def Agr (l : List Nat) (σ σ' : St) : Prop := σ'.length = σ.length ∧ ∀ j, j ∉ l → σ'[j]? = σ[j]?
theorem Agr.refl {l : List Nat} {σ : St} : Agr l σ σ := ⟨rfl, fun _ _ => rfl⟩
theorem Agr.trans {l l' : List Nat} {σ σ1 σ2 : St} (a : Agr l σ σ1) (b : Agr l' σ1 σ2) : Agr (l ++ l') σ σ2 :=
  ⟨b.1.trans a.1, fun j h => (b.2 j fun z => h (List.mem_append_right _ z)).trans (a.2 j fun z => h (List.mem_append_left _ z))⟩
def GOf (c : Cf) (p : Pat) : TG := fun v σ H R => ∃ D env x env', Sim c D env σ H ∧ Rp D v x ∧ asgP p x env = some env' ∧ ∀ σ' H' D', Sim c D' env' σ' H' → Same D D' → Agr p.slots σ σ' → R σ' H'
def GsOf (c : Cf) (p : Pats) : TGs := fun vs σ H R => ∃ D env ds env', Sim c D env σ H ∧ RpL D vs ds ∧ asgPs p ds env = some env' ∧ ∀ σ' H' D', Sim c D' env' σ' H' → Same D D' → Agr p.slots σ σ' → R σ' H'
section
variable {X : Cx} {e : Expr} {es : List Expr} {pos : Pos} {c : Cf}
theorem _root_.L2.PG.weak {t t' : TG} (h : PG X e t) (w : ∀ v σ H Q, t' v σ H Q → t v σ H Q) : PG X e t' := ⟨fun pins s σ H v u Q I r q => h.run pins s σ H v u Q I r (w v σ H Q q)⟩
theorem _root_.L2.PGs.weak {t t' : TGs} (h : PGs X es t) (w : ∀ v σ H Q, t' v σ H Q → t v σ H Q) : PGs X es t' := ⟨fun pins s σ H v u Q I r q => h.run pins s σ H v u Q I r (w v σ H Q q)⟩
theorem dg_nm {i : Nat} {x : Str} (hN : X.N.Nodup) (hi : X.N[i]? = some x) (hx : Loc X.env.scope x) (hf : X.fn x = true ∨ X.env.scope.names.lookup x = some .local := by first | exact .inl rfl | exact .inr rfl | assumption) : PG X (.Name x pos) (GOf c (.nm i)) :=
  (pg_name hN hi hx hf).weak fun v σ H R ⟨D, env, x, env', S, r, g, q⟩ => by
    unfold asgP at g
    split at g
    · rename_i h
      cases g
      exact q _ H D (S.setS (freeAt_lt h) (.ofV r)) (Same.refl _) ⟨by simp, fun j hj => List.getElem?_set_ne fun z => hj (by simp [Pat.slots, z])⟩
    · cases g
theorem dgs_nil : PGs X [] (GsOf c .nil) := pgs_nil.weak fun vs σ H R ⟨D, env, ds, env', S, r, g, q⟩ => by
  have := asgPs_len g
  cases r with
  | nil => cases g; exact ⟨rfl, q σ H D S (Same.refl _) .refl⟩
  | cons _ _ => cases this
theorem dgs_cons {p : Pat} {ps : Pats} (h1 : PG X e (GOf c p)) (h2 : PGs X es (GsOf c ps)) (hs : (assignEach (e :: es) X.env).map (·.2) = assign e X.env :: (assignEach es X.env).map (·.2) := by rfl) : PGs X (e :: es) (GsOf c (.cons p ps)) :=
  (pgs_cons h1 h2 hs).weak fun vs σ H R ⟨D, env, ds, env', S, r, g, q⟩ => by
    cases r with
    | nil => simp [asgPs] at g
    | @cons v vs d ds r1 r2 =>
      unfold asgPs at g
      split at g
      · rename_i e1 h
        exact ⟨v, vs, rfl, D, env, d, e1, S, r1, h, fun σ' H' D' S' s' a' => ⟨D', e1, ds, env', S', r2.mono s', g, fun σ2 H2 D2 S2 s2 a2 => q σ2 H2 D2 S2 (s'.trans s2) (a'.trans a2)⟩⟩
      · cases g
theorem dg_tp {k : Nat} {ps : Pats} (hK : KF.frag = X.K) (hc : X.calm = true) (h : PGs X es (GsOf c ps)) (hn : (assignEach es X.env).length = ps.len := by rfl) (hst : (assignEach es X.env).findIdx? (·.1) = none := by rfl) : PG X (.Tuple es k pos) (GOf c (.tp ps)) :=
  (pg_tup hc h hn hst).weak fun v σ H R ⟨D, env, x, env', S, r, g, q⟩ => by
    obtain ⟨ds, rfl, g⟩ : ∃ ds, x = .tuple ds ∧ asgPs ps ds env = some env' := by
      cases x <;> first
        | exact ⟨_, rfl, g⟩
        | (simp [asgP] at g)
    obtain ⟨a, vs, rfl, h1, h2⟩ := r.tupS
    exact ⟨a, vs, rfl, hK ▸ h1.same S.dh, by rw [h2.length, asgPs_len g], D, env, ds, env', S, h2, g, q⟩
end
def asgOf (p : Pat) (o : OV) (e : Nv) : SRes := match pinOV e o with
  | some (x, e1) => match asgP p x e1 with
    | some e2 => .nx e2
    | none => .stuck
  | none => .stuck
/-- target = e, the target names or nested names -/
def dAsg (p : Pat) (d : DE) : DS := fun env => (d env).bs (asgOf p)
section
variable {X : Cx} {W : WX} {c : Cf} {e tg : Expr} {pos : Pos} {d : DE} {p : Pat}
theorem ds_asg (he : PE X e (EOf W c d)) (hg : PG X tg (GOf c p)) (hs : swapsWithSole [tg] e pos.line X.env = pure false := by rfl) (hw : swappedStores [tg] e X.env = pure none := by rfl)
    (h1 : (assignEach [tg] X.env).map (·.2) = [assign tg X.env] := by rfl) : PS X (.Assign [tg] e pos) (SOf W c (dAsg p d)) :=
  (ps_asg he hg hs hw h1).weak fun De σ H ⟨D, env, S, pp⟩ => by
    refine ⟨D, env, S, ?_⟩
    have pp : PostS W c D De ((d env).bs (asgOf p)) := pp
    revert pp
    cases d env with
    | stuck => exact fun z => z
    | exc y e => exact fun z => z σ
    | ok o e1 =>
      intro pp v H1 D1 S1 s1 r1
      have pp : PostS W c D De (asgOf p o e1) := pp
      unfold asgOf at pp
      split at pp
      · rename_i x e2 hp
        obtain ⟨D2, S2, s2, r2⟩ := S1.pin r1 hp
        split at pp
        · rename_i e3 h3
          exact ⟨D2, e2, x, e3, S2, r2, h3, fun σ' H' D' S' s' _ => pp σ' H' D' S' ((s1.trans s2).trans s')⟩
        · exact pp.elim
      · exact pp.elim
end
def lookD (kvs : List (PyData × PyData)) (k : PyData) : Option PyData := (kvs.find? fun p => PyData.eqv p.1 k).map (·.2)
def putD (kvs : List (PyData × PyData)) (k v : PyData) : List (PyData × PyData) :=
  if (kvs.any fun p => PyData.eqv p.1 k) = true then kvs.map (fun p => if PyData.eqv p.1 k = true then (p.1, v) else p) else kvs ++ [(k, v)]
/-- a key: an int or a text; a tuple of them -/
def isK : PyData → Bool
  | .int _ => true
  | .str _ => true
  | _ => false
def keyOk (t : Bool) : PyData → Bool
  | .tuple xs => t && !xs.isEmpty && xs.all isK
  | x => !t && isK x
theorem isK_kD {x : PyData} (h : isK x = true) : ∃ k, x = kD k := by
  cases x <;> try (cases h; done)
  · exact ⟨.inl _, rfl⟩
  · exact ⟨.inr _, rfl⟩
theorem isK_all : ∀ {xs : List PyData}, xs.all isK = true → ∃ ks : List Key, xs = ks.map kD
  | [], _ => ⟨[], rfl⟩
  | x :: xs, h => by
    rw [List.all_cons, Bool.and_eq_true] at h
    obtain ⟨k, rfl⟩ := isK_kD h.1
    obtain ⟨ks, rfl⟩ := isK_all h.2
    exact ⟨k :: ks, rfl⟩
theorem keyOk_K {x : PyData} (h : keyOk false x = true) : ∃ k, x = kD k := by
  cases x <;> first
    | exact isK_kD (by simpa [keyOk] using h)
    | (simp [keyOk] at h)
theorem keyOk_T {x : PyData} (h : keyOk true x = true) : ∃ ks, x = kDT ks ∧ ks ≠ [] := by
  cases x <;> first
    | (simp [keyOk, isK] at h; done)
    | skip
  rename_i xs
  simp only [keyOk, Bool.true_and, Bool.and_eq_true, Bool.not_eq_true', List.isEmpty_eq_false_iff] at h
  obtain ⟨ks, rfl⟩ := isK_all h.2
  exact ⟨ks, rfl, fun z => h.1 (by rw [z]; rfl)⟩
theorem eqv_kD : ∀ a b : Key, PyData.eqv (kD a) (kD b) = decide (a = b)
  | .inl i, .inl j => by
    rw [show PyData.eqv (kD (.inl i)) (kD (.inl j)) = (i == j) by simp [kD, PyData.eqv], key_ll]
  | .inr i, .inr j => by
    rw [show PyData.eqv (kD (.inr i)) (kD (.inr j)) = (i == j) by simp [kD, PyData.eqv], key_rr]
    by_cases h : i = j
    · subst h; simp
    · rw [decide_eq_false h]; exact beq_eq_false_iff_ne.mpr h
  | .inl i, .inr j => by simp [kD, PyData.eqv]
  | .inr i, .inl j => by simp [kD, PyData.eqv]
theorem eqvAll_kD : ∀ a b : List Key, PyData.eqvAll (a.map kD) (b.map kD) = decide (a = b)
  | [], [] => by simp [PyData.eqvAll]
  | x :: a, y :: b => by
    rw [List.map_cons, List.map_cons, PyData.eqvAll, eqv_kD, eqvAll_kD a b]
    by_cases h1 : x = y <;> by_cases h2 : a = b <;> simp [h1, h2]
  | [], _ :: _ => by simp [PyData.eqvAll]
  | _ :: _, [] => by simp [PyData.eqvAll]
theorem eqv_kDT (a b : List Key) : PyData.eqv (kDT a) (kDT b) = decide (a = b) := by
  rw [← eqvAll_kD a b]; rfl
section
variable {κ : Type} [DecidableEq κ] {D : Hp} {f : κ → PyData} (hf : ∀ a b, PyData.eqv (f a) (f b) = decide (a = b))
include hf
theorem look_kv : ∀ {kv : List (κ × V)} {kvs : List (PyData × PyData)} {k : κ}, Paired (fun (p : κ × V) (q : PyData × PyData) => q.1 = f p.1 ∧ Rp D p.2 q.2) kv kvs →
    (valV kv k = none ∧ lookD kvs (f k) = none) ∨ ∃ v x, valV kv k = some v ∧ lookD kvs (f k) = some x ∧ Rp D v x
  | _, _, k, .nil => .inl ⟨rfl, rfl⟩
  | _, _, k, .cons (a := p) (b := q) (l₁ := kv) (l₂ := kvs) h t => by
    obtain ⟨h1, h2⟩ := h
    by_cases e : p.1 = k
    · refine .inr ⟨p.2, q.2, valV_pos e, ?_, h2⟩
      unfold lookD
      rw [List.find?_cons_of_pos (by rw [h1, hf, e]; simp)]
      rfl
    · have e1 : valV (p :: kv) k = valV kv k := by simp [valV, List.find?_cons, e]
      have e2 : lookD (q :: kvs) (f k) = lookD kvs (f k) := by
        unfold lookD
        rw [List.find?_cons_of_neg (by rw [h1, hf]; simp [e])]
      rw [e1, e2]
      exact look_kv t
theorem any_kv : ∀ {kv : List (κ × V)} {kvs : List (PyData × PyData)} {k : κ}, Paired (fun (p : κ × V) (q : PyData × PyData) => q.1 = f p.1 ∧ Rp D p.2 q.2) kv kvs →
    (kv.any fun p => decide (p.1 = k)) = kvs.any fun p => PyData.eqv p.1 (f k)
  | _, _, k, .nil => rfl
  | _, _, k, .cons (a := p) (b := q) (l₁ := kv) (l₂ := kvs) h t => by
    rw [List.any_cons, List.any_cons, any_kv t, h.1, hf]
theorem map_kv {v : V} {x : PyData} (r : Rp D v x) : ∀ {kv : List (κ × V)} {kvs : List (PyData × PyData)} {k : κ}, Paired (fun (p : κ × V) (q : PyData × PyData) => q.1 = f p.1 ∧ Rp D p.2 q.2) kv kvs →
    Paired (fun (p : κ × V) (q : PyData × PyData) => q.1 = f p.1 ∧ Rp D p.2 q.2) (kv.map fun p => if p.1 = k then (p.1, v) else p) (kvs.map fun p => if PyData.eqv p.1 (f k) = true then (p.1, x) else p)
  | _, _, k, .nil => .nil
  | _, _, k, .cons (a := p) (b := q) (l₁ := kv) (l₂ := kvs) h t => by
    rw [List.map_cons, List.map_cons]
    refine .cons ?_ (map_kv r t)
    by_cases e : p.1 = k
    · rw [if_pos e, if_pos (by rw [h.1, hf, e]; simp)]
      exact ⟨h.1, r⟩
    · rw [if_neg e, if_neg (by rw [h.1, hf]; simp [e])]
      exact h
theorem put_kv {v : V} {x : PyData} (r : Rp D v x) {kv : List (κ × V)} {kvs : List (PyData × PyData)} {k : κ} (h : Paired (fun (p : κ × V) (q : PyData × PyData) => q.1 = f p.1 ∧ Rp D p.2 q.2) kv kvs) :
    Paired (fun (p : κ × V) (q : PyData × PyData) => q.1 = f p.1 ∧ Rp D p.2 q.2) (putK kv k v) (putD kvs (f k) x) := by
  unfold putK putD
  rw [any_kv hf (k := k) h]
  split
  · exact map_kv hf r h
  · exact h.snoc ⟨rfl, r⟩
end
theorem keysV {D : Hp} : ∀ {ks : List Key} {vs : List V}, RpL D vs (ks.map kD) → vs = ks.map kV
  | [], _, .nil => rfl
  | k :: ks, _, .cons q1 q2 => by
    rw [keysV q2, List.map_cons]
    cases k <;> (cases q1; rfl)
/-- the dict's answer at a key that is fit for it -/
theorem DctOk.get {D H : Hp} {a : Addr} {d : DV} {y : V} {k : PyData} (h : DctOk D H a d) (s : Same D H) (r : Rp D y k) (hk : keyOk d.t k = true) :
    ∃ o, DGet H a y o ∧ ((o = none ∧ lookD d.kvs k = none) ∨ ∃ v x, o = some v ∧ lookD d.kvs k = some x ∧ Rp D v x) := by
  rcases h with ⟨h0, kv, h1, h2⟩ | ⟨h0, kv, h1, h2⟩
  · rw [h0] at hk
    obtain ⟨k', rfl⟩ := keyOk_K hk
    have hy : y = kV k' := by
      cases k' <;> (cases r; rfl)
    subst hy
    refine ⟨_, .k h1, ?_⟩
    rcases look_kv eqv_kD (k := k') h2 with ⟨e1, e2⟩ | ⟨v, x, e1, e2, e3⟩
    · exact .inl ⟨e1, e2⟩
    · exact .inr ⟨v, x, e1, e2, e3⟩
  · rw [h0] at hk
    obtain ⟨ks, rfl, hne⟩ := keyOk_T hk
    have hr : ∃ b vs, y = .ref b ∧ D b = some (.tup vs) ∧ RpL D vs (ks.map kD) := by
      generalize hx : kDT ks = x at r
      cases r with
      | tup e1 e2 => cases hx; exact ⟨_, _, rfl, e1, e2⟩
      | nilK _ => cases ks with
        | nil => exact absurd rfl hne
        | cons _ _ => cases hx
      | _ => cases hx
    obtain ⟨b, vs, rfl, e1, e2⟩ := hr
    clear r
    have hv : vs = ks.map kV := keysV e2
    subst hv
    refine ⟨_, .t h1 (s _ _ e1), ?_⟩
    rcases look_kv eqv_kDT (k := ks) h2 with ⟨e1, e2⟩ | ⟨v, x, e1, e2, e3⟩
    · exact .inl ⟨e1, e2⟩
    · exact .inr ⟨v, x, e1, e2, e3⟩
theorem DctOk.put {D H : Hp} {a : Addr} {d : DV} {y v : V} {k x : PyData} (h : DctOk D H a d) (s : Same D H) (r : Rp D y k) (rv : Rp D v x) (hk : keyOk d.t k = true) (hl : d.kvs.length < lenB) :
    ∃ o, DPut H a y v (upd H a o) ∧ DctOk D (upd H a o) a ⟨d.t, putD d.kvs k x⟩ := by
  have hz : ∀ n, n < lenB → n < sizeLine := fun n h => Nat.lt_of_lt_of_le h (lenB_le (Nat.le_refl _))
  rcases h with ⟨h0, kv, h1, h2⟩ | ⟨h0, kv, h1, h2⟩
  · rw [h0] at hk
    obtain ⟨k', rfl⟩ := keyOk_K hk
    have hy : y = kV k' := by
      cases k' <;> (cases r; rfl)
    subst hy
    exact ⟨_, .k h1 (hz _ (by rw [h2.length]; exact hl)), .inl ⟨h0, _, upd_same, put_kv eqv_kD rv h2⟩⟩
  · rw [h0] at hk
    obtain ⟨ks, rfl, hne⟩ := keyOk_T hk
    have hr : ∃ b vs, y = .ref b ∧ D b = some (.tup vs) ∧ RpL D vs (ks.map kD) := by
      generalize hx : kDT ks = x at r
      cases r with
      | tup e1 e2 => cases hx; exact ⟨_, _, rfl, e1, e2⟩
      | nilK _ => cases ks with
        | nil => exact absurd rfl hne
        | cons _ _ => cases hx
      | _ => cases hx
    obtain ⟨b, vs, rfl, e1, e2⟩ := hr
    clear r
    have hv : vs = ks.map kV := keysV e2
    subst hv
    exact ⟨_, .t h1 (s _ _ e1) (hz _ (by rw [h2.length]; exact hl)), .inr ⟨h0, _, upd_same, put_kv eqv_kDT rv h2⟩⟩
end L2.Dl

namespace L2.Dl
open PySem
open PySem.Spec
open PyProof.Rows
variable [KF]

theorem join_some {σ : St} {i : Nat} {v : V} (h : (σ[i]?).join = some v) : σ[i]? = some (some v) := by
  cases q : σ[i]? with
  | none => rw [q] at h; cases h
  | some w => rw [q] at h; cases w <;> first | (cases h; rfl) | cases h
def dctAt (env : Nv) (i : Nat) : Option (Bool × DV) := match env[i]? with
  | some (.dct p d) => some (p, d)
  | _ => none
def ownAt (env : Nv) (i : Nat) : Option (Bool × List PyData) := match env[i]? with
  | some (.own p d) => some (p, d)
  | _ => none
theorem dctAt_eq {env : Nv} {i : Nat} {p : Bool} {d : DV} (h : dctAt env i = some (p, d)) : env[i]? = some (.dct p d) := by
  unfold dctAt at h
  split at h
  · rename_i e; cases h; exact e
  · cases h
theorem ownAt_eq {env : Nv} {i : Nat} {p : Bool} {d : List PyData} (h : ownAt env i = some (p, d)) : env[i]? = some (.own p d) := by
  unfold ownAt at h
  split at h
  · rename_i e; cases h; exact e
  · cases h
/-- a key (or a value) that stays, then the dict of slot i as it is then -/
def withKey (i : Nat) (o : OV) (e : Nv) (k : Bool → DV → PyData → Nv → Res OV) : Res OV := match pinOV e o with
  | some (x, e1) => match dctAt e1 i with
    | some (p, d) => if keyOk d.t x = true then k p d x e1 else .stuck
    | none => .stuck
  | none => .stuck
def dDGet (i : Nat) (dk : DE) : DE := fun env => match dctAt env i with
  | some _ => (dk env).bd fun o e => withKey i o e fun _ d x e1 => match lookD d.kvs x with
    | some y => .ok (.d y) e1
    | none => .stuck
  | none => .stuck
def dDIn (i : Nat) (neg : Bool) (dk : DE) : DE := fun env => (dk env).bd fun o e => withKey i o e fun _ d x e1 => .ok (.d (.bool ((lookD d.kvs x).isSome != neg))) e1
def dDGet2 (i : Nat) (dk dx : DE) : DE := fun env => match dctAt env i with
  | some _ => (dk env).bd fun o e => match pinOV e o with
    | some (x, e1) => (dx e1).bd fun o2 e2 => match pinOV e2 o2 with
      | some (z, e3) => match dctAt e3 i with
        | some (_, d) => if keyOk d.t x = true then .ok (.d ((lookD d.kvs x).getD z)) e3 else .stuck
        | none => .stuck
      | none => .stuck
    | none => .stuck
  | none => .stuck
/-- d[k] = v: v first, then k -/
def dDPut (i : Nat) (dk dv : DE) : DS := fun env => (dv env).bs fun o e => match pinOV e o with
  | some (z, e1) => match dctAt e1 i with
    | some _ => (dk e1).bs fun o2 e2 => match pinOV e2 o2 with
      | some (x, e3) => match dctAt e3 i with
        | some (p, d) => if keyOk d.t x = true ∧ d.kvs.length < lenB then .nx (e3.set i (.dct p ⟨d.t, putD d.kvs x z⟩)) else .stuck
        | none => .stuck
      | none => .stuck
    | none => .stuck
  | none => .stuck
section
variable {X : Cx} {W : WX} {c : Cf} {pos p1 : Pos} {k e : Expr} {dk dx dv : DE} {i : Nat} {x : Str}
theorem Sim.dctSlot {D : Hp} {env : Nv} {σ : St} {H : Hp} {p : Bool} {d : DV} (S : Sim c D env σ H) (h : dctAt env i = some (p, d)) : ∃ a, σ[i]? = some (some (.ref a)) ∧ (σ[i]?).join = some (.ref a) ∧ DctOk D H a d := by
  obtain ⟨a, e1, h1, _⟩ := S.slot i _ (dctAt_eq h)
  exact ⟨a, join_some e1, e1, h1⟩
theorem Sim.ownSlot {D : Hp} {env : Nv} {σ : St} {H : Hp} {p : Bool} {d : List PyData} (S : Sim c D env σ H) (h : ownAt env i = some (p, d)) : ∃ a vs, σ[i]? = some (some (.ref a)) ∧ (σ[i]?).join = some (.ref a) ∧ H a = some (.lst vs) ∧ RpL D vs d := by
  obtain ⟨a, vs, e1, h1, h2, _⟩ := S.slot i _ (ownAt_eq h)
  exact ⟨a, vs, join_some e1, e1, h1, h2⟩
theorem de_dget (hu : X.A.units + 1 < cLine) (hN : X.N[i]? = some x) (hv : Vis X.env.scope x) (hk : PE X k (EOf W c dk)) (hs : NoSl k) (hd : (x == ("__debug__" : Str)) = false := by decide) (hcd : (x == ("__classdict__" : Str)) = false := by decide) :
    PE X (.Subscript (.Name x p1) k pos) (EOf W c (dDGet i dk)) :=
  (pe_dget hu (pe_var hN hv hd hcd) hk hs).weak fun σ H Q ⟨D, env, S, p⟩ => by
    have p : PostE W c D σ Q (dDGet i dk env) := p
    unfold dDGet at p
    split at p
    · rename_i d0 h0
      obtain ⟨a, ea, ja, _⟩ := S.dctSlot (p := d0.1) (d := d0.2) h0
      refine ⟨_, ea, D, env, S, ?_⟩
      revert p
      cases dk env with
      | stuck => exact fun z => z
      | exc y e => exact fun z => z
      | ok o e1 =>
        intro p v H1 D1 S1 s1 r1
        have p : PostE W c D σ Q (withKey i o e1 _) := p
        unfold withKey at p
        split at p
        · rename_i y e2 hp
          obtain ⟨D2, S2, s2, r2⟩ := S1.pin r1 hp
          split at p
          · rename_i pp d hd2
            split at p
            · rename_i hk2
              dsimp only at p
              split at p
              · rename_i z hz
                obtain ⟨a', ea', ja', hd3⟩ := S2.dctSlot hd2
                rw [ja] at ja'; cases ja'
                obtain ⟨o', g1, g2⟩ := hd3.get S2.dh r2 hk2
                rcases g2 with ⟨_, g2⟩ | ⟨w, z', rfl, g2, g3⟩
                · rw [hz] at g2; cases g2
                · rw [hz] at g2; cases g2
                  exact ⟨a, w, rfl, g1, p w H1 D2 S2 (s1.trans s2) g3⟩
              · exact p.elim
            · exact p.elim
          · exact p.elim
        · exact p.elim
    · exact p.elim
theorem din_core {neg : Bool} {σ : St} {H : Hp} {Q : VK} (h : EOf W c (dDIn i neg dk) σ H Q) : EOf W c dk σ H fun y H1 => ∃ v, σ[i]? = some (some v) ∧ ∃ a o, v = .ref a ∧ DGet H1 a y o ∧ Q (.bl (o.isSome != neg)) H1 := by
  obtain ⟨D, env, S, p⟩ := h
  refine ⟨D, env, S, ?_⟩
  have p : PostE W c D σ Q ((dk env).bd _) := p
  revert p
  cases dk env with
  | stuck => exact fun z => z
  | exc y e => exact fun z => z
  | ok o e1 =>
    intro p v H1 D1 S1 s1 r1
    have p : PostE W c D σ Q (withKey i o e1 _) := p
    unfold withKey at p
    split at p
    · rename_i y e2 hp
      obtain ⟨D2, S2, s2, r2⟩ := S1.pin r1 hp
      split at p
      · rename_i pp d hd2
        split at p
        · rename_i hk2
          obtain ⟨a', ea', ja', hd3⟩ := S2.dctSlot hd2
          obtain ⟨o', g1, g2⟩ := hd3.get S2.dh r2 hk2
          refine ⟨_, ea', a', o', rfl, g1, ?_⟩
          have : o'.isSome = (lookD d.kvs y).isSome := by
            rcases g2 with ⟨rfl, g2⟩ | ⟨w, z', rfl, g2, g3⟩ <;> rw [g2] <;> rfl
          rw [this]
          exact p _ H1 D2 S2 (s1.trans s2) (.bl _)
        · exact p.elim
      · exact p.elim
    · exact p.elim
theorem de_din (hu : X.A.units + 1 < cLine) (hN : X.N[i]? = some x) (hv : Vis X.env.scope x) (hk : PE X k (EOf W c dk)) (hm : behindInMarks .In (.Name x p1) = false := by rfl) (hd : (x == ("__debug__" : Str)) = false := by decide) (hcd : (x == ("__classdict__" : Str)) = false := by decide) :
    PE X (.Compare k [.In] [.Name x p1] pos) (EOf W c (dDIn i false dk)) :=
  (pe_cmp (pc_din hu hk (pe_var hN hv hd hcd)) hm).weak fun σ H Q h => by
    have := din_core h
    simp only [Bool.bne_false] at this
    exact this
theorem de_dnotin (hu : X.A.units + 1 < cLine) (hN : X.N[i]? = some x) (hv : Vis X.env.scope x) (hk : PE X k (EOf W c dk)) (hm : behindInMarks .NotIn (.Name x p1) = false := by rfl) (hd : (x == ("__debug__" : Str)) = false := by decide) (hcd : (x == ("__classdict__" : Str)) = false := by decide) :
    PE X (.Compare k [.NotIn] [.Name x p1] pos) (EOf W c (dDIn i true dk)) :=
  (pe_cmp (pc_dnotin hu hk (pe_var hN hv hd hcd)) hm).weak fun σ H Q h => by
    have := din_core h
    simp only [Bool.bne_true] at this
    exact this
theorem dt_din (hu : X.A.units + 1 < cLine) (hN : X.N[i]? = some x) (hv : Vis X.env.scope x) (hk : PE X k (EOf W c dk)) (hm : behindInMarks .In (.Name x p1) = false := by rfl) (hd : (x == ("__debug__" : Str)) = false := by decide) (hcd : (x == ("__classdict__" : Str)) = false := by decide) :
    PT X (.Compare k [.In] [.Name x p1] pos) (TOf W c (dT (dDIn i false dk))) :=
  (pt_cmp (pc_din hu hk (pe_var hN hv hd hcd)) hm).weak fun σ H Q h => by
    have := din_core (test_core h)
    simp only [Bool.bne_false] at this
    exact this
theorem dt_dnotin (hu : X.A.units + 1 < cLine) (hN : X.N[i]? = some x) (hv : Vis X.env.scope x) (hk : PE X k (EOf W c dk)) (hm : behindInMarks .NotIn (.Name x p1) = false := by rfl) (hd : (x == ("__debug__" : Str)) = false := by decide) (hcd : (x == ("__classdict__" : Str)) = false := by decide) :
    PT X (.Compare k [.NotIn] [.Name x p1] pos) (TOf W c (dT (dDIn i true dk))) :=
  (pt_cmp (pc_dnotin hu hk (pe_var hN hv hd hcd)) hm).weak fun σ H Q h => by
    have := din_core (test_core h)
    simp only [Bool.bne_true] at this
    exact this
theorem de_dget2 {apos : Pos} (hu : X.A.units + 1 < cLine) (hN : X.N[i]? = some x) (hv : Vis X.env.scope x) (hk : PE X k (EOf W c dk)) (he : PE X e (EOf W c dx)) (m : M2 X (.Name x p1) "get" apos k e pos) (hd : (x == ("__debug__" : Str)) = false := by decide) (hcd : (x == ("__classdict__" : Str)) = false := by decide) :
    PE X (.Call (.Attribute (.Name x p1) "get" apos) [k, e] [] pos) (EOf W c (dDGet2 i dk dx)) :=
  (pe_dget2 hu (pe_var hN hv hd hcd) hk he m).weak fun σ H Q ⟨D, env, S, p⟩ => by
    have p : PostE W c D σ Q (dDGet2 i dk dx env) := p
    unfold dDGet2 at p
    split at p
    · rename_i d0 h0
      obtain ⟨a, ea, ja, hd0⟩ := S.dctSlot (p := d0.1) (d := d0.2) h0
      have isd : ∀ {D H : Hp} {d : DV}, DctOk D H a d → IsD H a := fun {D H d} h => by
        rcases h with ⟨_, kv, h, _⟩ | ⟨_, kv, h, _⟩
        · exact .inl ⟨kv, .inl h⟩
        · exact .inr ⟨kv, .inl h⟩
      refine ⟨_, ea, a, rfl, isd hd0, D, env, S, ?_⟩
      revert p
      cases dk env with
      | stuck => exact fun z => z
      | exc y e => exact fun z => z
      | ok o e1 =>
        intro p v H1 D1 S1 s1 r1
        simp only [Res.bd] at p
        split at p
        · rename_i y e2 hp
          obtain ⟨D2, S2, s2, r2⟩ := S1.pin r1 hp
          refine ⟨D2, e2, S2, ?_⟩
          revert p
          cases dx e2 with
          | stuck => exact fun z => z
          | exc y e => exact fun z => PostX.mono z (s1.trans s2)
          | ok o2 e3 =>
            intro p w H3 D3 S3 s3 r3
            simp only [Res.bd] at p
            split at p
            · rename_i z e4 hp2
              obtain ⟨D4, S4, s4, r4⟩ := S3.pin r3 hp2
              split at p
              · rename_i pp d hd2
                split at p
                · rename_i hk2
                  obtain ⟨a', ea', ja', hd3⟩ := S4.dctSlot hd2
                  rw [ja] at ja'; cases ja'
                  obtain ⟨o', g1, g2⟩ := hd3.get S4.dh (r2.mono (s3.trans s4)) hk2
                  refine ⟨o', g1, ?_⟩
                  have sD := (s1.trans s2).trans (s3.trans s4)
                  rcases g2 with ⟨rfl, g2⟩ | ⟨w', z', rfl, g2, g3⟩
                  · rw [g2] at p; exact p _ H3 D4 S4 sD r4
                  · rw [g2] at p; exact p _ H3 D4 S4 sD g3
                · exact p.elim
              · exact p.elim
            · exact p.elim
        · exact p.elim
    · exact p.elim
theorem ds_dput {value : Expr} {pos' : Pos} (hu : X.A.units + 1 < cLine) (hN : X.N[i]? = some x) (hv : Vis X.env.scope x) (hk : PE X k (EOf W c dk)) (he : PE X value (EOf W c dv)) (hs : swapsWith value (some (.Subscript (.Name x p1) k pos')) pos.line X.env = pure false := by rfl) (hd : (x == ("__debug__" : Str)) = false := by decide) (hcd : (x == ("__classdict__" : Str)) = false := by decide) :
    PS X (.Assign [.Subscript (.Name x p1) k pos'] value pos) (SOf W c (dDPut i dk dv)) :=
  (ps_dput hu (pe_var hN hv hd hcd) hk he hs).weak fun De σ H ⟨D, env, S, p⟩ => by
    refine ⟨D, env, S, ?_⟩
    have p : PostS W c D De ((dv env).bs _) := p
    revert p
    cases dv env with
    | stuck => exact fun z => z
    | exc y e => exact fun z => z σ
    | ok o e1 =>
      intro p v H1 D1 S1 s1 r1
      simp only [Res.bs] at p
      split at p
      · rename_i z e2 hp
        obtain ⟨D2, S2, s2, r2⟩ := S1.pin r1 hp
        split at p
        · rename_i d0 h0
          obtain ⟨a, ea, ja, hd0⟩ := S2.dctSlot (p := d0.1) (d := d0.2) h0
          refine ⟨_, ea, D2, e2, S2, ?_⟩
          revert p
          cases dk e2 with
          | stuck => exact fun z => z
          | exc y e => exact fun z => PostX.mono (z σ) (s1.trans s2)
          | ok o2 e3 =>
            intro p y H3 D3 S3 s3 r3
            simp only [Res.bs] at p
            split at p
            · rename_i kx e4 hp2
              obtain ⟨D4, S4, s4, r4⟩ := S3.pin r3 hp2
              split at p
              · rename_i pp d hd2
                split at p
                · rename_i hk2
                  obtain ⟨a', ea', ja', hd3⟩ := S4.dctSlot hd2
                  rw [ja] at ja'; cases ja'
                  obtain ⟨ho, g1, g2⟩ := hd3.put S4.dh r4 (r2.mono (s3.trans s4)) hk2.1 hk2.2
                  exact ⟨a, _, rfl, g1, p _ _ D4 (S4.putDct (dctAt_eq hd2) ja g2) ((s1.trans s2).trans (s3.trans s4))⟩
                · exact p.elim
              · exact p.elim
            · exact p.elim
        · exact p.elim
      · exact p.elim
def dNewD (t : Bool) : DK := fun env => .ok ⟨t, []⟩ env
theorem dk_newK : PE X (.Dict [] [] pos) (KOf' W c (dNewD false)) := pe_dnewK.weak fun σ H Q ⟨D, env, S, p⟩ q hq =>
  p q _ H D S (Same.refl _) hq (.inl ⟨rfl, [], upd_same, .nil⟩)
theorem dk_newT : PE X (.Dict [] [] pos) (KOf' W c (dNewD true)) := pe_dnewT.weak fun σ H Q ⟨D, env, S, p⟩ q hq =>
  p q _ H D S (Same.refl _) hq (.inr ⟨rfl, [], upd_same, .nil⟩)
end
def dPairs : List (Key × DE) → Nv → Res (List (PyData × PyData))
  | [], env => .ok [] env
  | (k, d) :: r, env => (d env).bd fun o e => match pinOV e o with
    | some (x, e1) => (dPairs r e1).bd fun ps e2 => .ok ((kD k, x) :: ps) e2
    | none => .stuck
def dDisp (ps : List (Key × DE)) : DK := fun env => (dPairs ps env).bd fun kvs e => if kvs.length ≤ 15 ∧ (ps.map (·.1)).Nodup then .ok ⟨false, kvs⟩ e else .stuck
/-- the values of a display, one by one -/
def EB (W : WX) (c : Cf) (d : DE) : TE := fun σ H Q => ∃ B, EOf W (c.withB B) d σ H Q
structure Pr (X : Cx) (W : WX) (c : Cf) (pos : Pos) (keys : List (Option Expr)) (values : List Expr) (ps : List (Key × DE)) : Prop where
  all : PPs X pos keys values (ps.map fun p => (tC (kV p.1), EB W c p.2))
section
variable {X : Cx} {W : WX} {c : Cf} {pos : Pos} {keys : List (Option Expr)} {values : List Expr} {ps : List (Key × DE)}
theorem pr_nil : Pr X W c pos [] [] [] := ⟨pps_nil⟩
theorem pr_str {s : Str} {j : Nat} {p1 : Pos} {v : Expr} {d : DE} (hv : ∀ B, PE X v (EOf W (c.withB B) d)) (h : Pr X W c pos keys values ps) : Pr X W c pos (some (.Constant (.str s) j p1) :: keys) (v :: values) ((.inr s, d) :: ps) :=
  ⟨pps_cons (pe_str (x := s)) ⟨fun pins s σ H Q I ⟨B, z⟩ => (hv B).run pins s σ H Q I z⟩ h.all⟩
theorem pairs_core {B : Hp} {σ : St} : ∀ {ps : List (Key × DE)} {D : Hp} {env : Nv} {H : Hp} {R : List (V × V) → Hp → Prop}, Sim (c.withB B) D env σ H →
    (∀ kvs env', dPairs ps env = .ok kvs env' → ∀ kv H' D', Sim (c.withB B) D' env' σ H' → Same D D' → Paired (fun (p : Key × V) (q : PyData × PyData) => q.1 = kD p.1 ∧ Rp D' p.2 q.2) kv kvs → kv.map (·.1) = ps.map (·.1) → R (kv.map fun p => (kV p.1, p.2)) H') →
    (∀ y e, dPairs ps env = .exc y e → PostX W (c.withB B) D σ y e) → dPairs ps env ≠ .stuck → tPairs (ps.map fun p => (tC (kV p.1), EB W c p.2)) σ H R
  | [], D, env, H, R, S, ok, ex, ns => ok [] env rfl [] H D S (Same.refl _) .nil rfl
  | (k, d) :: r, D, env, H, R, S, ok, ex, ns => by
    refine ⟨B, D, env, S, ?_⟩
    show PostE W (c.withB B) D σ _ (d env)
    unfold dPairs at ok ex ns
    revert ok ex ns
    cases d env with
    | stuck => exact fun _ _ z => absurd rfl z
    | exc y e => exact fun _ z _ => z y e rfl
    | ok o e1 =>
      simp only [Res.bd]
      cases hp : pinOV e1 o with
      | none => exact fun _ _ z => absurd rfl z
      | some xe =>
        obtain ⟨x, e2⟩ := xe
        intro ok ex ns v H1 D1 S1 s1 r1
        obtain ⟨D2, S2, s2, r2⟩ := S1.pin r1 hp
        refine pairs_core S2 (fun kvs env' g kv H' D' S' s' q hm => ?_) (fun y e g => ?_) fun g => ?_
        · exact ok ((kD k, x) :: kvs) env' (by simp only [g]) ((k, v) :: kv) H' D' S' ((s1.trans s2).trans s') (.cons ⟨rfl, r2.mono s'⟩ q) (by rw [List.map_cons, List.map_cons, hm])
        · exact PostX.mono (ex y e (by simp only [g])) (s1.trans s2)
        · exact ns (by simp only [g])
theorem putK_new {κ : Type} [DecidableEq κ] {kvs : List (κ × V)} {k : κ} {v : V} (h : k ∉ kvs.map (·.1)) : putK kvs k v = kvs ++ [(k, v)] := by
  unfold putK
  rw [if_neg]
  intro z
  obtain ⟨p, hp, e⟩ := List.any_eq_true.mp z
  exact h (List.mem_map.mpr ⟨p, hp, of_decide_eq_true e⟩)
theorem mergeK_nodup : ∀ (more kvs : List (Key × V)), ((kvs ++ more).map (·.1)).Nodup → mergeK kvs more = kvs ++ more
  | [], kvs, _ => by simp [mergeK]
  | p :: r, kvs, h => by
    have h1 : p.1 ∉ kvs.map (·.1) := by
      rw [List.map_append, List.map_cons] at h
      intro z
      exact (List.nodup_append.mp h).2.2 _ z _ List.mem_cons_self rfl
    have e : mergeK kvs (p :: r) = mergeK (putK kvs p.1 p.2) r := rfl
    rw [e, putK_new h1, mergeK_nodup r (kvs ++ [(p.1, p.2)]) (by simpa using h)]
    simp
def hole (H : Hp) (q : Addr) : Hp := fun b => if b = q then none else H b
theorem hole_ne {H : Hp} {q b : Addr} (h : b ≠ q) : hole H q b = H b := if_neg h
theorem hole_same {H : Hp} {q : Addr} : hole H q q = none := if_pos rfl
theorem hole_upd {H : Hp} {q : Addr} {o : HO} : upd (hole H q) q o = upd H q o := by
  funext b
  by_cases hb : b = q
  · subst hb; rw [upd_same, upd_same]
  · rw [upd_ne hb, upd_ne hb, hole_ne hb]
theorem dk_disp (h : Pr X W c pos keys values ps) (hall : keys.all (·.isSome) = true) (hl : keys.length = values.length) (h0 : keys ≠ []) (h15 : keys.length ≤ 15) : PE X (.Dict keys values pos) (KOf' W c (dDisp ps)) :=
  (pe_disp h.all hall hl h0 h15).weak fun σ H Q ⟨D, env, S, p⟩ q hq => by
    have hB : Same c.B (upd c.B q (.dK [])) := same_upd' (S.bh.free hq)
    have S1 : Sim (c.withB (upd c.B q (.dK []))) D env σ (upd H q (.dK [])) := (S.grow hq _).toB upd_same (S.dh.free hq) (S.apartNew hq)
    have p : PostK W c D σ Q ((dPairs ps env).bd fun kvs e => if kvs.length ≤ 15 ∧ (ps.map (·.1)).Nodup then .ok ⟨false, kvs⟩ e else .stuck) := p
    refine pairs_core S1 (fun kvs env' g kv H' D' S' s' r hm => ?_) (fun y e g => ?_) fun g => ?_
    · rw [g] at p
      simp only [Res.bd] at p
      split at p
      · rename_i hh
        have e1 : H' q = some (.dK []) := S'.bh q _ upd_same
        have e2 : D' q = none := S'.bd q _ upd_same
        refine ⟨e1, kv, rfl, by rw [r.length]; exact hh.1, ?_⟩
        have nd : ((([] : List (Key × V)) ++ kv).map (·.1)).Nodup := by rw [List.nil_append, hm]; exact hh.2
        rw [mergeK_nodup kv [] nd, List.nil_append]
        -- the heap without the new dict
        rw [← hole_upd]
        have S2 : Sim c D' env' σ (hole H' q) := by
          have S3 := S'.ofB hB
          refine ⟨fun a o e => ?_, fun a o e => ?_, S3.bd, S3.len, fun i s e => (S3.slot i s e).lift (Same.refl _) fun a ea ho => ⟨?_, fun z => z⟩, S3.apart⟩
          · rw [hole_ne (ne_of_none e e2)]; exact S3.dh a o e
          · rw [hole_ne (ne_of_none e (S.bh.free hq))]; exact S3.bh a o e
          · apply hole_ne
            rintro rfl
            obtain ⟨a', u, k1, k2, k3, k4⟩ := (S'.slot i s e).tracked ho
            rw [ea] at k1; cases k1
            have k5 := (upd_same (H := c.B) (a := a) (o := .dK [])).symm.trans k4
            cases k5
        exact p q _ _ D' S2 s' hole_same (.inl ⟨rfl, kv, upd_same, r⟩)
      · exact p.elim
    · rw [g] at p
      exact PostX.ofB p hB
    · rw [g] at p
      exact p
end
end L2.Dl

namespace L2.Dl
open PySem
open PySem.Spec
open PyProof.Rows
variable [KF]

def cutG {α : Type} (xs : List α) (lo hi : Option Int) : List α := (xs.drop (HT.sIx xs.length 0 lo)).take (HT.sIx xs.length xs.length hi - HT.sIx xs.length 0 lo)
theorem RpL.drop {D : Hp} : ∀ {vs : List V} {ds : List PyData} (n : Nat), RpL D vs ds → RpL D (vs.drop n) (ds.drop n)
  | _, _, 0, r => r
  | _, _, _ + 1, .nil => .nil
  | _, _, n + 1, .cons _ r => RpL.drop n r
theorem RpL.take {D : Hp} : ∀ {vs : List V} {ds : List PyData} (n : Nat), RpL D vs ds → RpL D (vs.take n) (ds.take n)
  | _, _, 0, _ => .nil
  | _, _, _ + 1, .nil => .nil
  | _, _, n + 1, .cons h r => .cons h (RpL.take n r)
theorem RpL.cut {D : Hp} {vs : List V} {ds : List PyData} (r : RpL D vs ds) (lo hi : Option Int) : RpL D (cutV vs lo hi) (cutG ds lo hi) := by
  unfold cutV cutG
  rw [r.length]
  exact (r.drop _).take _
theorem RpL.reverse {D : Hp} : ∀ {vs : List V} {ds : List PyData}, RpL D vs ds → RpL D vs.reverse ds.reverse
  | _, _, .nil => .nil
  | _, _, .cons h r => by
    rw [List.reverse_cons, List.reverse_cons]
    exact (RpL.reverse r).append (.cons h .nil)
abbrev DP := Nv → Res (Option Int)
def PostP (W : WX) (c : Cf) (D : Hp) (σ : St) (Q : Option Int → Hp → Prop) : Res (Option Int) → Prop
  | .ok b env' => ∀ H' D', Sim c D' env' σ H' → Same D D' → Q b H'
  | .exc x env' => PostX W c D σ x env'
  | .stuck => False
def POf (W : WX) (c : Cf) (d : DP) : TO := fun σ H Q => ∃ D env, Sim c D env σ H ∧ PostP W c D σ Q (d env)
def intOV (e : Nv) (o : OV) : Res (Option Int) := match getOV e o with
  | some (.int i) => .ok (some i) e
  | _ => .stuck
def dP0 : DP := fun env => .ok none env
def dP (d : DE) : DP := fun env => (d env).bd fun o e => intOV e o
section
variable {X : Cx} {W : WX} {c : Cf} {e : Expr} {d : DE}
theorem _root_.L2.PO.weak {x : Option Expr} {t t' : TO} (h : PO X x t) (w : ∀ σ H Q, t' σ H Q → t σ H Q) : PO X x t' := ⟨fun pins s σ H Q I q => h.run pins s σ H Q I (w σ H Q q)⟩
theorem dp_none : PO X none (POf W c dP0) := po_none.weak fun σ H Q ⟨D, env, S, p⟩ => p H D S (Same.refl _)
theorem dp_some (he : PE X e (EOf W c d)) : PO X (some e) (POf W c (dP d)) := (po_some he).weak fun σ H Q ⟨D, env, S, p⟩ => by
  refine ⟨D, env, S, ?_⟩
  have p : PostP W c D σ Q ((d env).bd fun o e => intOV e o) := p
  revert p
  cases d env with
  | stuck => exact fun z => z
  | exc y e => exact fun z => z
  | ok o e1 =>
    intro p v H1 D1 S1 s1 r1
    have p : PostP W c D σ Q (intOV e1 o) := p
    unfold intOV at p
    split at p
    · rename_i i g
      have := (S1.getq r1 (Same.refl _) g).int
      exact ⟨i, this, p H1 D1 S1 s1⟩
    · exact p.elim
end
def gSl (x : PyData) (lo hi : Option Int) : Option PyData := match x with
  | .list ds => some (.list (cutG ds lo hi))
  | .tuple ds => some (.tuple (cutG ds lo hi))
  | .str z => if z.length ≤ lenB then some (.str (cutS z lo hi)) else none
  | _ => none
def dSl (dx : DE) (lo hi : DP) : DE := fun env => (dx env).bd fun o e1 => (lo e1).bd fun l e2 => (hi e2).bd fun h e3 => match getOV e3 o with
  | some x => match gSl x l h with
    | some z => .ok (.d z) e3
    | none => .stuck
  | none => .stuck
def dSlL (dx : DE) (lo hi : DP) : DL := fun env => (dx env).bd fun o e1 => (lo e1).bd fun l e2 => (hi e2).bd fun h e3 => match getOV e3 o with
  | some (.list xs) => .ok (cutG xs l h) e3
  | _ => .stuck
def rSlX (K : PySem.W.Frag) : V → Option Int → Option Int → Hp → VK → Prop := fun x lo hi H Q => rSlL K x lo hi H Q ∨ rSlA K x lo hi H Q ∨ rSlS x lo hi H Q
section
variable {X : Cx} {W : WX} {c : Cf} {e : Expr} {d : DE} {lo hi : Option Expr} {l h : DP} {p2 pos : Pos}
theorem sl_X : SlR X (rSlX X.K) := sl_list.or (sl_tupA.or sl_str)
theorem cutG_all {α : Type} (ds : List α) (lo hi : Option Int) (h : HT.sIx ds.length 0 lo = 0 ∧ HT.sIx ds.length ds.length hi = ds.length) : cutG ds lo hi = ds := by
  unfold cutG
  rw [h.1, h.2]
  simp
theorem de_sl (hK : c.K = X.K) (he : PE X e (EOf W c d)) (hl : PO X lo (POf W c l)) (hh : PO X hi (POf W c h)) : PE X (.Subscript e (.Slice lo hi none p2) pos) (EOf W c (dSl d l h)) :=
  (pe_slice sl_X he hl hh).weak fun σ H Q ⟨D, env, S, p⟩ => by
    refine ⟨D, env, S, ?_⟩
    have p : PostE W c D σ Q ((d env).bd _) := p
    revert p
    cases d env with
    | stuck => exact fun z => z
    | exc y e => exact fun z => z
    | ok o e1 =>
      intro p v H1 D1 S1 s1 r1
      have p : PostE W c D σ Q ((l e1).bd _) := p
      refine ⟨D1, e1, S1, ?_⟩
      revert p
      cases l e1 with
      | stuck => exact fun z => z
      | exc y e => exact fun z => PostX.mono z s1
      | ok lo' e2 =>
        intro p H2 D2 S2 s2
        have p : PostE W c D σ Q ((h e2).bd _) := p
        refine ⟨D2, e2, S2, ?_⟩
        revert p
        cases h e2 with
        | stuck => exact fun z => z
        | exc y e => exact fun z => PostX.mono z (s1.trans s2)
        | ok hi' e3 =>
          intro p H3 D3 S3 s3
          simp only [Res.bd] at p
          split at p
          · rename_i x g
            split at p
            · rename_i z gz
              have rq := S3.getq r1 (s2.trans s3) g
              have fin : ∀ {v' : V} {H' : Hp}, NewR D3 H3 v' z H' → Q v' H' := fun n => S3.new n (PostE.mono p ((s1.trans s2).trans s3))
              rw [← hK]
              unfold gSl at gz
              split at gz
              · cases gz
                obtain ⟨a, vs, rfl, k1, k2⟩ := rq.lst S3.dh
                exact .inl ⟨a, vs, rfl, .of k1, fun q hq => fin (.lst hq (k2.cut _ _))⟩
              · cases gz
                rename_i ds
                obtain ⟨rt, a, vs, rfl, k1, k2⟩ := rq.tup
                refine .inr (.inl ⟨a, vs, rfl, k1.same S3.dh, fun hw => ?_, fun _ q hq => fin (.tup hq (k2.cut _ _))⟩)
                rw [k2.length] at hw
                rw [cutG_all ds _ _ hw] at fin
                exact fin (.of rt)
              · split at gz
                · rename_i hz
                  cases gz
                  rw [rq.str]
                  exact .inr (.inr ⟨_, rfl, lenB_le hz, fin (.of (.str _))⟩)
                · cases gz
              · cases gz
            · exact p.elim
          · exact p.elim
theorem dl_sl (hK : c.K = X.K) (he : PE X e (EOf W c d)) (hl : PO X lo (POf W c l)) (hh : PO X hi (POf W c h)) : PE X (.Subscript e (.Slice lo hi none p2) pos) (LOf W c (dSlL d l h)) :=
  (pe_slice sl_list he hl hh).weak fun σ H Q ⟨D, env, S, p⟩ => by
    refine ⟨D, env, S, ?_⟩
    have p : PostL W c D σ Q ((d env).bd _) := p
    revert p
    cases d env with
    | stuck => exact fun z => z
    | exc y e => exact fun z => z
    | ok o e1 =>
      intro p v H1 D1 S1 s1 r1
      have p : PostL W c D σ Q ((l e1).bd _) := p
      refine ⟨D1, e1, S1, ?_⟩
      revert p
      cases l e1 with
      | stuck => exact fun z => z
      | exc y e => exact fun z => PostX.mono z s1
      | ok lo' e2 =>
        intro p H2 D2 S2 s2
        have p : PostL W c D σ Q ((h e2).bd _) := p
        refine ⟨D2, e2, S2, ?_⟩
        revert p
        cases h e2 with
        | stuck => exact fun z => z
        | exc y e => exact fun z => PostX.mono z (s1.trans s2)
        | ok hi' e3 =>
          intro p H3 D3 S3 s3
          simp only [Res.bd] at p
          split at p
          · rename_i xs g
            obtain ⟨a, vs, rfl, k1, k2⟩ := (S3.getq r1 (s2.trans s3) g).lst S3.dh
            exact ⟨a, vs, rfl, .of k1, fun q hq => p q _ H3 D3 S3 ((s1.trans s2).trans s3) hq (k2.cut _ _)⟩
          · exact p.elim
/-- a slice of a list that is only read (the script) -/
def dSlRo (i : Nat) (l h : DP) : DE := fun env => match env[i]? with
  | some (.ro _) => (l env).bd fun l' e2 => (h e2).bd fun h' e3 => match e3[i]? with
    | some (.ro xs) => .ok (.d (.list (cutG xs l' h'))) e3
    | _ => .stuck
  | _ => .stuck
theorem de_slRo {i : Nat} {x : Str} {p1 : Pos} (hK : c.K = X.K) (hN : X.N[i]? = some x) (hv : Vis X.env.scope x) (hl : PO X lo (POf W c l)) (hh : PO X hi (POf W c h)) (hd : (x == ("__debug__" : Str)) = false := by decide) (hcd : (x == ("__classdict__" : Str)) = false := by decide) :
    PE X (.Subscript (.Name x p1) (.Slice lo hi none p2) pos) (EOf W c (dSlRo i l h)) :=
  (pe_slice sl_list (pe_var hN hv hd hcd) hl hh).weak fun σ H Q ⟨D, env, S, p⟩ => by
    have p : PostE W c D σ Q (dSlRo i l h env) := p
    unfold dSlRo at p
    split at p
    · rename_i xs e0
      obtain ⟨a, vs, ea, _⟩ := S.slot i _ e0
      refine ⟨_, join_some ea, D, env, S, ?_⟩
      revert p
      cases l env with
      | stuck => exact fun z => z
      | exc y e => exact fun z => z
      | ok lo' e2 =>
        intro p H2 D2 S2 s2
        have p : PostE W c D σ Q ((h e2).bd _) := p
        refine ⟨D2, e2, S2, ?_⟩
        revert p
        cases h e2 with
        | stuck => exact fun z => z
        | exc y e => exact fun z => PostX.mono z s2
        | ok hi' e3 =>
          intro p H3 D3 S3 s3
          simp only [Res.bd] at p
          split at p
          · rename_i ys e4
            obtain ⟨a', ws, ea', k1, k2⟩ := S3.slot i _ e4
            rw [ea] at ea'; cases ea'
            rw [← hK]
            exact ⟨a, ws, rfl, S3.dh.seq k1, fun q hq => S3.new (.lst hq (k2.cut _ _)) (PostE.mono p (s2.trans s3))⟩
          · exact p.elim
    · exact p.elim
end
def dApp (i : Nat) (d : DE) : DE := fun env => match ownAt env i with
  | some _ => (d env).bd fun o e => match pinOV e o with
    | some (x, e1) => match ownAt e1 i with
      | some (p, xs) => if xs.length < lenB then .ok (.d .none) (e1.set i (.own p (xs ++ [x]))) else .stuck
      | none => .stuck
    | none => .stuck
  | none => .stuck
def dExt (i : Nat) (d : DE) : DE := fun env => match ownAt env i with
  | some _ => (d env).bd fun o e => match getOV e o with
    | some (.list ys) => match ownAt e i with
      | some (p, xs) => if xs.length + ys.length ≤ lenB then .ok (.d .none) (e.set i (.own p (xs ++ ys))) else .stuck
      | none => .stuck
    | _ => .stuck
  | none => .stuck
def dPop (i : Nat) : DE := fun env => match ownAt env i with
  | some (p, xs) => match xs[xs.length - 1]? with
    | some x => .ok (.d x) (env.set i (.own p xs.dropLast))
    | none => .stuck
  | none => .stuck
def dPopAt (i : Nat) (d : DE) : DE := fun env => match ownAt env i with
  | some _ => (d env).bd fun o e => match getOV e o with
    | some (.int j) => match ownAt e i with
      | some (p, xs) => if 0 ≤ j ∧ xs.length ≤ lenB then match xs[j.toNat]? with
        | some x => .ok (.d x) (e.set i (.own p (xs.eraseIdx j.toNat)))
        | none => .stuck else .stuck
      | none => .stuck
    | _ => .stuck
  | none => .stuck
theorem RpL.dropLast {D : Hp} {vs : List V} {ds : List PyData} (r : RpL D vs ds) : RpL D vs.dropLast ds.dropLast := by
  rw [List.dropLast_eq_take, List.dropLast_eq_take, r.length]
  exact r.take _
theorem RpL.eraseIdx {D : Hp} : ∀ {vs : List V} {ds : List PyData} (n : Nat), RpL D vs ds → RpL D (vs.eraseIdx n) (ds.eraseIdx n)
  | _, _, _, .nil => .nil
  | _, _, 0, .cons _ r => r
  | _, _, n + 1, .cons h r => .cons h (RpL.eraseIdx n r)
section
variable {X : Cx} {W : WX} {c : Cf} {e : Expr} {d : DE} {i : Nat} {x : Str} {p1 apos pos : Pos}
theorem tyL {K : PySem.W.Frag} {H : Hp} {a : Addr} {vs : List V} (h : H a = some (.lst vs)) : tyV K "list" (.ref a) H := .inl ⟨rfl, vs, .of h⟩
theorem de_app (hN : X.N[i]? = some x) (hv : Vis X.env.scope x) (he : PE X e (EOf W c d)) (hd : (x == ("__debug__" : Str)) = false := by decide) (hcd : (x == ("__classdict__" : Str)) = false := by decide)
    (hbase : attributeBase (.Name x p1) "append" X.env (eval (.Name x p1) X.env) = eval (.Name x p1) X.env := by rfl)
    (hfew : ((backTo pos (starEach [e] X.env)).all (fun x => !x.1) && (backToKw pos (keywordEach [] X.env)).all (fun x => x.1.isSome)
      && decide (([e] : List Expr).length + ([] : List Keyword).length + (if ([] : List Keyword).isEmpty then 0 else 1) < 30)) = true := by rfl)
    (hline : (apos.endLine == pos.line) = true := by rfl) (hs : starEach [e] X.env = (false, eval e X.env) :: starEach [] X.env := by rfl) (hpl : (backTo pos (starEach [] X.env)).any (·.1) = false := by rfl) :
    PE X (.Call (.Attribute (.Name x p1) "append" apos) [e] [] pos) (EOf W c (dApp i d)) :=
  (pe_bm PySem.F.plainAttrs_list PySem.F.slot_list_append PySem.F.type_list_append mt_append (pe_var hN hv hd hcd) (pa_cons he pa_nil hs) hbase hfew hline hs hpl).weak fun σ H Q ⟨D, env, S, p⟩ => by
    have p : PostE W c D σ Q (dApp i d env) := p
    unfold dApp at p
    split at p
    · rename_i d0 h0
      obtain ⟨a, vs0, ea, ja, hh0, _⟩ := S.ownSlot (p := d0.1) (d := d0.2) h0
      refine ⟨_, ea, tyL hh0, D, env, S, ?_⟩
      revert p
      cases d env with
      | stuck => exact fun z => z
      | exc y e => exact fun z => z
      | ok o e1 =>
        intro p v H1 D1 S1 s1 r1
        simp only [Res.bd] at p
        split at p
        · rename_i z e2 hp
          obtain ⟨D2, S2, s2, r2⟩ := S1.pin r1 hp
          split at p
          · rename_i pp xs ho
            split at p
            · rename_i hl
              obtain ⟨a', vs, ea', ja', k1, k2⟩ := S2.ownSlot ho
              rw [ja] at ja'; cases ja'
              exact ⟨a, vs, v, rfl, rfl, k1, by rw [k2.length]; exact Nat.lt_of_lt_of_le hl (lenB_le (Nat.le_refl _)), p _ _ D2 (S2.putOwn (ownAt_eq ho) ja (k2.append (.cons r2 .nil))) (s1.trans s2) .non⟩
            · exact p.elim
          · exact p.elim
        · exact p.elim
    · exact p.elim
theorem de_ext (hN : X.N[i]? = some x) (hv : Vis X.env.scope x) (he : PE X e (EOf W c d)) (hd : (x == ("__debug__" : Str)) = false := by decide) (hcd : (x == ("__classdict__" : Str)) = false := by decide)
    (hbase : attributeBase (.Name x p1) "extend" X.env (eval (.Name x p1) X.env) = eval (.Name x p1) X.env := by rfl)
    (hfew : ((backTo pos (starEach [e] X.env)).all (fun x => !x.1) && (backToKw pos (keywordEach [] X.env)).all (fun x => x.1.isSome)
      && decide (([e] : List Expr).length + ([] : List Keyword).length + (if ([] : List Keyword).isEmpty then 0 else 1) < 30)) = true := by rfl)
    (hline : (apos.endLine == pos.line) = true := by rfl) (hs : starEach [e] X.env = (false, eval e X.env) :: starEach [] X.env := by rfl) (hpl : (backTo pos (starEach [] X.env)).any (·.1) = false := by rfl) :
    PE X (.Call (.Attribute (.Name x p1) "extend" apos) [e] [] pos) (EOf W c (dExt i d)) :=
  (pe_bm PySem.F.plainAttrs_list PySem.F.slot_list_extend PySem.F.type_list_extend mt_extend (pe_var hN hv hd hcd) (pa_cons he pa_nil hs) hbase hfew hline hs hpl).weak fun σ H Q ⟨D, env, S, p⟩ => by
    have p : PostE W c D σ Q (dExt i d env) := p
    unfold dExt at p
    split at p
    · rename_i d0 h0
      obtain ⟨a, vs0, ea, ja, hh0, _⟩ := S.ownSlot (p := d0.1) (d := d0.2) h0
      refine ⟨_, ea, tyL hh0, D, env, S, ?_⟩
      revert p
      cases d env with
      | stuck => exact fun z => z
      | exc y e => exact fun z => z
      | ok o e1 =>
        intro p v H1 D1 S1 s1 r1
        simp only [Res.bd] at p
        split at p
        · rename_i ys hg
          obtain ⟨b, ws, rfl, m1, m2⟩ := (S1.getq r1 (Same.refl _) hg).lst S1.dh
          split at p
          · rename_i pp xs ho
            split at p
            · rename_i hl
              obtain ⟨a', vs, ea', ja', k1, k2⟩ := S1.ownSlot ho
              rw [ja] at ja'; cases ja'
              exact ⟨a, b, vs, ws, rfl, rfl, k1, m1, by rw [k2.length, m2.length]; exact lenB_le hl, p _ _ D1 (S1.putOwn (ownAt_eq ho) ja (k2.append m2)) s1 .non⟩
            · exact p.elim
          · exact p.elim
        · exact p.elim
    · exact p.elim
theorem de_popAt (hN : X.N[i]? = some x) (hv : Vis X.env.scope x) (he : PE X e (EOf W c d)) (hd : (x == ("__debug__" : Str)) = false := by decide) (hcd : (x == ("__classdict__" : Str)) = false := by decide)
    (hbase : attributeBase (.Name x p1) "pop" X.env (eval (.Name x p1) X.env) = eval (.Name x p1) X.env := by rfl)
    (hfew : ((backTo pos (starEach [e] X.env)).all (fun x => !x.1) && (backToKw pos (keywordEach [] X.env)).all (fun x => x.1.isSome)
      && decide (([e] : List Expr).length + ([] : List Keyword).length + (if ([] : List Keyword).isEmpty then 0 else 1) < 30)) = true := by rfl)
    (hline : (apos.endLine == pos.line) = true := by rfl) (hs : starEach [e] X.env = (false, eval e X.env) :: starEach [] X.env := by rfl) (hpl : (backTo pos (starEach [] X.env)).any (·.1) = false := by rfl) :
    PE X (.Call (.Attribute (.Name x p1) "pop" apos) [e] [] pos) (EOf W c (dPopAt i d)) :=
  (pe_bm PySem.F.plainAttrs_list PySem.F.slot_list_pop PySem.F.type_list_pop mt_popAt (pe_var hN hv hd hcd) (pa_cons he pa_nil hs) hbase hfew hline hs hpl).weak fun σ H Q ⟨D, env, S, p⟩ => by
    have p : PostE W c D σ Q (dPopAt i d env) := p
    unfold dPopAt at p
    split at p
    · rename_i d0 h0
      obtain ⟨a, vs0, ea, ja, hh0, _⟩ := S.ownSlot (p := d0.1) (d := d0.2) h0
      refine ⟨_, ea, tyL hh0, D, env, S, ?_⟩
      revert p
      cases d env with
      | stuck => exact fun z => z
      | exc y e => exact fun z => z
      | ok o e1 =>
        intro p v H1 D1 S1 s1 r1
        simp only [Res.bd] at p
        split at p
        · rename_i j hg
          have hv := (S1.getq r1 (Same.refl _) hg).int
          subst hv
          split at p
          · rename_i pp xs ho
            split at p
            · rename_i hl
              split at p
              · rename_i y hy
                obtain ⟨a', vs, ea', ja', k1, k2⟩ := S1.ownSlot ho
                rw [ja] at ja'; cases ja'
                obtain ⟨w, hw, rw'⟩ := k2.get' hy
                have hj : j.toNat < xs.length := (List.getElem?_eq_some_iff.mp hy).1
                have hb : (lenB : Int) < 2 ^ 63 := by decide
                refine ⟨a, vs, j, j.toNat, w, rfl, rfl, k1, by omega, by omega, ?_, hw, p _ _ D1 (S1.putOwn (ownAt_eq ho) ja (k2.eraseIdx _)) s1 rw'⟩
                rw [k2.length]
                exact seqIndex_of hl.1 (by omega)
              · exact p.elim
            · exact p.elim
          · exact p.elim
        · exact p.elim
    · exact p.elim
theorem de_pop (hN : X.N[i]? = some x) (hv : Vis X.env.scope x) (hd : (x == ("__debug__" : Str)) = false := by decide) (hcd : (x == ("__classdict__" : Str)) = false := by decide)
    (hbase : attributeBase (.Name x p1) "pop" X.env (eval (.Name x p1) X.env) = eval (.Name x p1) X.env := by rfl) (hline : (apos.endLine == pos.line) = true := by rfl) :
    PE X (.Call (.Attribute (.Name x p1) "pop" apos) [] [] pos) (EOf W c (dPop i)) :=
  (pe_bm0 PySem.F.plainAttrs_list PySem.F.slot_list_pop PySem.F.type_list_pop mt_pop (pe_var hN hv hd hcd) hbase hline).weak fun σ H Q ⟨D, env, S, p⟩ => by
    have p : PostE W c D σ Q (dPop i env) := p
    unfold dPop at p
    split at p
    · rename_i pp xs h0
      obtain ⟨a, vs, ea, ja, hh0, k2⟩ := S.ownSlot h0
      split at p
      · rename_i y hy
        obtain ⟨w, hw, rw'⟩ := k2.get' hy
        exact ⟨_, ea, tyL hh0, a, vs, w, rfl, rfl, hh0, by rw [k2.length]; exact hw, p _ _ D (S.putOwn (ownAt_eq h0) ja k2.dropLast) (Same.refl _) rw'⟩
      · exact p.elim
    · exact p.elim
end
def dAug (i : Nat) (g : PyData → PyData → Option PyData) (d : DE) : DS := fun env => match env[i]? with
  | some (.v x) => (d env).bs fun o e => match getOV e o with
    | some y => match g x y with
      | some z => setS e i (.v z)
      | none => .stuck
    | none => .stuck
  | _ => .stuck
section
variable {X : Cx} {W : WX} {c : Cf} {e : Expr} {d : DE} {i : Nat} {x : Str} {pos' pos : Pos}
theorem aug_core {f : Int → Int → Int} {σ : St} {H : Hp} {De : Ends} (h : SOf W c (dAug i (g2I fun i j => some (.int (f i j))) d) De σ H) : tAug i (EOf W c d) (ipI f) De σ H := by
  obtain ⟨D, env, S, p⟩ := h
  have p : PostS W c D De (dAug i _ d env) := p
  unfold dAug at p
  split at p
  · rename_i x0 e0
    obtain ⟨v0, ev, rv⟩ := S.slot i _ e0
    refine ⟨v0, join_some ev, D, env, S, ?_⟩
    revert p
    cases d env with
    | stuck => exact fun z => z
    | exc y e => exact fun z => z σ
    | ok o e1 =>
      intro p v H1 D1 S1 s1 r1
      simp only [Res.bs] at p
      split at p
      · rename_i y hg
        split at p
        · rename_i z hz
          cases x0 <;> try (cases hz; done)
          cases y <;> try (cases hz; done)
          cases hz
          cases rv
          have := (S1.getq r1 (Same.refl _) hg).int
          subst this
          unfold setS at p
          split at p
          · rename_i hf
            exact ⟨_, _, rfl, rfl, p _ H1 D1 (S1.setS (freeAt_lt hf) (.ofV (.int _))) s1⟩
          · exact p.elim
        · exact p.elim
      · exact p.elim
  · exact p.elim
theorem ds_augAdd (hN : X.N.Nodup) (hi : X.N[i]? = some x) (hx : Loc X.env.scope x) (he : PE X e (EOf W c d)) (hf : X.fn x = true ∨ X.env.scope.names.lookup x = some .local := by first | exact .inl rfl | exact .inr rfl | assumption) :
    PS X (.AugAssign (.Name x pos') .Add e pos) (SOf W c (dAug i gAddI d)) := (ps_aug hN hi hx he ip_add hf).weak fun _ _ _ => aug_core
theorem ds_augSub (hN : X.N.Nodup) (hi : X.N[i]? = some x) (hx : Loc X.env.scope x) (he : PE X e (EOf W c d)) (hf : X.fn x = true ∨ X.env.scope.names.lookup x = some .local := by first | exact .inl rfl | exact .inr rfl | assumption) :
    PS X (.AugAssign (.Name x pos') .Sub e pos) (SOf W c (dAug i gSubI d)) := (ps_aug hN hi hx he ip_sub hf).weak fun _ _ _ => aug_core
end
def gMul : PyData → PyData → Option PyData
  | .int i, .int j => if (-(2 ^ 64) < i ∧ i < 2 ^ 64) ∨ (-(2 ^ 64) < j ∧ j < 2 ^ 64) then some (.int (i * j)) else none
  | .list xs, .int k => if 0 ≤ k ∧ k ≤ 1000 ∧ xs.length ≤ 1000 then some (.list (List.replicate k.toNat xs).flatten) else none
  | _, _ => none
def rMulA : R2 := fun x y H Q => rI CMul (fun i j => .int (i * j)) x y H Q ∨ rRep x y H Q
theorem op_mulA {X : Cx} : OpR X (binaryOp .Mult) rMulA := by
  intro pins s σ H x y v u Q I rx ry h
  rcases h with h | h
  · exact op_mul pins s σ H x y v u Q I rx ry h
  · exact op_rep pins s σ H x y v u Q I rx ry h
theorem RpL.rep {D : Hp} {vs : List V} {ds : List PyData} (r : RpL D vs ds) : ∀ n : Nat, RpL D (List.replicate n vs).flatten (List.replicate n ds).flatten
  | 0 => .nil
  | n + 1 => by
    rw [List.replicate_succ, List.replicate_succ, List.flatten_cons, List.flatten_cons]
    exact r.append (RpL.rep r n)
theorem lf_mulA : Lf KF.frag rMulA gMul := by
  intro D H x y a b z Q s rx ry e q
  unfold gMul at e
  split at e
  · split at e
    · rename_i h
      cases e
      exact .inl ⟨_, _, rx.int, ry.int, h, q _ _ (.of (.int _))⟩
    · cases e
  · split at e
    · rename_i xs k h
      cases e
      obtain ⟨a, vs, rfl, h1, h2⟩ := rx.lst s
      refine .inr ⟨a, k, vs, rfl, ry.int, h1, by omega, by omega, ?_, fun p hp => q _ _ (.lst hp (h2.rep _))⟩
      rw [h2.length, sizeLine_eq]
      calc xs.length * k.toNat ≤ 1000 * 1000 := Nat.mul_le_mul h.2.2 (by omega)
        _ ≤ 16777216 := by decide
    · cases e
  · cases e
end L2.Dl

namespace L2.Dl
open PySem
open PySem.Spec
open PyProof.Rows
variable [KF]

def whileN (t : DT) (b : DS) : Nat → DS
  | 0, _ => .stuck
  | n + 1, env => (t env).bs fun k e => if k = true then (match b e with
    | .nx e' => whileN t b n e'
    | .ct e' => whileN t b n e'
    | .bk e' => .nx e'
    | r => r) else .nx e
def fuel : Nat := 1000000
def dWhile (t : DT) (b : DS) : DS := whileN t b fuel
section
variable {X : Cx} {W : WX} {c : Cf} {pos : Pos} {x : Expr} {body : List Stmt} {t : DT} {b : DS}
theorem while_core {De : Ends} {σ : St} {H : Hp} {D : Hp} {env : Nv} {n : Nat} (S : Sim c D env σ H) (p : PostS W c D De (whileN t b n env)) : tWhile (TOf W c t) (SOf W c b) De σ H := by
  refine ⟨fun m σ H => ∃ D env, Sim c D env σ H ∧ PostS W c D De (whileN t b m env), ⟨n, D, env, S, p⟩, fun m σ H ⟨D, env, S, p⟩ => ?_⟩
  cases m with
  | zero => exact p.elim
  | succ m =>
    refine ⟨D, env, S, ?_⟩
    unfold whileN at p
    revert p
    cases t env with
    | stuck => exact fun z => z
    | exc y e => exact fun z => z σ
    | ok k e1 =>
      intro p H1 D1 S1 s1
      cases k with
      | false => exact iteF (p σ H1 D1 S1 s1)
      | true =>
        refine iteT ⟨fun σ H => ∃ D env, Sim c D env σ H ∧ PostS W c D De (whileN t b m env), fun σ' H' h => ⟨m, Nat.lt_succ_self m, h⟩, D1, e1, S1, ?_⟩
        have p : PostS W c D De (match b e1 with
          | .nx e' => whileN t b m e'
          | .ct e' => whileN t b m e'
          | .bk e' => .nx e'
          | r => r) := p
        have p := p.mono s1
        revert p
        cases b e1 with
        | nx e' => exact fun p σ' H' D' S' s' => ⟨D', e', S', PostS.mono (r := whileN t b m e') p s'⟩
        | ct e' => exact fun p σ' H' D' S' s' => ⟨D', e', S', PostS.mono (r := whileN t b m e') p s'⟩
        | bk e' => exact fun p => p
        | rt x e' => exact fun p => p
        | rtD x e' => exact fun p => p
        | exc x e' => exact fun p => p
        | stuck => exact fun p => p
theorem ds_while (hp : PassesOwn (model X.prog X.w) X.A X.env X.xe) (hc : PT X x (TOf W c t)) (hb : PSs X body (SOf W c b)) : PS X (.While x body [] pos) (SOf W c (dWhile t b)) :=
  (ps_while hp hc hb).weak fun De σ H ⟨D, env, S, p⟩ => while_core S p
end
/-- the walk J draws the items xs while the frozen part D stands -/
structure Drw (c : Cf) (D0 : Hp) (J : It) (xs : List PyData) : Prop where
  ex : ∃ (G : Hp → Prop) (Y : Nat → Hp → V → Hp → Prop), Walk J xs.length G Y ∧ (∀ D env σ H, Same D0 D → Sim c D env σ H → G H) ∧
    ∀ i H v H1 D env σ, i < xs.length → Same D0 D → Sim c D env σ H → Y i H v H1 → ∃ x, xs[i]? = some x ∧ NewR D H v x H1
abbrev DI := Nv → Res (List PyData)
def PostI (W : WX) (c : Cf) (D : Hp) (σ : St) (R : It → Hp → Prop) : Res (List PyData) → Prop
  | .ok xs env' => ∀ J H' D', Sim c D' env' σ H' → Same D D' → Drw c D' J xs → R J H'
  | .exc x env' => PostX W c D σ x env'
  | .stuck => False
def IOf (W : WX) (c : Cf) (d : DI) : TI := fun σ H R => ∃ D env, Sim c D env σ H ∧ PostI W c D σ R (d env)
theorem PostI.mono {W : WX} {c : Cf} {D D1 : Hp} {σ : St} {R : It → Hp → Prop} {r : Res (List PyData)} (h : PostI W c D σ R r) (s : Same D D1) : PostI W c D1 σ R r := by
  cases r with
  | ok o e => exact fun J H' D' S q r => h J H' D' S (s.trans q) r
  | exc x e => exact PostX.mono h s
  | stuck => exact h
theorem Sim.newR {c : Cf} {D : Hp} {env : Nv} {σ : St} {H H' : Hp} {v : V} {z : PyData} (S : Sim c D env σ H) (n : NewR D H v z H') : ∃ D', Sim c D' env σ H' ∧ Same D D' ∧ Rp D' v z := by
  rcases n with ⟨rfl, r⟩ | ⟨a, vs, zs, rfl, hp, rfl, rfl, r⟩ | ⟨a, vs, zs, rfl, hp, rfl, rfl, r⟩
  · exact ⟨D, S, Same.refl D, r⟩
  · have hD : D a = none := S.dh.free hp
    exact ⟨_, S.laid hp _, same_upd' hD, .tup upd_same (r.mono (same_upd' hD))⟩
  · have hD : D a = none := S.dh.free hp
    exact ⟨_, S.laid hp _, same_upd' hD, .lst upd_same (r.mono (same_upd' hD))⟩
def forL (p : Pat) (b : DS) : List PyData → DS
  | [], env => .nx env
  | x :: r, env => match asgP p x env with
    | some e => match b e with
      | .nx e' => forL p b r e'
      | .ct e' => forL p b r e'
      | .bk e' => .nx e'
      | q => q
    | none => .stuck
def dFor (it : DI) (p : Pat) (b : DS) : DS := fun env => (it env).bs fun xs e => forL p b xs e
section
variable {X : Cx} {W : WX} {c : Cf} {pos : Pos} {tg iter : Expr} {body : List Stmt} {it : DI} {b : DS} {p : Pat}
theorem for_core {De : Ends} {σ : St} {H : Hp} (h : SOf W c (dFor it p b) De σ H) : tFor (IOf W c it) (GOf c p) (SOf W c b) De σ H := by
  obtain ⟨D, env, S, q⟩ := h
  refine ⟨D, env, S, ?_⟩
  have q : PostS W c D De ((it env).bs fun xs e => forL p b xs e) := q
  revert q
  cases it env with
  | stuck => exact fun z => z
  | exc y e => exact fun z => z σ
  | ok xs e1 =>
    intro q J H1 D1 S1 s1 dr
    have q : PostS W c D1 De (forL p b xs e1) := PostS.mono (r := forL p b xs e1) q s1
    obtain ⟨G, Y, wk, hG, hY⟩ := dr.ex
    refine for_it wk (fun i σ H => ∃ D env, Sim c D env σ H ∧ Same D1 D ∧ PostS W c D De (forL p b (xs.drop i) env)) ⟨D1, e1, S1, Same.refl _, by rw [List.drop_zero]; exact q⟩ (fun i σ H _ ⟨D, env, S, s, _⟩ => hG D env σ H s S)
      (fun i v σ H H' hi ⟨D, env, S, s, q⟩ y => ?_) fun σ H ⟨D, env, S, s, q⟩ => ?_
    · obtain ⟨x, hx, n⟩ := hY i H v H' D env σ hi s S y
      obtain ⟨D2, S2, s2, r2⟩ := S.newR n
      have hd : xs.drop i = x :: xs.drop (i + 1) := by
        rw [List.drop_eq_getElem_cons hi]
        have : xs[i] = x := by
          rw [List.getElem?_eq_getElem hi] at hx; exact Option.some.inj hx
        rw [this]
      rw [hd] at q
      unfold forL at q
      have q := PostS.mono (r := _) q s2
      revert q
      cases g : asgP p x env with
      | none => exact fun z => z.elim
      | some e2 =>
        intro q
        refine ⟨D2, env, x, e2, S2, r2, g, fun σ' H'' D' S' s' _ => ⟨D', e2, S', ?_⟩⟩
        have q := PostS.mono (W := W) (c := c) (De := De) (r := _) q s'
        have sD := (s.trans s2).trans s'
        revert q
        simp only []
        cases b e2 with
        | nx e' => exact fun q σ' H' D' S' s' => ⟨D', e', S', sD.trans s', PostS.mono (r := forL p b _ e') q s'⟩
        | ct e' => exact fun q σ' H' D' S' s' => ⟨D', e', S', sD.trans s', PostS.mono (r := forL p b _ e') q s'⟩
        | bk e' => exact fun q => q
        | rt x e' => exact fun q => q
        | rtD x e' => exact fun q => q
        | exc x e' => exact fun q => q
        | stuck => exact fun q => q
    · rw [List.drop_length] at q
      exact q σ H D S (Same.refl _)
theorem ds_for (hp : PassesOwn (model X.prog X.w) X.A X.env X.xe) (hc : X.calm = true) (hi : PI X tg iter (IOf W c it)) (hg : PG X tg (GOf c p)) (hb : PSs X body (SOf W c b)) (hs : ∀ x, foldedSetIterable iter X.env x = pure x := by intro _; rfl) : PS X (.For tg iter body [] pos) (SOf W c (dFor it p b)) :=
  (ps_for hp hc hi hg hb hs).weak fun De σ H h => for_core h
theorem _root_.L2.PI.weak {t t' : TI} (h : PI X tg iter t) (w : ∀ σ H Q, t' σ H Q → t σ H Q) : PI X tg iter t' := ⟨fun pins s σ H R I q => h.run pins s σ H R I (w σ H R q)⟩
theorem _root_.L2.PI.or {t t' : TI} (h : PI X tg iter t) (h' : PI X tg iter t') : PI X tg iter (fun σ H R => t σ H R ∨ t' σ H R) := ⟨fun pins s σ H R I q => q.elim (h.run pins s σ H R I) (h'.run pins s σ H R I)⟩
end
/-- a list or a tuple that stays -/
def itOf (o : OV) (e : Nv) : Res (List PyData) := match pinOV e o with
  | some (.list xs, e') => .ok xs e'
  | some (.tuple xs, e') => .ok xs e'
  | _ => .stuck
def dIt (d : DE) : DI := fun env => (d env).bd itOf
theorem drw_list {c : Cf} {K : PySem.W.Frag} {D : Hp} {a : Addr} {vs : List V} {xs : List PyData} (h : D a = some (.lst vs)) (r : RpL D vs xs) : Drw c D (Itl K a) xs :=
  ⟨_, _, by rw [← r.length]; exact walk_list, fun D' env σ H s S => SqL.of (S.dh _ _ (s _ _ h)), fun i H v H1 D' env σ hi s S y => by
    obtain ⟨rfl, e⟩ := y
    obtain ⟨x, e1, e2⟩ := (r.mono s).get e
    exact ⟨x, e1, NewR.of e2⟩⟩
theorem drw_tup {c : Cf} {D : Hp} {a : Addr} {vs : List V} {xs : List PyData} (h : SqT KF.frag D a vs) (r : RpL D vs xs) : Drw c D (Itt KF.frag a) xs :=
  ⟨_, _, by rw [← r.length]; exact walk_tup, fun D' env σ H s S => (h.same s).same S.dh, fun i H v H1 D' env σ hi s S y => by
    obtain ⟨rfl, e⟩ := y
    obtain ⟨x, e1, e2⟩ := (r.mono s).get e
    exact ⟨x, e1, NewR.of e2⟩⟩
def rangeL (lo : Int) (n : Nat) : List PyData := (List.range n).map fun i => .int (lo + (i : Nat))
theorem rangeL_len (lo : Int) (n : Nat) : (rangeL lo n).length = n := by simp [rangeL]
theorem drw_range {c : Cf} {D : Hp} {lo : Int} {n : Nat} : Drw c D (Itr lo n) (rangeL lo n) :=
  ⟨_, _, by rw [rangeL_len]; exact walk_range, fun _ _ _ _ _ _ => True.intro, fun i H v H1 D' env σ hi s S y => by
    obtain ⟨rfl, rfl⟩ := y
    rw [rangeL_len] at hi
    exact ⟨.int (lo + (i : Nat)), by simp [rangeL, hi], NewR.of (.int _)⟩⟩
def inLong (i : Int) : Bool := decide (-1000000000 ≤ i ∧ i ≤ 1000000000)
theorem inLong_ok {i : Int} (h : inLong i = true) : -(2 ^ 62) ≤ i ∧ i < 2 ^ 62 := by
  have h := of_decide_eq_true h
  omega
def range1 (os : List OV) (e : Nv) : Res (List PyData) := match getAll e os with
  | some [.int j] => if inLong j = true then .ok (rangeL 0 j.toNat) e else .stuck
  | _ => .stuck
def range2 (os : List OV) (e : Nv) : Res (List PyData) := match getAll e os with
  | some [.int i, .int j] => if inLong i = true ∧ inLong j = true then .ok (rangeL i (j - i).toNat) e else .stuck
  | _ => .stuck
def dRange1 (r : Nv → Res (List OV)) : DI := fun env => (r env).bd range1
def dRange2 (r : Nv → Res (List OV)) : DI := fun env => (r env).bd range2
section
variable {X : Cx} {W : WX} {c : Cf} {tg e a b : Expr} {d : DE} {r : Nv → Res (List OV)} {p pos : Pos}
theorem di_seq (hK : KF.frag = X.K) (he : PE X e (EOf W c d)) : PI X tg e (IOf W c (dIt d)) :=
  ((pi_list he).or (pi_tup he)).weak fun σ H R ⟨D, env, S, p⟩ => by
    have p : PostI W c D σ R ((d env).bd itOf) := p
    cases g : d env with
    | stuck => rw [g] at p; exact p.elim
    | exc y e => rw [g] at p; exact .inl ⟨D, env, S, by rw [g]; exact p⟩
    | ok o e1 =>
      rw [g] at p
      have p : PostI W c D σ R (itOf o e1) := p
      unfold itOf at p
      split at p
      · rename_i xs e2 hp
        refine .inl ⟨D, env, S, ?_⟩
        rw [g]
        intro v H1 D1 S1 s1 r1
        obtain ⟨D2, S2, s2, r2⟩ := S1.pin r1 hp
        cases r2 with
        | @lst a vs _ k1 k2 => exact ⟨a, rfl, ⟨vs, .of (S2.dh _ _ k1)⟩, p _ H1 D2 S2 (s1.trans s2) (drw_list k1 k2)⟩
      · rename_i xs e2 hp
        refine .inr ⟨D, env, S, ?_⟩
        rw [g]
        intro v H1 D1 S1 s1 r1
        obtain ⟨D2, S2, s2, r2⟩ := S1.pin r1 hp
        obtain ⟨a, vs, rfl, k1, k2⟩ := r2.tupS
        rw [← hK]
        exact ⟨a, rfl, ⟨vs, k1.same S2.dh⟩, p _ H1 D2 S2 (s1.trans s2) (drw_tup k1 k2)⟩
      · exact p.elim
theorem di_range1 (hg : Gl X "range") (hm : X.mg "range" = none) (ha : PA X [a] (AOf W c r)) (hs : starEach [a] X.env = [(false, eval a X.env)] := by rfl) : PI X tg (.Call (.Name "range" p) [a] [] pos) (IOf W c (dRange1 r)) :=
  (pi_range1 hg hm ha hs).weak fun σ H R ⟨D, env, S, p⟩ => by
    refine ⟨D, env, S, ?_⟩
    have p : PostI W c D σ R ((r env).bd range1) := p
    revert p
    cases r env with
    | stuck => exact fun z => z
    | exc y e => exact fun z => z
    | ok os e1 =>
      intro p vs H1 D1 S1 s1 r1
      have p : PostI W c D σ R (range1 os e1) := p
      unfold range1 at p
      split at p
      · rename_i j g
        obtain ⟨v, rfl, h⟩ := (S1.getAll r1 g).one
        split at p
        · rename_i hj
          rw [h.int]
          exact ⟨j, rfl, (inLong_ok hj).1, (inLong_ok hj).2, p _ H1 D1 S1 s1 drw_range⟩
        · exact p.elim
      · exact p.elim
theorem di_range2 (hg : Gl X "range") (hm : X.mg "range" = none) (ha : PA X [a, b] (AOf W c r)) (hs : starEach [a, b] X.env = [(false, eval a X.env), (false, eval b X.env)] := by rfl) (hs2 : starEach [b] X.env = [(false, eval b X.env)] := by rfl) : PI X tg (.Call (.Name "range" p) [a, b] [] pos) (IOf W c (dRange2 r)) :=
  (pi_range2 hg hm ha hs hs2).weak fun σ H R ⟨D, env, S, p⟩ => by
    refine ⟨D, env, S, ?_⟩
    have p : PostI W c D σ R ((r env).bd range2) := p
    revert p
    cases r env with
    | stuck => exact fun z => z
    | exc y e => exact fun z => z
    | ok os e1 =>
      intro p vs H1 D1 S1 s1 r1
      have p : PostI W c D σ R (range2 os e1) := p
      unfold range2 at p
      split at p
      · rename_i i j g
        obtain ⟨v, w, rfl, h, h'⟩ := (S1.getAll r1 g).two
        split at p
        · rename_i hj
          rw [h.int, h'.int]
          exact ⟨i, j, rfl, ⟨(inLong_ok hj.1).1, (inLong_ok hj.1).2, (inLong_ok hj.2).1, (inLong_ok hj.2).2⟩, p _ H1 D1 S1 s1 drw_range⟩
        · exact p.elim
      · exact p.elim
end
end L2.Dl

namespace L2.Dl
open PySem
open PySem.Spec
open PyProof.Rows
variable [KF]

def wipeN (e : Nv) : List Nat → Nv
  | [] => e
  | v :: vs => (wipeN e vs).set v .un
def backN (e0 : Nv) (e : Nv) : List Nat → Nv
  | [] => e
  | v :: vs => (backN e0 e vs).set v (e0.getD v .un)
def plainAt (e : Nv) (i : Nat) : Bool := match e[i]? with
  | some (.v _) => true
  | some .un => true
  | some (.gl _) => true
  | _ => false
theorem wipeN_len (e : Nv) : ∀ vs : List Nat, (wipeN e vs).length = e.length
  | [] => rfl
  | v :: vs => by unfold wipeN; rw [List.length_set, wipeN_len e vs]
theorem backN_len (e0 e : Nv) : ∀ vs : List Nat, (backN e0 e vs).length = e.length
  | [] => rfl
  | v :: vs => by unfold backN; rw [List.length_set, backN_len e0 e vs]
theorem wipeN_get {e : Nv} {i : Nat} {s : Slot} : ∀ {vs : List Nat}, (wipeN e vs)[i]? = some s → (i ∈ vs ∧ s = .un) ∨ (i ∉ vs ∧ e[i]? = some s)
  | [], h => .inr ⟨by simp, h⟩
  | v :: vs, h => by
    unfold wipeN at h
    by_cases hi : v = i
    · subst hi
      by_cases hv : v < (wipeN e vs).length
      · rw [List.getElem?_set_self hv] at h; cases h; exact .inl ⟨List.mem_cons_self, rfl⟩
      · rw [List.getElem?_eq_none (by simpa using hv)] at h; cases h
    · rw [List.getElem?_set_ne hi] at h
      rcases wipeN_get h with ⟨h1, h2⟩ | ⟨h1, h2⟩
      · exact .inl ⟨List.mem_cons_of_mem _ h1, h2⟩
      · exact .inr ⟨by simp only [List.mem_cons, not_or]; exact ⟨fun z => hi z.symm, h1⟩, h2⟩
theorem backN_get {e0 e : Nv} {i : Nat} {s : Slot} : ∀ {vs : List Nat}, (backN e0 e vs)[i]? = some s → (i ∈ vs ∧ s = e0.getD i .un) ∨ (i ∉ vs ∧ e[i]? = some s)
  | [], h => .inr ⟨by simp, h⟩
  | v :: vs, h => by
    unfold backN at h
    by_cases hi : v = i
    · subst hi
      by_cases hv : v < (backN e0 e vs).length
      · rw [List.getElem?_set_self hv] at h; cases h; exact .inl ⟨List.mem_cons_self, rfl⟩
      · rw [List.getElem?_eq_none (by simpa using hv)] at h; cases h
    · rw [List.getElem?_set_ne hi] at h
      rcases backN_get h with ⟨h1, h2⟩ | ⟨h1, h2⟩
      · exact .inl ⟨List.mem_cons_of_mem _ h1, h2⟩
      · exact .inr ⟨by simp only [List.mem_cons, not_or]; exact ⟨fun z => hi z.symm, h1⟩, h2⟩
theorem wipe_in {σ : St} {i : Nat} : ∀ {vs : List Nat}, i ∈ vs → ((wipe σ vs)[i]?).join = none
  | v :: vs, h => by
    unfold wipe
    by_cases hi : v = i
    · subst hi
      by_cases hv : v < (wipe σ vs).length
      · rw [List.getElem?_set_self hv] <;> rfl
      · rw [List.getElem?_eq_none (by simpa using hv)] <;> rfl
    · rw [List.getElem?_set_ne hi]
      rcases List.mem_cons.mp h with z | h
      · exact absurd z.symm hi
      · exact wipe_in h
theorem wipe_ext {σ σ' : St} {vs : List Nat} (hl : σ'.length = σ.length) (h : ∀ j, j ∉ vs → σ'[j]? = σ[j]?) : wipe σ' vs = wipe σ vs := by
  apply List.ext_getElem?
  intro j
  by_cases hj : j ∈ vs
  · by_cases hb : j < σ.length
    · have a1 : j < (wipe σ' vs).length := by rw [wipe_length]; omega
      have a2 : j < (wipe σ vs).length := by rw [wipe_length]; omega
      have e1 := wipe_in (σ := σ') hj
      have e2 := wipe_in (σ := σ) hj
      rw [List.getElem?_eq_getElem a1] at e1 ⊢
      rw [List.getElem?_eq_getElem a2] at e2 ⊢
      have f1 : (wipe σ' vs)[j] = none := e1
      have f2 : (wipe σ vs)[j] = none := e2
      rw [f1, f2]
    · rw [List.getElem?_eq_none (by rw [wipe_length]; omega), List.getElem?_eq_none (by rw [wipe_length]; omega)]
  · rw [wipe_out hj, wipe_out hj, h j hj]
theorem wipe_idem {σ : St} {vs : List Nat} : wipe (wipe σ vs) vs = wipe σ vs := wipe_ext (wipe_length σ vs) fun j hj => wipe_out hj
section
variable {c : Cf} {D : Hp} {env : Nv} {σ : St} {H : Hp}
theorem Sim.wipe (S : Sim c D env σ H) (vs : List Nat) : Sim c D (wipeN env vs) (L2.wipe σ vs) H := by
  refine ⟨S.dh, S.bh, S.bd, by rw [wipeN_len, wipe_length]; exact S.len, fun i s e => ?_, fun i j s t a ei ej oi oj hi hj => ?_⟩
  · rcases wipeN_get e with ⟨_, rfl⟩ | ⟨h1, h2⟩
    · trivial
    · rw [wipe_out h1]; exact S.slot i s h2
  · rcases wipeN_get ei with ⟨_, rfl⟩ | ⟨h1, h2⟩
    · cases oi
    · rcases wipeN_get ej with ⟨_, rfl⟩ | ⟨h3, h4⟩
      · cases oj
      · rw [wipe_out h1] at hi
        rw [wipe_out h3] at hj
        exact S.apart i j s t a h2 h4 oi oj hi hj
theorem plainAt_of {e : Nv} {i : Nat} (h : plainAt e i = true) : ∃ s, e[i]? = some s ∧ e.getD i .un = s ∧ ((∃ d, s = .v d) ∨ s = .un ∨ ∃ n, s = .gl n) := by
  unfold plainAt at h
  rw [List.getD_eq_getElem?_getD]
  split at h
  · rename_i d q; exact ⟨_, q, by rw [q]; rfl, .inl ⟨d, rfl⟩⟩
  · rename_i q; exact ⟨_, q, by rw [q]; rfl, .inr (.inl rfl)⟩
  · rename_i n q; exact ⟨_, q, by rw [q]; rfl, .inr (.inr ⟨n, rfl⟩)⟩
  · cases h
/-- behind the comprehension its own slots hold what they held -/
theorem Sim.back {D0 : Hp} {e0 e : Nv} {H0 : Hp} {vs : List Nat} (S0 : Sim c D0 e0 σ H0) (S : Sim c D e (L2.wipe σ vs) H) (s : Same D0 D) (hp : ∀ i ∈ vs, plainAt e0 i = true) : Sim c D (backN e0 e vs) σ H := by
  have hl : e.length = σ.length := by rw [S.len, wipe_length]
  refine ⟨S.dh, S.bh, S.bd, by rw [backN_len]; exact hl, fun i t q => ?_, fun i j t u a ei ej oi oj hi hj => ?_⟩
  · rcases backN_get q with ⟨h1, rfl⟩ | ⟨h1, h2⟩
    · obtain ⟨t, k1, k2, k3⟩ := plainAt_of (hp i h1)
      rw [k2]
      have := S0.slot i t k1
      rcases k3 with ⟨d, rfl⟩ | rfl | ⟨n, rfl⟩
      · obtain ⟨v, e1, e2⟩ := this; exact ⟨v, e1, e2.mono s⟩
      · trivial
      · exact this
    · have := S.slot i t h2
      rw [wipe_out h1] at this
      exact this
  · have key : ∀ {i : Nat} {t : Slot}, (backN e0 e vs)[i]? = some t → t.owns = true → i ∉ vs ∧ e[i]? = some t := fun {i t} q o => by
      rcases backN_get q with ⟨h1, rfl⟩ | h
      · obtain ⟨t, k1, k2, k3⟩ := plainAt_of (hp i h1)
        rw [k2] at o
        rcases k3 with ⟨d, rfl⟩ | rfl | ⟨n, rfl⟩ <;> cases o
      · exact h
    obtain ⟨a1, a2⟩ := key ei oi
    obtain ⟨b1, b2⟩ := key ej oj
    exact S.apart i j t u a a2 b2 oi oj (by rw [wipe_out a1]; exact hi) (by rw [wipe_out b1]; exact hj)
/-- what is held is put down -/
theorem Sim.unhold {a : Addr} {o : HO} (S : Sim (c.withB (upd c.B a o)) D env σ H) (hB : c.B a = none) : Sim c D env σ (hole H a) := by
  have e1 : H a = some o := S.bh a _ upd_same
  have e2 : D a = none := S.bd a _ upd_same
  have S3 := S.ofB (same_upd' hB)
  refine ⟨fun b o e => ?_, fun b o e => ?_, S3.bd, S3.len, fun i s e => (S3.slot i s e).lift (Same.refl _) fun b ea ho => ⟨?_, fun z => z⟩, S3.apart⟩
  · rw [hole_ne (ne_of_none e e2)]; exact S3.dh b o e
  · rw [hole_ne (ne_of_none e hB)]; exact S3.bh b o e
  · apply hole_ne
    rintro rfl
    obtain ⟨a', u, k1, k2, k3, k4⟩ := (S.slot i s e).tracked ho
    rw [ea] at k1; cases k1
    have k5 := (upd_same (H := c.B) (a := b) (o := o)).symm.trans k4
    cases k5
theorem hole_back {a : Addr} {o : HO} (h : H a = some o) : upd (hole H a) a o = H := by
  funext b
  by_cases hb : b = a
  · subst hb; rw [upd_same, h]
  · rw [upd_ne hb, hole_ne hb]
/-- what is held is changed -/
theorem Sim.rehold {a : Addr} {o o' : HO} (S : Sim (c.withB (upd c.B a o)) D env σ H) (hB : c.B a = none) : Sim (c.withB (upd c.B a o')) D env σ (upd H a o') := by
  have e2 : D a = none := S.bd a _ upd_same
  have S1 := S.unhold hB
  have S2 := S1.grow (p := a) hole_same o'
  rw [hole_upd] at S2
  exact S2.toB upd_same e2 (S1.apartNew hole_same)
end
def Res.bx {α β : Type} (r : Res α) (k : α → Nv → Res β) : Res β := match r with
  | .ok a e => k a e
  | .exc _ _ => .stuck
  | .stuck => .stuck
def dYes : DT := fun env => .ok true env
def lcL (p : Pat) (t : DT) (d : DE) (vs : List Nat) : List PyData → List PyData → Nv → Res (List PyData)
  | [], acc, e => .ok acc e
  | x :: r, acc, e => match asgP p x e with
    | none => .stuck
    | some e1 => (t e1).bx fun b e2 => if b = true then (d e2).bx fun o e3 => (match pinOV e3 o with
        | some (y, e4) => if acc.length < lenB then lcL p t d vs r (acc ++ [y]) (wipeN e4 vs) else .stuck
        | none => .stuck)
      else lcL p t d vs r acc (wipeN e2 vs)
def dLc (it : DI) (p : Pat) (t : DT) (d : DE) (vs : List Nat) : DL := fun env => (it env).bd fun xs e =>
  if vs.all (plainAt e) = true then (lcL p t d vs xs [] (wipeN e vs)).bx fun ys e' => .ok ys (backN e e' vs) else .stuck
/-- no exception may leave -/
abbrev WF : WX := fun _ _ _ _ => False
def GB (c : Cf) (p : Pat) : TG := fun v σ H R => ∃ B, GOf (c.withB B) p v σ H R
def TB (c : Cf) (t : DT) : TT := fun σ H R => ∃ B, TOf WF (c.withB B) t σ H R
section
variable {X : Cx} {W : WX} {c : Cf} {pos : Pos} {tg iter elt : Expr} {ifs : List Expr} {scope : Scope} {own : List (Str × Nat)} {it : DI} {p : Pat} {t : DT} {d : DE}
theorem dts_nil : PTs X [] (TOf WF c dYes) := ⟨fun pins s σ H Q I ⟨D, env, S, q⟩ => pts_nil.run pins s σ H Q I (q H D S (Same.refl _))⟩
theorem dts_one {e : Expr} (h : PT X e (TOf WF c t)) : PTs X [e] (TOf WF c t) := pts_one h
theorem lc_core' {vs : List Nat} (hv : ∀ i ∈ p.slots, i ∈ vs) {σ : St} {H : Hp} {Q : VK} (h : LOf W c (dLc it p t d vs) σ H Q) : tLc (IOf W c it) (GB c p) (TB c t) (EB WF c d) vs σ H Q := by
  obtain ⟨D, env, S, q⟩ := h
  refine ⟨D, env, S, ?_⟩
  have q : PostL W c D σ Q ((it env).bd _) := q
  revert q
  cases it env with
  | stuck => exact fun z => z
  | exc y e => exact fun z => z
  | ok xs e1 =>
    intro q J H1 D1 S1 s1 dr A hA
    simp only [Res.bd] at q
    split at q
    · rename_i hpl
      have hpl : ∀ i ∈ vs, plainAt e1 i = true := List.all_eq_true.mp hpl
      obtain ⟨G, Y, wk, hG, hY⟩ := dr.ex
      have hBA : c.B A = none := S1.bh.free hA
      -- what is left to do gives the end
      refine lc_it wk (fun i H => ∃ D2 env2 acc accV, Sim (c.withB (upd c.B A (.lst accV))) D2 env2 (wipe σ vs) H ∧ RpL D2 accV acc ∧ Same D1 D2 ∧
          PostL W c D σ Q ((lcL p t d vs (xs.drop i) acc env2).bx fun ys e' => .ok ys (backN e1 e' vs)))
        ⟨D1, wipeN e1 vs, [], [], ?_, .nil, Same.refl _, by rw [List.drop_zero]; exact q⟩ (fun i H _ ⟨D2, env2, acc, accV, S2, r2, s2, q2⟩ => hG D2 env2 _ H s2 (S2.ofB (same_upd' hBA)))
        (fun i v H2 H3 hi ⟨D2, env2, acc, accV, S2, r2, s2, q2⟩ y => ?_) fun H2 ⟨D2, env2, acc, accV, S2, r2, s2, q2⟩ => ?_
      · exact ((S1.wipe vs).grow hA _).toB upd_same (S1.dh.free hA) ((S1.wipe vs).apartNew hA)
      · obtain ⟨x, hx, n⟩ := hY i H2 v H3 D2 env2 _ hi s2 (S2.ofB (same_upd' hBA)) y
        obtain ⟨D3, S3, s3, r3⟩ := S2.newR n
        have hd : xs.drop i = x :: xs.drop (i + 1) := by
          rw [List.drop_eq_getElem_cons hi]
          have : xs[i] = x := by
            rw [List.getElem?_eq_getElem hi] at hx; exact Option.some.inj hx
          rw [this]
        rw [hd] at q2
        unfold lcL at q2
        revert q2
        cases g : asgP p x env2 with
        | none => exact fun z => z.elim
        | some e2 =>
          intro q2
          refine ⟨_, D3, env2, x, e2, S3, r3, g, fun σ4 H4 D4 S4 s4 a4 => ?_⟩
          have ew : wipe σ4 vs = wipe σ vs := (wipe_ext a4.1 fun j hj => a4.2 j fun z => hj (hv j z)).trans wipe_idem
          refine ⟨ew, _, D4, e2, S4, ?_⟩
          revert q2
          simp only []
          cases t e2 with
          | stuck => exact fun z => z.elim
          | exc y e => exact fun z => z.elim
          | ok b e3 =>
            intro q2 H5 D5 S5 s5
            have sD := ((s2.trans s3).trans s4).trans s5
            cases b with
            | false =>
              refine iteF ⟨D5, wipeN e3 vs, acc, accV, ?_, r2.mono ((s3.trans s4).trans s5), sD, q2⟩
              rw [← ew]
              exact S5.wipe vs
            | true =>
              refine iteT ⟨_, D5, e3, S5, ?_⟩
              revert q2
              simp only [Res.bx, if_true]
              cases d e3 with
              | stuck => exact fun z => z.elim
              | exc y e => exact fun z => z.elim
              | ok o e4 =>
                intro q2 w H6 D6 S6 s6 r6
                simp only [] at q2
                cases hp : pinOV e4 o with
                | none => rw [hp] at q2; exact q2.elim
                | some ye =>
                  obtain ⟨y, e5⟩ := ye
                  rw [hp] at q2
                  simp only [] at q2
                  obtain ⟨D7, S7, s7, r7⟩ := S6.pin r6 hp
                  by_cases hl : acc.length < lenB
                  · rw [if_pos hl] at q2
                    refine ⟨accV, S7.bh A _ upd_same, by rw [r2.length]; exact Nat.lt_of_lt_of_le hl (lenB_le (Nat.le_refl _)), D7, wipeN e5 vs, acc ++ [y], accV ++ [w], ?_, ?_, (sD.trans s6).trans s7, q2⟩
                    · rw [← ew]
                      exact (S7.wipe vs).rehold hBA
                    · exact (r2.mono ((((s3.trans s4).trans s5).trans s6).trans s7)).append (.cons r7 .nil)
                  · rw [if_neg hl] at q2; exact q2.elim
      · rw [List.drop_length] at q2
        have q2 : PostL W c D σ Q (.ok acc (backN e1 env2 vs)) := q2
        have eA : H2 A = some (.lst accV) := S2.bh A _ upd_same
        rw [← hole_back eA]
        exact q2 A accV (hole H2 A) D2 (Sim.back S1 (S2.unhold hBA) s2 hpl) (s1.trans s2) hole_same r2
    · exact q.elim
theorem dl_lc (hc : X.calm = true) (hN : X.N.Nodup) (hi : PI X tg iter (IOf W c it)) (ok : BlkOk X.N X.env.scope scope own) (hv : ∀ i ∈ p.slots, i ∈ own.map (·.2))
    (hg : ∀ (B : Hp) (s : Shared) (H : Hp) (C : Addr) (cl : List (Str × Addr)) (fp : List Addr), PG (X.blk s H scope (compEnvC scope cl C X.env) fp) tg (GOf (c.withB B) p))
    (ht : ∀ (B : Hp) (s : Shared) (H : Hp) (C : Addr) (cl : List (Str × Addr)) (fp : List Addr), PTs (X.blk s H scope (compEnvC scope cl C X.env) fp) ifs (TOf WF (c.withB B) t))
    (he : ∀ (B : Hp) (s : Shared) (H : Hp) (C : Addr) (cl : List (Str × Addr)) (fp : List Addr), PE (X.blk s H scope (compEnvC scope cl C X.env) fp) elt (EOf WF (c.withB B) d)) (hs : ∀ x, foldedSetIterable iter X.env x = pure x := by intro _; rfl) :
    PE X (.ListComp elt [⟨tg, iter, ifs, 0⟩] scope pos) (LOf W c (dLc it p t d (own.map (·.2)))) :=
  (pe_lc hc hN hi ok (g := GB c p) (tt := TB c t) (te := EB WF c d) (fun s H C cl fp => ⟨fun pins s' σ H' v u Q I r ⟨B, z⟩ => (hg B s H C cl fp).run pins s' σ H' v u Q I r z⟩)
    (fun s H C cl fp => ⟨fun pins s' σ H' Q I ⟨B, z⟩ => (ht B s H C cl fp).run pins s' σ H' Q I z⟩) (fun s H C cl fp => ⟨fun pins s' σ H' Q I ⟨B, z⟩ => (he B s H C cl fp).run pins s' σ H' Q I z⟩) hs).weak
    fun σ H Q h => lc_core' hv h
/-- name = [..] on one line -/
theorem ds_setLc {i : Nat} {y : Str} {py spos : Pos} (hc : X.calm = true) (hN : X.N.Nodup) (hy : X.N[i]? = some y) (hyl : X.env.scope.names.lookup y = some .local)
    (hsw : swapsWith (.ListComp elt [⟨tg, iter, ifs, 0⟩] scope pos) (some (.Name y py)) spos.line X.env = pure true) (hi : PI X tg iter (IOf W c it)) (ok : BlkOk X.N X.env.scope scope own) (hv : ∀ i ∈ p.slots, i ∈ own.map (·.2))
    (hg : ∀ (B : Hp) (s : Shared) (H : Hp) (C : Addr) (cl : List (Str × Addr)) (fp : List Addr), PG (X.blk s H scope (compEnvC scope cl C X.env) fp) tg (GOf (c.withB B) p))
    (ht : ∀ (B : Hp) (s : Shared) (H : Hp) (C : Addr) (cl : List (Str × Addr)) (fp : List Addr), PTs (X.blk s H scope (compEnvC scope cl C X.env) fp) ifs (TOf WF (c.withB B) t))
    (he : ∀ (B : Hp) (s : Shared) (H : Hp) (C : Addr) (cl : List (Str × Addr)) (fp : List Addr), PE (X.blk s H scope (compEnvC scope cl C X.env) fp) elt (EOf WF (c.withB B) d)) (own' : Bool) (hs : ∀ x, foldedSetIterable iter X.env x = pure x := by intro _; rfl) :
    PS X (.Assign [.Name y py] (.ListComp elt [⟨tg, iter, ifs, 0⟩] scope pos) spos) (SOf W c (dSet i (if own' then rL (dLc it p t d (own.map (·.2))) else rE (dFz (dLc it p t d (own.map (·.2))))))) :=
  (L2.ps_setLc hc hN hy hyl hsw hi ok (g := GB c p) (tt := TB c t) (te := EB WF c d) (fun s H C cl fp => ⟨fun pins s' σ H' v u Q I r ⟨B, z⟩ => (hg B s H C cl fp).run pins s' σ H' v u Q I r z⟩)
    (fun s H C cl fp => ⟨fun pins s' σ H' Q I ⟨B, z⟩ => (ht B s H C cl fp).run pins s' σ H' Q I z⟩) (fun s H C cl fp => ⟨fun pins s' σ H' Q I ⟨B, z⟩ => (he B s H C cl fp).run pins s' σ H' Q I z⟩) hs).weak
    fun De σ H h => by
      refine lc_core' (W := W) (c := c) hv ?_
      obtain ⟨D, env, S, q⟩ := h
      refine ⟨D, env, S, ?_⟩
      cases own' with
      | true =>
        have q : PostS W c D De ((rL (dLc it p t d (own.map (·.2))) env).bs fun s e => setS e i s) := q
        unfold rL at q
        revert q
        cases dLc it p t d (own.map (·.2)) env with
        | stuck => exact fun z => z
        | exc y e => exact fun z => z σ
        | ok xs e1 =>
          intro q pa ws H1 D1 S1 s1 hp r1
          have q : PostS W c D De (setS e1 i (.own false xs)) := q
          unfold setS at q
          split at q
          · rename_i hf
            exact q _ _ D1 ((S1.grow hp _).setS (freeAt_lt hf) (S1.newOwn hp r1)) s1
          · exact q.elim
      | false =>
        have q : PostS W c D De ((rE (dFz (dLc it p t d (own.map (·.2)))) env).bs fun s e => setS e i s) := q
        unfold rE dFz at q
        revert q
        cases dLc it p t d (own.map (·.2)) env with
        | stuck => exact fun z => z
        | exc y e => exact fun z => z σ
        | ok xs e1 =>
          intro q pa ws H1 D1 S1 s1 hp r1
          have q : PostS W c D De (setS e1 i (.v (.list xs))) := q
          unfold setS at q
          split at q
          · rename_i hf
            have hD : D1 pa = none := S1.dh.free hp
            exact q _ _ _ ((S1.laid hp (.lst ws)).setS (freeAt_lt hf) (.ofV (.lst upd_same (r1.mono (same_upd' hD))))) (s1.trans (same_upd' hD))
          · exact q.elim
end
end L2.Dl

namespace L2.Dl
open PySem
open PySem.Spec
open PyProof.Rows
variable [KF]

inductive Ret where
  | d (x : PyData)
  | k (d : DV)
inductive FRes where
  | ok (r : Ret) (ps : Nv)
  | exc (x : Ex) (ps : Nv)
  | stuck
abbrev Fn := Nv → FRes
def outS (e : Nv) (i : Nat) (s : Slot) : Option Slot := if s.owns = true then (match e[i]? with
  | some t => if t.owns = true ∧ t.par = true then some t else none
  | none => none) else some s
/-- the parameters behind the call: what was handed in owned, as it is then -/
def outP (e : Nv) : Nv → Nat → Option Nv
  | [], _ => some []
  | s :: r, i => match outS e i s with
    | some t => match outP e r (i + 1) with
      | some l => some (t :: l)
      | none => none
    | none => none
def outR (o : Option Nv) (k : Nv → FRes) : FRes := match o with
  | some l => k l
  | none => .stuck
def mkFn (nn : Nat) (body : DS) : Fn := fun ps => match body (ps ++ List.replicate (nn - ps.length) .un) with
  | .rt x e => outR (outP e ps 0) (.ok (.d x))
  | .nx e => outR (outP e ps 0) (.ok (.d .none))
  | .rtD d e => outR (outP e ps 0) (.ok (.k d))
  | .exc x e => outR (outP e ps 0) (.exc x)
  | _ => .stuck
def PostF (c : Cf) (D : Hp) (σ : St) (Q : VK) (E : XK) : FRes → Prop
  | .ok (.d x) ps => ∀ v H' D', Sim c D' ps σ H' → Same D D' → Rp D' v x → Q v H'
  | .ok (.k d) ps => ∀ p o H' D', Sim c D' ps σ H' → Same D D' → H' p = none → DctOk D' (upd H' p o) p d → Q (.ref p) (upd H' p o)
  | .exc x ps => ∀ cls d H' D', Sim c D' ps σ H' → Same D D' → ExR c D' H' x cls d → E cls d H'
  | .stuck => False
def allPar (ps : Nv) : Bool := ps.all fun s => !s.owns || s.par
/-- a def's promise, by what it does deeply -/
def fnSp (mg : Str → Option Value) (n : Nat) (fn : Fn) : Sp := fun vs H Q E => vs.length = n ∧ ∃ (c : Cf) (D : Hp) (ps : Nv), c.mg = mg ∧ Sim c D ps (vs.map some) H ∧ allPar ps = true ∧ PostF c D (vs.map some) Q E (fn ps)
/-- room, and nothing is being shown -/
structure GRoom (k : Nat) (A : Around) : Prop where
  r : Room k A
  g : A.guards = some []
theorem GRoom.mono {j k : Nat} {A : Around} (r : GRoom k A) (h : j ≤ k) : GRoom j A := ⟨r.r.mono h, r.g⟩
theorem GRoom.deeper {k : Nat} {A : Around} (r : GRoom (k + 1) A) (env : Env) : GRoom k (A.deeper env) := ⟨r.r.deeper env, r.g⟩
theorem GRoom.u1 {k : Nat} {A : Around} (r : GRoom k A) : A.units + 1 < cLine := by have := r.r.un; omega
theorem GRoom.u65 {k : Nat} {A : Around} (r : GRoom k A) : A.units + 65 < cLine := by have := r.r.un; omega
theorem GRoom.u64 {k : Nat} {A : Around} (r : GRoom k A) : A.units + 64 < cLine := by have := r.r.un; omega
theorem GRoom.u110 {k : Nat} {A : Around} (r : GRoom k A) : A.units + 110 < cLine := by have := r.r.un; omega
structure FnD (P : Program) (w : World) (K : PySem.W.Frag) (mg : Str → Option Value) (base : Heap) (k : Nat) (f : Addr) (fd : FuncData) (ps : List Str) (sp : Sp) : Prop where
  len : ∀ vs H Q E, sp vs H Q E → vs.length = ps.length
  run : ∀ (A : Around) (outer : List Env) (s : Shared) (H : Hp) (args : Args) (us : List Value) (vs : List V) (Q : VK) (E : XK), GRoom k A → Env0 P w K mg base A outer s H → BindsTo s fd args (ps.zip us) → Vals vs us → sp vs H Q E →
    codeAny (model P w) A (.call (.ref f) args) (CR (CX P w) outer P w H s Q E) s
theorem FnD.mono {P : Program} {w : World} {K : PySem.W.Frag} {mg : Str → Option Value} {base : Heap} {j k : Nat} {f : Addr} {fd : FuncData} {ps : List Str} {sp : Sp} (F : FnD P w K mg base j f fd ps sp) (h : j ≤ k) : FnD P w K mg base k f fd ps sp :=
  ⟨F.len, fun A outer s H args us vs Q E hr => F.run A outer s H args us vs Q E (hr.mono h)⟩

section
variable {c : Cf} {D D' : Hp} {ps : Nv} {vs : List V} {H H' : Hp}
theorem start_join {N : Nat} {i : Nat} : (((vs.map some ++ List.replicate N none) : St)[i]?).join = ((vs.map some)[i]?).join := by
  by_cases h : i < vs.length
  · rw [List.getElem?_append_left (by simpa using h)]
  · rw [List.getElem?_append_right (by simpa using h)]
    rw [List.getElem?_eq_none (l := vs.map some) (by simpa using h)]
    by_cases h2 : i - (vs.map some).length < N
    · rw [List.getElem?_replicate, if_pos h2] <;> rfl
    · rw [List.getElem?_replicate, if_neg h2]
/-- from the parameters to the frame -/
theorem Sim.start (S : Sim c D ps (vs.map some) H) (N : Nat) : Sim c D (ps ++ List.replicate N .un) (vs.map some ++ List.replicate N none) H := by
  have hl : ps.length = vs.length := by have := S.len; simpa using this
  have key : ∀ {i : Nat} {s : Slot}, (ps ++ List.replicate N Slot.un)[i]? = some s → ps[i]? = some s ∨ s = .un := fun {i s} e => by
    by_cases h : i < ps.length
    · rw [List.getElem?_append_left h] at e; exact .inl e
    · rw [List.getElem?_append_right (by omega), List.getElem?_replicate] at e
      split at e
      · cases e; exact .inr rfl
      · cases e
  refine ⟨S.dh, S.bh, S.bd, by simp [hl], fun i s e => ?_, fun i j s t a ei ej oi oj hi hj => ?_⟩
  · rcases key e with e | rfl
    · rw [start_join]; exact S.slot i s e
    · trivial
  · rw [start_join] at hi hj
    rcases key ei with ei | rfl
    · rcases key ej with ej | rfl
      · exact S.apart i j s t a ei ej oi oj hi hj
      · cases oj
    · cases oi
theorem outP_get {e : Nv} : ∀ {ps l : Nv} {n : Nat}, outP e ps n = some l → l.length = ps.length ∧ ∀ i s, l[i]? = some s → ∃ s0, ps[i]? = some s0 ∧ outS e (n + i) s0 = some s
  | [], l, n, h => by
    cases h
    exact ⟨rfl, fun i s e => by simp at e⟩
  | s0 :: r, l, n, h => by
    unfold outP at h
    split at h
    · rename_i t h1
      split at h
      · rename_i l' h2
        cases h
        obtain ⟨k1, k2⟩ := outP_get h2
        refine ⟨by simp [k1], fun i s e => ?_⟩
        cases i with
        | zero => simp at e; subst e; exact ⟨s0, rfl, h1⟩
        | succ i =>
          obtain ⟨s1, m1, m2⟩ := k2 i s (by simpa using e)
          exact ⟨s1, by simpa using m1, by rw [← m2]; congr 1; omega⟩
      · cases h
    · cases h
/-- an owning slot's address -/
theorem SlotOk.addr {i : Nat} {x : Option V} {s : Slot} (h : SlotOk c D H i x s) (o : s.owns = true) (p : s.par = true) : ∃ a, x = some (.ref a) ∧ c.pa i = some a := by
  cases s with
  | own q xs => obtain ⟨a, vs, e, h1, h2, h3, h4, h5⟩ := h; exact ⟨a, e, h5 p⟩
  | dct q kvs => obtain ⟨a, e, h1, h3, h4, h5⟩ := h; exact ⟨a, e, h5 p⟩
  | un => cases o
  | v d => cases o
  | gl n => cases o
  | ro xs => cases o
theorem outS_own {e : Nv} {i : Nat} {s t : Slot} (h : outS e i s = some t) : (s.owns = false ∧ t = s) ∨ (s.owns = true ∧ t.owns = true ∧ t.par = true ∧ e[i]? = some t) := by
  unfold outS at h
  split at h
  · rename_i ho
    split at h
    · rename_i u hu
      split at h
      · rename_i hp; cases h; exact .inr ⟨ho, hp.1, hp.2, hu⟩
      · cases h
    · cases h
  · rename_i ho; cases h; exact .inl ⟨by simpa using ho, rfl⟩
/-- from the frame back to the parameters -/
theorem Sim.out {σ' : St} {e : Nv} {l : Nv} (S : Sim c D ps (vs.map some) H) (ap : allPar ps = true) (S' : Sim c D' e σ' H') (s : Same D D') (h : outP e ps 0 = some l) : Sim c D' l (vs.map some) H' := by
  obtain ⟨hl, hg⟩ := outP_get h
  have hpar : ∀ {i : Nat} {s0 : Slot}, ps[i]? = some s0 → s0.owns = true → s0.par = true := fun {i s0} e o => by
    have := List.all_eq_true.mp ap s0 (List.mem_of_getElem? e)
    rw [o] at this
    simpa using this
  -- an owned one stands where it stood
  have same : ∀ {i : Nat} {s0 t : Slot}, ps[i]? = some s0 → s0.owns = true → t.owns = true → t.par = true → e[i]? = some t → (σ'[i]?).join = ((vs.map some)[i]?).join := fun {i s0 t} e0 o ot pt et => by
    obtain ⟨a, k1, k2⟩ := (S.slot i s0 e0).addr o (hpar e0 o)
    obtain ⟨b, m1, m2⟩ := (S'.slot i t et).addr ot pt
    rw [k2] at m2; cases m2
    rw [k1, m1]
  refine ⟨S'.dh, S'.bh, S'.bd, by rw [hl]; exact S.len, fun i t q => ?_, fun i j t u a ei ej oi oj hi hj => ?_⟩
  · obtain ⟨s0, e0, e1⟩ := hg i t q
    rw [Nat.zero_add] at e1
    rcases outS_own e1 with ⟨o, rfl⟩ | ⟨o, ot, pt, et⟩
    · exact (S.slot i t e0).lift s fun a _ z => absurd (o.symm.trans z) (by decide)
    · rw [← same e0 o ot pt et]; exact S'.slot i t et
  · obtain ⟨s0, e0, e1⟩ := hg i t ei
    obtain ⟨s1, f0, f1⟩ := hg j u ej
    rw [Nat.zero_add] at e1 f1
    rcases outS_own e1 with ⟨o, rfl⟩ | ⟨o, ot, pt, et⟩
    · exact absurd (o.symm.trans oi) (by decide)
    · rcases outS_own f1 with ⟨o', rfl⟩ | ⟨o', ot', pt', et'⟩
      · exact absurd (o'.symm.trans oj) (by decide)
      · exact S'.apart i j t u a et et' oi oj (by rw [same e0 o ot pt et]; exact hi) (by rw [same f0 o' ot' pt' et']; exact hj)
end
/-- THE RULE for a def: its body deeply told -/
theorem fnd_of {P : Program} {w : World} {mg : Str → Option Value} {base : Heap} {k : Nat} {f : Addr} {name qual : Str} {params : Arguments} {body : List Stmt} {scope : Scope} {dV kV doc pm cdv ct oc : Value} {an od : Option Addr}
    {osl : Array (Option Value)} {N ps : List Str} {nn : Nat} {d : DS} (lk : KF.frag.lookup f = some ⟨oc, od, .func (PySem.W.fnOf name qual params body scope dV kV doc pm an cdv ct), osl⟩) (hcd : PySem.W.codeIn KF.frag cdv qual = true) (S : FnScope N ps scope) (hnn : nn = N.length)
    (hbody : ∀ (A : Around) (outer : List Env) (s : Shared) (H : Hp) (E : XK) (c : Cf), GRoom k (A.deeper (envOfC qual scope s.heap.objs.size f cdv)) → c.mg = mg →
      PSs (cxOf (CX P w) P w KF.frag mg base N qual scope f cdv A outer s H E) body (SOf (fun cls d _ H => E cls d H) c d)) :
    FnD P w KF.frag mg base (k + 1) f (PySem.W.fnOf name qual params body scope dV kV doc pm an cdv ct) ps (fnSp mg ps.length (mkFn nn d)) := by
  refine ⟨fun vs H Q E h => h.1, fun A outer s H args us vs Q E hr e0 hb r hsp => ?_⟩
  obtain ⟨hl, c, D, pv, hmg, S0, ap, post⟩ := hsp
  have KX : KF.frag.In s.heap := e0.mod.kin.keeps fun b o e => (e0.bs b o e).1
  have lim : s.heap.NoLimit := e0.mod.nolimit.keeps fun b o e => (e0.bs b o e).1
  have hkind : ∀ y ∈ ps.zip us, scope.names.lookup y.1 = some .local ∨ (scope.names.lookup y.1 = some .cell ∧ ((cellsFrom (s.heap.objs.size + 1) scope.names []).lookup y.1).isSome = true) := fun ⟨n, v⟩ hy => by
    rcases S.par n (List.of_mem_zip hy).1 with q | q
    · exact .inl q
    · exact .inr ⟨q, PySem.W.cellsFrom_some _ _ _ (.inl q)⟩
  refine codeAny_call_function hr.r.depth (KX _ _ lk) rfl S.co S.gen rfl (PySem.W.codeRec_of KX hcd) (hb _ _ _ _ ?_)
  refine wpAny_newFunctionEnv_cells S.kind hkind fun env he s1 x => ?_
  subst he
  refine ⟨lim.keeps x.toInCall.keep, codeAny_func ?_⟩
  have ht := hbody A outer s H E c (hr.deeper _) hmg
  have I := inv_start (CX := CX P w) (E := E) S hr.r.hd e0 hl r x
  have hpl : pv.length = vs.length := by have := S0.len; simpa using this
  have S1 : Sim c D (pv ++ List.replicate (nn - pv.length) .un) (start N vs) H := by
    have := S0.start (N.length - vs.length)
    unfold L2.start
    rw [hpl, hnn]
    exact this
  have fin : ∀ {σ' : St} {H' : Hp} {v : V} {u : Value} {s' : Shared}, Inv (cxOf (CX P w) P w KF.frag mg base N qual scope f cdv A outer s H E) [] σ' H' s' → RelV v u → Q v H' → CE outer P w H s Q u s' :=
    fun {σ' H' v u s'} J rv q => ⟨v, H', J.os, J.bare, J.base, J.hok, rv, q⟩
  have post : PostS (fun cls d _ H => E cls d H) c D { nx := fun _ H' => Q .non H', rt := Q } (d (pv ++ List.replicate (nn - pv.length) .un)) := by
    have post : PostF c D (vs.map some) Q E (mkFn nn d pv) := post
    unfold mkFn at post
    revert post
    have outs : ∀ {e : Nv} {σ' : St} {H' D' : Hp} {l : Nv}, Sim c D' e σ' H' → Same D D' → outP e pv 0 = some l → Sim c D' l (vs.map some) H' := fun S' s' h => S0.out ap S' s' h
    cases d (pv ++ List.replicate (nn - pv.length) .un) with
    | nx e =>
      simp only []
      cases h : outP e pv 0 with
      | none => exact fun z => z.elim
      | some l => exact fun post σ' H' D' S' s' => post .non H' D' (outs S' s' h) s' .non
    | rt y e =>
      simp only []
      cases h : outP e pv 0 with
      | none => exact fun z => z.elim
      | some l => exact fun post v σ' H' D' S' s' r' => post v H' D' (outs S' s' h) s' r'
    | rtD y e =>
      simp only []
      cases h : outP e pv 0 with
      | none => exact fun z => z.elim
      | some l => exact fun post p o σ' H' D' S' s' hp r' => post p o H' D' (outs S' s' h) s' hp r'
    | exc y e =>
      simp only []
      cases h : outP e pv 0 with
      | none => exact fun z => z.elim
      | some l => exact fun post σ' cls dd H' D' S' s' r' => post cls dd H' D' (outs S' s' h) s' r'
    | bk e => exact fun z => z.elim
    | ct e => exact fun z => z.elim
    | stuck => exact fun z => z.elim
  refine wpAny_mono (ht.run [] s1 (start N vs) H _ I ⟨D, _, S1, post⟩) (fun fl s' hs => ?_) fun e s' hs => hs
  cases fl with
  | ret u =>
    obtain ⟨v, σ', H', J, rv, q⟩ := hs
    exact fin J rv q
  | next =>
    obtain ⟨σ', H', J, q⟩ := hs
    exact fin (v := V.non) (u := Value.none) J rfl q
  | brk =>
    obtain ⟨_, _, _, q⟩ := hs
    exact False.elim q
  | cont =>
    obtain ⟨_, _, _, q⟩ := hs
    exact False.elim q
end L2.Dl

namespace L2.Dl
open PySem
open PySem.Spec
open PyProof.Rows
variable [KF]

def argS (e : Nv) : OV → Option Slot
  | .d x => some (.v x)
  | .gl n => some (.gl n)
  | .sl i => match e[i]? with
    | some (.own _ xs) => some (.own true xs)
    | some (.dct _ d) => some (.dct true d)
    | some (.v d) => some (.v d)
    | some (.ro xs) => some (.ro xs)
    | _ => none
def argL (e : Nv) : List OV → Option Nv
  | [] => some []
  | o :: r => match argS e o with
    | some s => match argL e r with
      | some l => some (s :: l)
      | none => none
    | none => none
def isSl (i : Nat) : OV → Bool
  | .sl j => i == j
  | _ => false
def ownsAt (e : Nv) (i : Nat) : Bool := match e[i]? with
  | some s => s.owns
  | none => false
/-- nothing owned is handed in twice -/
def apartO (e : Nv) : List OV → Bool
  | [] => true
  | .sl i :: r => (!ownsAt e i || !r.any (isSl i)) && apartO e r
  | _ :: r => apartO e r
def posO (i : Nat) (os : List OV) : Option Nat := os.findIdx? (isSl i)
def mergeS : Slot → Slot → Option Slot
  | .own p _, .own _ ys => some (.own p ys)
  | .dct p _, .dct _ d => some (.dct p d)
  | _, _ => none
/-- the caller's slots behind the call -/
def backE (os : List OV) (l : Nv) : Nv → Nat → Option Nv
  | [], _ => some []
  | s :: r, i => match backE os l r (i + 1) with
    | none => none
    | some r' => if s.owns = true then (match posO i os with
        | none => some (s :: r')
        | some j => match l[j]? with
          | some t => match mergeS s t with
            | some u => some (u :: r')
            | none => none
          | none => none) else some (s :: r')
def backO (os : List OV) (e l : Nv) (k : Nv → Res OV) : Res OV := match backE os l e 0 with
  | some e' => k e'
  | none => .stuck
def callOV (fn : Fn) (os : List OV) (e : Nv) : Res OV := if apartO e os = true then (match argL e os with
  | some ps => match fn ps with
    | .ok (.d x) l => backO os e l (.ok (.d x))
    | .exc x l => backO os e l (.exc x)
    | _ => .stuck
  | none => .stuck) else .stuck
def callDV (fn : Fn) (os : List OV) (e : Nv) : Res DV := if apartO e os = true then (match argL e os with
  | some ps => match fn ps with
    | .ok (.k d) l => (match backE os l e 0 with
      | some e' => .ok d e'
      | none => .stuck)
    | .exc x l => (match backE os l e 0 with
      | some e' => .exc x e'
      | none => .stuck)
    | _ => .stuck
  | none => .stuck) else .stuck
section
variable {c : Cf} {D D' : Hp} {e e' : Nv} {σ : St} {H H' : Hp} {vs : List V} {os : List OV} {ps l : Nv}
theorem argL_get : ∀ {os : List OV} {ps : Nv}, argL e os = some ps → ps.length = os.length ∧ ∀ (j : Nat) (s : Slot), ps[j]? = some s → ∃ o, os[j]? = some o ∧ argS e o = some s
  | [], ps, h => by cases h; exact ⟨rfl, fun j s q => by simp at q⟩
  | o :: r, ps, h => by
    unfold argL at h
    split at h
    · rename_i s h1
      split at h
      · rename_i l h2
        cases h
        obtain ⟨k1, k2⟩ := argL_get h2
        refine ⟨by simp [k1], fun j t q => ?_⟩
        cases j with
        | zero => simp at q; subst q; exact ⟨o, rfl, h1⟩
        | succ j => obtain ⟨o', m1, m2⟩ := k2 j t (by simpa using q); exact ⟨o', by simpa using m1, m2⟩
      · cases h
    · cases h
theorem OVRL.get : ∀ {vs : List V} {os : List OV}, OVRL c D σ vs os → ∀ {j : Nat} {o : OV}, os[j]? = some o → ∃ v, vs[j]? = some v ∧ OVR c D σ v o
  | _, _, .nil, j, o, h => by simp at h
  | _, _, .cons h _, 0, o, q => by simp at q; subst q; exact ⟨_, rfl, h⟩
  | _, _, .cons _ r, j + 1, o, q => by
    obtain ⟨v, h1, h2⟩ := OVRL.get r (j := j) (o := o) (by simpa using q)
    exact ⟨v, by simpa using h1, h2⟩
theorem OVRL.length : ∀ {vs : List V} {os : List OV}, OVRL c D σ vs os → vs.length = os.length
  | _, _, .nil => rfl
  | _, _, .cons _ r => congrArg (· + 1) (OVRL.length r)
theorem isSl_eq {i : Nat} {o : OV} (h : isSl i o = true) : o = .sl i := by
  cases o with
  | sl j => simp [isSl] at h; rw [h]
  | d x => cases h
  | gl n => cases h
theorem apartO_of : ∀ {os : List OV} {j1 j2 i : Nat}, apartO e os = true → j1 < j2 → os[j1]? = some (.sl i) → os[j2]? = some (.sl i) → ownsAt e i = false
  | [], j1, _, i, _, _, h, _ => by simp at h
  | o :: r, 0, 0, i, _, h, _, _ => absurd h (Nat.lt_irrefl _)
  | o :: r, 0, j2 + 1, i, h, _, h1, h2 => by
    simp at h1
    subst h1
    unfold apartO at h
    rw [Bool.and_eq_true, Bool.or_eq_true] at h
    rcases h.1 with q | q
    · simpa using q
    · have : r.any (isSl i) = true := List.any_eq_true.mpr ⟨.sl i, List.mem_of_getElem? (show r[j2]? = some (.sl i) by simpa using h2), by simp [isSl]⟩
      rw [this] at q
      cases q
  | o :: r, j1 + 1, j2 + 1, i, h, hl, h1, h2 => by
    have h' : apartO e r = true := by
      unfold apartO at h
      split at h
      · rename_i hh; cases hh
      · rename_i hh; cases hh; rw [Bool.and_eq_true] at h; exact h.2
      · rename_i hh; cases hh; exact h
    exact apartO_of h' (Nat.lt_of_succ_lt_succ hl) (by simpa using h1) (by simpa using h2)
  | o :: r, j1 + 1, 0, i, _, h, _, _ => absurd h (Nat.not_lt_zero _)
theorem posO_some {i j : Nat} (h : posO i os = some j) : os[j]? = some (.sl i) := by
  unfold posO at h
  obtain ⟨hl, h1, _⟩ := List.findIdx?_eq_some_iff_getElem.mp h
  rw [List.getElem?_eq_getElem hl, isSl_eq h1]
theorem posO_none {i : Nat} (h : posO i os = none) : OV.sl i ∉ os := fun hm => by
  unfold posO at h
  have := List.findIdx?_eq_none_iff.mp h _ hm
  simp [isSl] at this
theorem backE_get : ∀ {e e' : Nv} {n : Nat}, backE os l e n = some e' → e'.length = e.length ∧ ∀ i t, e'[i]? = some t → ∃ s, e[i]? = some s ∧
    ((s.owns = false ∧ t = s) ∨ (s.owns = true ∧ posO (n + i) os = none ∧ t = s) ∨ (s.owns = true ∧ ∃ j u, posO (n + i) os = some j ∧ l[j]? = some u ∧ mergeS s u = some t))
  | [], e', n, h => by cases h; exact ⟨rfl, fun i t q => by simp at q⟩
  | s :: r, e', n, h => by
    unfold backE at h
    split at h
    · cases h
    · rename_i r' h1
      obtain ⟨k1, k2⟩ := backE_get h1
      have tail : ∀ {t0 : Slot} (i : Nat) (t : Slot), (t0 :: r')[i + 1]? = some t → ∃ s1, (s :: r)[i + 1]? = some s1 ∧
          ((s1.owns = false ∧ t = s1) ∨ (s1.owns = true ∧ posO (n + (i + 1)) os = none ∧ t = s1) ∨ (s1.owns = true ∧ ∃ j u, posO (n + (i + 1)) os = some j ∧ l[j]? = some u ∧ mergeS s1 u = some t)) := fun {t0} i t q => by
        obtain ⟨s1, m1, m2⟩ := k2 i t (by simpa using q)
        rw [show n + 1 + i = n + (i + 1) by omega] at m2
        exact ⟨s1, by simpa using m1, m2⟩
      split at h
      · rename_i ho
        split at h
        · rename_i hp
          cases h
          refine ⟨by simp [k1], fun i t q => ?_⟩
          cases i with
          | zero => simp at q; subst q; exact ⟨s, rfl, .inr (.inl ⟨ho, hp, rfl⟩)⟩
          | succ i => exact tail i t q
        · rename_i j hp
          split at h
          · rename_i u hu
            split at h
            · rename_i w hw
              cases h
              refine ⟨by simp [k1], fun i t q => ?_⟩
              cases i with
              | zero => simp at q; subst q; exact ⟨s, rfl, .inr (.inr ⟨ho, j, u, hp, hu, hw⟩)⟩
              | succ i => exact tail i t q
            · cases h
          · cases h
      · rename_i ho
        cases h
        refine ⟨by simp [k1], fun i t q => ?_⟩
        cases i with
        | zero => simp at q; subst q; exact ⟨s, rfl, .inl ⟨by simpa using ho, rfl⟩⟩
        | succ i => exact tail i t q
/-- who is handed in owned stands at a -/
def Handed (e : Nv) (σ : St) (os : List OV) (a : Addr) : Prop := ∃ i s, e[i]? = some s ∧ s.owns = true ∧ (σ[i]?).join = some (V.ref a) ∧ OV.sl i ∈ os
open Classical in
/-- for the callee: all else of the heap is held -/
noncomputable def cfIn (c : Cf) (D : Hp) (e : Nv) (σ : St) (H : Hp) (os : List OV) (vs : List V) : Cf where
  mg := c.mg
  B := fun a => if D a = none ∧ ¬ Handed e σ os a then H a else none
  pa := fun j => match vs[j]? with
    | some (.ref a) => some a
    | _ => none
theorem cfIn_B {a : Addr} (h1 : D a = none) (h2 : ¬ Handed e σ os a) : (cfIn c D e σ H os vs).B a = H a := if_pos ⟨h1, h2⟩
theorem cfIn_none {a : Addr} (h : Handed e σ os a) : (cfIn c D e σ H os vs).B a = none := if_neg fun z => z.2 h
theorem cfIn_some {a : Addr} {o : HO} (h : (cfIn c D e σ H os vs).B a = some o) : D a = none ∧ ¬ Handed e σ os a ∧ H a = some o := by
  by_cases q : D a = none ∧ ¬ Handed e σ os a
  · exact ⟨q.1, q.2, (if_pos q).symm.trans h⟩
  · have := (if_neg q).symm.trans h
    cases this
theorem Sim.cfB (S : Sim c D e σ H) : Same c.B (cfIn c D e σ H os vs).B := fun a o h => by
  have no : ¬ Handed e σ os a := fun ⟨i, s, e1, e2, e3, _⟩ => by
    obtain ⟨a', u, k1, k2, k3, k4⟩ := (S.slot i s e1).tracked e2
    rw [e3] at k1; cases k1
    rw [h] at k4; cases k4
  exact (cfIn_B (S.bd a o h) no).trans (S.bh a o h)
theorem Sim.args (S : Sim c D e σ H) (r : OVRL c D σ vs os) (ap : apartO e os = true) (h : argL e os = some ps) : Sim (cfIn c D e σ H os vs) D ps (vs.map some) H := by
  obtain ⟨hl, hg⟩ := argL_get h
  have hv : ∀ {j : Nat} {v : V}, vs[j]? = some v → ((vs.map some)[j]?).join = some v := fun {j v} q => by rw [List.getElem?_map, q] <;> rfl
  -- what an owning parameter is
  have ow : ∀ {j : Nat} {s : Slot}, ps[j]? = some s → s.owns = true → ∃ i a s0, os[j]? = some (.sl i) ∧ e[i]? = some s0 ∧ s0.owns = true ∧ (σ[i]?).join = some (.ref a) ∧ vs[j]? = some (.ref a) ∧ argS e (.sl i) = some s := fun {j s} q o => by
    obtain ⟨ov, e1, e2⟩ := hg j s q
    obtain ⟨v, v1, v2⟩ := r.get e1
    cases ov with
    | d x => cases e2; cases o
    | gl n => cases e2; cases o
    | sl i =>
      have v2 : (σ[i]?).join = some v := v2
      have e2' := e2
      simp only [argS] at e2'
      cases q0 : e[i]? with
      | none => rw [q0] at e2'; cases e2'
      | some s0 =>
        have so : s0.owns = true := by
          rw [q0] at e2'
          cases s0 <;> simp at e2' <;> subst e2' <;> first | rfl | cases o
        obtain ⟨a, u, k1, _⟩ := (S.slot i s0 q0).tracked so
        rw [v2] at k1; cases k1
        exact ⟨i, a, s0, e1, q0, so, v2, v1, e2⟩
  refine ⟨S.dh, fun a o q => (cfIn_some q).2.2, fun a o q => (cfIn_some q).1, by rw [hl, List.length_map, r.length], fun j s q => ?_, fun j1 j2 s t a ej ek oj ok hj hk => ?_⟩
  · obtain ⟨ov, e1, e2⟩ := hg j s q
    obtain ⟨v, v1, v2⟩ := r.get e1
    rw [hv v1]
    cases ov with
    | d x => cases e2; exact ⟨v, rfl, v2⟩
    | gl n => cases e2; obtain ⟨f, rfl, k⟩ := v2; exact ⟨f, rfl, k⟩
    | sl i =>
      have v2 : (σ[i]?).join = some v := v2
      simp only [argS] at e2
      cases q0 : e[i]? with
      | none => rw [q0] at e2; cases e2
      | some s0 =>
        have so := S.sl q0 v2
        rw [q0] at e2
        cases s0 with
        | un => cases e2
        | gl n => cases e2
        | v d => cases e2; exact so
        | ro xs => cases e2; exact so
        | own p xs =>
          cases e2
          obtain ⟨a, ws, ea, k1, k2, k3, k4, k5⟩ := so
          cases ea
          exact ⟨a, ws, rfl, k1, k2, k3, cfIn_none ⟨i, _, q0, rfl, v2, List.mem_of_getElem? e1⟩, fun _ => by show (match vs[j]? with | some (.ref a) => some a | _ => none) = some a; rw [v1]⟩
        | dct p d =>
          cases e2
          obtain ⟨a, ea, k1, k3, k4, k5⟩ := so
          cases ea
          exact ⟨a, rfl, k1, k3, cfIn_none ⟨i, _, q0, rfl, v2, List.mem_of_getElem? e1⟩, fun _ => by show (match vs[j]? with | some (.ref a) => some a | _ => none) = some a; rw [v1]⟩
  · obtain ⟨i1, a1, s1, m1, m2, m3, m4, m5, _⟩ := ow ej oj
    obtain ⟨i2, a2, s2, n1, n2, n3, n4, n5, _⟩ := ow ek ok
    rw [hv m5] at hj; cases hj
    rw [hv n5] at hk; cases hk
    have : i1 = i2 := S.apart i1 i2 s1 s2 a m2 n2 m3 n3 m4 n4
    subst this
    have no : ownsAt e i1 = true := by unfold ownsAt; rw [m2]; exact m3
    rcases Nat.lt_trichotomy j1 j2 with h | h | h
    · have := apartO_of ap h m1 n1; rw [no] at this; cases this
    · exact h
    · have := apartO_of ap h n1 m1; rw [no] at this; cases this
theorem Sim.backE (S : Sim c D e σ H) (r : OVRL c D σ vs os) (S' : Sim (cfIn c D e σ H os vs) D' l (vs.map some) H') (s : Same D D') (h : Dl.backE os l e 0 = some e') : Sim c D' e' σ H' := by
  obtain ⟨hl, hg⟩ := backE_get h
  have hB := S.cfB (os := os) (vs := vs)
  have hv : ∀ {j : Nat} {v : V}, vs[j]? = some v → ((vs.map some)[j]?).join = some v := fun {j v} q => by rw [List.getElem?_map, q] <;> rfl
  have own0 : ∀ {i : Nat} {t : Slot}, e'[i]? = some t → t.owns = true → ∃ s0, e[i]? = some s0 ∧ s0.owns = true := fun {i t} q o => by
    obtain ⟨s0, e0, k⟩ := hg i t q
    rcases k with ⟨k1, rfl⟩ | ⟨k1, _⟩ | ⟨k1, _⟩
    · exact absurd (k1.symm.trans o) (by decide)
    · exact ⟨s0, e0, k1⟩
    · exact ⟨s0, e0, k1⟩
  refine ⟨S'.dh, hB.trans S'.bh, fun a o q => S'.bd a o (hB a o q), by rw [hl]; exact S.len, fun i t q => ?_, fun i j t u a ei ej oi oj hi hj => ?_⟩
  · obtain ⟨s0, e0, k⟩ := hg i t q
    have so := S.slot i s0 e0
    rw [Nat.zero_add] at k
    rcases k with ⟨k1, rfl⟩ | ⟨k1, k2, rfl⟩ | ⟨k1, j, u, k2, k3, k4⟩
    · exact so.lift s fun a _ z => absurd (k1.symm.trans z) (by decide)
    · refine so.lift s fun a ea ho => ?_
      obtain ⟨a', w, m1, m2, m3, m4⟩ := so.tracked ho
      rw [ea] at m1; cases m1
      have hb : (cfIn c D e σ H os vs).B a = H a := cfIn_B m3 fun ⟨i2, s2, n1, n2, n3, n4⟩ => by
        have := S.apart i i2 t s2 a e0 n1 ho n2 ea n3
        subst this
        exact posO_none k2 n4
      rw [m2] at hb
      exact ⟨(S'.bh a w hb).trans m2.symm, fun _ => S'.bd a w hb⟩
    · have hj := posO_some k2
      obtain ⟨v, v1, v2⟩ := r.get hj
      have v2 : (σ[i]?).join = some v := v2
      have su := S'.slot j u k3
      rw [hv v1] at su
      rw [v2] at so ⊢
      cases s0 with
      | own p xs =>
        cases u <;> try (cases k4; done)
        cases k4
        obtain ⟨a, ws, ea, m1, m2, m3, m4, m5⟩ := so
        obtain ⟨a', ws', ea', n1, n2, n3, n4, n5⟩ := su
        cases ea; cases ea'
        exact ⟨a, ws', rfl, n1, n2, n3, m4, m5⟩
      | dct p d =>
        cases u <;> try (cases k4; done)
        cases k4
        obtain ⟨a, ea, m1, m3, m4, m5⟩ := so
        obtain ⟨a', ea', n1, n3, n4, n5⟩ := su
        cases ea; cases ea'
        exact ⟨a, rfl, n1, n3, m4, m5⟩
      | un => cases k1
      | v d => cases k1
      | gl n => cases k1
      | ro xs => cases k1
  · obtain ⟨s0, e0, o0⟩ := own0 ei oi
    obtain ⟨s1, f0, o1⟩ := own0 ej oj
    exact S.apart i j s0 s1 a e0 f0 o0 o1 hi hj
theorem argL_par (h : argL e os = some ps) : allPar ps = true := List.all_eq_true.mpr fun s hs => by
  obtain ⟨j, hj⟩ := List.mem_iff_getElem?.mp hs
  obtain ⟨o, _, e2⟩ := (argL_get h).2 j s hj
  cases o with
  | d x => cases e2; rfl
  | gl n => cases e2; rfl
  | sl i =>
    simp only [argS] at e2
    split at e2 <;> cases e2 <;> rfl
/-- the promise is kept by what the caller wants -/
theorem call_sp {mg : Str → Option Value} {n : Nat} {fn : Fn} {W : WX} {Q : VK} (hmg : c.mg = mg) (S : Sim c D e σ H) (r : OVRL c D σ vs os) (hn : vs.length = n) (p : PostE W c D σ Q (callOV fn os e)) : fnSp mg n fn vs H Q fun cls d H' => W cls d σ H' := by
  unfold callOV at p
  split at p
  · rename_i ap
    split at p
    · rename_i ps hps
      refine ⟨hn, cfIn c D e σ H os vs, D, ps, hmg, S.args r ap hps, argL_par hps, ?_⟩
      revert p
      cases fn ps with
      | ok rt l =>
        cases rt with
        | d x =>
          intro p v H' D' S' s' rx
          have p : PostE W c D σ Q (backO os e l (.ok (.d x))) := p
          unfold backO at p
          split at p
          · rename_i e' he
            exact p v H' D' (S.backE r S' s' he) s' rx
          · exact p.elim
        | k d => exact fun z => z.elim
      | exc x l =>
        intro p cls dd H' D' S' s' rx
        have p : PostE W c D σ Q (backO os e l (.exc x)) := p
        unfold backO at p
        split at p
        · rename_i e' he
          exact p cls dd H' D' (S.backE r S' s' he) s' rx
        · exact p.elim
      | stuck => exact fun z => z
    · exact p.elim
  · exact p.elim
theorem call_spK {mg : Str → Option Value} {n : Nat} {fn : Fn} {W : WX} {Q : VK} (hmg : c.mg = mg) (S : Sim c D e σ H) (r : OVRL c D σ vs os) (hn : vs.length = n) (p : PostK W c D σ Q (callDV fn os e)) : fnSp mg n fn vs H Q fun cls d H' => W cls d σ H' := by
  unfold callDV at p
  split at p
  · rename_i ap
    split at p
    · rename_i ps hps
      refine ⟨hn, cfIn c D e σ H os vs, D, ps, hmg, S.args r ap hps, argL_par hps, ?_⟩
      revert p
      cases fn ps with
      | ok rt l =>
        cases rt with
        | k d =>
          intro p q o H' D' S' s' hq rx
          simp only [] at p
          split at p
          · rename_i e' he
            exact p q o H' D' (S.backE r S' s' he) s' hq rx
          · exact p.elim
        | d x => exact fun z => z.elim
      | exc x l =>
        intro p cls dd H' D' S' s' rx
        simp only [] at p
        split at p
        · rename_i e' he
          exact p cls dd H' D' (S.backE r S' s' he) s' rx
        · exact p.elim
      | stuck => exact fun z => z
    · exact p.elim
  · exact p.elim
end
end L2.Dl

namespace L2.Dl
open PySem
open PySem.Spec
open PyProof.Rows
variable [KF]

def pick {α : Type} (ix : List Nat) (l : List α) : List α := ix.filterMap (l[·]?)
theorem Vals.get? : ∀ {vs : List V} {us : List Value}, Vals vs us → ∀ {j : Nat}, (vs[j]? = none ∧ us[j]? = none) ∨ ∃ v u, vs[j]? = some v ∧ us[j]? = some u ∧ RelV v u
  | _, _, .nil, j => .inl ⟨by simp, by simp⟩
  | _, _, .cons h r, 0 => .inr ⟨_, _, rfl, rfl, h⟩
  | _, _, .cons h r, j + 1 => by simpa using Vals.get? r (j := j)
theorem Vals.pick {vs : List V} {us : List Value} (r : Vals vs us) : ∀ ix : List Nat, Vals (pick ix vs) (pick ix us)
  | [] => .nil
  | i :: ix => by
    rcases Vals.get? r (j := i) with ⟨h1, h2⟩ | ⟨v, u, h1, h2, h3⟩
    · simp only [Dl.pick, List.filterMap_cons, h1, h2]; exact Vals.pick r ix
    · simp only [Dl.pick, List.filterMap_cons, h1, h2]; exact .cons h3 (Vals.pick r ix)
section
variable {c : Cf} {D : Hp} {σ : St}
theorem OVRL.get2 : ∀ {vs : List V} {os : List OV}, OVRL c D σ vs os → ∀ {j : Nat}, (vs[j]? = none ∧ os[j]? = none) ∨ ∃ v u, vs[j]? = some v ∧ os[j]? = some u ∧ OVR c D σ v u
  | _, _, .nil, j => .inl ⟨by simp, by simp⟩
  | _, _, .cons h r, 0 => .inr ⟨_, _, rfl, rfl, h⟩
  | _, _, .cons h r, j + 1 => by simpa using OVRL.get2 r (j := j)
theorem OVRL.pick {vs : List V} {us : List OV} (r : OVRL c D σ vs us) : ∀ ix : List Nat, OVRL c D σ (Dl.pick ix vs) (Dl.pick ix us)
  | [] => .nil
  | i :: ix => by
    rcases OVRL.get2 r (j := i) with ⟨h1, h2⟩ | ⟨v, u, h1, h2, h3⟩
    · simp only [Dl.pick, List.filterMap_cons, h1, h2]; exact OVRL.pick r ix
    · simp only [Dl.pick, List.filterMap_cons, h1, h2]; exact .cons h3 (OVRL.pick r ix)
theorem OVRL.append : ∀ {vs : List V} {os : List OV} {ws : List V} {ps : List OV}, OVRL c D σ vs os → OVRL c D σ ws ps → OVRL c D σ (vs ++ ws) (os ++ ps)
  | _, _, _, _, .nil, h => h
  | _, _, _, _, .cons h r, q => .cons h (OVRL.append r q)
end
/-- values of the defaults -/
def DfR (dvs : List V) (ods : List PyData) : Prop := ∀ (c : Cf) (D : Hp) (σ : St), OVRL c D σ dvs (ods.map .d)
theorem dfr_nil : DfR [] [] := fun _ _ _ => .nil
/-- how a call binds: n positional values, keywords ks, then the defaults ds; ix picks them in the parameters' order -/
def BD (K : PySem.W.Frag) (fd : FuncData) (ps : List Str) (n : Nat) (ks : List Str) (ix : List Nat) (ds : List Value) : Prop :=
  ∀ (s : Shared) (us ws : List Value), K.In s.heap → us.length = n → ws.length = ks.length → BindsTo s fd ⟨us, ks.zip ws⟩ (ps.zip (pick ix (us ++ ws ++ ds)))
def dCall (n : Nat) (fn : Fn) (ods : List PyData) (r : Nv → Res (List OV)) : DE := fun env => (r env).bd fun os e => if (os ++ ods.map OV.d).length = n then callOV fn (os ++ ods.map .d) e else .stuck
def dkCall (n : Nat) (fn : Fn) (ods : List PyData) (r : Nv → Res (List OV)) : DK := fun env => (r env).bd fun os e => if (os ++ ods.map OV.d).length = n then callDV fn (os ++ ods.map .d) e else .stuck
def dCallW (n : Nat) (fn : Fn) (n1 m : Nat) (ix : List Nat) (ods : List PyData) (r rk : Nv → Res (List OV)) : DE := fun env => (r env).bd fun os e => (rk e).bd fun zs e' => if os.length = n1 ∧ zs.length = m ∧ (pick ix (os ++ zs ++ ods.map .d)).length = n then callOV fn (pick ix (os ++ zs ++ ods.map .d)) e' else .stuck
def dkCallW (n : Nat) (fn : Fn) (n1 m : Nat) (ix : List Nat) (ods : List PyData) (r rk : Nv → Res (List OV)) : DK := fun env => (r env).bd fun os e => (rk e).bd fun zs e' => if os.length = n1 ∧ zs.length = m ∧ (pick ix (os ++ zs ++ ods.map .d)).length = n then callDV fn (pick ix (os ++ zs ++ ods.map .d)) e' else .stuck
theorem PostA.bdK {W : WX} {c : Cf} {D : Hp} {σ : St} {r : Res (List OV)} {k : List OV → Nv → Res DV} {Q : VK} (h : PostK W c D σ Q (r.bd k)) :
    PostA W c D σ (fun vs H => ∃ D' env os, Sim c D' env σ H ∧ Same D D' ∧ OVRL c D' σ vs os ∧ r = .ok os env ∧ PostK W c D' σ Q (k os env)) r := by
  cases r with
  | ok o e => exact fun v H' D' S s q => ⟨D', e, o, S, s, q, rfl, PostK.mono h s⟩
  | exc x e => exact h
  | stuck => exact h
section
variable {X : Cx} {W : WX} {c : Cf} {k n : Nat} {f : Addr} {fd : FuncData} {ps ks : List Str} {fn : Fn} {dvs : List V} {ds : List Value} {ods : List PyData} {ix : List Nat} {x : Str} {p pos kpos : Pos} {e : Expr} {es : List Expr} {kws : List Keyword} {nm : Option Str} {r rk : Nv → Res (List OV)} {d : DE}
def tCallF (sp : Sp) (dvs : List V) (W : WX) (t : TA) : TE := fun σ H Q => t σ H fun vs H1 => sp (vs ++ dvs) H1 Q (WE W σ)
theorem run_fnF {sp : Sp} {pins : List (Addr × Obj)} {σ : St} {H : Hp} {s : Shared} {Q : VK} {us args : List Value} {kv : List (Str × Value)} {vs : List V} (F : FnD X.prog X.w X.K X.mg X.base k f fd ps sp) (hr : GRoom k X.A) (tk : Takes X W)
    (I : Inv X pins σ H s) (hb : BindsTo s fd ⟨args, kv⟩ (ps.zip us)) (r : Vals vs us) (h : sp vs H Q (WE W σ)) : wpAny (model X.prog X.w) X.A (call (.ref f) args kv) (EP X pins σ Q) X.xe s := by
  refine wpAny_call (codeAny_mono (F.run X.A X.stack s H ⟨args, kv⟩ us vs Q (WE W σ) hr I.env0 hb r h) fun r s' hq => ?_)
  cases r with
  | error e => exact passAt tk σ pins H s e s' I hq
  | ok fl =>
    cases fl with
    | ret u => exact I.after hq
    | next => exact False.elim hq
    | brk => exact False.elim hq
    | cont => exact False.elim hq
theorem pe_callF {sp : Sp} {t : TA} (F : FnD X.prog X.w X.K X.mg X.base k f fd ps sp) (hr : GRoom k X.A) (tk : Takes X W) (hg : Gl X x) (hm : X.mg x = some (.ref f)) (hk : PySem.W.keepIn X.K (.ref f) = true) (hb : Binds X.K fd ps ds) (hd : Vals dvs ds)
    (ha : PA X (e :: es) t) (hdb : (x == ("__debug__" : Str)) = false := by decide) (he : starEach (e :: es) X.env = (false, eval e X.env) :: starEach es X.env := by rfl) (hpl : (backTo pos (starEach es X.env)).any (·.1) = false := by rfl) :
    PE X (.Call (.Name x p) (e :: es) [] pos) (tCallF sp dvs W t) := by
  refine ⟨fun pins s σ H Q I h => ?_⟩
  refine wpAny_Call_Name_kw (ld_glob I hg hm ?_ hdb)
  refine PySem.W.callWith_K (h₀ := X.base) I.ok.mod.kin hk (thn (ha.run pos pins s σ H _ I h) fun us s1 ⟨vs, H1, I1, r, q⟩ => ⟨I1.kIn, ?_⟩) he hpl
  have r2 : Vals (vs ++ dvs) (us ++ ds) := r.append hd
  have hl : (us ++ ds).length = ps.length := by rw [← r2.length]; exact F.len _ _ _ _ q
  exact run_fnF F hr tk I1 (hb _ us I1.kIn hl) r2 q
theorem call_core (hmg : c.mg = X.mg) (hd : DfR dvs ods) {σ : St} {H : Hp} {Q : VK} (h : EOf W c (dCall n fn ods r) σ H Q) : tCallF (fnSp X.mg n fn) dvs W (AOf W c r) σ H Q := by
  obtain ⟨D, env, S, p⟩ := h
  refine ⟨D, env, S, ?_⟩
  have p1 := PostA.bd p
  revert p1
  cases r env with
  | stuck => exact fun z => z
  | exc y e => exact fun z => z
  | ok o1 e1 =>
    intro p1 v H1 D1 S1 s1 r1
    obtain ⟨D2, env2, o, S2, s2, r2, e, p2⟩ := p1 v H1 D1 S1 s1 r1
    cases e
    have r3 := r2.append (hd c D2 σ)
    split at p2
    · rename_i hl
      exact call_sp hmg S2 r3 (r3.length.trans hl) p2
    · exact p2.elim
theorem callK_core (hmg : c.mg = X.mg) (hd : DfR dvs ods) {σ : St} {H : Hp} {Q : VK} (h : KOf' W c (dkCall n fn ods r) σ H Q) : tCallF (fnSp X.mg n fn) dvs W (AOf W c r) σ H Q := by
  obtain ⟨D, env, S, p⟩ := h
  refine ⟨D, env, S, ?_⟩
  have p1 := PostA.bdK p
  revert p1
  cases r env with
  | stuck => exact fun z => z
  | exc y e => exact fun z => z
  | ok o1 e1 =>
    intro p1 v H1 D1 S1 s1 r1
    obtain ⟨D2, env2, o, S2, s2, r2, e, p2⟩ := p1 v H1 D1 S1 s1 r1
    cases e
    have r3 := r2.append (hd c D2 σ)
    split at p2
    · rename_i hl
      exact call_spK hmg S2 r3 (r3.length.trans hl) p2
    · exact p2.elim
theorem de_call (F : FnD X.prog X.w X.K X.mg X.base k f fd ps (fnSp X.mg n fn)) (hr : GRoom k X.A) (tk : Takes X W) (hmg : c.mg = X.mg) (hg : Gl X x) (hm : X.mg x = some (.ref f)) (hk : PySem.W.keepIn X.K (.ref f) = true) (hb : Binds X.K fd ps ds) (hd : Vals dvs ds) (hd2 : DfR dvs ods)
    (ha : PA X (e :: es) (AOf W c r)) (hdb : (x == ("__debug__" : Str)) = false := by decide) (he : starEach (e :: es) X.env = (false, eval e X.env) :: starEach es X.env := by rfl) (hpl : (backTo pos (starEach es X.env)).any (·.1) = false := by rfl) :
    PE X (.Call (.Name x p) (e :: es) [] pos) (EOf W c (dCall n fn ods r)) :=
  (pe_callF F hr tk hg hm hk hb hd ha hdb he hpl).weak fun _ _ _ h => call_core hmg hd2 h
theorem dk_call (F : FnD X.prog X.w X.K X.mg X.base k f fd ps (fnSp X.mg n fn)) (hr : GRoom k X.A) (tk : Takes X W) (hmg : c.mg = X.mg) (hg : Gl X x) (hm : X.mg x = some (.ref f)) (hk : PySem.W.keepIn X.K (.ref f) = true) (hb : Binds X.K fd ps ds) (hd : Vals dvs ds) (hd2 : DfR dvs ods)
    (ha : PA X (e :: es) (AOf W c r)) (hdb : (x == ("__debug__" : Str)) = false := by decide) (he : starEach (e :: es) X.env = (false, eval e X.env) :: starEach es X.env := by rfl) (hpl : (backTo pos (starEach es X.env)).any (·.1) = false := by rfl) :
    PE X (.Call (.Name x p) (e :: es) [] pos) (KOf' W c (dkCall n fn ods r)) :=
  (pe_callF F hr tk hg hm hk hb hd ha hdb he hpl).weak fun _ _ _ h => callK_core hmg hd2 h
theorem dak_nil : PK X [] (AOf W c dANil) := ⟨fun pos pins s σ H Q I ⟨D, env, S, p⟩ => pk_nil.run pos pins s σ H Q I (p _ H D S (Same.refl _) .nil)⟩
theorem dak_cons (he : PE X e (EOf W c d)) (hr : PK X kws (AOf W c r)) : PK X (⟨nm, e, kpos⟩ :: kws) (AOf W c (dACons d r)) := ⟨fun pos pins s σ H Q I ⟨D, env, S, p⟩ => (pk_cons he hr).run pos pins s σ H Q I (by
    refine ⟨D, env, S, ?_⟩
    have p1 := PostE.bdA p
    revert p1
    cases d env with
    | stuck => exact fun z => z
    | exc y e => exact fun z => z
    | ok o1 e1 =>
      intro p1 v H1 D1 S1 s1 r1
      obtain ⟨D2, env2, o, S2, s2, r2, e, p2⟩ := p1 v H1 D1 S1 s1 r1
      cases e
      refine ⟨D2, e1, S2, ?_⟩
      have p3 := PostA.bdA p2
      revert p3
      cases r e1 with
      | stuck => exact fun z => z
      | exc y e => exact fun z => z
      | ok o2 e2 =>
        intro p3 w H3 D3 S3 s3 r3
        obtain ⟨D4, env4, o4, S4, s4, r4, e, p4⟩ := p3 w H3 D3 S3 s3 r3
        cases e
        exact p4 _ H3 D4 S4 (Same.refl _) (.cons (r2.mono s4) r4))⟩
def tCallG (sp : Sp) (n m : Nat) (ix : List Nat) (dvs : List V) (W : WX) (t tk : TA) : TE := fun σ H Q => t σ H fun vs H1 => tk σ H1 fun zs H2 => vs.length = n ∧ zs.length = m ∧ sp (pick ix (vs ++ zs ++ dvs)) H2 Q (WE W σ)
/-- f(e, .., k = v, ..) -/
theorem pe_callG {sp : Sp} {t tkw : TA} (F : FnD X.prog X.w X.K X.mg X.base k f fd ps sp) (hr : GRoom k X.A) (tk : Takes X W) (hg : Gl X x) (hm : X.mg x = some (.ref f)) (hk : PySem.W.keepIn X.K (.ref f) = true) (hb : BD X.K fd ps n ks ix ds) (hd : Vals dvs ds)
    (ha : PA X (e :: es) t) (hkw : PK X kws tkw) (hall : (backToKw pos (keywordEach kws X.env)).all (·.1.isSome) = true := by rfl) (hks : (backToKw pos (keywordEach kws X.env)).filterMap (·.1) = ks := by rfl)
    (hdb : (x == ("__debug__" : Str)) = false := by decide) (he : starEach (e :: es) X.env = (false, eval e X.env) :: starEach es X.env := by rfl)
    (hpl : ((backTo pos (starEach (e :: es) X.env)).any (·.1) || (backToKw pos (keywordEach kws X.env)).any (·.1.isNone)) = false := by rfl) :
    PE X (.Call (.Name x p) (e :: es) kws pos) (tCallG sp n ks.length ix dvs W t tkw) := by
  refine ⟨fun pins s σ H Q I h => ?_⟩
  refine wpAny_Call_Name_kw (ld_glob I hg hm ?_ hdb)
  refine PySem.W.callWith_KW (h₀ := X.base) I.ok.mod.kin hk hall (thn (ha.run pos pins s σ H _ I h) fun us s1 ⟨vs, H1, I1, r, q⟩ => ?_) hpl he
  refine thn (hkw.run pos pins s1 σ H1 _ I1 q) fun ws s2 ⟨zs, H2, I2, rz, l1, l2, q2⟩ => ⟨I2.kIn, ?_⟩
  rw [hks]
  exact run_fnF F hr tk I2 (hb s2 us ws I2.kIn (r.length.symm.trans l1) (rz.length.symm.trans l2)) (Vals.pick ((r.append rz).append hd) ix) q2
/-- f(k = v, ..) -/
theorem pe_callG0 {sp : Sp} {tkw : TA} (F : FnD X.prog X.w X.K X.mg X.base k f fd ps sp) (hr : GRoom k X.A) (tk : Takes X W) (hg : Gl X x) (hm : X.mg x = some (.ref f)) (hk : PySem.W.keepIn X.K (.ref f) = true) (hb : BD X.K fd ps 0 ks ix ds) (hd : Vals dvs ds)
    (hkw : PK X kws tkw) (hall : (backToKw pos (keywordEach kws X.env)).all (·.1.isSome) = true := by rfl) (hks : (backToKw pos (keywordEach kws X.env)).filterMap (·.1) = ks := by rfl)
    (hdb : (x == ("__debug__" : Str)) = false := by decide)
    (hpl : ((backTo pos (starEach [] X.env)).any (·.1) || (backToKw pos (keywordEach kws X.env)).any (·.1.isNone)) = false := by rfl) :
    PE X (.Call (.Name x p) [] kws pos) (tCallG sp 0 ks.length ix dvs W tNil tkw) := by
  refine ⟨fun pins s σ H Q I h => ?_⟩
  refine wpAny_Call_Name_kw (ld_glob I hg hm ?_ hdb)
  refine PySem.W.callWith_KW0 (h₀ := X.base) I.ok.mod.kin hk hall ?_ hpl
  refine thn (hkw.run pos pins s σ H _ I h) fun ws s2 ⟨zs, H2, I2, rz, l1, l2, q2⟩ => ⟨I2.kIn, ?_⟩
  rw [hks]
  exact run_fnF F hr tk I2 (hb s2 [] ws I2.kIn rfl (rz.length.symm.trans l2)) (Vals.pick ((Vals.append (.nil : Vals [] []) rz).append hd) ix) q2
theorem callG_core {m n1 : Nat} (hmg : c.mg = X.mg) (hd : DfR dvs ods) {σ : St} {H : Hp} {Q : VK} (h : EOf W c (dCallW n fn n1 m ix ods r rk) σ H Q) : tCallG (fnSp X.mg n fn) n1 m ix dvs W (AOf W c r) (AOf W c rk) σ H Q := by
  obtain ⟨D, env, S, p⟩ := h
  refine ⟨D, env, S, ?_⟩
  have p1 := PostA.bd p
  revert p1
  cases r env with
  | stuck => exact fun z => z
  | exc y e => exact fun z => z
  | ok o1 e1 =>
    intro p1 v H1 D1 S1 s1 r1
    obtain ⟨D2, env2, o, S2, s2, r2, e, p2⟩ := p1 v H1 D1 S1 s1 r1
    cases e
    refine ⟨D2, e1, S2, ?_⟩
    have p3 := PostA.bd p2
    revert p3
    cases rk e1 with
    | stuck => exact fun z => z
    | exc y e => exact fun z => z
    | ok o2 e2 =>
      intro p3 w H3 D3 S3 s3 r3
      obtain ⟨D4, env4, o4, S4, s4, r4, e, p4⟩ := p3 w H3 D3 S3 s3 r3
      cases e
      split at p4
      · rename_i hl
        have r5 := OVRL.pick (((r2.mono s4).append r4).append (hd c D4 σ)) ix
        exact ⟨r2.length.trans hl.1, r4.length.trans hl.2.1, call_sp hmg S4 r5 (r5.length.trans hl.2.2) p4⟩
      · exact p4.elim
theorem callGK_core {m n1 : Nat} (hmg : c.mg = X.mg) (hd : DfR dvs ods) {σ : St} {H : Hp} {Q : VK} (h : KOf' W c (dkCallW n fn n1 m ix ods r rk) σ H Q) : tCallG (fnSp X.mg n fn) n1 m ix dvs W (AOf W c r) (AOf W c rk) σ H Q := by
  obtain ⟨D, env, S, p⟩ := h
  refine ⟨D, env, S, ?_⟩
  have p1 := PostA.bdK p
  revert p1
  cases r env with
  | stuck => exact fun z => z
  | exc y e => exact fun z => z
  | ok o1 e1 =>
    intro p1 v H1 D1 S1 s1 r1
    obtain ⟨D2, env2, o, S2, s2, r2, e, p2⟩ := p1 v H1 D1 S1 s1 r1
    cases e
    refine ⟨D2, e1, S2, ?_⟩
    have p3 := PostA.bdK p2
    revert p3
    cases rk e1 with
    | stuck => exact fun z => z
    | exc y e => exact fun z => z
    | ok o2 e2 =>
      intro p3 w H3 D3 S3 s3 r3
      obtain ⟨D4, env4, o4, S4, s4, r4, e, p4⟩ := p3 w H3 D3 S3 s3 r3
      cases e
      split at p4
      · rename_i hl
        have r5 := OVRL.pick (((r2.mono s4).append r4).append (hd c D4 σ)) ix
        exact ⟨r2.length.trans hl.1, r4.length.trans hl.2.1, call_spK hmg S4 r5 (r5.length.trans hl.2.2) p4⟩
      · exact p4.elim
theorem tnil_core {σ : St} {H : Hp} {R : List V → Hp → Prop} (h : AOf W c dANil σ H R) : tNil σ H R := by
  obtain ⟨D, env, S, p⟩ := h
  exact p [] H D S (Same.refl _) .nil
theorem de_callW {n1 : Nat} (F : FnD X.prog X.w X.K X.mg X.base k f fd ps (fnSp X.mg n fn)) (hr : GRoom k X.A) (tk : Takes X W) (hmg : c.mg = X.mg) (hg : Gl X x) (hm : X.mg x = some (.ref f)) (hk : PySem.W.keepIn X.K (.ref f) = true) (hb : BD X.K fd ps n1 ks ix ds) (hd : Vals dvs ds) (hd2 : DfR dvs ods)
    (ha : PA X (e :: es) (AOf W c r)) (hkw : PK X kws (AOf W c rk)) (hall : (backToKw pos (keywordEach kws X.env)).all (·.1.isSome) = true := by rfl) (hks : (backToKw pos (keywordEach kws X.env)).filterMap (·.1) = ks := by rfl)
    (hdb : (x == ("__debug__" : Str)) = false := by decide) (he : starEach (e :: es) X.env = (false, eval e X.env) :: starEach es X.env := by rfl)
    (hpl : ((backTo pos (starEach (e :: es) X.env)).any (·.1) || (backToKw pos (keywordEach kws X.env)).any (·.1.isNone)) = false := by rfl) :
    PE X (.Call (.Name x p) (e :: es) kws pos) (EOf W c (dCallW n fn n1 ks.length ix ods r rk)) :=
  (pe_callG F hr tk hg hm hk hb hd ha hkw hall hks hdb he hpl).weak fun _ _ _ h => callG_core hmg hd2 h
theorem de_callW0 (F : FnD X.prog X.w X.K X.mg X.base k f fd ps (fnSp X.mg n fn)) (hr : GRoom k X.A) (tk : Takes X W) (hmg : c.mg = X.mg) (hg : Gl X x) (hm : X.mg x = some (.ref f)) (hk : PySem.W.keepIn X.K (.ref f) = true) (hb : BD X.K fd ps 0 ks ix ds) (hd : Vals dvs ds) (hd2 : DfR dvs ods)
    (hkw : PK X kws (AOf W c rk)) (hall : (backToKw pos (keywordEach kws X.env)).all (·.1.isSome) = true := by rfl) (hks : (backToKw pos (keywordEach kws X.env)).filterMap (·.1) = ks := by rfl)
    (hdb : (x == ("__debug__" : Str)) = false := by decide)
    (hpl : ((backTo pos (starEach [] X.env)).any (·.1) || (backToKw pos (keywordEach kws X.env)).any (·.1.isNone)) = false := by rfl) :
    PE X (.Call (.Name x p) [] kws pos) (EOf W c (dCallW n fn 0 ks.length ix ods dANil rk)) :=
  (pe_callG0 F hr tk hg hm hk hb hd hkw hall hks hdb hpl).weak fun _ _ _ h => tnil_core (callG_core hmg hd2 h)
end
/-- inside a comprehension nothing leaves -/
theorem takesF {X : Cx} : Takes X WF := fun _ _ ⟨_, _, _, _, _, _, _, _, _, _, _, _, _, _, _, _, w⟩ => w.elim
end L2.Dl

namespace L2.Dl
open PySem
open PySem.Spec
open PyProof.Rows
open PySem.W
variable [KF]

def srtLe : PyData → PyData → Bool := dataLe false id
def srtB (xs : List PyData) : Bool := xs.all (fun d => decide (d.depth ≤ 60) && xs.all fun d' => alike d d') && (xs.all (fun | .tuple (_ :: _) => true | _ => false) || xs.all (fun | .tuple _ | .none => false | _ => true))
def gSorted : List PyData → Option (List PyData)
  | [.list xs] => if decide (xs.length ≤ lenB) && srtB xs then some (xs.mergeSort srtLe) else none
  | _ => none
theorem srtB_of {xs : List PyData} (h : srtB xs = true) : (∀ d ∈ xs, d.depth ≤ 60) ∧ AllAlike xs ∧ Sortable xs := by
  unfold srtB at h
  rw [Bool.and_eq_true, Bool.or_eq_true] at h
  have h1 : ∀ d ∈ xs, d.depth ≤ 60 ∧ ∀ d' ∈ xs, alike d d' = true := fun d hd => by
    have := List.all_eq_true.mp h.1 d hd
    rw [Bool.and_eq_true] at this
    exact ⟨of_decide_eq_true this.1, List.all_eq_true.mp this.2⟩
  refine ⟨fun d hd => (h1 d hd).1, fun d hd d' hd' => (h1 d hd).2 d' hd', ?_⟩
  rcases h.2 with q | q
  · refine .inl fun d hd => ?_
    have := List.all_eq_true.mp q d hd
    split at this
    · exact ⟨_, _, rfl⟩
    · cases this
  · refine .inr fun d hd => ?_
    have := List.all_eq_true.mp q d hd
    split at this
    · cases this
    · cases this
    · rename_i h1 h2
      exact ⟨fun e => h2 e, fun ys e => h1 ys e⟩
def rSortD : List V → Hp → VK → Prop := fun vs H Q => ∃ (a : Addr) (ws : List V) (ds : List PyData), vs = [.ref a] ∧ SqL KF.frag H a ws ∧ DpAll KF.frag H ws ds ∧ ds.length ≤ lenB ∧ srtB ds = true ∧
  ∀ p (bs : List (V × PyData)), (∀ b ∈ bs, b ∈ ws.zip ds) → bs.map Prod.snd = ds.mergeSort srtLe → H p = none → Q (.ref p) (upd H p (.lst (bs.map Prod.fst)))
theorem eachIs_zip {h : Heap} : ∀ {ws : List V} {its : List Value} {ds : List PyData}, Vals ws its → ws.length = ds.length → EachIs (fun v (b : V × PyData) => RelV b.1 v) its (ws.zip ds)
  | [], [], [], _, _ => .nil
  | w :: ws, i :: its, d :: ds, r, l => by
    cases r with
    | cons r1 r2 => exact .cons r1 (eachIs_zip (h := h) r2 (by simpa using l))
  | [], _ :: _, _, r, _ => by cases r
  | _ :: _, [], _, r, _ => by cases r
  | [], [], _ :: _, _, l => by simp at l
  | _ :: _, _ :: _, [], _, l => by simp at l
theorem eachIs_reads {h : Heap} : ∀ {ws : List V} {its : List Value} {ds : List PyData} {as : List Addr}, ws.length = ds.length → ReadsAll h its ds as → EachIs (fun v (b : V × PyData) => ∃ as, Reads h v b.2 as) its (ws.zip ds)
  | [], its, [], _, _, r => by cases r; exact .nil
  | w :: ws, its, d :: ds, _, l, r => by
    cases r with
    | cons r1 r2 => exact .cons ⟨_, r1⟩ (eachIs_reads (by simpa using l) r2)
  | [], _, _ :: _, _, l, _ => by simp at l
  | _ :: _, _, [], _, l, _ => by simp at l
theorem eachIs_vals : ∀ {out : List Value} {bs : List (V × PyData)}, EachIs (fun v (b : V × PyData) => RelV b.1 v) out bs → Vals (bs.map Prod.fst) out
  | _, _, .nil => .nil
  | _, _, .cons h r => .cons h (eachIs_vals r)
theorem dpAll_length {K : PySem.W.Frag} {H : Hp} : ∀ {vs : List V} {ds : List PyData}, DpAll K H vs ds → vs.length = ds.length
  | _, _, .nil => rfl
  | _, _, .cons _ r => congrArg Nat.succ (dpAll_length r)
theorem cr_sortD {X : Cx} (hK : X.K = KF.frag) (hu : X.A.units + 64 < cLine) : CallR X (.builtin "sorted") rSortD := by
  intro pins s σ H vs us Q I r h
  obtain ⟨a, ws, ds, rfl, hs, hd, hl, hb, q⟩ := h
  rw [← hK] at hs hd
  obtain ⟨its, rv, hli, hz⟩ := I.list hs
  obtain ⟨u, rfl, ru⟩ := vals1 r
  obtain rfl : u = Value.ref a := ru
  obtain ⟨as, ra⟩ := Dp.readsAll I ds ws its hd rv
  have hlen := dpAll_length hd
  obtain ⟨h1, h2, h3⟩ := srtB_of hb
  have hmap : (ws.zip ds).map Prod.snd = ds := List.map_snd_zip (Nat.le_of_eq hlen.symm)
  refine sorted_data (enc := Prod.snd) (bs := ws.zip ds) (R := fun v b => RelV b.1 v) hli.isList (eachIs_zip (h := s.heap) rv hlen) (eachIs_reads hlen ra) (by rw [hmap]; exact h2) (by rw [hmap]; exact h3)
    (by rw [List.length_zip]; have := lenB_le hl; omega) (fun b hb => ?_) fun out ho e => ?_
  · have : b.2 ∈ ds := (List.of_mem_zip (show (b.1, b.2) ∈ ws.zip ds from hb)).2
    have := h1 _ this
    omega
  · have hv := eachIs_vals e
    have hn := sortedAll_at s.heap its (List.toArray out)
    obtain ⟨n, hn⟩ := hn
    have kp : ∀ b o, s.heap.get? b = some o → (sortedAll s.heap its (List.toArray out)).get? b = some o := fun b o e => sortedAll_old e
    refine ⟨.ref _, upd H _ (.lst _), I.laid (t' := s.toks) kp (Nat.le_succ _) ⟨?_, out, n, hv, hn⟩, rfl, q _ _ (fun b hb => (List.mergeSort_perm _ _).mem_iff.mp hb) ?_ (I.hok.fresh (Nat.le_succ _))⟩
    · rw [List.length_map, ((List.mergeSort_perm _ _).length_eq)]
      rw [List.length_zip]; have := lenB_le hl; omega
    · rw [List.map_mergeSort (r := dataLe false Prod.snd) (s := srtLe) (f := Prod.snd) fun a _ b _ => rfl, hmap]
theorem lf_sorted : LfN rSortD gSorted := by
  intro D H vs xs zs Q s r e q
  unfold gSorted at e
  split at e
  · split at e
    · rename_i xs hc
      rw [Bool.and_eq_true] at hc
      cases e
      obtain ⟨v, rfl, h⟩ := r.one
      obtain ⟨p, ws, rfl, h1, h2⟩ := h.lst s
      refine ⟨p, ws, xs, rfl, .of h1, DpAll.mono s (RpL.dp h2), of_decide_eq_true hc.1, hc.2, fun l bs m1 m2 hl => q l _ hl ?_⟩
      rw [← m2]
      have pr : ∀ {ws : List V} {ds : List PyData}, RpL D ws ds → ∀ b ∈ ws.zip ds, Rp D b.1 b.2 := fun {ws ds} r => by
        induction r using RpL.rec (motive_1 := fun _ _ _ => True) with
        | nil => intro b hb; simp at hb
        | cons h1 h2 _ ih =>
          intro b hb
          rcases List.mem_cons.mp (by simpa using hb) with e | hb
          · subst e; exact h1
          · exact ih b hb
        | _ => trivial
      have all : ∀ {bs : List (V × PyData)}, (∀ b ∈ bs, Rp D b.1 b.2) → RpL D (bs.map Prod.fst) (bs.map Prod.snd) := fun {bs} h => by
        induction bs with
        | nil => exact .nil
        | cons b bs ih => exact .cons (h b (List.mem_cons_self ..)) (ih fun b hb => h b (List.mem_cons_of_mem _ hb))
      exact all fun b hb => pr h2 b (m1 b hb)
    · cases e
  · cases e
end L2.Dl

namespace L2.Dl
open PySem
open PySem.Spec
open PyProof.Rows
variable [KF]

/-- the law's call, from the one heap that tracks the script alone -/
theorem lawD_core {P : Program} {w : World} {mg mb : Str → Option Value} {k : Nat} {fa a : Addr} {fd : FuncData} {x : Str} {fn : Fn} {t : Shared} {vs : List Value} {ns : List Int} {H : Hp}
    (kin : KF.frag.In t.heap) (nsM : t.heap.Ns mainGlobals mg) (nsB : t.heap.Ns builtinsNs mb) (hbb : ∀ x : Str, x ≠ "__name__" → mb x = bootBuiltins x) (hlim : t.heap.NoLimit) (gn : t.gens = #[])
    (obj : t.heap.get? a = some { cls := .type "list", data := .seq vs.toArray })
    (F : ∀ base : Heap, KF.frag.In base → base.Ns mainGlobals mg → FnD P w KF.frag mg base k fa fd [x] (fnSp mg 1 fn)) (bnd : ∀ (s : Shared) (u : Value), BindsTo s fd ⟨[u], []⟩ [(x, u)])
    (room : GRoom k callerA) (hfn : ∃ ps, fn [.ro (ns.map .int)] = .ok (.d (.bool true)) ps)
    (only : Only H) (sq : SqL KF.frag H a (ns.map V.int)) (hok : HOk P w H t.heap) (here : ∀ b, H b ≠ none → b = a) (out : H a ≠ none → KF.frag.lookup a = none) :
    codeAny (model P w) callerA (.call (.ref fa) ⟨[.ref a], []⟩) (fun r s' => r = .ok (.ret (.bool true)) ∧ OldK t.heap s'.heap ∧ s'.os = t.os ∧ AllBare s'.gens) t := by
  have stay : ∀ {b : Addr} {o : Obj}, t.heap.get? b = some o → H b = none → (hidT t.heap H).get? b = some o := fun e n => hidT_get e n
  have notDict : ∀ {b : Addr} {o : Obj} {es : Array DictEntry} {ep : Nat}, t.heap.get? b = some o → o.data = .dict es ep → H b = none := fun {b o es ep} e d => Classical.byContradiction fun z => by
    obtain rfl := here b z
    rw [obj] at e
    cases e
    cases (show Data.seq vs.toArray _ = Data.dict es ep from d)
  have nsStay : ∀ {b : Addr} {m : Str → Option Value}, t.heap.Ns b m → (hidT t.heap H).Ns b m := fun {b m} ⟨o, es, ep, e, d, r⟩ => ⟨o, es, ep, stay e (notDict e d), d, r⟩
  have kin2 : KF.frag.In (hidT t.heap H) := fun b o e => stay (kin b o e) (Classical.byContradiction fun z => by
    obtain rfl := here b z
    rw [out z] at e
    cases e)
  obtain ⟨mc, l1, l2⟩ := hlim
  have md : Mod KF.frag mg (hidT t.heap H) := ⟨kin2, nsStay nsM, ⟨mb, nsStay nsB, hbb⟩, ⟨mc, nsStay l1, l2⟩⟩
  have e0 : Env0 P w KF.frag mg (hidT t.heap H) callerA [] t H := ⟨rfl, md, fun b o e => of_hidT e, Nat.le_of_eq (hidT_size _ _), trivial, fun b hb => (List.not_mem_nil hb).elim, hok, .of_eq gn⟩
  have sp : fnSp mg 1 fn [.ref a] H (fun v _ => v = .bl true) fun _ _ _ => False := by
    obtain ⟨ps, hps⟩ := hfn
    refine ⟨rfl, ⟨mg, fun _ => none, fun _ => none⟩, H, [.ro (ns.map .int)], rfl, ⟨Same.refl _, fun _ _ z => (nomatch z), fun _ _ z => (nomatch z), rfl, fun i s e => ?_, fun i j s u b ei _ oi _ _ _ => ?_⟩, rfl, ?_⟩
    · cases i with
      | zero =>
        cases e
        refine ⟨a, ns.map V.int, rfl, sq, ?_⟩
        clear hps sq
        induction ns with
        | nil => exact .nil
        | cons n r ih => exact .cons (.int n) ih
      | succ i => cases e
    · cases i with
      | zero => cases ei; cases oi
      | succ i => cases ei
    · rw [hps]
      intro v H' D' _ _ r
      cases r
      rfl
  refine codeAny_mono ((F _ kin2 (nsStay nsM)).run callerA [] t H ⟨[.ref a], []⟩ [.ref a] [.ref a] _ _ room e0 (bnd t (.ref a)) (.cons rfl .nil) sp) fun r s' got => ?_
  match r, got with
  | .error e, ⟨_, _, _, _, _, _, _, _, _, _, _, _, z⟩ => exact z.elim
  | .ok .next, z => exact False.elim z
  | .ok .brk, z => exact False.elim z
  | .ok .cont, z => exact False.elim z
  | .ok (.ret u), ⟨v, H', os, bare, un, hok', rel, z⟩ =>
    obtain rfl : v = .bl true := z
    obtain rfl : u = Value.bool true := rel
    refine ⟨rfl, OldK.of_keep fun b o e => ?_, os, bare⟩
    rcases only b with n | ⟨ob, xs, n⟩
    · exact un.keep b o e n (by intro z; exact (List.not_mem_nil (show b ∈ ([] : List Addr) from z)).elim) (by simp)
    · obtain ⟨e1, _⟩ := hok b _ n
      obtain ⟨e2, _⟩ := hok' b _ (un.frzs b ob _ n)
      exact e2.trans (e1.symm.trans e)
theorem lawD_call {P : Program} {w : World} {mg mb : Str → Option Value} {k : Nat} {fa a : Addr} {fd : FuncData} {x : Str} {fn : Fn} {t : Shared} {vs : List Value} {ns : List Int}
    (kin : KF.frag.In t.heap) (nsM : t.heap.Ns mainGlobals mg) (nsB : t.heap.Ns builtinsNs mb) (hbb : ∀ x : Str, x ≠ "__name__" → mb x = bootBuiltins x) (hlim : t.heap.NoLimit) (gn : t.gens = #[])
    (obj : t.heap.get? a = some { cls := .type "list", data := .seq vs.toArray }) (hi : IntsAre vs ns) (hl : ns.length ≤ sizeLine)
    (F : ∀ base : Heap, KF.frag.In base → base.Ns mainGlobals mg → FnD P w KF.frag mg base k fa fd [x] (fnSp mg 1 fn)) (bnd : ∀ (s : Shared) (u : Value), BindsTo s fd ⟨[u], []⟩ [(x, u)])
    (room : GRoom k callerA) (hfn : ∃ ps, fn [.ro (ns.map .int)] = .ok (.d (.bool true)) ps) :
    codeAny (model P w) callerA (.call (.ref fa) ⟨[.ref a], []⟩) (fun r s' => r = .ok (.ret (.bool true)) ∧ OldK t.heap s'.heap ∧ s'.os = t.os ∧ AllBare s'.gens) t := by
  have rv := vals_ints hi
  have sz : vs.toArray.size ≤ sizeLine := by rw [List.size_toArray, hi.length]; exact hl
  by_cases hk : KF.frag.lookup a = none
  · -- a list of the caller's: known to the object
    have at_a : ∀ {b : Addr}, b ≠ a → (if b = a then some (HO.frz { cls := .type "list", data := .seq vs.toArray } (.lst (ns.map V.int))) else none) = none := fun h => if_neg h
    refine lawD_core (H := fun b => if b = a then some (.frz { cls := .type "list", data := .seq vs.toArray } (.lst (ns.map V.int))) else none) kin nsM nsB hbb hlim gn obj F bnd room hfn (fun b => ?_) (.inl (.inr ⟨_, if_pos rfl⟩)) (fun b u z => ?_) (fun b z => Classical.byContradiction fun hb => z (at_a hb)) fun _ => hk
    · by_cases hb : b = a
      · exact .inr ⟨_, _, if_pos hb⟩
      · exact .inl (at_a hb)
    · by_cases hb : b = a
      · subst hb
        cases (if_pos rfl).symm.trans z
        exact ⟨obj, by rw [List.length_map]; exact hl, vs, _, rv, obj⟩
      · cases (at_a hb).symm.trans z
  · obtain ⟨o, ho⟩ := Option.ne_none_iff_exists'.mp hk
    have e := (kin a o ho).symm.trans obj
    cases e
    exact lawD_core (H := fun _ => none) kin nsM nsB hbb hlim gn obj F bnd room hfn (fun _ => .inl rfl) (.inr ⟨_, vs.toArray, _, ho, rfl, rfl, rfl, sz, by simpa using rv⟩) (fun b u z => nomatch z) (fun b z => (z rfl).elim) fun z => (z rfl).elim
end L2.Dl
namespace L2
open PySem
open PySem.Spec
open PyProof.Rows
theorem walk_ofD {l : PySem.W.OpenLaw} {n k : Nat} {q : Program} {loose : List Str} {XP : (Str → Option Value) → Heap → Prop} {YP : World → Heap → Prop} {d : DefRec} {K : Params → PySem.W.Frag} {fn : Dl.Fn} {x : Str}
    (hn : l.most = some n) (hn2 : n ≤ sizeLine) (hdf : d.params.defaults = []) (hr : Dl.GRoom k callerA)
    (hY : ∀ (w : World) (h : Heap), YP w h → (K w.params).In h)
    (F : ∀ (w : World) (mg : Str → Option Value) (fa : Addr) (h : Heap), (K w.params).In h → h.Ns mainGlobals mg → mg d.name = some (.ref fa) →
      ∃ fd : FuncData, (∀ (s : Shared) (u : Value), BindsTo s fd ⟨[u], []⟩ [(x, u)]) ∧
        ∀ base : Heap, (K w.params).In base → base.Ns mainGlobals mg → @Dl.FnD l.prog w (K w.params) mg base k fa fd [x] (@Dl.fnSp ⟨K w.params⟩ mg 1 fn))
    (hfn : ∀ ns : List Int, ns.length ≤ n → ∃ ps, fn [.ro (ns.map .int)] = .ok (.d (.bool true)) ps) :
    PySem.W.WalkO q loose XP YP l.row.toRowW d [] (fun f vs => PySem.call f vs) := by
  refine Att.attach_call hn hdf fun w s₀ s₁ mg mb fa o pm cd doc a vs ns G Y ho hd hcd hmg hobj hints hlen hg => ?_
  letI : Dl.KF := ⟨K w.params⟩
  have kin := hY w _ Y
  obtain ⟨fd, hb, hF⟩ := F w mg fa _ kin G.T.g hmg
  exact Dl.lawD_call kin G.T.g G.T.b G.T.builtins G.T.nolimit hg hobj hints (Nat.le_trans hlen hn2) hF hb hr (hfn ns hlen)
end L2

namespace L2.Dl
open PySem
open PySem.Spec
open PyProof.Rows
variable [KF]

theorem visD {sc : Scope} {x : Str} (h : (match sc.names.lookup x with | some .local => true | some .cell => true | some .free => true | _ => false) = true) : Vis sc x := by
  unfold Vis
  split at h
  · rename_i e; exact .inl e
  · rename_i e; exact .inr (.inl e)
  · rename_i e; exact .inr (.inr e)
  · cases h
theorem locD {sc : Scope} {x : Str} (h : (match sc.names.lookup x with | some .local => true | some .cell => true | _ => false) = true) : Loc sc x := by
  unfold Loc
  split at h
  · rename_i e; exact .inl e
  · rename_i e; exact .inr e
  · cases h
/-- a def without defaults, ready to be called -/
structure CD (P : Program) (w : World) (mg : Str → Option Value) (base : Heap) (k : Nat) (x : Str) (st : Stmt) (ps : List Str) (fn : Fn) (a : Addr) (fd : FuncData) : Prop where
  gm : mg x = some (.ref a)
  F : Fun KF.frag x x st a fd
  fn : FnD P w KF.frag mg base k a fd ps (fnSp mg ps.length fn)
section
variable {P : Program} {w : World} {mg : Str → Option Value} {base : Heap} {k : Nat} {x : Str} {st : Stmt} {ps N : List Str} {fn : Fn} {a : Addr} {fd : FuncData} {d : DS} {nn : Nat}
theorem CD.kp (c : CD P w mg base k x st ps fn a fd) : PySem.W.keepIn KF.frag (.ref a) = true := c.F.kp
theorem CD.kb {n : Nat} {ks : List Str} {ix : List Nat} (c : CD P w mg base k x st ps fn a fd)
    (h : ∀ (kV doc pm : Value) (an : Option Addr) (cdv ct : Value) (us ws : List Value), us.length = n → ws.length = ks.length → bindArgs (PySem.W.fnOf x x (defArgs st) (defBody st) (defScope st) .none kV doc pm an cdv ct) ⟨us, ks.zip ws⟩ = pure (ps.zip (pick ix (us ++ ws ++ [])))) : BD KF.frag fd ps n ks ix [] := by
  obtain ⟨oc, od, kV, doc, pm, an, cdv, ct, osl, rfl, lk, hcd⟩ := c.F.ex
  exact fun s us ws _ h1 h2 => .of_eq (h kV doc pm an cdv ct us ws h1 h2)
theorem CD.pb (c : CD P w mg base k x st ps fn a fd)
    (h : ∀ (kV doc pm : Value) (an : Option Addr) (cdv ct : Value) (us : List Value), us.length = ps.length → bindArgs (PySem.W.fnOf x x (defArgs st) (defBody st) (defScope st) .none kV doc pm an cdv ct) ⟨us, []⟩ = pure (ps.zip us)) : Binds KF.frag fd ps [] := c.F.binds h
theorem cd_mk (F : Fun KF.frag x x st a fd) (S : FnScope N ps (defScope st)) (gm : mg x = some (.ref a))
    (hb : ∀ (cdv : Value) (A : Around) (outer : List Env) (s : Shared) (H : Hp) (E : XK) (c : Cf), GRoom k (A.deeper (envOfC x (defScope st) s.heap.objs.size a cdv)) → c.mg = mg →
      PSs (cxOf (CX P w) P w KF.frag mg base N x (defScope st) a cdv A outer s H E) (defBody st) (SOf (fun cls d _ H => E cls d H) c d)) : CD P w mg base (k + 1) x st ps (mkFn N.length d) a fd := by
  refine ⟨gm, F, ?_⟩
  obtain ⟨oc, od, kV, doc, pm, an, cdv, ct, osl, rfl, lk, hcd⟩ := F.ex
  exact fnd_of lk hcd S rfl fun A outer s H E c hr hmg => hb cdv A outer s H E c hr hmg
end
end L2.Dl

namespace L2.Dl
open PySem
open PySem.Spec
open PyProof.Rows

section
variable {a b : DS} {d da db : DE} {l : DL} {t : DT} {env e e1 e2 e3 : Nv} {R : SRes} {o o2 : OV} {x y z : PyData} {xs ys : List PyData} {k : Bool} {i j : Nat} {g : PyData → PyData → Option PyData}
theorem seqE (h : a env = .nx e) (h2 : b e = R) : dSeq a b env = R := by unfold dSeq; rw [h]; exact h2
theorem seqR (h : a env = .rt x e) : dSeq a b env = .rt x e := by unfold dSeq; rw [h]; rfl
theorem ifT (h : t env = .ok true e) (h2 : a e = R) : dIfS t a b env = R := by unfold dIfS; rw [h]; exact h2
theorem ifF (h : t env = .ok false e) (h2 : b e = R) : dIfS t a b env = R := by unfold dIfS; rw [h]; exact h2
theorem setE (h : d env = .ok o e) (h1 : slotOf e o = .ok (.v x) e1) (h2 : freeAt e1 i = true) : dSet i (rE d) env = .nx (e1.set i (.v x)) := by
  unfold dSet rE; rw [h]; show ((slotOf e o).bs _) = _; rw [h1]; show setS e1 i _ = _; unfold setS; rw [if_pos h2]
theorem setL (h : l env = .ok xs e) (h2 : freeAt e i = true) : dSet i (rL l) env = .nx (e.set i (.own false xs)) := by
  unfold dSet rL; rw [h]; show setS e i _ = _; unfold setS; rw [if_pos h2]
theorem binE (ha : da env = .ok o e1) (hb : db e1 = .ok o2 e2) (h1 : getOV e2 o = some x) (h2 : getOV e2 o2 = some y) (hg : g x y = some z) : dBin g da db env = .ok (.d z) e2 := by
  unfold dBin; rw [ha]; show ((db e1).bd _) = _; rw [hb]; simp only [Res.bd, h1, h2, hg]
theorem retE (h : d env = .ok o e) (h1 : pinOV e o = some (x, e1)) : dRet d env = .rt x e1 := by
  unfold dRet; rw [h]; show retOf o e = _; unfold retOf; rw [h1]
theorem tE (h : d env = .ok (.d (.bool k)) e) : dT d env = .ok k e := by
  unfold dT; rw [h]; rfl
theorem expE (h : d env = .ok o e) : dExp d env = .nx e := by unfold dExp; rw [h]; rfl
theorem putE (h : da env = .ok o e) (h1 : pinOV e o = some (z, e1)) (h2 : dctAt e1 i = some (k, v)) (h3 : db e1 = .ok o2 e2) (h4 : pinOV e2 o2 = some (x, e3)) {p : Bool} {dv : DV} (h5 : dctAt e3 i = some (p, dv)) (h6 : keyOk dv.t x = true) (h7 : dv.kvs.length < lenB) :
    dDPut i db da env = .nx (e3.set i (.dct p ⟨dv.t, putD dv.kvs x z⟩)) := by
  unfold dDPut; rw [h]; simp only [Res.bs, h1, h2, h3, h4, h5]; rw [if_pos ⟨h6, h7⟩]
theorem consE {r : Nv → Res (List OV)} {os : List OV} (h : d env = .ok o e) (h2 : r e = .ok os e1) : dACons d r env = .ok (o :: os) e1 := by
  unfold dACons; rw [h]; simp only [Res.bd, h2]
theorem callBE {gb : List PyData → Option PyData} {r : Nv → Res (List OV)} {os : List OV} (h : r env = .ok os e) (h1 : getAll e os = some xs) (h2 : gb xs = some z) : dCallB gb r env = .ok (.d z) e := by
  unfold dCallB; rw [h]; simp only [Res.bd, h1, h2]
theorem callNE {gb : List PyData → Option (List PyData)} {r : Nv → Res (List OV)} {os : List OV} (h : r env = .ok os e) (h1 : getAll e os = some xs) (h2 : gb xs = some ys) : dCallN gb r env = .ok ys e := by
  unfold dCallN; rw [h]; simp only [Res.bd, h1, h2]
theorem fzE (h : l env = .ok xs e) : dFz l env = .ok (.d (.list xs)) e := by unfold dFz; rw [h]; rfl
theorem ifeE (h : t env = .ok k e) (h2 : (if k = true then da e else db e) = .ok o e1) : dIfE t da db env = .ok o e1 := by unfold dIfE; rw [h]; exact h2
theorem callE {n : Nat} {fn : Fn} {r : Nv → Res (List OV)} {os : List OV} (h : r env = .ok os e) (hl : os.length = n) (h2 : callOV fn os e = .ok o e1) : dCall n fn [] r env = .ok o e1 := by
  unfold dCall; rw [h]; show (if _ then _ else _) = _
  rw [List.map_nil, List.append_nil, if_pos hl]; exact h2
/-- a call that hands in nothing owned but slot i's dict, and plain things -/
theorem backE_set {os : List OV} {ps' : Nv} {i j : Nat} {s t u : Slot} : ∀ {e : Nv} {n : Nat}, e[i]? = some s → s.owns = true → posO (n + i) os = some j → ps'[j]? = some t → mergeS s t = some u → (∀ m, m ≠ n + i → posO m os = none) →
    backE os ps' e n = some (e.set i u)
  | [], n, h, _, _, _, _, _ => by simp at h
  | s0 :: r, n, h, ho, hp, ht, hm, hn => by
    cases i with
    | zero =>
      simp at h; subst h
      have rest : backE os ps' r (n + 1) = some r := by
        have : ∀ (r : Nv) (q : Nat), n < q → backE os ps' r q = some r := by
          intro r
          induction r with
          | nil => intro q _; rfl
          | cons s1 r ih =>
            intro q hq
            unfold backE
            rw [ih (q + 1) (by omega)]
            simp only [hn q (by omega)]
            split <;> rfl
        exact this r (n + 1) (Nat.lt_succ_self n)
      unfold backE
      rw [rest]
      simp only [ho, if_true]
      rw [show n + 0 = n from rfl] at hp
      simp only [hp, ht, hm]
      rfl
    | succ i =>
      unfold backE
      have := backE_set (n := n + 1) (e := r) (i := i) (by simpa using h) ho (by rw [show n + 1 + i = n + (i + 1) by omega]; exact hp) ht hm (fun m hm' => hn m (by omega))
      rw [this]
      simp only [hn n (by omega)]
      split <;> rfl
theorem isSl_at {i : Nat} {o : OV} (h : isSl i o = true) : o = .sl i := by
  cases o with
  | sl j => simp [isSl] at h; rw [h]
  | d x => cases h
  | gl n => cases h
theorem posO_at {i j : Nat} {os : List OV} (h : posO i os = some j) : os[j]? = some (.sl i) := by
  unfold posO at h
  obtain ⟨hl, h1, _⟩ := List.findIdx?_eq_some_iff_getElem.mp h
  rw [List.getElem?_eq_getElem hl, isSl_at h1]
theorem posO_self {i : Nat} {r : List OV} : posO i (.sl i :: r) = some 0 := by simp [posO, isSl, List.findIdx?_cons]
theorem posO_d {i : Nat} {x : PyData} {r : List OV} (h : posO i r = none) : posO i (.d x :: r) = none := by
  unfold posO at *; rw [List.findIdx?_cons]; simp only [isSl, Bool.false_eq_true, if_false, h, Option.map_none]
theorem posO_ne {i j : Nat} {r : List OV} (hj : j ≠ i) (h : posO j r = none) : posO j (.sl i :: r) = none := by
  unfold posO at *; rw [List.findIdx?_cons]; simp only [isSl, beq_eq_false_iff_ne.mpr hj, Bool.false_eq_true, if_false, h, Option.map_none]
theorem posO_nil {i : Nat} : posO i [] = none := rfl
/-- draw(feed, many) -/
theorem call_dv {fn : Fn} {i : Nat} {p : Bool} {dv dv' : DV} {x y : PyData} {l : Nv} {q : Slot} (he : e[i]? = some (.dct p dv)) (hf : fn [.dct true dv, .v x] = .ok (.d y) [.dct true dv', q]) : callOV fn [.sl i, .d x] e = .ok (.d y) (e.set i (.dct p dv')) := by
  unfold callOV
  rw [if_pos (by simp [apartO, isSl])]
  have : argL e [.sl i, .d x] = some [.dct true dv, .v x] := by simp [argL, argS, he]
  rw [this]
  simp only [hf]
  unfold backO
  rw [backE_set (n := 0) (i := i) (j := 0) he rfl (by rw [Nat.zero_add]; exact posO_self) rfl rfl (fun m hm => posO_ne (by omega) (posO_d posO_nil))]
/-- a call that hands in nothing owned -/
theorem backE_id {os : List OV} {ps' : Nv} : ∀ {e : Nv} {n : Nat}, (∀ i s, e[i]? = some s → s.owns = true → posO (n + i) os = none) → backE os ps' e n = some e
  | [], n, h => rfl
  | s :: r, n, h => by
    unfold backE
    rw [backE_id (n := n + 1) (e := r) fun i s e o => by rw [show n + 1 + i = n + (i + 1) by omega]; exact h (i + 1) s (by simpa using e) o]
    simp only []
    split
    · rename_i ho
      have := h 0 s rfl ho
      rw [show n + 0 = n from rfl] at this
      simp only [this]
    · rfl
def plainO (e : Nv) : OV → Bool
  | .sl i => !ownsAt e i
  | _ => true
theorem call_plain {fn : Fn} {os : List OV} {ps l : Nv} {y : PyData} (hp : os.all (plainO e) = true) (ha : argL e os = some ps) (hf : fn ps = .ok (.d y) l) : callOV fn os e = .ok (.d y) e := by
  have hp' : ∀ o ∈ os, plainO e o = true := List.all_eq_true.mp hp
  have ap : ∀ {os : List OV}, (∀ o ∈ os, plainO e o = true) → apartO e os = true := by
    intro os
    induction os with
    | nil => intro _; rfl
    | cons o r ih =>
      intro h
      have h1 := h o (List.mem_cons_self ..)
      have h2 := ih fun o ho => h o (List.mem_cons_of_mem _ ho)
      cases o with
      | sl i => unfold apartO; simp only [plainO] at h1; rw [h1, h2]; rfl
      | d x => unfold apartO; exact h2
      | gl n => unfold apartO; exact h2
  unfold callOV
  rw [if_pos (ap hp'), ha]
  simp only [hf]
  unfold backO
  rw [backE_id fun i s e1 o => ?_]
  cases q : posO (0 + i) os with
  | none => rfl
  | some j =>
    have hj := posO_at q
    have := hp' _ (List.mem_of_getElem? hj)
    rw [Nat.zero_add] at this
    simp only [plainO, ownsAt, e1, o] at this
    cases this
end
section
variable {p : Pat} {b : DS} {t : DT} {it : DI} {env e e1 : Nv} {R : SRes} {xs : List PyData} {x : PyData}
theorem forE (h : it env = .ok xs e) (h2 : forL p b xs e = R) : dFor it p b env = R := by unfold dFor; rw [h]; exact h2
/-- a loop that runs through: J stands ahead of each turn -/
theorem forL_inv (J : Nat → Nv → Prop) : ∀ (xs : List PyData) (i : Nat) (env : Nv), J i env → (∀ k x e, xs[k]? = some x → J (i + k) e → ∃ e1 e2, asgP p x e = some e1 ∧ b e1 = .nx e2 ∧ J (i + k + 1) e2) → ∃ e', forL p b xs env = .nx e' ∧ J (i + xs.length) e'
  | [], i, env, h, _ => ⟨env, rfl, h⟩
  | x :: r, i, env, h, hs => by
    obtain ⟨e1, e2, k1, k2, k3⟩ := hs 0 x env rfl h
    obtain ⟨e', h1, h2⟩ := forL_inv J r (i + 1) e2 k3 fun k y e hk hj => by
      have := hs (k + 1) y e (by simpa using hk) (by rw [show i + (k + 1) = i + 1 + k by omega]; exact hj)
      rw [show i + (k + 1) = i + 1 + k by omega] at this
      exact this
    refine ⟨e', ?_, by rw [List.length_cons, show i + (r.length + 1) = i + 1 + r.length by omega]; exact h2⟩
    unfold forL
    simp only [k1, k2]
    exact h1
theorem whileF {n : Nat} (h : t env = .ok false e) : whileN t b (n + 1) env = .nx e := by unfold whileN; rw [h]; rfl
theorem whileT {n : Nat} (h : t env = .ok true e) (h2 : b e = .nx e1) (h3 : whileN t b n e1 = R) : whileN t b (n + 1) env = R := by
  unfold whileN; rw [h]; simp only [Res.bs, if_true, h2]; exact h3
theorem rangeL_get {lo : Int} {n k : Nat} {x : PyData} (h : (rangeL lo n)[k]? = some x) : k < n ∧ x = .int (lo + (k : Nat)) := by
  unfold rangeL at h
  rw [List.getElem?_map] at h
  by_cases hk : k < n
  · rw [List.getElem?_eq_getElem (by simpa using hk)] at h
    simp at h
    exact ⟨hk, h.symm⟩
  · rw [List.getElem?_eq_none (by simpa using hk)] at h
    cases h
end
end L2.Dl

namespace L2.Dl
open PySem
open PySem.Spec
open PyProof.Rows

section
variable {p : Pat} {t : DT} {d : DE} {it : DI} {env e e1 : Nv} {xs ys : List PyData} {i : Nat} {vs : List Nat}
/-- a comprehension by turns: J stands ahead of each turn, acc is what there is by then -/
theorem lcL_inv (J : Nat → List PyData → Nv → Prop) : ∀ (xs : List PyData) (i : Nat) (acc : List PyData) (e : Nv), J i acc e →
    (∀ k x acc e, xs[k]? = some x → J (i + k) acc e → ∃ e1 b e2, asgP p x e = some e1 ∧ t e1 = .ok b e2 ∧ ((b = false ∧ J (i + k + 1) acc (wipeN e2 vs)) ∨
      (b = true ∧ acc.length < lenB ∧ ∃ o e3 y e4, d e2 = .ok o e3 ∧ pinOV e3 o = some (y, e4) ∧ J (i + k + 1) (acc ++ [y]) (wipeN e4 vs)))) →
    ∃ acc' e', lcL p t d vs xs acc e = .ok acc' e' ∧ J (i + xs.length) acc' e'
  | [], i, acc, e, h, _ => ⟨acc, e, rfl, h⟩
  | x :: r, i, acc, e, h, hs => by
    have go : ∀ acc e, J (i + 1) acc e → ∃ acc' e', lcL p t d vs r acc e = .ok acc' e' ∧ J (i + (x :: r).length) acc' e' := fun acc e hj => by
      obtain ⟨a', e', h1, h2⟩ := lcL_inv J r (i + 1) acc e hj fun k y acc e hk hj => by
        have := hs (k + 1) y acc e (by simpa using hk) (by rw [show i + (k + 1) = i + 1 + k by omega]; exact hj)
        rw [show i + (k + 1) = i + 1 + k by omega] at this
        exact this
      exact ⟨a', e', h1, by rw [List.length_cons, show i + (r.length + 1) = i + 1 + r.length by omega]; exact h2⟩
    obtain ⟨e1, b, e2, k1, k2, k3⟩ := hs 0 x acc e rfl h
    rcases k3 with ⟨rfl, k3⟩ | ⟨rfl, kl, o, e3, y, e4, k3, k4, k5⟩
    · obtain ⟨a', e', h1, h2⟩ := go _ _ k3
      refine ⟨a', e', ?_, h2⟩
      unfold lcL
      simp only [k1, k2, Res.bx, Bool.false_eq_true, if_false]
      exact h1
    · obtain ⟨a', e', h1, h2⟩ := go _ _ k5
      refine ⟨a', e', ?_, h2⟩
      unfold lcL
      simp only [k1, k2, Res.bx, if_true, k3, k4, kl]
      exact h1
theorem lcE {acc' : List PyData} {e' : Nv} (h : it env = .ok xs e) (hp : vs.all (plainAt e) = true) (h2 : lcL p t d vs xs [] (wipeN e vs) = .ok acc' e') : dLc it p t d vs env = .ok acc' (backN e e' vs) := by
  unfold dLc; rw [h]; simp only [Res.bd]; rw [if_pos hp, h2]; rfl
theorem set_same {e : Nv} {i : Nat} {s : Slot} (h : e[i]? = some s) : e.set i s = e := by
  obtain ⟨hl, h⟩ := List.getElem?_eq_some_iff.mp h
  rw [← h]; exact List.set_getElem_self hl
theorem set_set {e : Nv} {i : Nat} {s u : Slot} : (e.set i s).set i u = e.set i u := List.set_set ..
theorem lcL_pure {b : PyData → Bool} {f : PyData → PyData} (he : e[i]? = some .un) : ∀ (xs acc : List PyData), (∀ x ∈ xs, t (e.set i (.v x)) = .ok (b x) (e.set i (.v x))) →
    (∀ x ∈ xs, b x = true → ∃ o, d (e.set i (.v x)) = .ok o (e.set i (.v x)) ∧ pinOV (e.set i (.v x)) o = some (f x, e.set i (.v x))) → acc.length + xs.length ≤ lenB →
    lcL (.nm i) t d [i] xs acc e = .ok (acc ++ (xs.filter b).map f) e
  | [], acc, _, _, _ => by simp [lcL]
  | x :: r, acc, ht, hd, hl => by
    rw [List.length_cons] at hl
    have back : wipeN (e.set i (.v x)) [i] = e := by
      show (e.set i (.v x)).set i .un = e
      rw [set_set, set_same he]
    have h1 : asgP (.nm i) x e = some (e.set i (.v x)) := by
      unfold asgP
      rw [if_pos (by unfold freeAt; rw [he] <;> rfl)]
    unfold lcL
    simp only [h1, ht x (List.mem_cons_self ..), Res.bx]
    cases hb : b x with
    | false =>
      simp only [Bool.false_eq_true, if_false, back]
      rw [lcL_pure he r acc (fun y hy => ht y (List.mem_cons_of_mem _ hy)) (fun y hy => hd y (List.mem_cons_of_mem _ hy)) (by omega), List.filter_cons_of_neg (by simp [hb])]
    | true =>
      obtain ⟨o, h2, h3⟩ := hd x (List.mem_cons_self ..) hb
      simp only [if_true, h2, h3, show acc.length < lenB from by omega, back]
      rw [lcL_pure he r (acc ++ [f x]) (fun y hy => ht y (List.mem_cons_of_mem _ hy)) (fun y hy => hd y (List.mem_cons_of_mem _ hy)) (by rw [List.length_append, List.length_singleton]; omega), List.filter_cons_of_pos hb]
      simp
/-- [f(x) for x in xs if b(x)], nothing else changes -/
theorem lc_pure {b : PyData → Bool} {f : PyData → PyData} (h : it env = .ok xs e) (hp : plainAt e i = true) (ht : ∀ x ∈ xs, t (e.set i (.v x)) = .ok (b x) (e.set i (.v x)))
    (hd : ∀ x ∈ xs, b x = true → ∃ o, d (e.set i (.v x)) = .ok o (e.set i (.v x)) ∧ pinOV (e.set i (.v x)) o = some (f x, e.set i (.v x))) (hl : xs.length ≤ lenB) : dLc it (.nm i) t d [i] env = .ok ((xs.filter b).map f) e := by
  have hi : i < e.length := by
    unfold plainAt at hp
    cases q : e[i]? with
    | none => rw [q] at hp; cases hp
    | some s => exact (List.getElem?_eq_some_iff.mp q).1
  have := lcE (p := .nm i) (t := t) (d := d) (vs := [i]) h (by simp [hp]) (lcL_pure (e := e.set i .un) (b := b) (f := f) (List.getElem?_set_self hi) xs [] (fun x hx => by rw [set_set]; exact ht x hx) (fun x hx hb => by rw [set_set]; exact hd x hx hb) (by simpa using hl))
  rw [this, List.nil_append]
  congr 1
  show (e.set i .un).set i (e.getD i .un) = e
  rw [set_set]
  exact set_same (by rw [List.getD_eq_getElem?_getD, List.getElem?_eq_getElem hi] <;> rfl)
end
end L2.Dl

namespace L2.Dl
open PySem
open PySem.Spec
open PyProof.Rows

theorem piled_le {b : Nat} : ∀ ts : List Str, (∀ t ∈ ts, t.length ≤ b) → piled ts ≤ (b + 2) * ts.length
  | [], _ => by simp [piled]
  | t :: r, h => by
    rw [piled_cons]
    have h1 := h t (List.mem_cons_self ..)
    have h2 := piled_le r fun t ht => h t (List.mem_cons_of_mem _ ht)
    rw [List.length_cons, Nat.mul_add, Nat.mul_one]
    omega
theorem tupleText_le (ts : List Str) : (tupleText ts).length ≤ piled ts + 3 := by
  unfold tupleText
  rw [strLen_append, strLen_append]
  have h1 : (("(" : String) : Str).length = 1 := rfl
  have h3 : ((if (ts.length == 1) = true then ",)" else ")" : String) : Str).length ≤ 2 := by
    split
    · exact Nat.le_refl 2
    · exact (by decide : 1 ≤ 2)
  have h2 : (Str.join ", " ts).length ≤ piled ts := by
    cases ts with
    | nil => exact Nat.zero_le _
    | cons t r => have := join_length_add (t :: r) (by simp); omega
  rw [h1]
  omega
theorem textFrom_le : ∀ (ts : List Str) (k : Nat) (acc : Str), (textFrom k acc ts).length ≤ acc.length + piled ts
  | [], k, acc => Nat.le_add_right _ _
  | t :: r, k, acc => by
    have ih := textFrom_le r (k + 1) (acc ++ (if k > 0 then ", " else "" : String) ++ t)
    have e : (acc ++ (if k > 0 then ", " else "" : String) ++ t).length ≤ acc.length + 2 + t.length := by
      rw [strLen_append, strLen_append]
      split
      · exact Nat.le_refl _
      · show acc.length + 0 + t.length ≤ _; omega
    rw [piled_cons]
    show (textFrom (k + 1) (acc ++ (if k > 0 then ", " else "" : String) ++ t) r).length ≤ _
    omega
theorem listText_le (ts : List Str) : (listText ts).length ≤ piled ts + 2 := by
  unfold listText
  rw [strLen_append]
  have := textFrom_le ts 0 "["
  have h1 : (("[" : String) : Str).length = 1 := rfl
  have h2 : (("]" : String) : Str).length = 1 := rfl
  omega
structure ROk (n d : Nat) (x : PyData) : Prop where
  sh : x.showable = true
  le : x.shown.length ≤ n
  dp : x.depth ≤ d
  nd : x.hasDict = false
theorem ROk.mono {n m d e : Nat} {x : PyData} (h : ROk n d x) (h1 : n ≤ m) (h2 : d ≤ e) : ROk m e x := ⟨h.sh, Nat.le_trans h.le h1, Nat.le_trans h.dp h2, h.nd⟩
theorem rok_all {n d : Nat} : ∀ {xs : List PyData}, (∀ x ∈ xs, ROk n d x) → PyData.showableAll xs = true ∧ (∀ t ∈ PyData.shownAll xs, t.length ≤ n) ∧ PyData.depthAll xs ≤ d ∧ PyData.hasDictAll xs = false ∧ (PyData.shownAll xs).length = xs.length
  | [], _ => ⟨rfl, (fun t h => nomatch h), Nat.zero_le _, rfl, rfl⟩
  | x :: r, h => by
    have h1 := h x (List.mem_cons_self ..)
    obtain ⟨a, b, c, e, f⟩ := rok_all fun y hy => h y (List.mem_cons_of_mem _ hy)
    refine ⟨?_, fun t ht => ?_, Nat.max_le.mpr ⟨h1.dp, c⟩, ?_, ?_⟩
    · show (x.showable && PyData.showableAll r) = true; rw [h1.sh, a]; rfl
    · rcases List.mem_cons.mp (show t ∈ x.shown :: PyData.shownAll r from ht) with e | ht
      · rw [e]; exact h1.le
      · exact b t ht
    · show (x.hasDict || PyData.hasDictAll r) = false; rw [h1.nd, e]; rfl
    · show (PyData.shownAll r).length + 1 = r.length + 1; rw [f]
theorem rok_tup {n d : Nat} {xs : List PyData} (h : ∀ x ∈ xs, ROk n d x) : ROk ((n + 2) * xs.length + 3) (d + 1) (.tuple xs) := by
  obtain ⟨a, b, c, e, f⟩ := rok_all h
  refine ⟨a, ?_, Nat.succ_le_succ c, e⟩
  have h1 := tupleText_le (PyData.shownAll xs)
  have h2 := piled_le _ b
  rw [f] at h2
  exact Nat.le_trans h1 (Nat.add_le_add_right h2 3)
theorem rok_lst {n d : Nat} {xs : List PyData} (h : ∀ x ∈ xs, ROk n d x) : ROk ((n + 2) * xs.length + 3) (d + 1) (.list xs) := by
  obtain ⟨a, b, c, e, f⟩ := rok_all h
  refine ⟨a, ?_, Nat.succ_le_succ c, e⟩
  have h1 := listText_le (PyData.shownAll xs)
  have h2 := piled_le _ b
  rw [f] at h2
  have : (listText (PyData.shownAll xs)).length ≤ (n + 2) * xs.length + 3 := by omega
  exact this
theorem ROk.repr {n d : Nat} {x : PyData} (h : ROk n d x) (h1 : n ≤ lenB) (h2 : d ≤ 100) : gRepr [x] = some (.str x.shown) :=
  if_pos ⟨h.sh, Nat.le_trans h.le h1, Nat.le_trans h.dp h2, h.nd⟩
section
variable {r q : DR} {t : DT} {env e e1 e2 : Nv} {s u : Slot} {i j : Nat} {o : OV} {d da : DE} {x z : PyData} {xs ys : List PyData}
theorem parE (h1 : r env = .ok s e) (h2 : q e = .ok u e1) (hij : i ≠ j) (f1 : freeAt e1 i = true) (f2 : freeAt e1 j = true) : dPar i j r q env = .nx ((e1.set i s).set j u) := by
  unfold dPar; rw [h1]; simp only [Res.bs]; rw [h2]; simp only []; rw [if_pos ⟨hij, f1, f2⟩]
theorem rEE (h : d env = .ok o e) (h1 : slotOf e o = .ok (.v x) e1) : rE d env = .ok (.v x) e1 := by unfold rE; rw [h]; exact h1
theorem extE {w : Bool × List PyData} {p : Bool} (h0 : ownAt env i = some w) (h : d env = .ok o e) (h1 : getOV e o = some (.list ys)) (h2 : ownAt e i = some (p, xs)) (h3 : xs.length + ys.length ≤ lenB) : dExt i d env = .ok (.d .none) (e.set i (.own p (xs ++ ys))) := by
  unfold dExt; simp only [h0, h, Res.bd, h1, h2, h3, if_true]
theorem callWE {n n1 m : Nat} {fn : Fn} {ix : List Nat} {ra rk : Nv → Res (List OV)} {os zs : List OV} (h : ra env = .ok os e) (h2 : rk e = .ok zs e1) (hl : os.length = n1 ∧ zs.length = m ∧ (pick ix (os ++ zs)).length = n) (h3 : callOV fn (pick ix (os ++ zs)) e1 = .ok o e2) : dCallW n fn n1 m ix [] ra rk env = .ok o e2 := by
  unfold dCallW; rw [h]; simp only [Res.bd, h2, List.map_nil, List.append_nil]
  rw [if_pos hl]; exact h3
theorem backE_gen {os : List OV} {ps' : Nv} : ∀ {e e' : Nv} {n : Nat}, e'.length = e.length → (∀ (m : Nat) (s : Slot), e[m]? = some s → s.owns = false → e'[m]? = some s) →
    (∀ (m : Nat) (s : Slot), e[m]? = some s → s.owns = true → (posO (n + m) os = none ∧ e'[m]? = some s) ∨ ∃ j u t, posO (n + m) os = some j ∧ ps'[j]? = some u ∧ mergeS s u = some t ∧ e'[m]? = some t) → backE os ps' e n = some e'
  | [], e', n, hl, _, _ => by
    obtain rfl := List.length_eq_zero_iff.mp hl
    rfl
  | s :: r, [], n, hl, _, _ => by simp at hl
  | s :: r, s' :: r', n, hl, h1, h2 => by
    have ih := backE_gen (e := r) (e' := r') (n := n + 1) (by simpa using hl) (fun m t hm => by simpa using h1 (m + 1) t (by simpa using hm)) (fun m t hm ho => by
      have := h2 (m + 1) t (by simpa using hm) ho
      rw [show n + (m + 1) = n + 1 + m by omega] at this
      simpa using this)
    unfold backE
    rw [ih]
    simp only []
    by_cases ho : s.owns = true
    · rw [if_pos ho]
      rcases h2 0 s rfl ho with ⟨k1, k2⟩ | ⟨j, u, t, k1, k2, k3, k4⟩
      · rw [show n + 0 = n from rfl] at k1
        simp at k2
        simp only [k1, k2]
      · rw [show n + 0 = n from rfl] at k1
        simp at k4
        simp only [k1, k2, k3, k4]
    · rw [if_neg ho]
      have := h1 0 s rfl (by simpa using ho)
      simp at this
      rw [this]
theorem callE2 {fn : Fn} {os : List OV} {ps l e' : Nv} {y : PyData} (ap : apartO e os = true) (ha : argL e os = some ps) (hf : fn ps = .ok (.d y) l) (hb : backE os l e 0 = some e') : callOV fn os e = .ok (.d y) e' := by
  unfold callOV
  rw [if_pos ap, ha]
  simp only [hf]
  unfold backO
  rw [hb]
end
end L2.Dl

namespace L2.Dl
open PySem
open PySem.Spec
open PyProof.Rows

theorem meetsEnum1 {v : Value} {o : Obj} {H : Heap → Prop} (B : Begins v o H) :
    Meets (Builtin.«enumerate.__new__» ⟨[.type "enumerate", v], []⟩) (fun _ R s => H s.heap ∧
      R (.ok (.ret (.ref (s.heap.push o).objs.size))) { s with heap := (s.heap.push o).push { cls := .type "enumerate", data := .fields #[.none, .bool false, .ref s.heap.objs.size, rawInt 0, .none, .none] } }) :=
  .of_wp fun prog w A R s h => by
    obtain ⟨hp, gn, d, tok, os⟩ := s
    obtain ⟨h1, h⟩ := h
    have hsub := sub_enumerate
    have iter : ∀ {A' : Around} {E : Value → Shared → Prop} {Q : Value → Shared → Prop}, Q (.ref hp.objs.size) ⟨hp.push o, gn, d, tok, os⟩ → wpAny (model prog w) A' (pyIter v) Q E ⟨hp, gn, d, tok, os⟩ :=
      fun q => B.iter prog w _ _ ⟨hp, gn, d, tok, os⟩ _ h1 q
    wp_walk using iter
    refine wpAny_stack_any fun st => wpAny_pure ?_
    split
    · rename_i k _ _ _ _ _
      cases (k == Value.type "enumerate")
      · wp_walk using iter
        exact ⟨_, rfl, h⟩
      · wp_walk using iter
        exact ⟨_, rfl, h⟩
    · wp_walk using iter
      exact ⟨_, rfl, h⟩
theorem callEnum1 {prog : Program} {w : World} {A : Around} {E : Value → Shared → Prop} {s : Shared} {v : Value} {o : Obj} {H : Heap → Prop} {Q : Value → Shared → Prop} (B : Begins v o H) (h1 : H s.heap)
    (h : ∀ h', IsEnum h' (s.heap.objs.size + 1) s.heap.objs.size 0 .none → h'.get? s.heap.objs.size = some o → h'.objs.size = s.heap.objs.size + 2 →
      (∀ b o, s.heap.get? b = some o → h'.get? b = some o) → Q (.ref (s.heap.objs.size + 1)) { s with heap := h' }) :
    wpAny (model prog w) A (call (.type "enumerate") [v]) Q E s := by
  refine callType_new F.called_enumerate (by decide) (F.typeCall_enumerate_1 _) (F.newCall_enumerate_1 _) (fun obj => F.args_object_init_2 obj _) F.entry_enumerate_new (meetsEnum1 B) ⟨h1, ?_⟩
  have size1 : (s.heap.push o).objs.size = s.heap.objs.size + 1 := Heap.size_push ..
  show _ ∧ _
  rw [size1]
  have en : IsEnum ((s.heap.push o).push { cls := .type "enumerate", data := .fields #[.none, .bool false, .ref s.heap.objs.size, rawInt 0, .none, .none] }) (s.heap.objs.size + 1) s.heap.objs.size 0 .none := by
    have e := Heap.get?_push_size (s.heap.push o) (o := { cls := .type "enumerate", data := .fields #[.none, .bool false, .ref s.heap.objs.size, rawInt 0, .none, .none] }) rfl
    rw [size1] at e
    exact e
  refine ⟨⟨_, en, rfl⟩, h _ en (Heap.get?_push_of_some _ (Heap.get?_push_size _ B.free)) (by rw [Heap.size_push, size1]) fun b u x => Heap.get?_push_of_some _ (Heap.get?_push_of_some _ x)⟩
/-- the tuple at a, each item in a new pair -/
def Itet (K : PySem.W.Frag) (a : Addr) : It :=
  ⟨fun i H => ∃ (xs : List V) (x : V), SqT K H a xs ∧ xs[i]? = some x, fun i H v H' => ∃ T x, v = .ref T ∧ H T = none ∧ H' = upd H T (.tup [.int (i : Nat), x]) ∧ ∀ xs, SqT K H a xs → xs[i]? = some x, fun i H => ∃ xs : List V, SqT K H a xs ∧ xs.length = i⟩
theorem turnEnumT {P : Program} {w : World} {K : PySem.W.Frag} {elts : List Expr} {kk : Nat} {tpos : Pos} (a e it : Addr) :
    Turn P w K (.Tuple elts kk tpos) (Itet K a) [e, it] e (fun i h => (∃ old, IsEnum h e it ((i : Nat) : Int) old) ∧ h.IsTupleIter it a i ∧ e ≠ it ∧ e ≠ a ∧ a ≠ it) where
  mem := by simp
  obj := fun i h st b hb => by
    obtain ⟨⟨old, he⟩, ⟨o, ho, hc, hd⟩, _⟩ := st
    rcases (show b = e ∨ b = it by simpa using hb) with rfl | rfl
    · exact ⟨_, he, fun v q => nomatch q⟩
    · exact ⟨o, ho, fun v q => by rw [hd] at q; cases q⟩
  keep := fun i h h' st k => let ⟨⟨old, he⟩, hi, hne⟩ := st; ⟨⟨old, k e (by simp) _ he⟩, hi.at fun o q => k it (by simp) o q, hne⟩
  item := by
    intro X hP hw hK hc i pins s σ H E I hf st hg
    subst hP hw hK
    obtain ⟨⟨old, he⟩, hit, hne, hea, hai⟩ := st
    obtain ⟨xs, x, hq, hx⟩ := hg
    obtain ⟨its, rv, p, hz⟩ := I.tuple hq
    obtain ⟨u, hu, ru⟩ := rv.get hx
    have hel : e < s.heap.objs.size := Heap.lt_size he
    have hil : it < s.heap.objs.size := by obtain ⟨_, q, _⟩ := hit; exact Heap.lt_size q
    have hin : i < its.length := (List.getElem?_eq_some_iff.mp hu).1
    refine wpAny_pyNext_enum_itemC (Draws.tuple (prog := X.prog) (w := X.w) (A := X.A.in1) (I.ok.hd hc) it a hai its.toArray) he ⟨hit, p⟩ (by simpa using hin) hne (by simp [hne, hea]) fun u' h' tk hP ho hs' hT hsz hk => ?_
    obtain rfl : u = u' := by
      have : its.toArray[i]? = some u' := hP
      rw [show its.toArray[i]? = its[i]? by simp, hu] at this
      exact Option.some.inj this
    refine ⟨_, rfl, wpAny_letOwnedTupleGo_enum (s := { s with heap := h', toks := tk + 1 }) ho fun h'' he' sb => ?_⟩
    have hT2 : h''.get? s.heap.objs.size = some { cls := .type "tuple", data := .seq #[.int i tk, u] } := (sb.2 _ (Nat.ne_of_gt hel)).trans hT
    have new : ObjOk X.prog X.w (upd H s.heap.objs.size (.tup [.int (i : Nat), x])) h'' s.heap.objs.size (.tup [.int (i : Nat), x]) :=
      ⟨by show 2 ≤ sizeLine; decide, [.int i tk, u], .cons ⟨_, rfl⟩ (.cons ru .nil), ⟨_, hT2, rfl, _, rfl⟩⟩
    have I1 : Inv X pins σ (upd H s.heap.objs.size (.tup [.int (i : Nat), x])) { s with heap := h'', toks := tk + 1 } :=
      I.turnedNew (ch := [e, it]) (fun b ob hb q => (sb.2 b (fun z => hb (by simp [z]))).trans (hk b ob (fun z => hb (by simp [z])) (fun z => hb (by simp [z])) q)) hf (Nat.le_refl _) new
    refine ⟨.ref s.heap.objs.size, _, I1, rfl, ⟨_, x, rfl, I.hok.fresh (Nat.le_refl _), rfl, fun ys hy => by rw [I.tuple_inj hy hq]; exact hx⟩, ⟨⟨u, ?_⟩, hs'.1.at fun o q => (sb.2 it (Ne.symm hne)).trans q, hne, hea, hai⟩, fun b hb => ?_⟩
    · rw [show ((i + 1 : Nat) : Int) = (i : Int) + 1 by omega]
      exact he'
    · have lt : b < s.heap.objs.size := by
        rcases (show b = e ∨ b = it by simpa using hb) with rfl | rfl
        · exact hel
        · exact hil
      rw [upd_ne (Nat.ne_of_lt lt)]
      exact (hf b hb).1
  done := by
    intro X hP hw hK hc i pins s σ H E I hf st hg
    subst hP hw hK
    obtain ⟨⟨old, he⟩, hit, hne, hea, hai⟩ := st
    obtain ⟨xs, hq, hx⟩ := hg
    obtain ⟨its, rv, p, hz⟩ := I.tuple hq
    obtain ⟨f0, f1, f2, f3, f4, f5⟩ := hf it (by simp)
    have hl : its.toArray.size = i := by rw [List.size_toArray, ← rv.length]; exact hx
    subst hl
    exact wpAny_pyNext_enum_endD (Draws.tuple (prog := X.prog) (w := X.w) (A := X.A.in1) (I.ok.hd hc) it a hai its.toArray) he ⟨hit, p⟩ fun h' eb => ⟨rfl, I.turned (t' := s.toks) (fun b o hb q => eb b o hb q) f0 f1 f3 f4 f5⟩
  self := fun A i s Q E st h => let ⟨⟨_, he⟩, _⟩ := st; wpAny_pyIter_enum he h
def iEnumT (K : PySem.W.Frag) (ta : TA) : TI := fun σ H R => ta σ H fun vs H1 => ∃ a xs, vs = [.ref a] ∧ SqT K H1 a xs ∧ R (Itet K a) H1
theorem piEnumT {X : Cx} {e : Expr} {ta : TA} {p pos tpos : Pos} {elts : List Expr} {kk : Nat} (hg : Gl X "enumerate") (hm : X.mg "enumerate" = none) (ha : PA X [e] ta) (hs : starEach [e] X.env = [(false, eval e X.env)] := by rfl) :
    PI X (.Tuple elts kk tpos) (.Call (.Name "enumerate" p) [e] [] pos) (iEnumT X.K ta) := by
  refine ⟨fun pins s σ H R I h => ?_⟩
  refine Call_ (ld_blt I hg hm boot_enumerate (PyProof.Rows.callWith_type1 (thn (ha.run pos pins s σ H _ I h) fun us s1 ⟨vs, H1, I1, r1, a, xs, ex, hq, q⟩ => ?_) hs rfl))
  subst ex
  obtain ⟨u, rfl, ru⟩ := vals1 r1
  obtain rfl : u = Value.ref a := ru
  obtain ⟨its, rv, p', hz⟩ := I1.tuple hq
  have hal : a < s1.heap.objs.size := by obtain ⟨o, e, _⟩ := p'; exact Heap.lt_size e
  refine callEnum1 (begins_tuple a its.toArray) p' fun h' he hit hsz hk => wpAny_pyIter_enum he ?_
  have I2 : Inv X pins σ H1 { s1 with heap := h' } := I1.kept (t' := s1.toks) hk
  refine ⟨s1.heap.objs.size + 1, [s1.heap.objs.size + 1, s1.heap.objs.size], _, _, H1, rfl, I2, turnEnumT a (s1.heap.objs.size + 1) s1.heap.objs.size, ⟨⟨.none, he⟩, ⟨_, hit, rfl, rfl⟩, Nat.succ_ne_self _, Nat.ne_of_gt (Nat.lt_succ_of_lt hal), Nat.ne_of_lt hal⟩, fun b hb => ?_, q⟩
  have hle : s1.heap.objs.size ≤ b := by
    rcases (show b = s1.heap.objs.size + 1 ∨ b = s1.heap.objs.size by simpa using hb) with rfl | rfl
    · exact Nat.le_add_right _ _
    · exact Nat.le_refl _
  exact I1.fpOk hle (I1.hok.fresh hle)
def enumL : Nat → List PyData → List PyData
  | _, [] => []
  | i, x :: r => .tuple [.int (i : Nat), x] :: enumL (i + 1) r
theorem enumL_len : ∀ (i : Nat) (xs : List PyData), (enumL i xs).length = xs.length
  | _, [] => rfl
  | i, x :: r => congrArg Nat.succ (enumL_len (i + 1) r)
theorem enumL_get : ∀ (xs : List PyData) (i j : Nat) (x : PyData), xs[j]? = some x → (enumL i xs)[j]? = some (.tuple [.int ((i + j : Nat) : Int), x])
  | [], _, _, _, h => by simp at h
  | y :: r, i, 0, x, h => by simp at h; subst h; rfl
  | y :: r, i, j + 1, x, h => by
    have := enumL_get r (i + 1) j x (by simpa using h)
    rw [show i + 1 + j = i + (j + 1) by omega] at this
    simpa [enumL] using this
def enumOf (o : OV) (e : Nv) : Res (List PyData) := (itOf o e).bd fun xs e' => .ok (enumL 0 xs) e'
def dEnum (d : DE) : DI := fun env => (d env).bd enumOf
theorem walkEnumT {K : PySem.W.Frag} {a : Addr} {xs : List V} : Walk (Itet K a) xs.length (fun H => SqT K H a xs) (fun i H v H' => ∃ T x, v = .ref T ∧ H T = none ∧ H' = upd H T (.tup [.int (i : Nat), x]) ∧ xs[i]? = some x) :=
  ⟨fun i _ hi q => ⟨xs, xs[i], q, by simp [hi]⟩, fun _ q => ⟨xs, q, rfl⟩, fun _ _ _ _ _ q ⟨T, x, e, h, h', y⟩ => ⟨T, x, e, h, h', y xs q⟩⟩
theorem walkEnumL {K : PySem.W.Frag} {a : Addr} {xs : List V} : Walk (Ite K a) xs.length (fun H => SqL K H a xs) (fun i H v H' => ∃ T x, v = .ref T ∧ H T = none ∧ H' = upd H T (.tup [.int (i : Nat), x]) ∧ xs[i]? = some x) :=
  ⟨fun i _ hi q => ⟨xs, xs[i], q, by simp [hi]⟩, fun _ q => ⟨xs, q, Nat.le_refl _⟩, fun _ _ _ _ _ q ⟨T, x, e, h, h', y⟩ => ⟨T, x, e, h, h', y xs q⟩⟩
section
variable [KF]
theorem drwEnum {c : Cf} {D : Hp} {J : It} {G : Hp → Prop} {vs : List V} {xs : List PyData} (w : Walk J vs.length G (fun i H v H' => ∃ T x, v = .ref T ∧ H T = none ∧ H' = upd H T (.tup [.int (i : Nat), x]) ∧ vs[i]? = some x)) (hG : ∀ D' env σ H, Same D D' → Sim c D' env σ H → G H) (r : RpL D vs xs) : Drw c D J (enumL 0 xs) :=
  ⟨_, _, by rw [enumL_len, ← r.length]; exact w, hG, fun i H v H1 D' env σ hi s S z => by
    obtain ⟨T, x, e1, e2, e3, e4⟩ := z
    obtain ⟨y, h1, h2⟩ := (r.mono s).get e4
    subst e1
    refine ⟨.tuple [.int (i : Nat), y], by rw [enumL_get xs 0 i y h1, Nat.zero_add], ?_⟩
    rw [e3]
    exact .tup e2 (.cons (.int _) (.cons h2 .nil))⟩
variable {X : Cx} {W : WX} {c : Cf} {e : Expr} {d : DE} {p pos tpos : Pos} {elts : List Expr} {kk : Nat}
theorem di_enum (hK : KF.frag = X.K) (hg : Gl X "enumerate") (hm : X.mg "enumerate" = none) (he : PE X e (EOf W c d)) (hs : starEach [e] X.env = [(false, eval e X.env)] := by rfl) : PI X (.Tuple elts kk tpos) (.Call (.Name "enumerate" p) [e] [] pos) (IOf W c (dEnum d)) :=
  ((pi_enum hg hm (pa_cons he pa_nil hs) hs).or (piEnumT hg hm (pa_cons he pa_nil hs) hs)).weak fun σ H R ⟨D, env, S, p⟩ => by
    have p : PostI W c D σ R ((d env).bd enumOf) := p
    cases g : d env with
    | stuck => rw [g] at p; exact p.elim
    | exc y e => rw [g] at p; exact .inl ⟨D, env, S, by rw [g]; exact p⟩
    | ok o e1 =>
      rw [g] at p
      have p : PostI W c D σ R ((itOf o e1).bd fun xs e' => .ok (enumL 0 xs) e') := p
      unfold itOf at p
      split at p
      · rename_i xs e2 hp
        refine .inl ⟨D, env, S, ?_⟩
        rw [g]
        intro v H1 D1 S1 s1 r1
        obtain ⟨D2, S2, s2, r2⟩ := S1.pin r1 hp
        cases r2 with
        | @lst a vs _ k1 k2 => exact ⟨a, vs, rfl, .of (S2.dh _ _ k1), p _ H1 D2 S2 (s1.trans s2) (drwEnum walkEnumL (fun D' env σ H s S => SqL.of (S.dh _ _ (s _ _ k1))) k2)⟩
      · rename_i xs e2 hp
        refine .inr ⟨D, env, S, ?_⟩
        rw [g]
        intro v H1 D1 S1 s1 r1
        obtain ⟨D2, S2, s2, r2⟩ := S1.pin r1 hp
        obtain ⟨a, vs, rfl, k1, k2⟩ := r2.tupS
        rw [← hK]
        exact ⟨a, vs, rfl, k1.same S2.dh, p _ H1 D2 S2 (s1.trans s2) (drwEnum walkEnumT (fun D' env σ H s S => (k1.same s).same S.dh) k2)⟩
      · exact p.elim
end
end L2.Dl

namespace L2.Dl
open PySem
open PySem.Spec
open PyProof.Rows
variable [KF]
/-- x is True -/
def gIsB : PyData → PyData → Option PyData
  | .bool a, .bool b => some (.bool (decide (a = b)))
  | _, _ => none
theorem lf_isB : Lf KF.frag (fun x y H Q => ∃ a b, x = .bl a ∧ y = .bl b ∧ Q (.bl (decide (a = b))) H) gIsB := by
  intro D H x y a b z Q s rx ry e q
  cases a <;> try (cases e; done)
  cases b <;> try (cases e; done)
  cases e
  exact ⟨_, _, rx.bl, ry.bl, q _ _ (.of (.bl _))⟩
theorem op_isBD {X : Cx} : OpR X (compareOp .Is) (fun x y H Q => ∃ a b, x = .bl a ∧ y = .bl b ∧ Q (.bl (decide (a = b))) H) := op_is_bl
end L2.Dl

namespace L2.Dl
open PySem
open PySem.Spec
open PyProof.Rows

section
variable {p : Pat} {t : DT} {d : DE} {it : DI} {env e e0 : Nv} {vs : List Nat} {b : PyData → Bool} {f : PyData → PyData} {fe : PyData → Nv}
theorem lcL_gen : ∀ (xs acc : List PyData), (∀ x ∈ xs, asgP p x e = some (fe x) ∧ t (fe x) = .ok (b x) (fe x) ∧ (b x = true → ∃ o, d (fe x) = .ok o (fe x) ∧ pinOV (fe x) o = some (f x, fe x)) ∧ wipeN (fe x) vs = e) → acc.length + xs.length ≤ lenB →
    lcL p t d vs xs acc e = .ok (acc ++ (xs.filter b).map f) e
  | [], acc, _, _ => by simp [lcL]
  | x :: r, acc, h, hl => by
    rw [List.length_cons] at hl
    obtain ⟨h1, h2, h3, h4⟩ := h x (List.mem_cons_self ..)
    unfold lcL
    simp only [h1, h2, Res.bx]
    cases hb : b x with
    | false =>
      simp only [Bool.false_eq_true, if_false, h4]
      rw [lcL_gen r acc (fun y hy => h y (List.mem_cons_of_mem _ hy)) (by omega), List.filter_cons_of_neg (by simp [hb])]
    | true =>
      obtain ⟨o, k2, k3⟩ := h3 hb
      simp only [if_true, k2, k3, show acc.length < lenB from by omega, h4]
      rw [lcL_gen r (acc ++ [f x]) (fun y hy => h y (List.mem_cons_of_mem _ hy)) (by rw [List.length_append, List.length_singleton]; omega), List.filter_cons_of_pos hb]
      simp
theorem lc_gen {xs : List PyData} (h : it env = .ok xs e0) (hp : vs.all (plainAt e0) = true) (he : wipeN e0 vs = e)
    (hx : ∀ x ∈ xs, asgP p x e = some (fe x) ∧ t (fe x) = .ok (b x) (fe x) ∧ (b x = true → ∃ o, d (fe x) = .ok o (fe x) ∧ pinOV (fe x) o = some (f x, fe x)) ∧ wipeN (fe x) vs = e) (hl : xs.length ≤ lenB) (hb : backN e0 e vs = e0) : dLc it p t d vs env = .ok ((xs.filter b).map f) e0 := by
  have := lcE (p := p) (t := t) (d := d) (vs := vs) h hp (by rw [he]; exact lcL_gen xs [] hx (by simpa using hl))
  rw [this, hb, List.nil_append]
end
end L2.Dl

namespace L2.Dl
open PySem
open PySem.Spec
open PyProof.Rows
variable [KF]
section
variable {X : Cx} {W : WX} {c : Cf} {pos : Pos} {tg iter elt : Expr} {ifs : List Expr} {scope : Scope} {own : List (Str × Nat)} {it : DI} {p : Pat} {t : DT} {d : DE}
theorem ds_setLcV {i : Nat} {y : Str} {py spos : Pos} (hc : X.calm = true) (hN : X.N.Nodup) (hy : X.N[i]? = some y) (hyl : X.env.scope.names.lookup y = some .local)
    (hsw : swapsWith (.ListComp elt [⟨tg, iter, ifs, 0⟩] scope pos) (some (.Name y py)) spos.line X.env = pure true) (hi : PI X tg iter (IOf W c it)) (ok : BlkOk X.N X.env.scope scope own) (hv : ∀ i ∈ p.slots, i ∈ own.map (·.2))
    (hg : ∀ (B : Hp) (s : Shared) (H : Hp) (C : Addr) (cl : List (Str × Addr)) (fp : List Addr), PG (X.blk s H scope (compEnvC scope cl C X.env) fp) tg (GOf (c.withB B) p))
    (ht : ∀ (B : Hp) (s : Shared) (H : Hp) (C : Addr) (cl : List (Str × Addr)) (fp : List Addr), PTs (X.blk s H scope (compEnvC scope cl C X.env) fp) ifs (TOf WF (c.withB B) t))
    (he : ∀ (B : Hp) (s : Shared) (H : Hp) (C : Addr) (cl : List (Str × Addr)) (fp : List Addr), PE (X.blk s H scope (compEnvC scope cl C X.env) fp) elt (EOf WF (c.withB B) d)) (hs : ∀ x, foldedSetIterable iter X.env x = pure x := by intro _; rfl) :
    PS X (.Assign [.Name y py] (.ListComp elt [⟨tg, iter, ifs, 0⟩] scope pos) spos) (SOf W c (dSet i (rE (dFz (dLc it p t d (own.map (·.2))))))) :=
  ds_setLc hc hN hy hyl hsw hi ok hv hg ht he false hs
theorem ds_setLcO {i : Nat} {y : Str} {py spos : Pos} (hc : X.calm = true) (hN : X.N.Nodup) (hy : X.N[i]? = some y) (hyl : X.env.scope.names.lookup y = some .local)
    (hsw : swapsWith (.ListComp elt [⟨tg, iter, ifs, 0⟩] scope pos) (some (.Name y py)) spos.line X.env = pure true) (hi : PI X tg iter (IOf W c it)) (ok : BlkOk X.N X.env.scope scope own) (hv : ∀ i ∈ p.slots, i ∈ own.map (·.2))
    (hg : ∀ (B : Hp) (s : Shared) (H : Hp) (C : Addr) (cl : List (Str × Addr)) (fp : List Addr), PG (X.blk s H scope (compEnvC scope cl C X.env) fp) tg (GOf (c.withB B) p))
    (ht : ∀ (B : Hp) (s : Shared) (H : Hp) (C : Addr) (cl : List (Str × Addr)) (fp : List Addr), PTs (X.blk s H scope (compEnvC scope cl C X.env) fp) ifs (TOf WF (c.withB B) t))
    (he : ∀ (B : Hp) (s : Shared) (H : Hp) (C : Addr) (cl : List (Str × Addr)) (fp : List Addr), PE (X.blk s H scope (compEnvC scope cl C X.env) fp) elt (EOf WF (c.withB B) d)) (hs : ∀ x, foldedSetIterable iter X.env x = pure x := by intro _; rfl) :
    PS X (.Assign [.Name y py] (.ListComp elt [⟨tg, iter, ifs, 0⟩] scope pos) spos) (SOf W c (dSet i (rL (dLc it p t d (own.map (·.2)))))) :=
  ds_setLc hc hN hy hyl hsw hi ok hv hg ht he true hs
end
end L2.Dl

namespace K68
open PySem
open PySem.Spec
open PyProof.Rows
open L2
open L2.Dl
def topS (i : Nat) : Stmt := PySem.Challenge.pw_mendlines_k68_seeking.main.body.getD i (.Pass ⟨0, 0, 0, 0⟩)
abbrev s_breach_of : Stmt := topS 1
abbrev N_breach_of : List Str := ["answers", "i", "k", "is_good", "later", "j", "own", "truth"]
abbrev P_breach_of : List Str := ["answers"]
theorem sc_breach_of : FnScope N_breach_of P_breach_of (defScope s_breach_of) := ⟨rfl, rfl, rfl, by decide +kernel, rfl, by decide +kernel, by decide +kernel⟩
def m_breach_of_1 : DS := (dSeq (dSet 4 (rE (dFz (dLc (dEnum (dVar 0)) (.tp (.cons (.nm 5) (.cons (.tp (.cons (.nm 6) (.cons (.nm 7) .nil))) .nil))) (dAndT (dT (dVar 7)) (dT (dBin gGeI (dVar 6) (dVar 2)))) (dVar 5) [5, 6, 7]))))
  (dIfS (dAndT (dNotT (dT (dVar 3))) (dT (dBin gGtI (dCallB gLen (dACons (dVar 4) dANil)) (dC (.int 0))))) (dRet (dTup (dACons (dVar 1) (dACons (dBin gIx (dVar 4) (dC (.int 0))) dANil)))) dNext))
def m_breach_of : DS := (dSeq (dFor (dEnum (dVar 0)) (.tp (.cons (.nm 1) (.cons (.tp (.cons (.nm 2) (.cons (.nm 3) .nil))) .nil))) m_breach_of_1)
  (dRet (dC .none)))
def f_breach_of : Fn := mkFn 8 m_breach_of
abbrev s_seek : Stmt := topS 2
abbrev N_seek : List Str := ["many", "answers", "pair", "low", "k", "is_good", "high"]
abbrev P_seek : List Str := ["many", "answers"]
theorem sc_seek : FnScope N_seek P_seek (defScope s_seek) := ⟨rfl, rfl, rfl, by decide +kernel, rfl, by decide +kernel, by decide +kernel⟩
def m_seek : DS := (dSeq (dSet 2 (rE (dCall 1 f_breach_of [] (dACons (dVar 1) dANil))))
  (dSeq (dIfS (dT (dBin gNotN (dVar 2) (dC .none))) (dRet (dTup (dACons (dC (.str "breach")) (dACons (dVar 2) dANil)))) dNext)
  (dSeq (dSet 3 (rE (dCallB gMaxL (dACons (dBin gAdd (dFz (dLst (dACons (dC (.int 0)) dANil))) (dFz (dLc (dIt (dVar 1)) (.tp (.cons (.nm 4) (.cons (.nm 5) .nil))) (dT (dVar 5)) (dVar 4) [4, 5]))) dANil))))
  (dSeq (dSet 6 (rE (dCallB gMinL (dACons (dBin gAdd (dFz (dLst (dACons (dVar 0) dANil))) (dFz (dLc (dIt (dVar 1)) (.tp (.cons (.nm 4) (.cons (.nm 5) .nil))) (dNotT (dT (dVar 5))) (dVar 4) [4, 5]))) dANil))))
  (dRet (dIfE (dT (dBin gEq (dBin gSubI (dVar 6) (dVar 3)) (dC (.int 1)))) (dTup (dACons (dC (.str "found")) (dACons (dVar 3) dANil))) (dTup (dACons (dC (.str "ask")) (dACons (dBin gAdd (dVar 3) (dBin gDivI (dBin gSubI (dVar 6) (dVar 3)) (dC (.int 2)))) dANil)))))))))
def f_seek : Fn := mkFn 7 m_seek
abbrev s_L_feed : Stmt := topS 4
abbrev N_L_feed : List Str := ["_law_script"]
abbrev P_L_feed : List Str := ["_law_script"]
theorem sc_L_feed : FnScope N_L_feed P_L_feed (defScope s_L_feed) := ⟨rfl, rfl, rfl, by decide +kernel, rfl, by decide +kernel, by decide +kernel⟩
def m_L_feed : DS := (dRetK (dDisp [(.inr "cells", (dFz (dCallN gListOf (dACons (dSlRo 0 dP0 (dP (dC (.int 63)))) dANil)))), (.inr "at", (dC (.int 0))), (.inr "left", (dC (.int 0))), (.inr "count", (dC (.int 0)))]))
def f_L_feed : Fn := mkFn 1 m_L_feed
abbrev s_L_draw : Stmt := topS 5
abbrev N_L_draw : List Str := ["_law_feed_here", "_law_size", "_law_figure", "_law_at", "_law_cell", "_law_mixed"]
abbrev P_L_draw : List Str := ["_law_feed_here", "_law_size"]
theorem sc_L_draw : FnScope N_L_draw P_L_draw (defScope s_L_draw) := ⟨rfl, rfl, rfl, by decide +kernel, rfl, by decide +kernel, by decide +kernel⟩
def m_L_draw : DS := (dSeq (dDPut 0 (dC (.str "count")) (dBin gAdd (dDGet 0 (dC (.str "count"))) (dC (.int 1))))
  (dSeq (dIfS (dT (dBin gGtI (dDGet 0 (dC (.str "left"))) (dC (.int 0)))) (dSeq (dSet 2 (rE (dBin gModI (dDGet 0 (dC (.str "left"))) (dVar 1))))
  (dSeq (dDPut 0 (dC (.str "left")) (dBin gDivI (dDGet 0 (dC (.str "left"))) (dVar 1)))
  (dRet (dVar 2)))) dNext)
  (dSeq (dSet 3 (rE (dDGet 0 (dC (.str "at")))))
  (dSeq (dDPut 0 (dC (.str "at")) (dBin gAdd (dVar 3) (dC (.int 1))))
  (dSeq (dSet 4 (rE (dIfE (dT (dBin gNe (dDGet 0 (dC (.str "cells"))) (dFz (dLst dANil)))) (dBin gIx (dDGet 0 (dC (.str "cells"))) (dBin gModI (dVar 3) (dCallB gLen (dACons (dDGet 0 (dC (.str "cells"))) dANil)))) (dC (.int 19)))))
  (dSeq (dIfS (dAndT (dT (dBin gGeI (dVar 4) (dBin gPowI (dC (.int 10)) (dC (.int 18))))) (dT (dBin gLtI (dVar 3) (dCallB gLen (dACons (dDGet 0 (dC (.str "cells"))) dANil))))) (dSeq (dDPut 0 (dC (.str "left")) (dBin gDivI (dVar 4) (dVar 1)))
  (dRet (dBin gModI (dVar 4) (dVar 1)))) dNext)
  (dSeq (dSet 5 (rE (dBin gModI (dBin gAdd (dBin gAdd (dBin gModI (dVar 4) (dC (.int 1000000207))) (dBin gMul (dC (.int 80051)) (dDGet 0 (dC (.str "count"))))) (dC (.int 67))) (dC (.int 2147483579)))))
  (dSeq (dSet 5 (rE (dBin gModI (dBin gAdd (dBin gAdd (dBin gMul (dVar 5) (dVar 5)) (dBin gMul (dC (.int 5754853)) (dDGet 0 (dC (.str "count"))))) (dC (.int 47))) (dC (.int 2147483549)))))
  (dRet (dBin gModI (dBin gDivI (dBin gModI (dBin gAdd (dBin gMul (dVar 5) (dVar 5)) (dBin gMul (dC (.int 43)) (dVar 5))) (dC (.int 2147483543))) (dC (.int 16))) (dVar 1)))))))))))
def f_L_draw : Fn := mkFn 6 m_L_draw
abbrev s_L_can : Stmt := topS 6
abbrev N_L_can : List Str := ["_law_size", "_law_replies", "_law_found", "_law_number", "_law_one"]
abbrev P_L_can : List Str := ["_law_size", "_law_replies"]
theorem sc_L_can : FnScope N_L_can P_L_can (defScope s_L_can) := ⟨rfl, rfl, rfl, by decide +kernel, rfl, by decide +kernel, by decide +kernel⟩
def m_L_can_1 : DS := (dIfS (dT (dBin gEq (dFz (dLc (dIt (dVar 1)) (.nm 4) (dT (dBin gNe (dBin gLeI (dBin gIx (dVar 4) (dC (.int 0))) (dVar 3)) (dBin gIx (dVar 4) (dC (.int 1))))) (dVar 4) [4])) (dFz (dLst dANil)))) (dExp (dApp 2 (dVar 3))) dNext)
def m_L_can : DS := (dSeq (dSet 2 (rL (dLst dANil)))
  (dSeq (dFor (dRange1 (dACons (dVar 0) dANil)) (.nm 3) m_L_can_1)
  (dRet (dVar 2))))
def f_L_can : Fn := mkFn 5 m_L_can
abbrev s_L_is_breach : Stmt := topS 7
abbrev N_L_is_breach : List Str := ["_law_replies", "_law_pair", "_law_places", "_law_k", "_law_one", "_law_first", "_law_far", "_law_second"]
abbrev P_L_is_breach : List Str := ["_law_replies", "_law_pair"]
theorem sc_L_is_breach : FnScope N_L_is_breach P_L_is_breach (defScope s_L_is_breach) := ⟨rfl, rfl, rfl, by decide +kernel, rfl, by decide +kernel, by decide +kernel⟩
def m_L_is_breach : DS := (dSeq (dSet 2 (rE (dFz (dLc (dRange1 (dACons (dCallB gLen (dACons (dVar 0) dANil)) dANil)) (.nm 3) dYes (dCallB gRepr (dACons (dVar 3) dANil)) [3]))))
  (dSeq (dIfS (dOrT (dNotT (dT (dUn (gIsi "tuple") (dVar 1)))) (dOrT (dT (dBin gNe (dCallB gLen (dACons (dVar 1) dANil)) (dC (.int 2)))) (dT (dBin gNe (dFz (dLc (dIt (dVar 1)) (.nm 4) (dT (dBin gNotIn (dCallB gRepr (dACons (dVar 4) dANil)) (dVar 2))) (dVar 4) [4])) (dFz (dLst dANil)))))) (dRet (dC (.bool false))) dNext)
  (dSeq (dAsg (.tp (.cons (.tp (.cons (.nm 3) (.cons (.nm 5) .nil))) (.cons (.tp (.cons (.nm 6) (.cons (.nm 7) .nil))) .nil))) (dTup (dACons (dBin gIx (dVar 0) (dBin gIx (dVar 1) (dC (.int 0)))) (dACons (dBin gIx (dVar 0) (dBin gIx (dVar 1) (dC (.int 1)))) dANil))))
  (dRet (dAnd (dBin gIsB (dVar 5) (dC (.bool false))) (dAnd (dBin gIsB (dVar 7) (dC (.bool true))) (dBin gGeI (dVar 6) (dVar 3))))))))
def f_L_is_breach : Fn := mkFn 8 m_L_is_breach
abbrev s_L_ask_right : Stmt := topS 8
abbrev N_L_ask_right : List Str := ["_law_size", "_law_replies", "_law_told", "_law_left", "_law_k", "_law_half", "_law_word"]
abbrev P_L_ask_right : List Str := ["_law_size", "_law_replies", "_law_told"]
theorem sc_L_ask_right : FnScope N_L_ask_right P_L_ask_right (defScope s_L_ask_right) := ⟨rfl, rfl, rfl, by decide +kernel, rfl, by decide +kernel, by decide +kernel⟩
def m_L_ask_right : DS := (dSeq (dSet 3 (rE (dCall 2 f_L_can [] (dACons (dVar 0) (dACons (dVar 1) dANil)))))
  (dSeq (dIfS (dNotT (dT (dUn (gIsi "tuple") (dVar 2)))) (dRet (dC (.bool false))) dNext)
  (dSeq (dIfS (dT (dBin gEq (dVar 3) (dFz (dLst dANil)))) (dRet (dAnd (dBin gEq (dBin gIx (dVar 2) (dC (.int 0))) (dC (.str "breach"))) (dAnd (dBin gEq (dCallB gLen (dACons (dVar 2) dANil)) (dC (.int 2))) (dCall 2 f_L_is_breach [] (dACons (dVar 1) (dACons (dBin gIx (dVar 2) (dC (.int 1))) dANil)))))) dNext)
  (dSeq (dIfS (dT (dBin gEq (dCallB gLen (dACons (dVar 3) dANil)) (dC (.int 1)))) (dRet (dBin gEq (dCallB gRepr (dACons (dVar 2) dANil)) (dCallB gRepr (dACons (dTup (dACons (dC (.str "found")) (dACons (dBin gIx (dVar 3) (dC (.int 0))) dANil))) dANil)))) dNext)
  (dSeq (dIfS (dOrT (dT (dBin gNe (dBin gIx (dVar 2) (dC (.int 0))) (dC (.str "ask")))) (dOrT (dT (dBin gNe (dCallB gLen (dACons (dVar 2) dANil)) (dC (.int 2)))) (dT (dBin gNotIn (dCallB gRepr (dACons (dBin gIx (dVar 2) (dC (.int 1))) dANil)) (dFz (dLc (dRange2 (dACons (dC (.int 1)) (dACons (dVar 0) dANil))) (.nm 4) dYes (dCallB gRepr (dACons (dVar 4) dANil)) [4])))))) (dRet (dC (.bool false))) dNext)
  (dSeq (dSet 5 (rE (dBin gDivI (dBin gAdd (dCallB gLen (dACons (dVar 3) dANil)) (dC (.int 1))) (dC (.int 2)))))
  (dRet (dBin gLeI (dCallB gMaxL (dACons (dFz (dLc (dIt (dTup (dACons (dC (.bool true)) (dACons (dC (.bool false)) dANil)))) (.nm 6) dYes (dCallB gLen (dACons (dCall 2 f_L_can [] (dACons (dVar 0) (dACons (dBin gAdd (dVar 1) (dTup (dACons (dTup (dACons (dBin gIx (dVar 2) (dC (.int 1))) (dACons (dVar 6) dANil))) dANil))) dANil))) dANil)) [6])) dANil)) (dVar 5)))))))))
def f_L_ask_right : Fn := mkFn 7 m_L_ask_right
abbrev s_law : Stmt := topS 9
abbrev N_law : List Str := ["_law_script", "_law_feed_here", "_law_lap", "_law_size", "_law_fault", "_law_replies", "_law_turn", "_law_k", "_law_seen_now", "_law_told", "_law_is_none", "_law_pair"]
abbrev P_law : List Str := ["_law_script"]
theorem sc_law : FnScope N_law P_law (defScope s_law) := ⟨rfl, rfl, rfl, by decide +kernel, rfl, by decide +kernel, by decide +kernel⟩
def m_law_1 : DS := (dSeq (dSet 7 (rE (dBin gAdd (dC (.int 1)) (dCall 2 f_L_draw [] (dACons (dVar 1) (dACons (dBin gSubI (dVar 3) (dC (.int 1))) dANil))))))
  (dExp (dApp 5 (dTup (dACons (dVar 7) (dACons (dBin gNe (dBin gLeI (dVar 7) (dVar 4)) (dAnd (dBin gEq (dCall 2 f_L_draw [] (dACons (dVar 1) (dACons (dC (.int 9)) dANil))) (dC (.int 0))) (dBin gEq (dBin gModI (dVar 2) (dC (.int 2))) (dC (.int 1))))) dANil))))))
def m_law_2 : DS := (dIfS (dOrT (dT (dBin gNe (dBin gIsN (dVar 11) (dC .none)) (dVar 10))) (dAndT (dT (dBin gNotN (dVar 11) (dC .none))) (dNotT (dT (dCall 2 f_L_is_breach [] (dACons (dVar 5) (dACons (dVar 11) dANil))))))) (dRet (dC (.bool false))) dNext)
def m_law_3 : DS := (dSeq (dSet 3 (rE (dBin gAdd (dC (.int 1)) (dCall 2 f_L_draw [] (dACons (dVar 1) (dACons (dC (.int 40)) dANil))))))
  (dSeq (dPar 4 5 (rE (dCall 2 f_L_draw [] (dACons (dVar 1) (dACons (dVar 3) dANil)))) (rL (dLst dANil)))
  (dSeq (dFor (dRange1 (dACons (dIfE (dT (dBin gGtI (dVar 3) (dC (.int 1)))) (dCall 2 f_L_draw [] (dACons (dVar 1) (dACons (dC (.int 7)) dANil))) (dC (.int 0))) dANil)) (.nm 6) m_law_1)
  (dSeq (dSet 5 (rE (dCallB gTupleOf (dACons (dVar 5) dANil))))
  (dSeq (dSet 8 (rE (dCallB gRepr (dACons (dVar 5) dANil))))
  (dSeq (dSet 9 (rE (dFz (dLst (dACons (dCall 2 f_seek [] (dACons (dVar 3) (dACons (dVar 5) dANil))) (dACons (dCallW 2 f_seek 0 2 [1, 0] [] dANil (dACons (dVar 5) (dACons (dVar 3) dANil))) (dACons (dCall 1 f_breach_of [] (dACons (dVar 5) dANil)) (dACons (dCallW 1 f_breach_of 0 1 [0] [] dANil (dACons (dVar 5) dANil)) dANil))))))))
  (dSeq (dIfS (dOrT (dNotT (dT (dCall 3 f_L_ask_right [] (dACons (dVar 3) (dACons (dVar 5) (dACons (dBin gIx (dVar 9) (dC (.int 0))) dANil)))))) (dNotT (dT (dCall 3 f_L_ask_right [] (dACons (dVar 3) (dACons (dVar 5) (dACons (dBin gIx (dVar 9) (dC (.int 1))) dANil))))))) (dRet (dC (.bool false))) dNext)
  (dSeq (dSet 10 (rE (dBin gNe (dCall 2 f_L_can [] (dACons (dVar 3) (dACons (dVar 5) dANil))) (dFz (dLst dANil)))))
  (dSeq (dFor (dIt (dSl (dVar 9) (dP (dC (.int 2))) dP0)) (.nm 11) m_law_2)
  (dIfS (dOrT (dT (dBin gNe (dCallB gRepr (dACons (dVar 5) dANil)) (dVar 8))) (dT (dBin gNotN (dCall 1 f_breach_of [] (dACons (dTup dANil) dANil)) (dC .none)))) (dRet (dC (.bool false))) dNext))))))))))
def m_law : DS := (dSeq (dSet 1 (rK (dkCall 1 f_L_feed [] (dACons (dVar 0) dANil))))
  (dSeq (dFor (dRange1 (dACons (dC (.int 8)) dANil)) (.nm 2) m_law_3)
  (dRet (dBin gEq (dCall 2 f_seek [] (dACons (dC (.int 1)) (dACons (dTup dANil) dANil))) (dTup (dACons (dC (.str "found")) (dACons (dC (.int 0)) dANil)))))))
def f_law : Fn := mkFn 12 m_law
section
variable [KF] {P : Program} {w : World} {mg : Str → Option Value} {base : Heap}
theorem b_breach_of (z_enumerate : mg "enumerate" = none) (z_len : mg "len" = none) (cdv : Value) (a : Addr) (A : Around) (outer : List Env) (s : Shared) (H : Hp) (E : XK) (c : Cf) (hr : GRoom 0 (A.deeper (envOfC "breach_of" (defScope s_breach_of) s.heap.objs.size a cdv))) (hmg : c.mg = mg) :
    PSs (cxOf (CX P w) P w KF.frag mg base N_breach_of "breach_of" (defScope s_breach_of) a cdv A outer s H E) (defBody s_breach_of) (SOf (fun cls d _ H => E cls d H) c m_breach_of) :=
  (dss_cons (ds_for (passes_of rfl) rfl (di_enum rfl rfl z_enumerate (de_var (i := 0) rfl (visD rfl))) (dg_tp rfl rfl (dgs_cons (dg_nm (i := 1) sc_breach_of.nd rfl (locD rfl)) (dgs_cons (dg_tp rfl rfl (dgs_cons (dg_nm (i := 2) sc_breach_of.nd rfl (locD rfl)) (dgs_cons (dg_nm (i := 3) sc_breach_of.nd rfl (locD rfl)) dgs_nil))) dgs_nil))) (dss_cons (ds_setLcV (own := [("j", 5), ("own", 6), ("truth", 7)]) (i := 4) rfl sc_breach_of.nd rfl rfl rfl (di_enum rfl rfl z_enumerate (de_var (i := 0) rfl (visD rfl))) (blkOk_by (by show blkC N_breach_of (defScope s_breach_of) _ _ = true; decide +kernel)) (by decide) (fun _ _ _ _ _ _ => (dg_tp rfl rfl (dgs_cons (dg_nm (i := 5) sc_breach_of.nd rfl (locD rfl)) (dgs_cons (dg_tp rfl rfl (dgs_cons (dg_nm (i := 6) sc_breach_of.nd rfl (locD rfl)) (dgs_cons (dg_nm (i := 7) sc_breach_of.nd rfl (locD rfl)) dgs_nil))) dgs_nil)))) (fun _ _ _ _ _ _ => (dts_one (PW.pt (dw_and (dt_val (de_var (i := 7) rfl (visD rfl))) (dw_and1 (dt_cmp op_ge lf_ge (de_var (i := 6) rfl (visD rfl)) (de_var (i := 2) rfl (visD rfl)) rfl)))))) (fun _ _ _ _ _ _ => (de_var (i := 5) rfl (visD rfl))))
  (dss_one (ds_if (PW.pt (dw_and (dt_not (dt_val (de_var (i := 3) rfl (visD rfl)))) (dw_and1 (dt_cmp op_gt lf_gt (de_callB cr_lenA lf_len rfl z_len rfl (da_cons (de_var (i := 4) rfl (visD rfl)) da_nil)) de_int rfl)))) (dss_one (ds_ret (de_tup (da_cons (de_var (i := 1) rfl (visD rfl)) (da_cons (de_ix rfl (de_var (i := 4) rfl (visD rfl)) de_int (fun _ _ => rfl)) da_nil))))) dss_nil))))
  (dss_one (ds_ret de_non)))
theorem c_breach_of (z_enumerate : mg "enumerate" = none) (z_len : mg "len" = none) {a : Addr} {fd : FuncData} (F : Fun KF.frag "breach_of" "breach_of" s_breach_of a fd) (gm : mg "breach_of" = some (.ref a)) : CD P w mg base 1 "breach_of" s_breach_of P_breach_of f_breach_of a fd :=
  cd_mk F sc_breach_of gm fun cdv A outer s H E c hr hmg => b_breach_of z_enumerate z_len cdv a A outer s H E c hr hmg
theorem b_seek {a_breach_of : Addr} {fd_breach_of : FuncData} (c_breach_of : CD P w mg base 1 "breach_of" s_breach_of P_breach_of f_breach_of a_breach_of fd_breach_of) (z_max : mg "max" = none) (z_min : mg "min" = none) (cdv : Value) (a : Addr) (A : Around) (outer : List Env) (s : Shared) (H : Hp) (E : XK) (c : Cf) (hr : GRoom 1 (A.deeper (envOfC "seek" (defScope s_seek) s.heap.objs.size a cdv))) (hmg : c.mg = mg) :
    PSs (cxOf (CX P w) P w KF.frag mg base N_seek "seek" (defScope s_seek) a cdv A outer s H E) (defBody s_seek) (SOf (fun cls d _ H => E cls d H) c m_seek) :=
  (dss_cons (ds_set (i := 2) sc_seek.nd rfl (locD rfl) (dr_e (de_call (n := 1) (FnD.mono c_breach_of.fn (by decide)) hr (takes_of rfl rfl rfl rfl) hmg rfl c_breach_of.gm c_breach_of.kp (c_breach_of.pb fun _ _ _ _ _ _ us h => match us, h with | [_], _ => rfl) .nil dfr_nil (da_cons (de_var (i := 1) rfl (visD rfl)) da_nil))))
  (dss_cons (ds_if (dt_cmp op_notN lf_notN (de_var (i := 2) rfl (visD rfl)) de_non rfl) (dss_one (ds_ret (de_tup (da_cons de_str (da_cons (de_var (i := 2) rfl (visD rfl)) da_nil))))) dss_nil)
  (dss_cons (ds_set (i := 3) sc_seek.nd rfl (locD rfl) (dr_e (de_callB (cr_max rfl) lf_maxL rfl z_max rfl (da_cons (de_bin op_addA lf_addA (de_fz (dl_lst (da_cons de_int da_nil))) (de_fz (dl_lc (own := [("k", 4), ("is_good", 5)]) rfl sc_seek.nd (di_seq rfl (de_var (i := 1) rfl (visD rfl))) (blkOk_by (by show blkC N_seek (defScope s_seek) _ _ = true; decide +kernel)) (by decide) (fun _ _ _ _ _ _ => (dg_tp rfl rfl (dgs_cons (dg_nm (i := 4) sc_seek.nd rfl (locD rfl)) (dgs_cons (dg_nm (i := 5) sc_seek.nd rfl (locD rfl)) dgs_nil)))) (fun _ _ _ _ _ _ => (dts_one (dt_val (de_var (i := 5) rfl (visD rfl))))) (fun _ _ _ _ _ _ => (de_var (i := 4) rfl (visD rfl)))))) da_nil))))
  (dss_cons (ds_set (i := 6) sc_seek.nd rfl (locD rfl) (dr_e (de_callB (cr_min rfl) lf_minL rfl z_min rfl (da_cons (de_bin op_addA lf_addA (de_fz (dl_lst (da_cons (de_var (i := 0) rfl (visD rfl)) da_nil))) (de_fz (dl_lc (own := [("k", 4), ("is_good", 5)]) rfl sc_seek.nd (di_seq rfl (de_var (i := 1) rfl (visD rfl))) (blkOk_by (by show blkC N_seek (defScope s_seek) _ _ = true; decide +kernel)) (by decide) (fun _ _ _ _ _ _ => (dg_tp rfl rfl (dgs_cons (dg_nm (i := 4) sc_seek.nd rfl (locD rfl)) (dgs_cons (dg_nm (i := 5) sc_seek.nd rfl (locD rfl)) dgs_nil)))) (fun _ _ _ _ _ _ => (dts_one (dt_not (dt_val (de_var (i := 5) rfl (visD rfl)))))) (fun _ _ _ _ _ _ => (de_var (i := 4) rfl (visD rfl)))))) da_nil))))
  (dss_one (ds_ret (de_ifE (dt_cmp (op_eqA hr.u64) lf_eq (de_bin op_sub lf_sub (de_var (i := 6) rfl (visD rfl)) (de_var (i := 3) rfl (visD rfl))) de_int rfl) (de_tup (da_cons de_str (da_cons (de_var (i := 3) rfl (visD rfl)) da_nil))) (de_tup (da_cons de_str (da_cons (de_bin op_addA lf_addA (de_var (i := 3) rfl (visD rfl)) (de_bin op_fdiv lf_div (de_bin op_sub lf_sub (de_var (i := 6) rfl (visD rfl)) (de_var (i := 3) rfl (visD rfl))) de_int)) da_nil))))))))))
theorem c_seek {a_breach_of : Addr} {fd_breach_of : FuncData} (c_breach_of : CD P w mg base 1 "breach_of" s_breach_of P_breach_of f_breach_of a_breach_of fd_breach_of) (z_max : mg "max" = none) (z_min : mg "min" = none) {a : Addr} {fd : FuncData} (F : Fun KF.frag "seek" "seek" s_seek a fd) (gm : mg "seek" = some (.ref a)) : CD P w mg base 2 "seek" s_seek P_seek f_seek a fd :=
  cd_mk F sc_seek gm fun cdv A outer s H E c hr hmg => b_seek c_breach_of z_max z_min cdv a A outer s H E c hr hmg
theorem b_L_feed (z_list : mg "list" = none) (cdv : Value) (a : Addr) (A : Around) (outer : List Env) (s : Shared) (H : Hp) (E : XK) (c : Cf) (hr : GRoom 0 (A.deeper (envOfC "_law_feed" (defScope s_L_feed) s.heap.objs.size a cdv))) (hmg : c.mg = mg) :
    PSs (cxOf (CX P w) P w KF.frag mg base N_L_feed "_law_feed" (defScope s_L_feed) a cdv A outer s H E) (defBody s_L_feed) (SOf (fun cls d _ H => E cls d H) c m_L_feed) :=
  (dss_one (ds_retK (dk_disp (pr_str (fun _ => (de_fz (dl_callTy call_list_of lf_listOf rfl z_list rfl (da_cons (de_slRo (i := 0) rfl rfl (visD rfl) dp_none (dp_some de_int)) da_nil)))) (pr_str (fun _ => de_int) (pr_str (fun _ => de_int) (pr_str (fun _ => de_int) pr_nil)))) rfl rfl (by decide) (by decide))))
theorem c_L_feed (z_list : mg "list" = none) {a : Addr} {fd : FuncData} (F : Fun KF.frag "_law_feed" "_law_feed" s_L_feed a fd) (gm : mg "_law_feed" = some (.ref a)) : CD P w mg base 1 "_law_feed" s_L_feed P_L_feed f_L_feed a fd :=
  cd_mk F sc_L_feed gm fun cdv A outer s H E c hr hmg => b_L_feed z_list cdv a A outer s H E c hr hmg
theorem b_L_draw (z_len : mg "len" = none) (cdv : Value) (a : Addr) (A : Around) (outer : List Env) (s : Shared) (H : Hp) (E : XK) (c : Cf) (hr : GRoom 0 (A.deeper (envOfC "_law_draw" (defScope s_L_draw) s.heap.objs.size a cdv))) (hmg : c.mg = mg) :
    PSs (cxOf (CX P w) P w KF.frag mg base N_L_draw "_law_draw" (defScope s_L_draw) a cdv A outer s H E) (defBody s_L_draw) (SOf (fun cls d _ H => E cls d H) c m_L_draw) :=
  (dss_cons (ds_dput (i := 0) hr.u1 rfl (visD rfl) de_str (de_bin op_addA lf_addA (de_dget (i := 0) hr.u1 rfl (visD rfl) de_str (fun _ _ => rfl)) de_int))
  (dss_cons (ds_if (dt_cmp op_gt lf_gt (de_dget (i := 0) hr.u1 rfl (visD rfl) de_str (fun _ _ => rfl)) de_int rfl) (dss_cons (ds_set (i := 2) sc_L_draw.nd rfl (locD rfl) (dr_e (de_bin op_mod lf_mod (de_dget (i := 0) hr.u1 rfl (visD rfl) de_str (fun _ _ => rfl)) (de_var (i := 1) rfl (visD rfl)))))
  (dss_cons (ds_dput (i := 0) hr.u1 rfl (visD rfl) de_str (de_bin op_fdiv lf_div (de_dget (i := 0) hr.u1 rfl (visD rfl) de_str (fun _ _ => rfl)) (de_var (i := 1) rfl (visD rfl))))
  (dss_one (ds_ret (de_var (i := 2) rfl (visD rfl)))))) dss_nil)
  (dss_cons (ds_set (i := 3) sc_L_draw.nd rfl (locD rfl) (dr_e (de_dget (i := 0) hr.u1 rfl (visD rfl) de_str (fun _ _ => rfl))))
  (dss_cons (ds_dput (i := 0) hr.u1 rfl (visD rfl) de_str (de_bin op_addA lf_addA (de_var (i := 3) rfl (visD rfl)) de_int))
  (dss_cons (ds_set (i := 4) sc_L_draw.nd rfl (locD rfl) (dr_e (de_ifE (dt_cmp (op_neA hr.u64) lf_ne (de_dget (i := 0) hr.u1 rfl (visD rfl) de_str (fun _ _ => rfl)) (de_fz (dl_lst da_nil)) rfl) (de_ix rfl (de_dget (i := 0) hr.u1 rfl (visD rfl) de_str (fun _ _ => rfl)) (de_bin op_mod lf_mod (de_var (i := 3) rfl (visD rfl)) (de_callB cr_lenA lf_len rfl z_len rfl (da_cons (de_dget (i := 0) hr.u1 rfl (visD rfl) de_str (fun _ _ => rfl)) da_nil))) (fun _ _ => rfl)) de_int)))
  (dss_cons (ds_if (PW.pt (dw_and (dt_cmp op_ge lf_ge (de_var (i := 4) rfl (visD rfl)) (de_bin op_pow lf_pow de_int de_int) rfl) (dw_and1 (dt_cmp op_lt lf_lt (de_var (i := 3) rfl (visD rfl)) (de_callB cr_lenA lf_len rfl z_len rfl (da_cons (de_dget (i := 0) hr.u1 rfl (visD rfl) de_str (fun _ _ => rfl)) da_nil)) rfl)))) (dss_cons (ds_dput (i := 0) hr.u1 rfl (visD rfl) de_str (de_bin op_fdiv lf_div (de_var (i := 4) rfl (visD rfl)) (de_var (i := 1) rfl (visD rfl))))
  (dss_one (ds_ret (de_bin op_mod lf_mod (de_var (i := 4) rfl (visD rfl)) (de_var (i := 1) rfl (visD rfl)))))) dss_nil)
  (dss_cons (ds_set (i := 5) sc_L_draw.nd rfl (locD rfl) (dr_e (de_bin op_mod lf_mod (de_bin op_addA lf_addA (de_bin op_addA lf_addA (de_bin op_mod lf_mod (de_var (i := 4) rfl (visD rfl)) de_int) (de_bin op_mulA lf_mulA de_int (de_dget (i := 0) hr.u1 rfl (visD rfl) de_str (fun _ _ => rfl)))) de_int) de_int)))
  (dss_cons (ds_set (i := 5) sc_L_draw.nd rfl (locD rfl) (dr_e (de_bin op_mod lf_mod (de_bin op_addA lf_addA (de_bin op_addA lf_addA (de_bin op_mulA lf_mulA (de_var (i := 5) rfl (visD rfl)) (de_var (i := 5) rfl (visD rfl))) (de_bin op_mulA lf_mulA de_int (de_dget (i := 0) hr.u1 rfl (visD rfl) de_str (fun _ _ => rfl)))) de_int) de_int)))
  (dss_one (ds_ret (de_bin op_mod lf_mod (de_bin op_fdiv lf_div (de_bin op_mod lf_mod (de_bin op_addA lf_addA (de_bin op_mulA lf_mulA (de_var (i := 5) rfl (visD rfl)) (de_var (i := 5) rfl (visD rfl))) (de_bin op_mulA lf_mulA de_int (de_var (i := 5) rfl (visD rfl)))) de_int) de_int) (de_var (i := 1) rfl (visD rfl)))))))))))))
theorem c_L_draw (z_len : mg "len" = none) {a : Addr} {fd : FuncData} (F : Fun KF.frag "_law_draw" "_law_draw" s_L_draw a fd) (gm : mg "_law_draw" = some (.ref a)) : CD P w mg base 1 "_law_draw" s_L_draw P_L_draw f_L_draw a fd :=
  cd_mk F sc_L_draw gm fun cdv A outer s H E c hr hmg => b_L_draw z_len cdv a A outer s H E c hr hmg
theorem b_L_can (z_range : mg "range" = none) (cdv : Value) (a : Addr) (A : Around) (outer : List Env) (s : Shared) (H : Hp) (E : XK) (c : Cf) (hr : GRoom 0 (A.deeper (envOfC "_law_can" (defScope s_L_can) s.heap.objs.size a cdv))) (hmg : c.mg = mg) :
    PSs (cxOf (CX P w) P w KF.frag mg base N_L_can "_law_can" (defScope s_L_can) a cdv A outer s H E) (defBody s_L_can) (SOf (fun cls d _ H => E cls d H) c m_L_can) :=
  (dss_cons (ds_set (i := 2) sc_L_can.nd rfl (locD rfl) (dr_l (dl_lst da_nil)))
  (dss_cons (ds_for (passes_of rfl) rfl (di_range1 rfl z_range (da_cons (de_var (i := 0) rfl (visD rfl)) da_nil)) (dg_nm (i := 3) sc_L_can.nd rfl (locD rfl)) (dss_one (ds_if (dt_cmp (op_eqA hr.u64) lf_eq (de_fz (dl_lc (own := [("_law_one", 4)]) rfl sc_L_can.nd (di_seq rfl (de_var (i := 1) rfl (visD rfl))) (blkOk_by (by show blkC N_L_can (defScope s_L_can) _ _ = true; decide +kernel)) (by decide) (fun _ _ _ _ _ _ => (dg_nm (i := 4) sc_L_can.nd rfl (locD rfl))) (fun _ _ _ _ _ _ => (dts_one (dt_cmp (op_neA hr.u64) lf_ne (de_cmp op_le lf_le (de_ix rfl (de_var (i := 4) rfl (visD rfl)) de_int (fun _ _ => rfl)) (de_var (i := 3) rfl (visD rfl)) rfl) (de_ix rfl (de_var (i := 4) rfl (visD rfl)) de_int (fun _ _ => rfl)) rfl))) (fun _ _ _ _ _ _ => (de_var (i := 4) rfl (visD rfl))))) (de_fz (dl_lst da_nil)) rfl) (dss_one (ds_exp (de_app (i := 2) rfl (visD rfl) (de_var (i := 3) rfl (visD rfl))))) dss_nil)))
  (dss_one (ds_ret (de_var (i := 2) rfl (visD rfl))))))
theorem c_L_can (z_range : mg "range" = none) {a : Addr} {fd : FuncData} (F : Fun KF.frag "_law_can" "_law_can" s_L_can a fd) (gm : mg "_law_can" = some (.ref a)) : CD P w mg base 1 "_law_can" s_L_can P_L_can f_L_can a fd :=
  cd_mk F sc_L_can gm fun cdv A outer s H E c hr hmg => b_L_can z_range cdv a A outer s H E c hr hmg
theorem b_L_is_breach (z_range : mg "range" = none) (z_len : mg "len" = none) (z_repr : mg "repr" = none) (z_isinstance : mg "isinstance" = none) (z_tuple : mg "tuple" = none) (cdv : Value) (a : Addr) (A : Around) (outer : List Env) (s : Shared) (H : Hp) (E : XK) (c : Cf) (hr : GRoom 0 (A.deeper (envOfC "_law_is_breach" (defScope s_L_is_breach) s.heap.objs.size a cdv))) (hmg : c.mg = mg) :
    PSs (cxOf (CX P w) P w KF.frag mg base N_L_is_breach "_law_is_breach" (defScope s_L_is_breach) a cdv A outer s H E) (defBody s_L_is_breach) (SOf (fun cls d _ H => E cls d H) c m_L_is_breach) :=
  (dss_cons (ds_set (i := 2) sc_L_is_breach.nd rfl (locD rfl) (dr_e (de_fz (dl_lc (own := [("_law_k", 3)]) rfl sc_L_is_breach.nd (di_range1 rfl z_range (da_cons (de_callB cr_lenA lf_len rfl z_len rfl (da_cons (de_var (i := 0) rfl (visD rfl)) da_nil)) da_nil)) (blkOk_by (by show blkC N_L_is_breach (defScope s_L_is_breach) _ _ = true; decide +kernel)) (by decide) (fun _ _ _ _ _ _ => (dg_nm (i := 3) sc_L_is_breach.nd rfl (locD rfl))) (fun _ _ _ _ _ _ => dts_nil) (fun _ _ _ _ _ _ => (de_callB (call_reprD hr.g hr.u110) lf_repr rfl z_repr rfl (da_cons (de_var (i := 3) rfl (visD rfl)) da_nil)))))))
  (dss_cons (ds_if (PW.pt (dw_or (dt_not (dt_val (de_isi (T := "tuple") rfl (de_var (i := 1) rfl (visD rfl)) rfl z_isinstance rfl z_tuple rfl))) (dw_or (dt_cmp (op_neA hr.u64) lf_ne (de_callB cr_lenA lf_len rfl z_len rfl (da_cons (de_var (i := 1) rfl (visD rfl)) da_nil)) de_int rfl) (dw_or1 (dt_cmp (op_neA hr.u64) lf_ne (de_fz (dl_lc (own := [("_law_one", 4)]) rfl sc_L_is_breach.nd (di_seq rfl (de_var (i := 1) rfl (visD rfl))) (blkOk_by (by show blkC N_L_is_breach (defScope s_L_is_breach) _ _ = true; decide +kernel)) (by decide) (fun _ _ _ _ _ _ => (dg_nm (i := 4) sc_L_is_breach.nd rfl (locD rfl))) (fun _ _ _ _ _ _ => (dts_one (dt_cmp (op_notInA hr.u65) lf_notIn (de_callB (call_reprD hr.g hr.u110) lf_repr rfl z_repr rfl (da_cons (de_var (i := 4) rfl (visD rfl)) da_nil)) (de_var (i := 2) rfl (visD rfl)) rfl))) (fun _ _ _ _ _ _ => (de_var (i := 4) rfl (visD rfl))))) (de_fz (dl_lst da_nil)) rfl))))) (dss_one (ds_ret de_bl)) dss_nil)
  (dss_cons (ds_asg (de_tup (da_cons (de_ix rfl (de_var (i := 0) rfl (visD rfl)) (de_ix rfl (de_var (i := 1) rfl (visD rfl)) de_int (fun _ _ => rfl)) (fun _ _ => rfl)) (da_cons (de_ix rfl (de_var (i := 0) rfl (visD rfl)) (de_ix rfl (de_var (i := 1) rfl (visD rfl)) de_int (fun _ _ => rfl)) (fun _ _ => rfl)) da_nil))) (dg_tp rfl rfl (dgs_cons (dg_tp rfl rfl (dgs_cons (dg_nm (i := 3) sc_L_is_breach.nd rfl (locD rfl)) (dgs_cons (dg_nm (i := 5) sc_L_is_breach.nd rfl (locD rfl)) dgs_nil))) (dgs_cons (dg_tp rfl rfl (dgs_cons (dg_nm (i := 6) sc_L_is_breach.nd rfl (locD rfl)) (dgs_cons (dg_nm (i := 7) sc_L_is_breach.nd rfl (locD rfl)) dgs_nil))) dgs_nil))))
  (dss_one (ds_ret (de_and (de_cmp op_isBD lf_isB (de_var (i := 5) rfl (visD rfl)) de_bl rfl) (de_and (de_cmp op_isBD lf_isB (de_var (i := 7) rfl (visD rfl)) de_bl rfl) (de_one (de_cmp op_ge lf_ge (de_var (i := 6) rfl (visD rfl)) (de_var (i := 3) rfl (visD rfl)) rfl)))))))))
theorem c_L_is_breach (z_range : mg "range" = none) (z_len : mg "len" = none) (z_repr : mg "repr" = none) (z_isinstance : mg "isinstance" = none) (z_tuple : mg "tuple" = none) {a : Addr} {fd : FuncData} (F : Fun KF.frag "_law_is_breach" "_law_is_breach" s_L_is_breach a fd) (gm : mg "_law_is_breach" = some (.ref a)) : CD P w mg base 1 "_law_is_breach" s_L_is_breach P_L_is_breach f_L_is_breach a fd :=
  cd_mk F sc_L_is_breach gm fun cdv A outer s H E c hr hmg => b_L_is_breach z_range z_len z_repr z_isinstance z_tuple cdv a A outer s H E c hr hmg
theorem b_L_ask_right {a_L_can : Addr} {fd_L_can : FuncData} (c_L_can : CD P w mg base 1 "_law_can" s_L_can P_L_can f_L_can a_L_can fd_L_can) {a_L_is_breach : Addr} {fd_L_is_breach : FuncData} (c_L_is_breach : CD P w mg base 1 "_law_is_breach" s_L_is_breach P_L_is_breach f_L_is_breach a_L_is_breach fd_L_is_breach) (z_isinstance : mg "isinstance" = none) (z_tuple : mg "tuple" = none) (z_len : mg "len" = none) (z_repr : mg "repr" = none) (z_range : mg "range" = none) (z_max : mg "max" = none) (cdv : Value) (a : Addr) (A : Around) (outer : List Env) (s : Shared) (H : Hp) (E : XK) (c : Cf) (hr : GRoom 1 (A.deeper (envOfC "_law_ask_right" (defScope s_L_ask_right) s.heap.objs.size a cdv))) (hmg : c.mg = mg) :
    PSs (cxOf (CX P w) P w KF.frag mg base N_L_ask_right "_law_ask_right" (defScope s_L_ask_right) a cdv A outer s H E) (defBody s_L_ask_right) (SOf (fun cls d _ H => E cls d H) c m_L_ask_right) :=
  (dss_cons (ds_set (i := 3) sc_L_ask_right.nd rfl (locD rfl) (dr_e (de_call (n := 2) (FnD.mono c_L_can.fn (by decide)) hr (takes_of rfl rfl rfl rfl) hmg rfl c_L_can.gm c_L_can.kp (c_L_can.pb fun _ _ _ _ _ _ us h => match us, h with | [_, _], _ => rfl) .nil dfr_nil (da_cons (de_var (i := 0) rfl (visD rfl)) (da_cons (de_var (i := 1) rfl (visD rfl)) da_nil)))))
  (dss_cons (ds_if (dt_not (dt_val (de_isi (T := "tuple") rfl (de_var (i := 2) rfl (visD rfl)) rfl z_isinstance rfl z_tuple rfl))) (dss_one (ds_ret de_bl)) dss_nil)
  (dss_cons (ds_if (dt_cmp (op_eqA hr.u64) lf_eq (de_var (i := 3) rfl (visD rfl)) (de_fz (dl_lst da_nil)) rfl) (dss_one (ds_ret (de_and (de_cmp (op_eqA hr.u64) lf_eq (de_ix rfl (de_var (i := 2) rfl (visD rfl)) de_int (fun _ _ => rfl)) de_str rfl) (de_and (de_cmp (op_eqA hr.u64) lf_eq (de_callB cr_lenA lf_len rfl z_len rfl (da_cons (de_var (i := 2) rfl (visD rfl)) da_nil)) de_int rfl) (de_one (de_call (n := 2) (FnD.mono c_L_is_breach.fn (by decide)) hr (takes_of rfl rfl rfl rfl) hmg rfl c_L_is_breach.gm c_L_is_breach.kp (c_L_is_breach.pb fun _ _ _ _ _ _ us h => match us, h with | [_, _], _ => rfl) .nil dfr_nil (da_cons (de_var (i := 1) rfl (visD rfl)) (da_cons (de_ix rfl (de_var (i := 2) rfl (visD rfl)) de_int (fun _ _ => rfl)) da_nil)))))))) dss_nil)
  (dss_cons (ds_if (dt_cmp (op_eqA hr.u64) lf_eq (de_callB cr_lenA lf_len rfl z_len rfl (da_cons (de_var (i := 3) rfl (visD rfl)) da_nil)) de_int rfl) (dss_one (ds_ret (de_cmp (op_eqA hr.u64) lf_eq (de_callB (call_reprD hr.g hr.u110) lf_repr rfl z_repr rfl (da_cons (de_var (i := 2) rfl (visD rfl)) da_nil)) (de_callB (call_reprD hr.g hr.u110) lf_repr rfl z_repr rfl (da_cons (de_tup (da_cons de_str (da_cons (de_ix rfl (de_var (i := 3) rfl (visD rfl)) de_int (fun _ _ => rfl)) da_nil))) da_nil)) rfl))) dss_nil)
  (dss_cons (ds_if (PW.pt (dw_or (dt_cmp (op_neA hr.u64) lf_ne (de_ix rfl (de_var (i := 2) rfl (visD rfl)) de_int (fun _ _ => rfl)) de_str rfl) (dw_or (dt_cmp (op_neA hr.u64) lf_ne (de_callB cr_lenA lf_len rfl z_len rfl (da_cons (de_var (i := 2) rfl (visD rfl)) da_nil)) de_int rfl) (dw_or1 (dt_cmp (op_notInA hr.u65) lf_notIn (de_callB (call_reprD hr.g hr.u110) lf_repr rfl z_repr rfl (da_cons (de_ix rfl (de_var (i := 2) rfl (visD rfl)) de_int (fun _ _ => rfl)) da_nil)) (de_fz (dl_lc (own := [("_law_k", 4)]) rfl sc_L_ask_right.nd (di_range2 rfl z_range (da_cons de_int (da_cons (de_var (i := 0) rfl (visD rfl)) da_nil))) (blkOk_by (by show blkC N_L_ask_right (defScope s_L_ask_right) _ _ = true; decide +kernel)) (by decide) (fun _ _ _ _ _ _ => (dg_nm (i := 4) sc_L_ask_right.nd rfl (locD rfl))) (fun _ _ _ _ _ _ => dts_nil) (fun _ _ _ _ _ _ => (de_callB (call_reprD hr.g hr.u110) lf_repr rfl z_repr rfl (da_cons (de_var (i := 4) rfl (visD rfl)) da_nil))))) rfl))))) (dss_one (ds_ret de_bl)) dss_nil)
  (dss_cons (ds_set (i := 5) sc_L_ask_right.nd rfl (locD rfl) (dr_e (de_bin op_fdiv lf_div (de_bin op_addA lf_addA (de_callB cr_lenA lf_len rfl z_len rfl (da_cons (de_var (i := 3) rfl (visD rfl)) da_nil)) de_int) de_int)))
  (dss_one (ds_ret (de_cmp op_le lf_le (de_callB (cr_max rfl) lf_maxL rfl z_max rfl (da_cons (de_fz (dl_lc (own := [("_law_word", 6)]) rfl sc_L_ask_right.nd (di_seq rfl (de_tup (da_cons de_bl (da_cons de_bl da_nil)))) (blkOk_by (by show blkC N_L_ask_right (defScope s_L_ask_right) _ _ = true; decide +kernel)) (by decide) (fun _ _ _ _ _ _ => (dg_nm (i := 6) sc_L_ask_right.nd rfl (locD rfl))) (fun _ _ _ _ _ _ => dts_nil) (fun _ _ _ _ _ _ => (de_callB cr_lenA lf_len rfl z_len rfl (da_cons (de_call (n := 2) (FnD.mono c_L_can.fn (by decide)) hr takesF hmg rfl c_L_can.gm c_L_can.kp (c_L_can.pb fun _ _ _ _ _ _ us h => match us, h with | [_, _], _ => rfl) .nil dfr_nil (da_cons (de_var (i := 0) rfl (visD rfl)) (da_cons (de_bin op_addA lf_addA (de_var (i := 1) rfl (visD rfl)) (de_tup (da_cons (de_tup (da_cons (de_ix rfl (de_var (i := 2) rfl (visD rfl)) de_int (fun _ _ => rfl)) (da_cons (de_var (i := 6) rfl (visD rfl)) da_nil))) da_nil))) da_nil))) da_nil))))) da_nil)) (de_var (i := 5) rfl (visD rfl)) rfl)))))))))
theorem c_L_ask_right {a_L_can : Addr} {fd_L_can : FuncData} (c_L_can : CD P w mg base 1 "_law_can" s_L_can P_L_can f_L_can a_L_can fd_L_can) {a_L_is_breach : Addr} {fd_L_is_breach : FuncData} (c_L_is_breach : CD P w mg base 1 "_law_is_breach" s_L_is_breach P_L_is_breach f_L_is_breach a_L_is_breach fd_L_is_breach) (z_isinstance : mg "isinstance" = none) (z_tuple : mg "tuple" = none) (z_len : mg "len" = none) (z_repr : mg "repr" = none) (z_range : mg "range" = none) (z_max : mg "max" = none) {a : Addr} {fd : FuncData} (F : Fun KF.frag "_law_ask_right" "_law_ask_right" s_L_ask_right a fd) (gm : mg "_law_ask_right" = some (.ref a)) : CD P w mg base 2 "_law_ask_right" s_L_ask_right P_L_ask_right f_L_ask_right a fd :=
  cd_mk F sc_L_ask_right gm fun cdv A outer s H E c hr hmg => b_L_ask_right c_L_can c_L_is_breach z_isinstance z_tuple z_len z_repr z_range z_max cdv a A outer s H E c hr hmg
theorem b_law {a_L_feed : Addr} {fd_L_feed : FuncData} (c_L_feed : CD P w mg base 1 "_law_feed" s_L_feed P_L_feed f_L_feed a_L_feed fd_L_feed) {a_L_draw : Addr} {fd_L_draw : FuncData} (c_L_draw : CD P w mg base 1 "_law_draw" s_L_draw P_L_draw f_L_draw a_L_draw fd_L_draw) {a_seek : Addr} {fd_seek : FuncData} (c_seek : CD P w mg base 2 "seek" s_seek P_seek f_seek a_seek fd_seek) {a_breach_of : Addr} {fd_breach_of : FuncData} (c_breach_of : CD P w mg base 1 "breach_of" s_breach_of P_breach_of f_breach_of a_breach_of fd_breach_of) {a_L_ask_right : Addr} {fd_L_ask_right : FuncData} (c_L_ask_right : CD P w mg base 2 "_law_ask_right" s_L_ask_right P_L_ask_right f_L_ask_right a_L_ask_right fd_L_ask_right) {a_L_can : Addr} {fd_L_can : FuncData} (c_L_can : CD P w mg base 1 "_law_can" s_L_can P_L_can f_L_can a_L_can fd_L_can) {a_L_is_breach : Addr} {fd_L_is_breach : FuncData} (c_L_is_breach : CD P w mg base 1 "_law_is_breach" s_L_is_breach P_L_is_breach f_L_is_breach a_L_is_breach fd_L_is_breach) (z_range : mg "range" = none) (z_tuple : mg "tuple" = none) (z_repr : mg "repr" = none) (cdv : Value) (a : Addr) (A : Around) (outer : List Env) (s : Shared) (H : Hp) (E : XK) (c : Cf) (hr : GRoom 2 (A.deeper (envOfC "law" (defScope s_law) s.heap.objs.size a cdv))) (hmg : c.mg = mg) :
    PSs (cxOf (CX P w) P w KF.frag mg base N_law "law" (defScope s_law) a cdv A outer s H E) (defBody s_law) (SOf (fun cls d _ H => E cls d H) c m_law) :=
  (dss_cons (ds_set (i := 1) sc_law.nd rfl (locD rfl) (dr_k (dk_call (n := 1) (FnD.mono c_L_feed.fn (by decide)) hr (takes_of rfl rfl rfl rfl) hmg rfl c_L_feed.gm c_L_feed.kp (c_L_feed.pb fun _ _ _ _ _ _ us h => match us, h with | [_], _ => rfl) .nil dfr_nil (da_cons (de_var (i := 0) rfl (visD rfl)) da_nil))))
  (dss_cons (ds_for (passes_of rfl) rfl (di_range1 rfl z_range (da_cons de_int da_nil)) (dg_nm (i := 2) sc_law.nd rfl (locD rfl)) (dss_cons (ds_set (i := 3) sc_law.nd rfl (locD rfl) (dr_e (de_bin op_addA lf_addA de_int (de_call (n := 2) (FnD.mono c_L_draw.fn (by decide)) hr (takes_of rfl rfl rfl rfl) hmg rfl c_L_draw.gm c_L_draw.kp (c_L_draw.pb fun _ _ _ _ _ _ us h => match us, h with | [_, _], _ => rfl) .nil dfr_nil (da_cons (de_var (i := 1) rfl (visD rfl)) (da_cons de_int da_nil))))))
  (dss_cons (ds_par (i := 4) (j := 5) rfl sc_law.nd rfl rfl (by decide) rfl rfl (dr_e (de_call (n := 2) (FnD.mono c_L_draw.fn (by decide)) hr (takes_of rfl rfl rfl rfl) hmg rfl c_L_draw.gm c_L_draw.kp (c_L_draw.pb fun _ _ _ _ _ _ us h => match us, h with | [_, _], _ => rfl) .nil dfr_nil (da_cons (de_var (i := 1) rfl (visD rfl)) (da_cons (de_var (i := 3) rfl (visD rfl)) da_nil)))) (fun _ => (dr_l (dl_lst da_nil))) rfl)
  (dss_cons (ds_for (passes_of rfl) rfl (di_range1 rfl z_range (da_cons (de_ifE (dt_cmp op_gt lf_gt (de_var (i := 3) rfl (visD rfl)) de_int rfl) (de_call (n := 2) (FnD.mono c_L_draw.fn (by decide)) hr (takes_of rfl rfl rfl rfl) hmg rfl c_L_draw.gm c_L_draw.kp (c_L_draw.pb fun _ _ _ _ _ _ us h => match us, h with | [_, _], _ => rfl) .nil dfr_nil (da_cons (de_var (i := 1) rfl (visD rfl)) (da_cons de_int da_nil))) de_int) da_nil)) (dg_nm (i := 6) sc_law.nd rfl (locD rfl)) (dss_cons (ds_set (i := 7) sc_law.nd rfl (locD rfl) (dr_e (de_bin op_addA lf_addA de_int (de_call (n := 2) (FnD.mono c_L_draw.fn (by decide)) hr (takes_of rfl rfl rfl rfl) hmg rfl c_L_draw.gm c_L_draw.kp (c_L_draw.pb fun _ _ _ _ _ _ us h => match us, h with | [_, _], _ => rfl) .nil dfr_nil (da_cons (de_var (i := 1) rfl (visD rfl)) (da_cons (de_bin op_sub lf_sub (de_var (i := 3) rfl (visD rfl)) de_int) da_nil))))))
  (dss_one (ds_exp (de_app (i := 5) rfl (visD rfl) (de_tup (da_cons (de_var (i := 7) rfl (visD rfl)) (da_cons (de_cmp (op_neA hr.u64) lf_ne (de_cmp op_le lf_le (de_var (i := 7) rfl (visD rfl)) (de_var (i := 4) rfl (visD rfl)) rfl) (de_and (de_cmp (op_eqA hr.u64) lf_eq (de_call (n := 2) (FnD.mono c_L_draw.fn (by decide)) hr (takes_of rfl rfl rfl rfl) hmg rfl c_L_draw.gm c_L_draw.kp (c_L_draw.pb fun _ _ _ _ _ _ us h => match us, h with | [_, _], _ => rfl) .nil dfr_nil (da_cons (de_var (i := 1) rfl (visD rfl)) (da_cons de_int da_nil))) de_int rfl) (de_one (de_cmp (op_eqA hr.u64) lf_eq (de_bin op_mod lf_mod (de_var (i := 2) rfl (visD rfl)) de_int) de_int rfl))) rfl) da_nil))))))))
  (dss_cons (ds_set (i := 5) sc_law.nd rfl (locD rfl) (dr_e (de_callTy call_tuple_of lf_tupleOf rfl z_tuple rfl (da_cons (de_var (i := 5) rfl (visD rfl)) da_nil))))
  (dss_cons (ds_set (i := 8) sc_law.nd rfl (locD rfl) (dr_e (de_callB (call_reprD hr.g hr.u110) lf_repr rfl z_repr rfl (da_cons (de_var (i := 5) rfl (visD rfl)) da_nil))))
  (dss_cons (ds_set (i := 9) sc_law.nd rfl (locD rfl) (dr_e (de_fz (dl_lst (da_cons (de_call (n := 2) (FnD.mono c_seek.fn (by decide)) hr (takes_of rfl rfl rfl rfl) hmg rfl c_seek.gm c_seek.kp (c_seek.pb fun _ _ _ _ _ _ us h => match us, h with | [_, _], _ => rfl) .nil dfr_nil (da_cons (de_var (i := 3) rfl (visD rfl)) (da_cons (de_var (i := 5) rfl (visD rfl)) da_nil))) (da_cons (de_callW0 (ks := ["answers", "many"]) (FnD.mono c_seek.fn (by decide)) hr (takes_of rfl rfl rfl rfl) hmg rfl c_seek.gm c_seek.kp (c_seek.kb (n := 0) (ks := ["answers", "many"]) (ix := [1, 0]) fun _ _ _ _ _ _ us ws h1 h2 => match us, ws, h1, h2 with | [], [_, _], _, _ => rfl) .nil dfr_nil (dak_cons (de_var (i := 5) rfl (visD rfl)) (dak_cons (de_var (i := 3) rfl (visD rfl)) dak_nil))) (da_cons (de_call (n := 1) (FnD.mono c_breach_of.fn (by decide)) hr (takes_of rfl rfl rfl rfl) hmg rfl c_breach_of.gm c_breach_of.kp (c_breach_of.pb fun _ _ _ _ _ _ us h => match us, h with | [_], _ => rfl) .nil dfr_nil (da_cons (de_var (i := 5) rfl (visD rfl)) da_nil)) (da_cons (de_callW0 (ks := ["answers"]) (FnD.mono c_breach_of.fn (by decide)) hr (takes_of rfl rfl rfl rfl) hmg rfl c_breach_of.gm c_breach_of.kp (c_breach_of.kb (n := 0) (ks := ["answers"]) (ix := [0]) fun _ _ _ _ _ _ us ws h1 h2 => match us, ws, h1, h2 with | [], [_], _, _ => rfl) .nil dfr_nil (dak_cons (de_var (i := 5) rfl (visD rfl)) dak_nil)) da_nil))))))))
  (dss_cons (ds_if (PW.pt (dw_or (dt_not (dt_val (de_call (n := 3) (FnD.mono c_L_ask_right.fn (by decide)) hr (takes_of rfl rfl rfl rfl) hmg rfl c_L_ask_right.gm c_L_ask_right.kp (c_L_ask_right.pb fun _ _ _ _ _ _ us h => match us, h with | [_, _, _], _ => rfl) .nil dfr_nil (da_cons (de_var (i := 3) rfl (visD rfl)) (da_cons (de_var (i := 5) rfl (visD rfl)) (da_cons (de_ix rfl (de_var (i := 9) rfl (visD rfl)) de_int (fun _ _ => rfl)) da_nil)))))) (dw_or1 (dt_not (dt_val (de_call (n := 3) (FnD.mono c_L_ask_right.fn (by decide)) hr (takes_of rfl rfl rfl rfl) hmg rfl c_L_ask_right.gm c_L_ask_right.kp (c_L_ask_right.pb fun _ _ _ _ _ _ us h => match us, h with | [_, _, _], _ => rfl) .nil dfr_nil (da_cons (de_var (i := 3) rfl (visD rfl)) (da_cons (de_var (i := 5) rfl (visD rfl)) (da_cons (de_ix rfl (de_var (i := 9) rfl (visD rfl)) de_int (fun _ _ => rfl)) da_nil))))))))) (dss_one (ds_ret de_bl)) dss_nil)
  (dss_cons (ds_set (i := 10) sc_law.nd rfl (locD rfl) (dr_e (de_cmp (op_neA hr.u64) lf_ne (de_call (n := 2) (FnD.mono c_L_can.fn (by decide)) hr (takes_of rfl rfl rfl rfl) hmg rfl c_L_can.gm c_L_can.kp (c_L_can.pb fun _ _ _ _ _ _ us h => match us, h with | [_, _], _ => rfl) .nil dfr_nil (da_cons (de_var (i := 3) rfl (visD rfl)) (da_cons (de_var (i := 5) rfl (visD rfl)) da_nil))) (de_fz (dl_lst da_nil)) rfl)))
  (dss_cons (ds_for (passes_of rfl) rfl (di_seq rfl (de_sl rfl (de_var (i := 9) rfl (visD rfl)) (dp_some de_int) dp_none)) (dg_nm (i := 11) sc_law.nd rfl (locD rfl)) (dss_one (ds_if (PW.pt (dw_or (dt_cmp (op_neA hr.u64) lf_ne (de_cmp op_isN lf_isN (de_var (i := 11) rfl (visD rfl)) de_non rfl) (de_var (i := 10) rfl (visD rfl)) rfl) (dw_or1 (PW.pt (dw_and (dt_cmp op_notN lf_notN (de_var (i := 11) rfl (visD rfl)) de_non rfl) (dw_and1 (dt_not (dt_val (de_call (n := 2) (FnD.mono c_L_is_breach.fn (by decide)) hr (takes_of rfl rfl rfl rfl) hmg rfl c_L_is_breach.gm c_L_is_breach.kp (c_L_is_breach.pb fun _ _ _ _ _ _ us h => match us, h with | [_, _], _ => rfl) .nil dfr_nil (da_cons (de_var (i := 5) rfl (visD rfl)) (da_cons (de_var (i := 11) rfl (visD rfl)) da_nil))))))))))) (dss_one (ds_ret de_bl)) dss_nil)))
  (dss_one (ds_if (PW.pt (dw_or (dt_cmp (op_neA hr.u64) lf_ne (de_callB (call_reprD hr.g hr.u110) lf_repr rfl z_repr rfl (da_cons (de_var (i := 5) rfl (visD rfl)) da_nil)) (de_var (i := 8) rfl (visD rfl)) rfl) (dw_or1 (dt_cmp op_notN lf_notN (de_call (n := 1) (FnD.mono c_breach_of.fn (by decide)) hr (takes_of rfl rfl rfl rfl) hmg rfl c_breach_of.gm c_breach_of.kp (c_breach_of.pb fun _ _ _ _ _ _ us h => match us, h with | [_], _ => rfl) .nil dfr_nil (da_cons (de_tup da_nil) da_nil)) de_non rfl)))) (dss_one (ds_ret de_bl)) dss_nil))))))))))))
  (dss_one (ds_ret (de_cmp (op_eqA hr.u64) lf_eq (de_call (n := 2) (FnD.mono c_seek.fn (by decide)) hr (takes_of rfl rfl rfl rfl) hmg rfl c_seek.gm c_seek.kp (c_seek.pb fun _ _ _ _ _ _ us h => match us, h with | [_, _], _ => rfl) .nil dfr_nil (da_cons de_int (da_cons (de_tup da_nil) da_nil))) (de_tup (da_cons de_str (da_cons de_int da_nil))) rfl)))))
theorem c_law {a_L_feed : Addr} {fd_L_feed : FuncData} (c_L_feed : CD P w mg base 1 "_law_feed" s_L_feed P_L_feed f_L_feed a_L_feed fd_L_feed) {a_L_draw : Addr} {fd_L_draw : FuncData} (c_L_draw : CD P w mg base 1 "_law_draw" s_L_draw P_L_draw f_L_draw a_L_draw fd_L_draw) {a_seek : Addr} {fd_seek : FuncData} (c_seek : CD P w mg base 2 "seek" s_seek P_seek f_seek a_seek fd_seek) {a_breach_of : Addr} {fd_breach_of : FuncData} (c_breach_of : CD P w mg base 1 "breach_of" s_breach_of P_breach_of f_breach_of a_breach_of fd_breach_of) {a_L_ask_right : Addr} {fd_L_ask_right : FuncData} (c_L_ask_right : CD P w mg base 2 "_law_ask_right" s_L_ask_right P_L_ask_right f_L_ask_right a_L_ask_right fd_L_ask_right) {a_L_can : Addr} {fd_L_can : FuncData} (c_L_can : CD P w mg base 1 "_law_can" s_L_can P_L_can f_L_can a_L_can fd_L_can) {a_L_is_breach : Addr} {fd_L_is_breach : FuncData} (c_L_is_breach : CD P w mg base 1 "_law_is_breach" s_L_is_breach P_L_is_breach f_L_is_breach a_L_is_breach fd_L_is_breach) (z_range : mg "range" = none) (z_tuple : mg "tuple" = none) (z_repr : mg "repr" = none) {a : Addr} {fd : FuncData} (F : Fun KF.frag "law" "law" s_law a fd) (gm : mg "law" = some (.ref a)) : CD P w mg base 3 "law" s_law P_law f_law a fd :=
  cd_mk F sc_law gm fun cdv A outer s H E c hr hmg => b_law c_L_feed c_L_draw c_seek c_breach_of c_L_ask_right c_L_can c_L_is_breach z_range z_tuple z_repr cdv a A outer s H E c hr hmg
end
end K68

namespace K68
open PySem
open PySem.Spec
open PyProof.Rows
open L2
open L2.Dl
def feedD (cs : List Int) (a l c : Int) : DV := ⟨false, [(.str "cells", .list (cs.map .int)), (.str "at", .int a), (.str "left", .int l), (.str "count", .int c)]⟩
def FeedOk (d : DV) : Prop := ∃ cs a l c, d = feedD cs a l c ∧ 0 ≤ a
theorem modOk {i j : Int} (h : 0 < j) : gModI (.int i) (.int j) = some (.int (i % j)) := if_pos h
theorem divOk {i j : Int} (h : 0 < j) (h2 : j < 1073741824) : gDivI (.int i) (.int j) = some (.int (i / j)) := if_pos ⟨h, h2⟩
theorem mulL {i j : Int} (h : -(2 ^ 64) < i) (h2 : i < 2 ^ 64) : gMul (.int i) (.int j) = some (.int (i * j)) := if_pos (.inl ⟨h, h2⟩)
theorem canLay_ints : ∀ cs : List Int, PyData.canLayAll0 (cs.map .int) = true
  | [] => rfl
  | _ :: r => by rw [List.map_cons]; simp [PyData.canLayAll0, PyData.canLay0, canLay_ints r]
theorem depth_ints : ∀ cs : List Int, PyData.depthAll (cs.map .int) = 0
  | [] => rfl
  | _ :: r => by rw [List.map_cons]; simp [PyData.depthAll, PyData.depth, depth_ints r]
theorem shaped_ints (cs : List Int) : SeqAt.shaped (.list (cs.map .int)) = true := by
  unfold SeqAt.shaped
  simp [PyData.canLay0, canLay_ints, PyData.depth, depth_ints]
theorem atI_ok {ds : List PyData} {i : Int} (h : 0 ≤ i) (h2 : i < ds.length) : ∃ x, atI ds i = some x ∧ ds[i.toNat]? = some x := by
  obtain ⟨n, rfl⟩ := Int.eq_ofNat_of_zero_le h
  have hn : n < ds.length := by omega
  refine ⟨ds[n], ?_, by simp [hn]⟩
  exact atI_nat (List.getElem?_eq_getElem hn)
section
variable {cs : List Int} {a l c m : Int}
/-- from the mixing on -/
theorem draw_tail {x b : Int} (hm : 0 < m) (hm2 : m < 1073741824) :
    ∃ r y, 0 ≤ r ∧ r < m ∧ (dSeq (dSet 5 (rE (dBin gModI (dBin gAdd (dBin gAdd (dBin gModI (dVar 4) (dC (.int 1000000207))) (dBin gMul (dC (.int 80051)) (dDGet 0 (dC (.str "count"))))) (dC (.int 67))) (dC (.int 2147483579)))))
  (dSeq (dSet 5 (rE (dBin gModI (dBin gAdd (dBin gAdd (dBin gMul (dVar 5) (dVar 5)) (dBin gMul (dC (.int 5754853)) (dDGet 0 (dC (.str "count"))))) (dC (.int 47))) (dC (.int 2147483549)))))
  (dRet (dBin gModI (dBin gDivI (dBin gModI (dBin gAdd (dBin gMul (dVar 5) (dVar 5)) (dBin gMul (dC (.int 43)) (dVar 5))) (dC (.int 2147483543))) (dC (.int 16))) (dVar 1))))) [.dct true (feedD cs a l c), .v (.int m), .un, .v (.int b), .v (.int x), .un]
    = .rt (.int r) [.dct true (feedD cs a l c), .v (.int m), .un, .v (.int b), .v (.int x), .v (.int y)] := by
  have r1 : ∀ z : Int, -(2 ^ 64) < z % 2147483579 ∧ z % 2147483579 < 2 ^ 64 := fun z => by
    have h1 := Int.emod_nonneg z (show (2147483579 : Int) ≠ 0 by decide)
    have h2 := Int.emod_lt_of_pos z (show (0 : Int) < 2147483579 by decide)
    omega
  have r2 : ∀ z : Int, -(2 ^ 64) < z % 2147483549 ∧ z % 2147483549 < 2 ^ 64 := fun z => by
    have h1 := Int.emod_nonneg z (show (2147483549 : Int) ≠ 0 by decide)
    have h2 := Int.emod_lt_of_pos z (show (0 : Int) < 2147483549 by decide)
    omega
  let y1 : Int := (x % 1000000207 + 80051 * c + 67) % 2147483579
  let y2 : Int := (y1 * y1 + 5754853 * c + 47) % 2147483549
  refine ⟨(y2 * y2 + 43 * y2) % 2147483543 / 16 % m, y2, Int.emod_nonneg _ (by omega), Int.emod_lt_of_pos _ hm, ?_⟩
  refine seqE (setE (binE (binE (binE (binE rfl rfl rfl rfl (modOk (j := 1000000207) (by decide))) (binE rfl rfl rfl rfl (mulL (i := 80051) (by decide) (by decide))) rfl rfl rfl) rfl rfl rfl rfl) rfl rfl rfl (modOk (j := 2147483579) (by decide))) rfl rfl) ?_
  refine seqE (setE (binE (binE (binE (binE rfl rfl rfl rfl (mulL (r1 _).1 (r1 _).2)) (binE rfl rfl rfl rfl (mulL (i := 5754853) (by decide) (by decide))) rfl rfl rfl) rfl rfl rfl rfl) rfl rfl rfl (modOk (j := 2147483549) (by decide))) rfl rfl) ?_
  exact retE (binE (binE (binE (binE (binE rfl rfl rfl rfl (mulL (r2 _).1 (r2 _).2)) (binE rfl rfl rfl rfl (mulL (i := 43) (by decide) (by decide))) rfl rfl rfl) rfl rfl rfl (modOk (j := 2147483543) (by decide))) rfl rfl rfl (divOk (j := 16) (by decide) (by decide))) rfl rfl rfl (modOk hm)) rfl
theorem draw_spec {d : DV} (hd : FeedOk d) (hm : 0 < m) (hm2 : m < 1073741824) : ∃ d' r, FeedOk d' ∧ 0 ≤ r ∧ r < m ∧ f_L_draw [.dct true d, .v (.int m)] = .ok (.d (.int r)) [.dct true d', .v (.int m)] := by
  obtain ⟨cs, a, l, c, rfl, ha⟩ := hd
  have run : ∀ {x : PyData} {e : Nv} {d' : DV} , m_L_draw [.dct true (feedD cs a l c), .v (.int m), .un, .un, .un, .un] = .rt x e → e[0]? = some (.dct true d') → e.length = 6 → f_L_draw [.dct true (feedD cs a l c), .v (.int m)] = .ok (.d x) [.dct true d', .v (.int m)] := by
    intro x e d' h1 h2 h3
    unfold f_L_draw mkFn
    show (match m_L_draw [.dct true (feedD cs a l c), .v (.int m), .un, .un, .un, .un] with | .rt x e => _ | .nx e => _ | .rtD d e => _ | .exc x e => _ | _ => _) = _
    rw [h1]
    simp only [outP, outS, h2, Slot.owns, Slot.par, outR, if_true, and_self, Bool.false_eq_true, if_false]
  have e1 : dDPut 0 (dC (.str "count")) (dBin gAdd (dDGet 0 (dC (.str "count"))) (dC (.int 1))) [.dct true (feedD cs a l c), .v (.int m), .un, .un, .un, .un] = .nx [.dct true (feedD cs a l (c + 1)), .v (.int m), .un, .un, .un, .un] := rfl
  by_cases hl : 0 < l
  · refine ⟨feedD cs a (l / m) (c + 1), l % m, ⟨_, _, _, _, rfl, ha⟩, Int.emod_nonneg _ (by omega), Int.emod_lt_of_pos _ hm, ?_⟩
    refine run (e := [.dct true (feedD cs a (l / m) (c + 1)), .v (.int m), .v (.int (l % m)), .un, .un, .un]) ?_ rfl rfl
    unfold m_L_draw
    refine seqE e1 (seqR (ifT (e := [.dct true (feedD cs a l (c + 1)), .v (.int m), .un, .un, .un, .un]) (tE (by
      show Res.ok (OV.d (PyData.bool (decide (0 < l)))) _ = _
      rw [decide_eq_true hl])) ?_))
    refine seqE (setE (binE rfl rfl rfl rfl (modOk hm)) rfl rfl) ?_
    refine seqE (putE (binE rfl rfl rfl rfl (divOk hm hm2)) rfl rfl rfl rfl rfl rfl (by show 4 < lenB; decide)) ?_
    rfl
  · -- the cell
    obtain ⟨x, hx⟩ : ∃ x : Int, dIfE (dT (dBin gNe (dDGet 0 (dC (.str "cells"))) (dFz (dLst dANil)))) (dBin gIx (dDGet 0 (dC (.str "cells"))) (dBin gModI (dVar 3) (dCallB gLen (dACons (dDGet 0 (dC (.str "cells"))) dANil)))) (dC (.int 19))
        [.dct true (feedD cs (a + 1) l (c + 1)), .v (.int m), .un, .v (.int a), .un, .un] = .ok (.d (.int x)) [.dct true (feedD cs (a + 1) l (c + 1)), .v (.int m), .un, .v (.int a), .un, .un] := by
      cases cs with
      | nil => exact ⟨19, rfl⟩
      | cons n r =>
        have hlen : 0 < (((n :: r).map PyData.int).length : Int) := by simp
        obtain ⟨z, hz, hz2⟩ := atI_ok (ds := (n :: r).map .int) (Int.emod_nonneg a (Int.ne_of_gt hlen)) (Int.emod_lt_of_pos a hlen)
        obtain ⟨x, rfl⟩ : ∃ x, z = .int x := by
          rw [List.getElem?_map] at hz2
          cases q : (n :: r)[(a % (((n :: r).map PyData.int).length : Int)).toNat]? with
          | none => rw [q] at hz2; cases hz2
          | some x => rw [q] at hz2; exact ⟨x, (Option.some.inj hz2).symm⟩
        refine ⟨x, ifeE (k := true) (tE (binE rfl rfl rfl rfl (z := .bool true) ?_)) ?_⟩
        · show (if SeqAt.shaped (.list ((n :: r).map .int)) && SeqAt.shaped (.list []) then _ else _) = _
          rw [shaped_ints]
          rfl
        · rw [if_pos rfl]
          exact binE rfl (binE rfl rfl rfl rfl (modOk hlen)) rfl rfl hz
    have e3 : dDPut 0 (dC (.str "at")) (dBin gAdd (dVar 3) (dC (.int 1))) [.dct true (feedD cs a l (c + 1)), .v (.int m), .un, .v (.int a), .un, .un] = .nx [.dct true (feedD cs (a + 1) l (c + 1)), .v (.int m), .un, .v (.int a), .un, .un] := rfl
    have e2 : dIfS (dT (dBin gGtI (dDGet 0 (dC (.str "left"))) (dC (.int 0)))) (dSeq (dSet 2 (rE (dBin gModI (dDGet 0 (dC (.str "left"))) (dVar 1))))
  (dSeq (dDPut 0 (dC (.str "left")) (dBin gDivI (dDGet 0 (dC (.str "left"))) (dVar 1)))
  (dRet (dVar 2)))) dNext [.dct true (feedD cs a l (c + 1)), .v (.int m), .un, .un, .un, .un] = .nx [.dct true (feedD cs a l (c + 1)), .v (.int m), .un, .un, .un, .un] :=
      ifF (e := [.dct true (feedD cs a l (c + 1)), .v (.int m), .un, .un, .un, .un]) (tE (by
        show Res.ok (OV.d (PyData.bool (decide (0 < l)))) _ = _
        rw [decide_eq_false hl])) rfl
    by_cases hb : (decide ((10 : Int) ^ 18 ≤ x) && decide (a < (cs.map PyData.int).length)) = true
    · rw [Bool.and_eq_true] at hb
      refine ⟨feedD cs (a + 1) (x / m) (c + 1), x % m, ⟨_, _, _, _, rfl, by omega⟩, Int.emod_nonneg _ (by omega), Int.emod_lt_of_pos _ hm, ?_⟩
      refine run (e := [.dct true (feedD cs (a + 1) (x / m) (c + 1)), .v (.int m), .un, .v (.int a), .v (.int x), .un]) ?_ rfl rfl
      unfold m_L_draw
      refine seqE e1 (seqE e2 (seqE (e := [.dct true (feedD cs a l (c + 1)), .v (.int m), .un, .v (.int a), .un, .un]) rfl (seqE e3 (seqE (setE hx rfl rfl) (seqR (ifT (e := [.dct true (feedD cs (a + 1) l (c + 1)), .v (.int m), .un, .v (.int a), .v (.int x), .un]) ?_ ?_))))))
      · show (if decide ((10 : Int) ^ 18 ≤ x) = true then _ else _) = _
        rw [if_pos hb.1]
        exact tE (by
          show Res.ok (OV.d (PyData.bool (decide (a < (cs.map PyData.int).length)))) _ = _
          rw [hb.2]; rfl)
      · refine seqE (putE (binE rfl rfl rfl rfl (divOk hm hm2)) rfl rfl rfl rfl rfl rfl (by show 4 < lenB; decide)) ?_
        exact retE (binE rfl rfl rfl rfl (modOk hm)) rfl
    · obtain ⟨r, y, h1, h2, h3⟩ := draw_tail (cs := cs) (a := a + 1) (l := l) (c := c + 1) (x := x) (b := a) hm hm2
      refine ⟨feedD cs (a + 1) l (c + 1), r, ⟨_, _, _, _, rfl, by omega⟩, h1, h2, ?_⟩
      refine run (e := [.dct true (feedD cs (a + 1) l (c + 1)), .v (.int m), .un, .v (.int a), .v (.int x), .v (.int y)]) ?_ rfl rfl
      unfold m_L_draw
      refine seqE e1 (seqE e2 (seqE (e := [.dct true (feedD cs a l (c + 1)), .v (.int m), .un, .v (.int a), .un, .un]) rfl (seqE e3 (seqE (setE hx rfl rfl) (seqE (ifF (e := [.dct true (feedD cs (a + 1) l (c + 1)), .v (.int m), .un, .v (.int a), .v (.int x), .un]) ?_ rfl) h3)))))
      show (if decide ((10 : Int) ^ 18 ≤ x) = true then _ else _) = _
      by_cases h10 : decide ((10 : Int) ^ 18 ≤ x) = true
      · rw [if_pos h10]
        refine tE ?_
        show Res.ok (OV.d (PyData.bool (decide (a < (cs.map PyData.int).length)))) _ = _
        rw [h10, Bool.true_and] at hb
        rw [Bool.eq_false_iff.mpr hb]; rfl
      · rw [if_neg h10]; rfl
end
end K68

namespace K68
open PySem
open PySem.Spec
open PyProof.Rows
open L2
open L2.Dl
open PySem.W
theorem runF {nn : Nat} {m : DS} {ps e l : Nv} {x : PyData} (h : m (ps ++ List.replicate (nn - ps.length) .un) = .rt x e) (h2 : outP e ps 0 = some l) : mkFn nn m ps = .ok (.d x) l := by
  unfold mkFn; rw [h]; simp only [h2, outR]
theorem runN {nn : Nat} {m : DS} {ps e l : Nv} (h : m (ps ++ List.replicate (nn - ps.length) .un) = .nx e) (h2 : outP e ps 0 = some l) : mkFn nn m ps = .ok (.d .none) l := by
  unfold mkFn; rw [h]; simp only [h2, outR]
theorem setE2 {d : DE} {env e e1 e2 : Nv} {o : OV} {x : PyData} {i : Nat} (h : d env = .ok o e) (h1 : slotOf e o = .ok (.v x) e1) (h2 : freeAt e1 i = true) (h3 : e1.set i (.v x) = e2) : dSet i (rE d) env = .nx e2 := by rw [← h3]; exact setE h h1 h2
theorem parE2 {r q : DR} {env e e1 e2 : Nv} {s u : Slot} {i j : Nat} (h1 : r env = .ok s e) (h2 : q e = .ok u e1) (hij : i ≠ j) (f1 : freeAt e1 i = true) (f2 : freeAt e1 j = true) (h3 : (e1.set i s).set j u = e2) : dPar i j r q env = .nx e2 := by rw [← h3]; exact parE h1 h2 hij f1 f2
theorem asgE {e : Nv} {i : Nat} {x : PyData} (h : freeAt e i = true) : asgP (.nm i) x e = some (e.set i (.v x)) := by unfold asgP; rw [if_pos h]
theorem andT {t u : DT} {env e e1 : Nv} {a c : Bool} (h : t env = .ok a e) (h2 : (if a = true then u e else .ok false e) = .ok c e1) : dAndT t u env = .ok c e1 := by unfold dAndT; rw [h]; exact h2
theorem orT {t u : DT} {env e e1 : Nv} {a c : Bool} (h : t env = .ok a e) (h2 : (if a = true then .ok true e else u e) = .ok c e1) : dOrT t u env = .ok c e1 := by unfold dOrT; rw [h]; exact h2
theorem notT {t : DT} {env e : Nv} {a : Bool} (h : t env = .ok a e) : dNotT t env = .ok (!a) e := by unfold dNotT; rw [h]; rfl
abbrev Rp2 := Int × Bool
def rep (r : Rp2) : PyData := .tuple [.int r.1, .bool r.2]
def tu (rs : List Rp2) : PyData := .tuple (rs.map rep)
theorem lay_rep : ∀ rs : List Rp2, PyData.canLayAll0 (rs.map rep) = true
  | [] => rfl
  | r :: rs => by rw [List.map_cons]; show (_ && _) = true; rw [lay_rep rs]; rfl
theorem dep_rep : ∀ rs : List Rp2, PyData.depthAll (rs.map rep) ≤ 1
  | [] => Nat.zero_le _
  | r :: rs => by rw [List.map_cons]; exact Nat.max_le.mpr ⟨Nat.le_refl _, dep_rep rs⟩
theorem shaped_reps (rs : List Rp2) : SeqAt.shaped (.list (rs.map rep)) = true := by
  unfold SeqAt.shaped
  rw [show (PyData.list (rs.map rep)).canLay0 = true from lay_rep rs, show (PyData.list (rs.map rep)).depth = PyData.depthAll (rs.map rep) + 1 from rfl]
  have := dep_rep rs
  simp; omega
def nI (k : Nat) : PyData := .int (k : Nat)
theorem shaped_nI (ds : List Nat) : SeqAt.shaped (.list (ds.map nI)) = true := by
  have := shaped_ints (ds.map Int.ofNat)
  rw [List.map_map] at this
  exact this
theorem eq_nil {L : List PyData} (h : SeqAt.shaped (.list L) = true) : gEq (.list L) (.list []) = some (.bool L.isEmpty) := by
  show (if (SeqAt.shaped (.list L) && SeqAt.shaped (.list [])) = true then some (PyData.bool (PyData.eqv (.list L) (.list []))) else none) = _
  rw [h]
  cases L <;> rfl
theorem ne_nil {L : List PyData} (h : SeqAt.shaped (.list L) = true) : gNe (.list L) (.list []) = some (.bool (!L.isEmpty)) := by
  show (if (SeqAt.shaped (.list L) && SeqAt.shaped (.list [])) = true then some (PyData.bool (!PyData.eqv (.list L) (.list []))) else none) = _
  rw [h]
  cases L <;> rfl
def okR (m : Int) (r : Rp2) : Bool := decide (r.1 ≤ m) == r.2
def okN (rs : List Rp2) (m : Nat) : Bool := rs.all (okR m)
def canL (n : Nat) (rs : List Rp2) : List Nat := (List.range n).filter (okN rs)
def bCan (m : Int) (x : PyData) : Bool := match x with
  | .tuple [.int k, .bool t] => !(decide (k ≤ m) == t)
  | _ => false
theorem bCan_rep (m : Int) (r : Rp2) : bCan m (rep r) = !okR m r := rfl
theorem can_lc {rs : List Rp2} {m : Int} {n : PyData} {g2 : Slot} (hl : rs.length ≤ 1000) : dLc (dIt (dVar 1)) (.nm 4) (dT (dBin gNe (dBin gLeI (dBin gIx (dVar 4) (dC (.int 0))) (dVar 3)) (dBin gIx (dVar 4) (dC (.int 1))))) (dVar 4) [4] [.v n, .v (tu rs), g2, .v (.int m), .un]
    = .ok ((rs.filter fun r => !okR m r).map rep) [.v n, .v (tu rs), g2, .v (.int m), .un] := by
  have lc := lc_pure (i := 4) (it := dIt (dVar 1)) (t := dT (dBin gNe (dBin gLeI (dBin gIx (dVar 4) (dC (.int 0))) (dVar 3)) (dBin gIx (dVar 4) (dC (.int 1))))) (d := dVar 4) (env := [.v n, .v (tu rs), g2, .v (.int m), .un]) (e := [.v n, .v (tu rs), g2, .v (.int m), .un]) (xs := rs.map rep) (b := bCan m) (f := id) rfl rfl (fun x hx => ?_) (fun x hx hb => ⟨.d x, rfl, rfl⟩) (by rw [List.length_map]; exact Nat.le_trans hl (by decide))
  · rw [List.map_id, List.filter_map] at lc
    exact lc
  · obtain ⟨⟨k, t⟩, _, rfl⟩ := List.mem_map.mp hx
    rw [bCan_rep]
    cases hd : decide (k ≤ m) <;> cases t <;> (show dT _ [.v n, .v (tu rs), g2, .v (.int m), .v (rep (k, _))] = _) <;> (refine tE (binE (binE (binE rfl rfl rfl rfl rfl) rfl rfl rfl rfl) (binE rfl rfl rfl rfl rfl) rfl rfl ?_)) <;> (rw [hd]; unfold okR; simp only [hd]; rfl)
theorem can_spec {n : Nat} {rs : List Rp2} (hn : n ≤ 1000) (hl : rs.length ≤ 1000) : f_L_can [.v (nI n), .v (tu rs)] = .ok (.d (.list ((canL n rs).map nI))) [.v (nI n), .v (tu rs)] := by
  obtain ⟨e', h1, h2⟩ := forL_inv (p := .nm 3) (b := m_L_can_1) (fun j e => ∃ g : Slot, (g = .un ∨ ∃ x, g = .v x) ∧ e = [.v (nI n), .v (tu rs), .own false (((List.range j).filter (okN rs)).map nI), g, .un]) (rangeL 0 n) 0 [.v (nI n), .v (tu rs), .own false [], .un, .un] ⟨.un, .inl rfl, rfl⟩ (fun j x e hx hJ => by
    obtain ⟨g, hg, rfl⟩ := hJ
    obtain ⟨hj, rfl⟩ := rangeL_get hx
    rw [Int.zero_add, Nat.zero_add]
    refine ⟨[.v (nI n), .v (tu rs), .own false (((List.range j).filter (okN rs)).map nI), .v (nI j), .un], [.v (nI n), .v (tu rs), .own false (((List.range (j + 1)).filter (okN rs)).map nI), .v (nI j), .un], ?_, ?_, .v (nI j), .inr ⟨_, rfl⟩, rfl⟩
    · rcases hg with rfl | ⟨x, rfl⟩ <;> rfl
    · have ht : dT (dBin gEq (dFz (dLc (dIt (dVar 1)) (.nm 4) (dT (dBin gNe (dBin gLeI (dBin gIx (dVar 4) (dC (.int 0))) (dVar 3)) (dBin gIx (dVar 4) (dC (.int 1))))) (dVar 4) [4])) (dFz (dLst dANil))) [.v (nI n), .v (tu rs), .own false (((List.range j).filter (okN rs)).map nI), .v (nI j), .un] = .ok (okN rs j) [.v (nI n), .v (tu rs), .own false (((List.range j).filter (okN rs)).map nI), .v (nI j), .un] := by
        refine tE (binE (fzE (can_lc (m := (j : Int)) hl)) rfl rfl rfl ((eq_nil (shaped_reps _)).trans ?_))
        congr 2
        unfold okN
        rw [List.isEmpty_map]
        cases h : rs.all (okR j) with
        | true =>
          rw [List.filter_eq_nil_iff.mpr fun r hr => by simp [List.all_eq_true.mp h r hr]]
          rfl
        | false =>
          obtain ⟨r, hr, h2⟩ := List.all_eq_false.mp h
          cases hf : rs.filter fun r => !okR j r with
          | nil =>
            have := List.filter_eq_nil_iff.mp hf r hr
            simp at this
            exact absurd this (by simpa using h2)
          | cons _ _ => rfl
      rw [List.range_succ, List.filter_append]
      cases hk : okN rs j with
      | true =>
        rw [hk] at ht
        rw [List.filter_cons_of_pos hk, List.filter_nil, List.map_append]
        have ap : dApp 2 (dVar 3) [.v (nI n), .v (tu rs), .own false (((List.range j).filter (okN rs)).map nI), .v (nI j), .un] = .ok (.d .none) [.v (nI n), .v (tu rs), .own false (((List.range j).filter (okN rs)).map nI ++ [nI j]), .v (nI j), .un] := by
          have hlen : (((List.range j).filter (okN rs)).map nI).length < lenB := by
            rw [List.length_map]
            exact Nat.lt_of_le_of_lt (List.length_filter_le _ _) (by rw [List.length_range]; exact Nat.lt_of_lt_of_le hj (Nat.le_trans hn (by decide)))
          show (if (((List.range j).filter (okN rs)).map nI).length < lenB then _ else _) = _
          rw [if_pos hlen]
          rfl
        exact ifT ht (expE ap)
      | false =>
        rw [hk] at ht
        rw [List.filter_cons_of_neg (by simp [hk]), List.filter_nil, List.append_nil]
        exact ifF ht rfl)
  obtain ⟨g, hg, rfl⟩ := h2
  rw [show 0 + (rangeL 0 n).length = n by simp [rangeL]] at h1
  have it : dRange1 (dACons (dVar 0) dANil) [.v (nI n), .v (tu rs), .own false [], .un, .un] = .ok (rangeL 0 n) [.v (nI n), .v (tu rs), .own false [], .un, .un] := by
    show (if inLong (n : Int) = true then _ else _) = _
    rw [if_pos (show inLong (n : Int) = true from decide_eq_true (by omega))]
    simp
  refine runF (e := [.v (nI n), .v (tu rs), .v (.list ((canL n rs).map nI)), g, .un]) (show m_L_can [.v (nI n), .v (tu rs), .un, .un, .un] = _ from ?_) rfl
  unfold m_L_can
  exact seqE (e := [.v (nI n), .v (tu rs), .own false [], .un, .un]) rfl (seqE (forE it h1) rfl)
end K68

namespace K68
open PySem
open PySem.Spec
open PyProof.Rows
open L2
open L2.Dl
open PySem.W
def en : Nat → List Rp2 → List (Nat × Rp2)
  | _, [] => []
  | i, r :: rs => (i, r) :: en (i + 1) rs
def ep (q : Nat × Rp2) : PyData := .tuple [nI q.1, rep q.2]
theorem en_map : ∀ (i : Nat) (rs : List Rp2), enumL i (rs.map rep) = (en i rs).map ep
  | _, [] => rfl
  | i, r :: rs => by
    show _ :: enumL (i + 1) (rs.map rep) = _ :: (en (i + 1) rs).map ep
    rw [en_map (i + 1) rs]
    rfl
theorem en_len : ∀ (i : Nat) (rs : List Rp2), (en i rs).length = rs.length
  | _, [] => rfl
  | i, r :: rs => congrArg Nat.succ (en_len (i + 1) rs)
theorem en_mem : ∀ (rs : List Rp2) (i : Nat) (q : Nat × Rp2), q ∈ en i rs → i ≤ q.1 ∧ rs[q.1 - i]? = some q.2
  | [], _, _, h => by cases h
  | r :: rs, i, q, h => by
    rcases List.mem_cons.mp h with rfl | h
    · exact ⟨Nat.le_refl _, by simp⟩
    · obtain ⟨h1, h2⟩ := en_mem rs (i + 1) q h
      refine ⟨by omega, ?_⟩
      rw [show q.1 - i = (q.1 - (i + 1)) + 1 by omega]
      simpa using h2
theorem en_of_mem : ∀ (rs : List Rp2) (i : Nat) (r : Rp2), r ∈ rs → ∃ j, (j, r) ∈ en i rs
  | [], _, _, h => by cases h
  | r' :: rs, i, r, h => by
    rcases List.mem_cons.mp h with rfl | h
    · exact ⟨i, List.mem_cons_self ..⟩
    · obtain ⟨j, hj⟩ := en_of_mem rs (i + 1) r h
      exact ⟨j, List.mem_cons_of_mem _ hj⟩
def ltB (k : Int) (q : Nat × Rp2) : Bool := q.2.2 && decide (k ≤ q.2.1)
def later (rs : List Rp2) (k : Int) : List Nat := ((en 0 rs).filter (ltB k)).map (·.1)
def brF (rs : List Rp2) : List (Nat × Rp2) → Option (Nat × Nat)
  | [] => none
  | q :: r => if q.2.2 = false then (match later rs q.2.1 with
    | j :: _ => some (q.1, j)
    | [] => brF rs r) else brF rs r
def br (rs : List Rp2) : Option (Nat × Nat) := brF rs (en 0 rs)
def brD : Option (Nat × Nat) → PyData
  | none => .none
  | some (i, j) => .tuple [nI i, nI j]
def bL (k : Int) (x : PyData) : Bool := match x with
  | .tuple [.int _, .tuple [.int o, .bool t]] => t && decide (k ≤ o)
  | _ => false
def fL (x : PyData) : PyData := match x with
  | .tuple (y :: _) => y
  | _ => .none
abbrev P1 : Pat := .tp (.cons (.nm 1) (.cons (.tp (.cons (.nm 2) (.cons (.nm 3) .nil))) .nil))
abbrev P5 : Pat := .tp (.cons (.nm 5) (.cons (.tp (.cons (.nm 6) (.cons (.nm 7) .nil))) .nil))
theorem it_enum {rs : List Rp2} {e : Nv} (h : dVar 0 e = .ok (.d (tu rs)) e) : dEnum (dVar 0) e = .ok ((en 0 rs).map ep) e := by
  unfold dEnum
  rw [h, ← en_map]
  rfl
theorem later_lc {rs : List Rp2} {i t : PyData} {k : Int} {g4 : Slot} (hl : rs.length ≤ 1000) : dLc (dEnum (dVar 0)) P5 (dAndT (dT (dVar 7)) (dT (dBin gGeI (dVar 6) (dVar 2)))) (dVar 5) [5, 6, 7] [.v (tu rs), .v i, .v (.int k), .v t, g4, .un, .un, .un]
    = .ok ((later rs k).map nI) [.v (tu rs), .v i, .v (.int k), .v t, g4, .un, .un, .un] := by
  have lc := lc_gen (p := P5) (t := dAndT (dT (dVar 7)) (dT (dBin gGeI (dVar 6) (dVar 2)))) (d := dVar 5) (vs := [5, 6, 7]) (b := bL k) (f := fL) (e := [.v (tu rs), .v i, .v (.int k), .v t, g4, .un, .un, .un])
    (fe := fun x => match x with | .tuple [.int j, .tuple [.int o, .bool u]] => [.v (tu rs), .v i, .v (.int k), .v t, g4, .v (.int j), .v (.int o), .v (.bool u)] | _ => []) (it_enum (rs := rs) (e := [.v (tu rs), .v i, .v (.int k), .v t, g4, .un, .un, .un]) rfl) rfl rfl (fun x hx => ?_) (by rw [List.length_map, en_len]; exact Nat.le_trans hl (by decide)) rfl
  · rw [List.filter_map, List.map_map] at lc
    unfold later
    rw [List.map_map]
    exact lc
  · obtain ⟨⟨j, o, u⟩, _, rfl⟩ := List.mem_map.mp hx
    refine ⟨rfl, ?_, fun _ => ⟨_, rfl, rfl⟩, rfl⟩
    cases u with
    | true => exact andT (a := true) rfl rfl
    | false => exact andT (a := false) rfl rfl
theorem len_pos {L : List Nat} {e : Nv} (h : dVar 4 e = .ok (.d (.list (L.map nI))) e) : dT (dBin gGtI (dCallB gLen (dACons (dVar 4) dANil)) (dC (.int 0))) e = .ok (!L.isEmpty) e := by
  have h1 : dCallB gLen (dACons (dVar 4) dANil) e = .ok (.d (.int ((L.map nI).length : Int))) e := callBE (consE (r := dANil) h rfl) rfl rfl
  refine (tE (binE h1 rfl rfl rfl rfl)).trans ?_
  rw [List.length_map]
  cases L with
  | nil => rfl
  | cons _ _ =>
    congr 1
    rw [decide_eq_true (by simp)]
    rfl
theorem br_step {rs : List Rp2} {q : Nat × Rp2} {g4 : Slot} (hl : rs.length ≤ 1000) (h4 : (!g4.par) = true) : ∃ e', m_breach_of_1 [.v (tu rs), .v (nI q.1), .v (.int q.2.1), .v (.bool q.2.2), g4, .un, .un, .un] =
    (if q.2.2 = false then (match later rs q.2.1 with | j :: _ => .rt (brD (some (q.1, j))) e' | [] => .nx [.v (tu rs), .v (nI q.1), .v (.int q.2.1), .v (.bool q.2.2), .v (.list ((later rs q.2.1).map nI)), .un, .un, .un])
      else .nx [.v (tu rs), .v (nI q.1), .v (.int q.2.1), .v (.bool q.2.2), .v (.list ((later rs q.2.1).map nI)), .un, .un, .un]) := by
  refine ⟨[.v (tu rs), .v (nI q.1), .v (.int q.2.1), .v (.bool q.2.2), .v (.list ((later rs q.2.1).map nI)), .un, .un, .un], ?_⟩
  unfold m_breach_of_1
  refine seqE (setE2 (fzE (later_lc hl)) rfl h4 rfl) ?_
  have lp := len_pos (L := later rs q.2.1) (e := [.v (tu rs), .v (nI q.1), .v (.int q.2.1), .v (.bool q.2.2), .v (.list ((later rs q.2.1).map nI)), .un, .un, .un]) rfl
  obtain ⟨i, k, t⟩ := q
  cases t with
  | true => exact ifF (andT (a := false) rfl rfl) rfl
  | false =>
    rw [if_pos rfl]
    simp only [] at lp ⊢
    cases hL : later rs k with
    | nil =>
      rw [hL] at lp
      exact ifF (andT (a := true) rfl lp) rfl
    | cons j r =>
      rw [hL] at lp
      have h0 : gIx (.list ((j :: r).map nI)) (.int 0) = some (nI j) := atI_nat (j := 0) rfl
      have h1 : dBin gIx (dVar 4) (dC (.int 0)) [.v (tu rs), .v (nI i), .v (.int k), .v (.bool false), .v (.list ((j :: r).map nI)), .un, .un, .un] = .ok (.d (nI j)) [.v (tu rs), .v (nI i), .v (.int k), .v (.bool false), .v (.list ((j :: r).map nI)), .un, .un, .un] := binE rfl rfl rfl rfl h0
      refine ifT (andT (a := true) rfl lp) (retE (o := .d (.tuple [nI i, nI j])) ?_ rfl)
      have kk := consE (d := dVar 1) (env := [.v (tu rs), .v (nI i), .v (.int k), .v (.bool false), .v (.list ((j :: r).map nI)), .un, .un, .un]) rfl (consE (r := dANil) h1 rfl)
      unfold dTup
      rw [kk]
      rfl
theorem br_loop {rs : List Rp2} (hl : rs.length ≤ 1000) : ∀ (qs : List (Nat × Rp2)) (e : Nv), (e = [.v (tu rs), .un, .un, .un, .un, .un, .un, .un] ∨ ∃ a b c d : PyData, e = [.v (tu rs), .v a, .v b, .v c, .v d, .un, .un, .un]) →
    ∃ e', forL P1 m_breach_of_1 (qs.map ep) e = (match brF rs qs with | some q => .rt (brD (some q)) e' | none => .nx e')
  | [], e, _ => ⟨e, rfl⟩
  | q :: qs, e, he => by
    obtain ⟨g4, h4, ha⟩ : ∃ g4 : Slot, (!g4.par) = true ∧ asgP P1 (ep q) e = some [.v (tu rs), .v (nI q.1), .v (.int q.2.1), .v (.bool q.2.2), g4, .un, .un, .un] := by
      rcases he with rfl | ⟨a, b, c, d, rfl⟩
      · exact ⟨.un, rfl, rfl⟩
      · exact ⟨.v d, rfl, rfl⟩
    obtain ⟨e1, h1⟩ := br_step (q := q) hl h4
    obtain ⟨e2, h2⟩ := br_loop hl qs [.v (tu rs), .v (nI q.1), .v (.int q.2.1), .v (.bool q.2.2), .v (.list ((later rs q.2.1).map nI)), .un, .un, .un] (.inr ⟨_, _, _, _, rfl⟩)
    show ∃ e', forL P1 m_breach_of_1 (ep q :: qs.map ep) e = (match (if q.2.2 = false then (match later rs q.2.1 with | j :: _ => some (q.1, j) | [] => brF rs qs) else brF rs qs) with | some q => .rt (brD (some q)) e' | none => .nx e')
    cases ht : q.2.2 with
    | true =>
      rw [ht] at h1 h2 ha
      simp only [Bool.true_eq_false, if_false] at h1 ⊢
      refine ⟨e2, ?_⟩
      unfold forL
      simp only [ha, h1]
      exact h2
    | false =>
      rw [ht] at h1 h2 ha
      simp only [if_true] at h1 ⊢
      cases hL : later rs q.2.1 with
      | nil =>
        rw [hL] at h1 h2
        simp only [] at h1 ⊢
        refine ⟨e2, ?_⟩
        unfold forL
        simp only [ha, h1]
        exact h2
      | cons j r =>
        rw [hL] at h1
        simp only [] at h1 ⊢
        refine ⟨e1, ?_⟩
        unfold forL
        simp only [ha, h1]
theorem breach_spec {rs : List Rp2} (hl : rs.length ≤ 1000) : f_breach_of [.v (tu rs)] = .ok (.d (brD (br rs))) [.v (tu rs)] := by
  obtain ⟨e', h⟩ := br_loop hl (en 0 rs) [.v (tu rs), .un, .un, .un, .un, .un, .un, .un] (.inl rfl)
  have it := it_enum (rs := rs) (e := [.v (tu rs), .un, .un, .un, .un, .un, .un, .un]) rfl
  unfold br
  cases hb : brF rs (en 0 rs) with
  | none =>
    rw [hb] at h
    have ho : outP e' [.v (tu rs)] 0 = some [.v (tu rs)] := rfl
    refine runF (e := e') (show m_breach_of [.v (tu rs), .un, .un, .un, .un, .un, .un, .un] = _ from ?_) ho
    unfold m_breach_of
    exact seqE (forE it h) rfl
  | some q =>
    rw [hb] at h
    have ho : outP e' [.v (tu rs)] 0 = some [.v (tu rs)] := rfl
    refine runF (e := e') (show m_breach_of [.v (tu rs), .un, .un, .un, .un, .un, .un, .un] = _ from ?_) ho
    unfold m_breach_of
    exact seqR (forE it h)
theorem later_mem {rs : List Rp2} {k : Int} {j : Nat} (h : j ∈ later rs k) : ∃ r : Rp2, rs[j]? = some r ∧ r.2 = true ∧ k ≤ r.1 := by
  obtain ⟨q, hq, rfl⟩ := List.mem_map.mp h
  obtain ⟨h1, h2⟩ := List.mem_filter.mp hq
  obtain ⟨_, h3⟩ := en_mem rs 0 q h1
  unfold ltB at h2
  rw [Bool.and_eq_true, decide_eq_true_eq] at h2
  exact ⟨q.2, h3, h2.1, h2.2⟩
theorem later_nil {rs : List Rp2} {k : Int} (h : later rs k = []) : ∀ r ∈ rs, r.2 = true → r.1 < k := fun r hr ht => by
  obtain ⟨j, hj⟩ := en_of_mem rs 0 r hr
  have := List.filter_eq_nil_iff.mp (List.map_eq_nil_iff.mp h) _ hj
  unfold ltB at this
  simp [ht] at this
  exact this
theorem brF_some {rs : List Rp2} {i j : Nat} : ∀ {qs : List (Nat × Rp2)}, brF rs qs = some (i, j) → ∃ q ∈ qs, q.1 = i ∧ q.2.2 = false ∧ j ∈ later rs q.2.1
  | [], h => by cases h
  | q :: qs, h => by
    have up : brF rs qs = some (i, j) → ∃ q' ∈ q :: qs, q'.1 = i ∧ q'.2.2 = false ∧ j ∈ later rs q'.2.1 := fun h => by
      obtain ⟨q', h1, h2⟩ := brF_some h
      exact ⟨q', List.mem_cons_of_mem _ h1, h2⟩
    unfold brF at h
    split at h
    · rename_i ht
      split at h
      · rename_i j' r hL
        cases h
        exact ⟨q, List.mem_cons_self .., rfl, ht, by rw [hL]; exact List.mem_cons_self ..⟩
      · exact up h
    · exact up h
theorem brF_none {rs : List Rp2} : ∀ {qs : List (Nat × Rp2)}, brF rs qs = none → ∀ q ∈ qs, q.2.2 = false → later rs q.2.1 = []
  | [], _, _, h, _ => by cases h
  | q :: qs, h, q', hq, ht => by
    unfold brF at h
    split at h
    · rename_i h0
      split at h
      · cases h
      · rename_i hL
        rcases List.mem_cons.mp hq with rfl | hq
        · exact hL
        · exact brF_none h q' hq ht
    · rename_i h0
      rcases List.mem_cons.mp hq with rfl | hq
      · exact absurd ht h0
      · exact brF_none h q' hq ht
theorem br_some {rs : List Rp2} {i j : Nat} (h : br rs = some (i, j)) : ∃ a b : Rp2, rs[i]? = some a ∧ rs[j]? = some b ∧ a.2 = false ∧ b.2 = true ∧ a.1 ≤ b.1 := by
  obtain ⟨q, h1, rfl, h2, h3⟩ := brF_some h
  obtain ⟨b, k1, k2, k3⟩ := later_mem h3
  exact ⟨q.2, b, (en_mem rs 0 q h1).2, k1, h2, k2, k3⟩
theorem br_none {rs : List Rp2} (h : br rs = none) : ∀ a ∈ rs, ∀ b ∈ rs, a.2 = false → b.2 = true → b.1 < a.1 := fun a ha b hb h1 h2 => by
  obtain ⟨j, hj⟩ := en_of_mem rs 0 a ha
  exact later_nil (brF_none h _ hj h1) b hb h2
end K68

namespace K68
open PySem
open PySem.Spec
open PyProof.Rows
open L2
open L2.Dl
open PySem.W
def gds (rs : List Rp2) : List Int := (rs.filter fun r => r.2).map (·.1)
def bds (rs : List Rp2) : List Int := (rs.filter fun r => !r.2).map (·.1)
def lo (rs : List Rp2) : Int := Dl.maxL (0 :: gds rs)
def hi (n : Nat) (rs : List Rp2) : Int := Dl.minL ((n : Int) :: bds rs)
theorem intsOf_map : ∀ ns : List Int, intsOf (ns.map .int) = some ns
  | [] => rfl
  | n :: r => by
    rw [List.map_cons]
    show (match intsOf (r.map .int) with | some l => some (n :: l) | none => none) = _
    rw [intsOf_map r]
abbrev P4 : Pat := .tp (.cons (.nm 4) (.cons (.nm 5) .nil))
def snd2 (x : PyData) : Bool := match x with
  | .tuple [_, .bool t] => t
  | _ => false
def snd2n (x : PyData) : Bool := match x with
  | .tuple [_, .bool t] => !t
  | _ => false
theorem good_lc {rs : List Rp2} {n a g3 g6 : Slot} (hl : rs.length ≤ 1000) : dLc (dIt (dVar 1)) P4 (dT (dVar 5)) (dVar 4) [4, 5] [n, .v (tu rs), a, g3, .un, .un, g6] = .ok ((gds rs).map .int) [n, .v (tu rs), a, g3, .un, .un, g6] := by
  have lc := lc_gen (p := P4) (it := dIt (dVar 1)) (env := [n, .v (tu rs), a, g3, .un, .un, g6]) (e0 := [n, .v (tu rs), a, g3, .un, .un, g6]) (t := dT (dVar 5)) (d := dVar 4) (vs := [4, 5]) (b := snd2) (f := fL) (e := [n, .v (tu rs), a, g3, .un, .un, g6]) (xs := rs.map rep)
    (fe := fun x => match x with | .tuple [y, .bool t] => [n, .v (tu rs), a, g3, .v y, .v (.bool t), g6] | _ => []) rfl rfl rfl (fun x hx => ?_) (by rw [List.length_map]; exact Nat.le_trans hl (by decide)) rfl
  · rw [List.filter_map, List.map_map] at lc
    unfold gds
    rw [List.map_map]
    exact lc
  · obtain ⟨⟨k, t⟩, _, rfl⟩ := List.mem_map.mp hx
    exact ⟨rfl, rfl, fun _ => ⟨_, rfl, rfl⟩, rfl⟩
theorem bad_lc {rs : List Rp2} {n a g3 g6 : Slot} (hl : rs.length ≤ 1000) : dLc (dIt (dVar 1)) P4 (dNotT (dT (dVar 5))) (dVar 4) [4, 5] [n, .v (tu rs), a, g3, .un, .un, g6] = .ok ((bds rs).map .int) [n, .v (tu rs), a, g3, .un, .un, g6] := by
  have lc := lc_gen (p := P4) (it := dIt (dVar 1)) (env := [n, .v (tu rs), a, g3, .un, .un, g6]) (e0 := [n, .v (tu rs), a, g3, .un, .un, g6]) (t := dNotT (dT (dVar 5))) (d := dVar 4) (vs := [4, 5]) (b := snd2n) (f := fL) (e := [n, .v (tu rs), a, g3, .un, .un, g6]) (xs := rs.map rep)
    (fe := fun x => match x with | .tuple [y, .bool t] => [n, .v (tu rs), a, g3, .v y, .v (.bool t), g6] | _ => []) rfl rfl rfl (fun x hx => ?_) (by rw [List.length_map]; exact Nat.le_trans hl (by decide)) rfl
  · rw [List.filter_map, List.map_map] at lc
    unfold bds
    rw [List.map_map]
    exact lc
  · obtain ⟨⟨k, t⟩, _, rfl⟩ := List.mem_map.mp hx
    exact ⟨rfl, rfl, fun _ => ⟨_, rfl, rfl⟩, rfl⟩
theorem len_g (rs : List Rp2) : (gds rs).length ≤ rs.length := by unfold gds; rw [List.length_map]; exact List.length_filter_le _ _
theorem len_b (rs : List Rp2) : (bds rs).length ≤ rs.length := by unfold bds; rw [List.length_map]; exact List.length_filter_le _ _
def seekD (n : Nat) (rs : List Rp2) : PyData := match br rs with
  | some q => .tuple [.str "breach", brD (some q)]
  | none => if hi n rs - lo rs = 1 then .tuple [.str "found", .int (lo rs)] else .tuple [.str "ask", .int (lo rs + (hi n rs - lo rs) / 2)]
theorem add_cons {x : Int} {ns : List Int} (h : ns.length ≤ 1000) : gAdd (.list [.int x]) (.list (ns.map .int)) = some (.list ((x :: ns).map .int)) := by
  show (if 1 + (ns.map PyData.int).length ≤ lenB then some (PyData.list (.int x :: ns.map .int)) else none) = _
  rw [if_pos (by rw [List.length_map]; exact Nat.le_trans (by omega : _ ≤ 1001) (by decide))]
  rfl
theorem seek_spec {n : Nat} {rs : List Rp2} (hl : rs.length ≤ 1000) : f_seek [.v (nI n), .v (tu rs)] = .ok (.d (seekD n rs)) [.v (nI n), .v (tu rs)] := by
  have c1 : dCall 1 f_breach_of [] (dACons (dVar 1) dANil) [.v (nI n), .v (tu rs), .un, .un, .un, .un, .un] = .ok (.d (brD (br rs))) [.v (nI n), .v (tu rs), .un, .un, .un, .un, .un] := callE (os := [.d (tu rs)]) rfl rfl (call_plain rfl rfl (breach_spec hl))
  have s1 : dSet 2 (rE (dCall 1 f_breach_of [] (dACons (dVar 1) dANil))) [.v (nI n), .v (tu rs), .un, .un, .un, .un, .un] = .nx [.v (nI n), .v (tu rs), .v (brD (br rs)), .un, .un, .un, .un] := setE2 c1 rfl rfl rfl
  unfold seekD
  cases hb : br rs with
  | some q =>
    obtain ⟨i, j⟩ := q
    rw [hb] at s1
    refine runF (e := [.v (nI n), .v (tu rs), .v (brD (some (i, j))), .un, .un, .un, .un]) (show m_seek [.v (nI n), .v (tu rs), .un, .un, .un, .un, .un] = _ from ?_) rfl
    unfold m_seek
    exact seqE s1 (seqR (ifT (e := [.v (nI n), .v (tu rs), .v (brD (some (i, j))), .un, .un, .un, .un]) rfl rfl))
  | none =>
    rw [hb] at s1
    have s2 : dSet 3 (rE (dCallB gMaxL (dACons (dBin gAdd (dFz (dLst (dACons (dC (.int 0)) dANil))) (dFz (dLc (dIt (dVar 1)) P4 (dT (dVar 5)) (dVar 4) [4, 5]))) dANil))) [.v (nI n), .v (tu rs), .v .none, .un, .un, .un, .un] = .nx [.v (nI n), .v (tu rs), .v .none, .v (.int (lo rs)), .un, .un, .un] := by
      refine setE2 (callBE (os := [.d (.list ((0 :: gds rs).map .int))]) (consE (r := dANil) (binE (z := .list ((0 :: gds rs).map .int)) rfl (fzE (good_lc hl)) rfl rfl (add_cons (Nat.le_trans (len_g rs) hl))) rfl) rfl (z := .int (lo rs)) ?_) rfl rfl rfl
      show (match intsOf ((0 :: gds rs).map .int) with | some (b :: bs) => some (PyData.int (Dl.maxL (b :: bs))) | _ => none) = _
      rw [intsOf_map]
      rfl
    have s3 : dSet 6 (rE (dCallB gMinL (dACons (dBin gAdd (dFz (dLst (dACons (dVar 0) dANil))) (dFz (dLc (dIt (dVar 1)) P4 (dNotT (dT (dVar 5))) (dVar 4) [4, 5]))) dANil))) [.v (nI n), .v (tu rs), .v .none, .v (.int (lo rs)), .un, .un, .un] = .nx [.v (nI n), .v (tu rs), .v .none, .v (.int (lo rs)), .un, .un, .v (.int (hi n rs))] := by
      refine setE2 (callBE (os := [.d (.list (((n : Int) :: bds rs).map .int))]) (consE (r := dANil) (binE (z := .list (((n : Int) :: bds rs).map .int)) rfl (fzE (bad_lc hl)) rfl rfl (add_cons (Nat.le_trans (len_b rs) hl))) rfl) rfl (z := .int (hi n rs)) ?_) rfl rfl rfl
      show (match intsOf (((n : Int) :: bds rs).map .int) with | some (b :: bs) => some (PyData.int (Dl.minL (b :: bs))) | _ => none) = _
      rw [intsOf_map]
      rfl
    refine runF (e := [.v (nI n), .v (tu rs), .v .none, .v (.int (lo rs)), .un, .un, .v (.int (hi n rs))]) (show m_seek [.v (nI n), .v (tu rs), .un, .un, .un, .un, .un] = _ from ?_) rfl
    unfold m_seek
    refine seqE s1 (seqE (e := [.v (nI n), .v (tu rs), .v .none, .un, .un, .un, .un]) (ifF (e := [.v (nI n), .v (tu rs), .v .none, .un, .un, .un, .un]) rfl rfl) (seqE s2 (seqE s3 ?_)))
    have ht : dT (dBin gEq (dBin gSubI (dVar 6) (dVar 3)) (dC (.int 1))) [.v (nI n), .v (tu rs), .v .none, .v (.int (lo rs)), .un, .un, .v (.int (hi n rs))] = .ok (decide (hi n rs - lo rs = 1)) [.v (nI n), .v (tu rs), .v .none, .v (.int (lo rs)), .un, .un, .v (.int (hi n rs))] := rfl
    by_cases h1 : hi n rs - lo rs = 1
    · rw [decide_eq_true h1] at ht
      show _ = SRes.rt (if _ then _ else _) _
      rw [if_pos h1]
      exact retE (o := .d (.tuple [.str "found", .int (lo rs)])) (ifeE ht rfl) rfl
    · rw [decide_eq_false h1] at ht
      show _ = SRes.rt (if _ then _ else _) _
      rw [if_neg h1]
      refine retE (o := .d (.tuple [.str "ask", .int (lo rs + (hi n rs - lo rs) / 2)])) (ifeE ht ?_) rfl
      have kd : dBin gAdd (dVar 3) (dBin gDivI (dBin gSubI (dVar 6) (dVar 3)) (dC (.int 2))) [.v (nI n), .v (tu rs), .v .none, .v (.int (lo rs)), .un, .un, .v (.int (hi n rs))] = .ok (.d (.int (lo rs + (hi n rs - lo rs) / 2))) [.v (nI n), .v (tu rs), .v .none, .v (.int (lo rs)), .un, .un, .v (.int (hi n rs))] :=
        binE rfl (binE (binE rfl rfl rfl rfl rfl) rfl rfl rfl (divOk (j := 2) (by decide) (by decide))) rfl rfl rfl
      have kk := consE (d := dC (.str "ask")) (env := [.v (nI n), .v (tu rs), .v .none, .v (.int (lo rs)), .un, .un, .v (.int (hi n rs))]) rfl (consE (r := dANil) kd rfl)
      show dTup (dACons (dC (.str "ask")) (dACons _ dANil)) _ = _
      unfold dTup
      rw [kk]
      rfl
theorem maxL_sp : ∀ ns : List Int, ns ≠ [] → Dl.maxL ns ∈ ns ∧ ∀ y ∈ ns, y ≤ Dl.maxL ns
  | [], h => absurd rfl h
  | [x], _ => by simp [Dl.maxL]
  | x :: y :: r, _ => by
    obtain ⟨h1, h2⟩ := maxL_sp (y :: r) (by simp)
    have e : Dl.maxL (x :: y :: r) = max x (Dl.maxL (y :: r)) := rfl
    rw [e]
    constructor
    · by_cases h : x ≤ Dl.maxL (y :: r)
      · rw [Int.max_eq_right h]; exact List.mem_cons_of_mem _ h1
      · rw [Int.max_eq_left (by omega)]; exact List.mem_cons_self
    · intro z hz
      rcases List.mem_cons.mp hz with rfl | hz
      · exact Int.le_max_left _ _
      · exact Int.le_trans (h2 z hz) (Int.le_max_right _ _)
theorem minL_sp : ∀ ns : List Int, ns ≠ [] → Dl.minL ns ∈ ns ∧ ∀ y ∈ ns, Dl.minL ns ≤ y
  | [], h => absurd rfl h
  | [x], _ => by simp [Dl.minL]
  | x :: y :: r, _ => by
    obtain ⟨h1, h2⟩ := minL_sp (y :: r) (by simp)
    have e : Dl.minL (x :: y :: r) = min x (Dl.minL (y :: r)) := rfl
    rw [e]
    constructor
    · by_cases h : x ≤ Dl.minL (y :: r)
      · rw [Int.min_eq_left h]; exact List.mem_cons_self
      · rw [Int.min_eq_right (by omega)]; exact List.mem_cons_of_mem _ h1
    · intro z hz
      rcases List.mem_cons.mp hz with rfl | hz
      · exact Int.min_le_left _ _
      · exact Int.le_trans (Int.min_le_right _ _) (h2 z hz)
theorem lo_spec (rs : List Rp2) : 0 ≤ lo rs ∧ (∀ r ∈ rs, r.2 = true → r.1 ≤ lo rs) ∧ (lo rs = 0 ∨ ∃ r ∈ rs, r.2 = true ∧ lo rs = r.1) := by
  obtain ⟨h1, h2⟩ := maxL_sp (0 :: gds rs) (by simp)
  refine ⟨h2 0 (List.mem_cons_self ..), fun r hr ht => h2 _ (List.mem_cons_of_mem _ (List.mem_map.mpr ⟨r, List.mem_filter.mpr ⟨hr, ht⟩, rfl⟩)), ?_⟩
  rcases List.mem_cons.mp h1 with h | h
  · exact .inl h
  · obtain ⟨r, hr, e⟩ := List.mem_map.mp h
    obtain ⟨k1, k2⟩ := List.mem_filter.mp hr
    exact .inr ⟨r, k1, k2, e.symm⟩
theorem hi_spec (n : Nat) (rs : List Rp2) : hi n rs ≤ n ∧ (∀ r ∈ rs, r.2 = false → hi n rs ≤ r.1) ∧ (hi n rs = n ∨ ∃ r ∈ rs, r.2 = false ∧ hi n rs = r.1) := by
  obtain ⟨h1, h2⟩ := minL_sp ((n : Int) :: bds rs) (by simp)
  refine ⟨h2 _ (List.mem_cons_self ..), fun r hr ht => h2 _ (List.mem_cons_of_mem _ (List.mem_map.mpr ⟨r, List.mem_filter.mpr ⟨hr, by simp [ht]⟩, rfl⟩)), ?_⟩
  rcases List.mem_cons.mp h1 with h | h
  · exact .inl h
  · obtain ⟨r, hr, e⟩ := List.mem_map.mp h
    obtain ⟨k1, k2⟩ := List.mem_filter.mp hr
    exact .inr ⟨r, k1, by simpa using k2, e.symm⟩
theorem okN_iff (n : Nat) (rs : List Rp2) (m : Nat) (hm : m < n) : okN rs m = (decide (lo rs ≤ m) && decide ((m : Int) < hi n rs)) := by
  obtain ⟨a1, a2, a3⟩ := lo_spec rs
  obtain ⟨b1, b2, b3⟩ := hi_spec n rs
  rw [Bool.eq_iff_iff, Bool.and_eq_true, decide_eq_true_eq, decide_eq_true_eq]
  unfold okN
  rw [List.all_eq_true]
  constructor
  · intro h
    constructor
    · rcases a3 with e | ⟨r, hr, ht, e⟩
      · omega
      · have := h r hr
        unfold okR at this
        rw [ht] at this
        simp at this
        omega
    · rcases b3 with e | ⟨r, hr, ht, e⟩
      · omega
      · have := h r hr
        unfold okR at this
        rw [ht] at this
        simp at this
        omega
  · rintro ⟨h1, h2⟩ r hr
    unfold okR
    cases ht : r.2 with
    | true => have := a2 r hr ht; simp; omega
    | false => have := b2 r hr ht; simp; omega
theorem range_cut (n a c : Nat) (h1 : a ≤ c) (h2 : c ≤ n) : (List.range n).filter (fun m => decide (a ≤ m) && decide (m < c)) = (List.range (c - a)).map (a + ·) := by
  obtain ⟨x, rfl⟩ := Nat.exists_eq_add_of_le h1
  obtain ⟨y, rfl⟩ := Nat.exists_eq_add_of_le h2
  rw [List.range_add, List.range_add, List.filter_append, List.filter_append, Nat.add_sub_cancel_left]
  rw [List.filter_eq_nil_iff.mpr (fun m hm => by have := List.mem_range.mp hm; simp <;> omega), List.filter_eq_self.mpr (fun m hm => by obtain ⟨z, hz, rfl⟩ := List.mem_map.mp hm; have := List.mem_range.mp hz; simp; omega),
    List.filter_eq_nil_iff.mpr (fun m hm => by obtain ⟨z, hz, rfl⟩ := List.mem_map.mp hm; simp <;> omega)]
  simp
theorem canL_some {n : Nat} {rs : List Rp2} (h : lo rs ≤ hi n rs) : canL n rs = (List.range ((hi n rs).toNat - (lo rs).toNat)).map ((lo rs).toNat + ·) := by
  have a1 := (lo_spec rs).1
  have b1 := (hi_spec n rs).1
  rw [← range_cut n (lo rs).toNat (hi n rs).toNat (by omega) (by omega)]
  unfold canL
  refine List.filter_congr fun m hm => ?_
  rw [okN_iff n rs m (List.mem_range.mp hm)]
  rw [Bool.eq_iff_iff]
  simp <;> omega
theorem canL_none {n : Nat} {rs : List Rp2} (h : hi n rs ≤ lo rs) : canL n rs = [] := by
  unfold canL
  refine List.filter_eq_nil_iff.mpr fun m hm => ?_
  rw [okN_iff n rs m (List.mem_range.mp hm)]
  simp
  omega
structure RsOk (n : Nat) (rs : List Rp2) : Prop where
  n1 : 1 ≤ n
  n2 : n ≤ 40
  len : rs.length ≤ 10
  k : ∀ r ∈ rs, 1 ≤ r.1 ∧ r.1 < n
theorem br_lt {n : Nat} {rs : List Rp2} (w : RsOk n rs) (h : br rs = none) : lo rs < hi n rs := by
  obtain ⟨a1, a2, a3⟩ := lo_spec rs
  obtain ⟨b1, b2, b3⟩ := hi_spec n rs
  have hn := w.n1
  rcases a3 with e | ⟨r, hr, ht, e⟩
  · rcases b3 with e' | ⟨r', hr', ht', e'⟩
    · omega
    · have := w.k r' hr'; omega
  · rcases b3 with e' | ⟨r', hr', ht', e'⟩
    · have := w.k r hr; omega
    · have := br_none h r' hr' r hr ht' ht; omega
theorem br_ge {n : Nat} {rs : List Rp2} {i j : Nat} (h : br rs = some (i, j)) : hi n rs ≤ lo rs := by
  obtain ⟨a, b, h1, h2, h3, h4, h5⟩ := br_some h
  have := (lo_spec rs).2.1 b (List.mem_of_getElem? h2) h4
  have := (hi_spec n rs).2.1 a (List.mem_of_getElem? h1) h3
  omega
end K68

namespace K68
open PySem
open PySem.Spec
open PyProof.Rows
open L2
open L2.Dl
open PySem.W
def sh (k : Nat) : Str := (nI k).shown
theorem sh_all : ∀ k : _root_.Fin 64, (nI k.1).showable = true ∧ (sh k.1).length ≤ 9 ∧ (PyData.str (sh k.1)).canLay0 = true := by decide +kernel
theorem rok_int {k : Nat} (h : k < 64) : ROk 9 0 (nI k) := ⟨(sh_all ⟨k, h⟩).1, (sh_all ⟨k, h⟩).2.1, Nat.le_refl _, rfl⟩
theorem lay_sh {k : Nat} (h : k < 64) : (PyData.str (sh k)).canLay0 = true := (sh_all ⟨k, h⟩).2.2
theorem repr_int {k : Nat} (h : k < 64) : gRepr [nI k] = some (.str (sh k)) := (rok_int h).repr (by decide) (by decide)
def pcs (ks : List Nat) : List PyData := ks.map fun k => .str (sh k)
theorem lay_pcs : ∀ ks : List Nat, (∀ k ∈ ks, k < 64) → PyData.canLayAll0 (pcs ks) = true
  | [], _ => rfl
  | k :: ks, h => by
    show ((PyData.str (sh k)).canLay0 && PyData.canLayAll0 (pcs ks)) = true
    rw [lay_sh (h k (List.mem_cons_self ..)), lay_pcs ks fun x hx => h x (List.mem_cons_of_mem _ hx)]
    rfl
theorem dep_pcs : ∀ ks : List Nat, PyData.depthAll (pcs ks) = 0
  | [] => rfl
  | k :: ks => by
    show max 0 (PyData.depthAll (pcs ks)) = 0
    rw [dep_pcs ks]
    rfl
theorem notIn_pcs {ks : List Nat} {k : Nat} (h : ∀ k ∈ ks, k < 64) (hk : k ∈ ks) : gNotIn (.str (sh k)) (.list (pcs ks)) = some (.bool false) := by
  have s1 : SeqAt.shaped (.str (sh k)) = true := by
    unfold SeqAt.shaped
    rw [lay_sh (h k hk)]
    rfl
  have s2 : SeqAt.shaped (.list (pcs ks)) = true := by
    unfold SeqAt.shaped
    rw [show (PyData.list (pcs ks)).canLay0 = true from lay_pcs ks h, show (PyData.list (pcs ks)).depth = PyData.depthAll (pcs ks) + 1 from rfl, dep_pcs]
    rfl
  show (if (SeqAt.shaped (.str (sh k)) && SeqAt.shaped (.list (pcs ks))) = true then some (PyData.bool (!(pcs ks).any fun z => PyData.eqv z (.str (sh k)))) else none) = _
  have ha : ((pcs ks).any fun z => PyData.eqv z (.str (sh k))) = true := List.any_eq_true.mpr ⟨.str (sh k), List.mem_map.mpr ⟨k, hk, rfl⟩, by show (sh k == sh k) = true; exact beq_self_eq_true _⟩
  rw [s1, s2, ha]
  rfl
theorem rangeL_nI (n : Nat) : rangeL 0 n = (List.range n).map nI := by
  unfold rangeL
  refine List.map_congr_left fun k _ => ?_
  rw [Int.zero_add]
  rfl
def shF (x : PyData) : PyData := .str x.shown
theorem pcs_lc {i : Nat} {it : DI} {env e : Nv} {ks : List Nat} (h : it env = .ok (ks.map nI) e) (hi : i < e.length) (hp : plainAt e i = true) (hk : ∀ k ∈ ks, k < 64) (hl : ks.length ≤ 1000) : dLc it (.nm i) dYes (dCallB gRepr (dACons (dVar i) dANil)) [i] env = .ok (pcs ks) e := by
  have lc := lc_pure (i := i) (t := dYes) (d := dCallB gRepr (dACons (dVar i) dANil)) (b := fun _ => true) (f := shF) h hp (fun _ _ => rfl) (fun x hx _ => ?_) (by rw [List.length_map]; exact Nat.le_trans hl (by decide))
  · rw [List.filter_eq_self.mpr fun _ _ => rfl, List.map_map] at lc
    exact lc
  · obtain ⟨k, hk', rfl⟩ := List.mem_map.mp hx
    have hv : dVar i (e.set i (.v (nI k))) = .ok (.d (nI k)) (e.set i (.v (nI k))) := by
      unfold dVar
      rw [List.getElem?_set_self hi]
    exact ⟨_, callBE (consE (r := dANil) hv rfl) rfl (repr_int (hk k hk')), rfl⟩
theorem len_tu (rs : List Rp2) (e : Nv) {i : Nat} (h : dVar i e = .ok (.d (tu rs)) e) : dCallB gLen (dACons (dVar i) dANil) e = .ok (.d (nI rs.length)) e := by
  refine callBE (consE (r := dANil) h rfl) rfl ?_
  show some (PyData.int ((rs.map rep).length : Int)) = _
  rw [List.length_map]
  rfl
theorem andE {a b : DE} {env e e1 : Nv} {x : Bool} {o : OV} (h : a env = .ok (.d (.bool x)) e) (h2 : (if x = true then b e else .ok (.d (.bool false)) e) = .ok o e1) : dAnd a b env = .ok o e1 := by
  unfold dAnd; rw [tE h]; exact h2
theorem tupE {a b : DE} {env e e1 : Nv} {x y : PyData} (h : a env = .ok (.d x) e) (h2 : b e = .ok (.d y) e1) : dTup (dACons a (dACons b dANil)) env = .ok (.d (.tuple [x, y])) e1 := by
  unfold dTup; rw [consE h (consE (r := dANil) h2 rfl)]; rfl
theorem ix_rep {rs : List Rp2} {i : Nat} {a : Rp2} (h : rs[i]? = some a) : gIx (tu rs) (nI i) = some (rep a) := atI_nat (by rw [List.getElem?_map, h] <;> rfl)
theorem is_breach_spec {rs : List Rp2} {i j : Nat} (hl : rs.length ≤ 10) (h : br rs = some (i, j)) : f_L_is_breach [.v (tu rs), .v (.tuple [nI i, nI j])] = .ok (.d (.bool true)) [.v (tu rs), .v (.tuple [nI i, nI j])] := by
  obtain ⟨a, b, h1, h2, h3, h4, h5⟩ := br_some h
  have hi : i < rs.length := (List.getElem?_eq_some_iff.mp h1).1
  have hj : j < rs.length := (List.getElem?_eq_some_iff.mp h2).1
  have hks : ∀ k ∈ List.range rs.length, k < 64 := fun k hk => by have := List.mem_range.mp hk; omega
  obtain ⟨ak, at'⟩ := a
  obtain ⟨bk, bt⟩ := b
  simp only at h3 h4 h5
  subst h3 h4
  have it0 : dRange1 (dACons (dCallB gLen (dACons (dVar 0) dANil)) dANil) [.v (tu rs), .v (.tuple [nI i, nI j]), .un, .un, .un, .un, .un, .un] = .ok ((List.range rs.length).map nI) [.v (tu rs), .v (.tuple [nI i, nI j]), .un, .un, .un, .un, .un, .un] := by
    unfold dRange1
    rw [consE (r := dANil) (len_tu rs [.v (tu rs), .v (.tuple [nI i, nI j]), .un, .un, .un, .un, .un, .un] rfl) rfl]
    show (if inLong (rs.length : Int) = true then _ else _) = _
    rw [if_pos (show inLong (rs.length : Int) = true from decide_eq_true (by omega)), ← rangeL_nI]
    simp
  have s1 : dSet 2 (rE (dFz (dLc (dRange1 (dACons (dCallB gLen (dACons (dVar 0) dANil)) dANil)) (.nm 3) dYes (dCallB gRepr (dACons (dVar 3) dANil)) [3]))) [.v (tu rs), .v (.tuple [nI i, nI j]), .un, .un, .un, .un, .un, .un] = .nx [.v (tu rs), .v (.tuple [nI i, nI j]), .v (.list (pcs (List.range rs.length))), .un, .un, .un, .un, .un] :=
    setE2 (fzE (pcs_lc it0 (show 3 < 8 by decide) rfl hks (by rw [List.length_range]; omega))) rfl rfl rfl
  have lc4 : dLc (dIt (dVar 1)) (.nm 4) (dT (dBin gNotIn (dCallB gRepr (dACons (dVar 4) dANil)) (dVar 2))) (dVar 4) [4] [.v (tu rs), .v (.tuple [nI i, nI j]), .v (.list (pcs (List.range rs.length))), .un, .un, .un, .un, .un] = .ok [] [.v (tu rs), .v (.tuple [nI i, nI j]), .v (.list (pcs (List.range rs.length))), .un, .un, .un, .un, .un] := by
    have lc := lc_pure (i := 4) (it := dIt (dVar 1)) (t := dT (dBin gNotIn (dCallB gRepr (dACons (dVar 4) dANil)) (dVar 2))) (d := dVar 4) (b := fun _ => false) (f := id) (xs := [nI i, nI j]) (env := [.v (tu rs), .v (.tuple [nI i, nI j]), .v (.list (pcs (List.range rs.length))), .un, .un, .un, .un, .un]) (e := [.v (tu rs), .v (.tuple [nI i, nI j]), .v (.list (pcs (List.range rs.length))), .un, .un, .un, .un, .un]) rfl rfl (fun x hx => ?_) (fun x _ hb => nomatch hb) (by show 2 ≤ lenB; decide)
    · exact lc
    · obtain ⟨k, hk, rfl⟩ : ∃ k, k < rs.length ∧ x = nI k := by
        simp at hx
        rcases hx with rfl | rfl
        · exact ⟨i, hi, rfl⟩
        · exact ⟨j, hj, rfl⟩
      have c1 : dCallB gRepr (dACons (dVar 4) dANil) [.v (tu rs), .v (.tuple [nI i, nI j]), .v (.list (pcs (List.range rs.length))), .un, .v (nI k), .un, .un, .un] = .ok (.d (.str (sh k))) [.v (tu rs), .v (.tuple [nI i, nI j]), .v (.list (pcs (List.range rs.length))), .un, .v (nI k), .un, .un, .un] := callBE (consE (r := dANil) rfl rfl) rfl (repr_int (by omega))
      exact tE (binE c1 rfl rfl rfl (notIn_pcs hks (List.mem_range.mpr hk)))
  refine runF (e := [.v (tu rs), .v (.tuple [nI i, nI j]), .v (.list (pcs (List.range rs.length))), .v (.int ak), .un, .v (.bool false), .v (.int bk), .v (.bool true)]) (show m_L_is_breach [.v (tu rs), .v (.tuple [nI i, nI j]), .un, .un, .un, .un, .un, .un] = _ from ?_) rfl
  unfold m_L_is_breach
  refine seqE s1 (seqE (e := [.v (tu rs), .v (.tuple [nI i, nI j]), .v (.list (pcs (List.range rs.length))), .un, .un, .un, .un, .un]) (ifF (orT (a := false) rfl (orT (a := false) rfl (tE (binE (fzE lc4) rfl rfl rfl rfl)))) rfl) ?_)
  have i0 : dBin gIx (dVar 0) (dBin gIx (dVar 1) (dC (.int 0))) [.v (tu rs), .v (.tuple [nI i, nI j]), .v (.list (pcs (List.range rs.length))), .un, .un, .un, .un, .un] = .ok (.d (rep (ak, false))) [.v (tu rs), .v (.tuple [nI i, nI j]), .v (.list (pcs (List.range rs.length))), .un, .un, .un, .un, .un] :=
    binE rfl (binE rfl rfl rfl rfl (z := nI i) rfl) rfl rfl (ix_rep h1)
  have i1 : dBin gIx (dVar 0) (dBin gIx (dVar 1) (dC (.int 1))) [.v (tu rs), .v (.tuple [nI i, nI j]), .v (.list (pcs (List.range rs.length))), .un, .un, .un, .un, .un] = .ok (.d (rep (bk, true))) [.v (tu rs), .v (.tuple [nI i, nI j]), .v (.list (pcs (List.range rs.length))), .un, .un, .un, .un, .un] :=
    binE rfl (binE rfl rfl rfl rfl (z := nI j) rfl) rfl rfl (ix_rep h2)
  refine seqE (e := [.v (tu rs), .v (.tuple [nI i, nI j]), .v (.list (pcs (List.range rs.length))), .v (.int ak), .un, .v (.bool false), .v (.int bk), .v (.bool true)]) ?_ ?_
  · unfold dAsg
    rw [tupE i0 i1]
    rfl
  · refine retE (o := .d (.bool true)) (andE (x := true) rfl (andE (x := true) rfl ?_)) rfl
    show Res.ok (OV.d (PyData.bool (decide (ak ≤ bk)))) _ = _
    rw [decide_eq_true h5]
end K68

namespace K68
open PySem
open PySem.Spec
open PyProof.Rows
open L2
open L2.Dl
open PySem.W
theorem okN_app (rs : List Rp2) (r : Rp2) (m : Nat) : okN (rs ++ [r]) m = (okN rs m && okR m r) := by
  unfold okN
  rw [List.all_append]
  simp
theorem can_up {n : Nat} {rs : List Rp2} {m : Nat} (h1 : lo rs ≤ m) (h2 : (m : Int) ≤ hi n rs) : (canL n (rs ++ [((m : Int), true)])).length = (hi n rs).toNat - m := by
  have a1 := (lo_spec rs).1
  have b1 := (hi_spec n rs).1
  have e : canL n (rs ++ [((m : Int), true)]) = (List.range n).filter (fun x => decide (m ≤ x) && decide (x < (hi n rs).toNat)) := by
    unfold canL
    refine List.filter_congr fun x hx => ?_
    rw [okN_app, okN_iff n rs x (List.mem_range.mp hx), Bool.eq_iff_iff]
    unfold okR
    simp
    omega
  rw [e, range_cut n m (hi n rs).toNat (by omega) (by omega), List.length_map, List.length_range]
theorem can_dn {n : Nat} {rs : List Rp2} {m : Nat} (h1 : lo rs ≤ m) (h2 : (m : Int) ≤ hi n rs) : (canL n (rs ++ [((m : Int), false)])).length = m - (lo rs).toNat := by
  have a1 := (lo_spec rs).1
  have b1 := (hi_spec n rs).1
  have e : canL n (rs ++ [((m : Int), false)]) = (List.range n).filter (fun x => decide ((lo rs).toNat ≤ x) && decide (x < m)) := by
    unfold canL
    refine List.filter_congr fun x hx => ?_
    rw [okN_app, okN_iff n rs x (List.mem_range.mp hx), Bool.eq_iff_iff]
    unfold okR
    simp
    omega
  rw [e, range_cut n (lo rs).toNat m (by omega) (by omega), List.length_map, List.length_range]
theorem rangeL1_nI (n : Nat) : rangeL 1 n = ((List.range n).map fun k => k + 1).map nI := by
  unfold rangeL
  rw [List.map_map]
  refine List.map_congr_left fun k _ => ?_
  show PyData.int (1 + (k : Int)) = PyData.int ((k + 1 : Nat) : Int)
  congr 1
  omega
theorem ask_spec {n : Nat} {rs : List Rp2} (w : RsOk n rs) : f_L_ask_right [.v (nI n), .v (tu rs), .v (seekD n rs)] = .ok (.d (.bool true)) [.v (nI n), .v (tu rs), .v (seekD n rs)] := by
  have hn := w.n2
  have hl := w.len
  have n1 := w.n1
  -- left
  have c1 : dCall 2 f_L_can [] (dACons (dVar 0) (dACons (dVar 1) dANil)) [.v (nI n), .v (tu rs), .v (seekD n rs), .un, .un, .un, .un] = .ok (.d (.list ((canL n rs).map nI))) [.v (nI n), .v (tu rs), .v (seekD n rs), .un, .un, .un, .un] :=
    callE (os := [.d (nI n), .d (tu rs)]) rfl rfl (call_plain rfl rfl (can_spec (by omega) (by omega)))
  have s1 : dSet 3 (rE (dCall 2 f_L_can [] (dACons (dVar 0) (dACons (dVar 1) dANil)))) [.v (nI n), .v (tu rs), .v (seekD n rs), .un, .un, .un, .un] = .nx [.v (nI n), .v (tu rs), .v (seekD n rs), .v (.list ((canL n rs).map nI)), .un, .un, .un] := setE2 c1 rfl rfl rfl
  have emp : dT (dBin gEq (dVar 3) (dFz (dLst dANil))) [.v (nI n), .v (tu rs), .v (seekD n rs), .v (.list ((canL n rs).map nI)), .un, .un, .un] = .ok (canL n rs).isEmpty [.v (nI n), .v (tu rs), .v (seekD n rs), .v (.list ((canL n rs).map nI)), .un, .un, .un] :=
    tE (binE rfl rfl rfl rfl ((eq_nil (shaped_nI _)).trans (by rw [List.isEmpty_map])))
  cases hb : br rs with
  | some q =>
    obtain ⟨i, j⟩ := q
    have hs : seekD n rs = .tuple [.str "breach", .tuple [nI i, nI j]] := by unfold seekD; rw [hb]; rfl
    have hc := canL_none (n := n) (br_ge (n := n) hb)
    rw [hs] at s1 emp ⊢
    rw [hc] at s1 emp
    refine runF (e := [.v (nI n), .v (tu rs), .v (.tuple [.str "breach", .tuple [nI i, nI j]]), .v (.list []), .un, .un, .un]) (show m_L_ask_right [.v (nI n), .v (tu rs), .v (.tuple [.str "breach", .tuple [nI i, nI j]]), .un, .un, .un, .un] = _ from ?_) rfl
    unfold m_L_ask_right
    refine seqE s1 (seqE (e := [.v (nI n), .v (tu rs), .v (.tuple [.str "breach", .tuple [nI i, nI j]]), .v (.list []), .un, .un, .un]) rfl (seqR (ifT emp (retE (o := .d (.bool true)) (andE (x := true) rfl (andE (x := true) rfl ?_)) rfl))))
    exact callE (os := [.d (tu rs), .d (.tuple [nI i, nI j])]) rfl rfl (call_plain rfl rfl (is_breach_spec hl hb))
  | none =>
    have hlt := br_lt w hb
    have a1 := (lo_spec rs).1
    have b1 := (hi_spec n rs).1
    have hc := canL_some (n := n) (rs := rs) (by omega)
    have hlen : (canL n rs).length = (hi n rs).toNat - (lo rs).toNat := by rw [hc]; simp
    have ne : (canL n rs).isEmpty = false := by
      cases hh : canL n rs with
      | nil => rw [hh] at hlen; simp at hlen; omega
      | cons _ _ => rfl
    rw [ne] at emp
    have ln : ∀ {e : Nv}, dVar 3 e = .ok (.d (.list ((canL n rs).map nI))) e → dCallB gLen (dACons (dVar 3) dANil) e = .ok (.d (nI ((hi n rs).toNat - (lo rs).toNat))) e := fun {e} h => by
      refine callBE (consE (r := dANil) h rfl) rfl ?_
      show some (PyData.int (((canL n rs).map nI).length : Int)) = _
      rw [List.length_map, hlen]
      rfl
    by_cases h1 : hi n rs - lo rs = 1
    · have hs : seekD n rs = .tuple [.str "found", .int (lo rs)] := by unfold seekD; rw [hb]; show (if _ then _ else _) = _; rw [if_pos h1]
      rw [hs] at s1 emp ⊢
      have hlo : (PyData.int (lo rs)) = nI (lo rs).toNat := by unfold nI; rw [Int.toNat_of_nonneg a1]
      have hfst : gIx (.list ((canL n rs).map nI)) (.int 0) = some (.int (lo rs)) := by
        rw [hc, show (hi n rs).toNat - (lo rs).toNat = 1 by omega, hlo]
        exact atI_nat (j := 0) rfl
      have hr : gRepr [.tuple [.str "found", .int (lo rs)]] = some (.str (PyData.tuple [.str "found", .int (lo rs)]).shown) := by
        have : ROk _ _ (.tuple [.str "found", .int (lo rs)]) := rok_tup (n := 20) (d := 0) fun x hx => by
          rcases List.mem_cons.mp hx with rfl | hx
          · exact ⟨rfl, by decide +kernel, Nat.le_refl _, rfl⟩
          · obtain rfl := List.mem_singleton.mp hx
            rw [hlo]
            exact (rok_int (by omega)).mono (by decide) (Nat.le_refl _)
        exact this.repr (show (20 + 2) * 2 + 3 ≤ lenB by decide) (by decide)
      have one : dT (dBin gEq (dCallB gLen (dACons (dVar 3) dANil)) (dC (.int 1))) [.v (nI n), .v (tu rs), .v (.tuple [.str "found", .int (lo rs)]), .v (.list ((canL n rs).map nI)), .un, .un, .un] = .ok true [.v (nI n), .v (tu rs), .v (.tuple [.str "found", .int (lo rs)]), .v (.list ((canL n rs).map nI)), .un, .un, .un] := by
        refine tE (binE (ln rfl) rfl rfl rfl ?_)
        show some (PyData.bool (decide ((((hi n rs).toNat - (lo rs).toNat : Nat) : Int) = 1))) = _
        rw [decide_eq_true (by omega)]
      refine runF (e := [.v (nI n), .v (tu rs), .v (.tuple [.str "found", .int (lo rs)]), .v (.list ((canL n rs).map nI)), .un, .un, .un]) (show m_L_ask_right [.v (nI n), .v (tu rs), .v (.tuple [.str "found", .int (lo rs)]), .un, .un, .un, .un] = _ from ?_) rfl
      unfold m_L_ask_right
      refine seqE s1 (seqE (e := [.v (nI n), .v (tu rs), .v (.tuple [.str "found", .int (lo rs)]), .v (.list ((canL n rs).map nI)), .un, .un, .un]) rfl (seqE (ifF emp rfl) (seqR (ifT one (retE (o := .d (.bool true)) ?_ rfl)))))
      have r1 : dCallB gRepr (dACons (dVar 2) dANil) [.v (nI n), .v (tu rs), .v (.tuple [.str "found", .int (lo rs)]), .v (.list ((canL n rs).map nI)), .un, .un, .un] = .ok (.d (.str (PyData.tuple [.str "found", .int (lo rs)]).shown)) [.v (nI n), .v (tu rs), .v (.tuple [.str "found", .int (lo rs)]), .v (.list ((canL n rs).map nI)), .un, .un, .un] := callBE (consE (r := dANil) rfl rfl) rfl hr
      have t2 : dTup (dACons (dC (.str "found")) (dACons (dBin gIx (dVar 3) (dC (.int 0))) dANil)) [.v (nI n), .v (tu rs), .v (.tuple [.str "found", .int (lo rs)]), .v (.list ((canL n rs).map nI)), .un, .un, .un] = .ok (.d (.tuple [.str "found", .int (lo rs)])) [.v (nI n), .v (tu rs), .v (.tuple [.str "found", .int (lo rs)]), .v (.list ((canL n rs).map nI)), .un, .un, .un] := tupE rfl (binE rfl rfl rfl rfl hfst)
      have r2 := callBE (gb := gRepr) (consE (r := dANil) t2 rfl) rfl hr
      refine binE r1 r2 rfl rfl ?_
      show some (PyData.bool (decide ((PyData.tuple [.str "found", .int (lo rs)]).shown = (PyData.tuple [.str "found", .int (lo rs)]).shown))) = _
      rw [decide_eq_true rfl]
    · obtain ⟨m, hm⟩ : ∃ m : Nat, lo rs + (hi n rs - lo rs) / 2 = (m : Int) := ⟨(lo rs + (hi n rs - lo rs) / 2).toNat, by omega⟩
      have m1 : lo rs ≤ m := by omega
      have m2 : (m : Int) ≤ hi n rs := by omega
      have m3 : 1 ≤ m := by omega
      have m4 : m < n := by omega
      have hs : seekD n rs = .tuple [.str "ask", nI m] := by unfold seekD; rw [hb]; show (if _ then _ else _) = _; rw [if_neg h1, hm]; rfl
      rw [hs] at s1 emp ⊢
      have one : dT (dBin gEq (dCallB gLen (dACons (dVar 3) dANil)) (dC (.int 1))) [.v (nI n), .v (tu rs), .v (.tuple [.str "ask", nI m]), .v (.list ((canL n rs).map nI)), .un, .un, .un] = .ok false [.v (nI n), .v (tu rs), .v (.tuple [.str "ask", nI m]), .v (.list ((canL n rs).map nI)), .un, .un, .un] := by
        refine tE (binE (ln rfl) rfl rfl rfl ?_)
        show some (PyData.bool (decide ((((hi n rs).toNat - (lo rs).toNat : Nat) : Int) = 1))) = _
        rw [decide_eq_false (by omega)]
      have it2 : dRange2 (dACons (dC (.int 1)) (dACons (dVar 0) dANil)) [.v (nI n), .v (tu rs), .v (.tuple [.str "ask", nI m]), .v (.list ((canL n rs).map nI)), .un, .un, .un] = .ok (((List.range (n - 1)).map fun k => k + 1).map nI) [.v (nI n), .v (tu rs), .v (.tuple [.str "ask", nI m]), .v (.list ((canL n rs).map nI)), .un, .un, .un] := by
        show (if inLong 1 = true ∧ inLong (n : Int) = true then Res.ok (rangeL 1 ((n : Int) - 1).toNat) _ else _) = _
        rw [if_pos ⟨by decide, show inLong (n : Int) = true from decide_eq_true (by omega)⟩, show ((n : Int) - 1).toNat = n - 1 by omega, rangeL1_nI]
      have hks : ∀ k ∈ (List.range (n - 1)).map (fun k => k + 1), k < 64 := fun k hk => by obtain ⟨z, hz, rfl⟩ := List.mem_map.mp hk; have := List.mem_range.mp hz; omega
      have lc4 := pcs_lc (i := 4) it2 (show 4 < 7 by decide) rfl hks (by simp; omega)
      have rm : dCallB gRepr (dACons (dBin gIx (dVar 2) (dC (.int 1))) dANil) [.v (nI n), .v (tu rs), .v (.tuple [.str "ask", nI m]), .v (.list ((canL n rs).map nI)), .un, .un, .un] = .ok (.d (.str (sh m))) [.v (nI n), .v (tu rs), .v (.tuple [.str "ask", nI m]), .v (.list ((canL n rs).map nI)), .un, .un, .un] :=
        callBE (xs := [nI m]) (consE (r := dANil) (o := .d (nI m)) rfl rfl) rfl (repr_int (by omega))
      have tn : dT (dBin gNotIn (dCallB gRepr (dACons (dBin gIx (dVar 2) (dC (.int 1))) dANil)) (dFz (dLc (dRange2 (dACons (dC (.int 1)) (dACons (dVar 0) dANil))) (.nm 4) dYes (dCallB gRepr (dACons (dVar 4) dANil)) [4]))) [.v (nI n), .v (tu rs), .v (.tuple [.str "ask", nI m]), .v (.list ((canL n rs).map nI)), .un, .un, .un] = .ok false [.v (nI n), .v (tu rs), .v (.tuple [.str "ask", nI m]), .v (.list ((canL n rs).map nI)), .un, .un, .un] :=
        tE (binE rm (fzE lc4) rfl rfl (notIn_pcs hks (List.mem_map.mpr ⟨m - 1, List.mem_range.mpr (by omega), by omega⟩)))
      let hf : Int := ((((hi n rs).toNat - (lo rs).toNat : Nat) : Int) + 1) / 2
      have s5 : dSet 5 (rE (dBin gDivI (dBin gAdd (dCallB gLen (dACons (dVar 3) dANil)) (dC (.int 1))) (dC (.int 2)))) [.v (nI n), .v (tu rs), .v (.tuple [.str "ask", nI m]), .v (.list ((canL n rs).map nI)), .un, .un, .un] = .nx [.v (nI n), .v (tu rs), .v (.tuple [.str "ask", nI m]), .v (.list ((canL n rs).map nI)), .un, .v (.int hf), .un] :=
        setE2 (binE (binE (ln rfl) rfl rfl rfl rfl) rfl rfl rfl (divOk (j := 2) (by decide) (by decide))) rfl rfl rfl
      refine runF (e := [.v (nI n), .v (tu rs), .v (.tuple [.str "ask", nI m]), .v (.list ((canL n rs).map nI)), .un, .v (.int hf), .un]) (show m_L_ask_right [.v (nI n), .v (tu rs), .v (.tuple [.str "ask", nI m]), .un, .un, .un, .un] = _ from ?_) rfl
      unfold m_L_ask_right
      refine seqE s1 (seqE (e := [.v (nI n), .v (tu rs), .v (.tuple [.str "ask", nI m]), .v (.list ((canL n rs).map nI)), .un, .un, .un]) rfl (seqE (ifF emp rfl) (seqE (ifF one rfl) (seqE (e := [.v (nI n), .v (tu rs), .v (.tuple [.str "ask", nI m]), .v (.list ((canL n rs).map nI)), .un, .un, .un]) (ifF (orT (a := false) rfl (orT (a := false) rfl tn)) rfl) (seqE s5 ?_)))))
      -- both answers
      have lc6 : dLc (dIt (dTup (dACons (dC (.bool true)) (dACons (dC (.bool false)) dANil)))) (.nm 6) dYes (dCallB gLen (dACons (dCall 2 f_L_can [] (dACons (dVar 0) (dACons (dBin gAdd (dVar 1) (dTup (dACons (dTup (dACons (dBin gIx (dVar 2) (dC (.int 1))) (dACons (dVar 6) dANil))) dANil))) dANil))) dANil)) [6]
          [.v (nI n), .v (tu rs), .v (.tuple [.str "ask", nI m]), .v (.list ((canL n rs).map nI)), .un, .v (.int hf), .un] = .ok [nI (canL n (rs ++ [((m : Int), true)])).length, nI (canL n (rs ++ [((m : Int), false)])).length] [.v (nI n), .v (tu rs), .v (.tuple [.str "ask", nI m]), .v (.list ((canL n rs).map nI)), .un, .v (.int hf), .un] := by
        have lc := lc_pure (i := 6) (it := dIt (dTup (dACons (dC (.bool true)) (dACons (dC (.bool false)) dANil)))) (t := dYes) (d := dCallB gLen (dACons (dCall 2 f_L_can [] (dACons (dVar 0) (dACons (dBin gAdd (dVar 1) (dTup (dACons (dTup (dACons (dBin gIx (dVar 2) (dC (.int 1))) (dACons (dVar 6) dANil))) dANil))) dANil))) dANil)) (b := fun _ => true)
          (f := fun x => match x with | .bool u => nI (canL n (rs ++ [((m : Int), u)])).length | _ => .none) (xs := [.bool true, .bool false]) (env := [.v (nI n), .v (tu rs), .v (.tuple [.str "ask", nI m]), .v (.list ((canL n rs).map nI)), .un, .v (.int hf), .un]) (e := [.v (nI n), .v (tu rs), .v (.tuple [.str "ask", nI m]), .v (.list ((canL n rs).map nI)), .un, .v (.int hf), .un]) rfl rfl (fun _ _ => rfl) (fun x hx _ => ?_) (by show 2 ≤ lenB; decide)
        · exact lc
        · obtain ⟨u, rfl⟩ : ∃ u, x = .bool u := by
            simp at hx
            rcases hx with rfl | rfl
            · exact ⟨true, rfl⟩
            · exact ⟨false, rfl⟩
          have ad : gAdd (tu rs) (.tuple [.tuple [nI m, .bool u]]) = some (tu (rs ++ [((m : Int), u)])) := by
            show (if (rs.map rep).length + 1 ≤ lenB then some (PyData.tuple (rs.map rep ++ [rep ((m : Int), u)])) else none) = _
            rw [if_pos (by rw [List.length_map]; exact Nat.le_trans (by omega : _ ≤ 11) (by decide))]
            unfold tu
            rw [List.map_append]
            rfl
          have k1 : dBin gAdd (dVar 1) (dTup (dACons (dTup (dACons (dBin gIx (dVar 2) (dC (.int 1))) (dACons (dVar 6) dANil))) dANil)) [.v (nI n), .v (tu rs), .v (.tuple [.str "ask", nI m]), .v (.list ((canL n rs).map nI)), .un, .v (.int hf), .v (.bool u)] = .ok (.d (tu (rs ++ [((m : Int), u)]))) [.v (nI n), .v (tu rs), .v (.tuple [.str "ask", nI m]), .v (.list ((canL n rs).map nI)), .un, .v (.int hf), .v (.bool u)] :=
            binE rfl rfl rfl rfl ad
          have k2 : dCall 2 f_L_can [] (dACons (dVar 0) (dACons (dBin gAdd (dVar 1) (dTup (dACons (dTup (dACons (dBin gIx (dVar 2) (dC (.int 1))) (dACons (dVar 6) dANil))) dANil))) dANil)) [.v (nI n), .v (tu rs), .v (.tuple [.str "ask", nI m]), .v (.list ((canL n rs).map nI)), .un, .v (.int hf), .v (.bool u)] = .ok (.d (.list ((canL n (rs ++ [((m : Int), u)])).map nI))) [.v (nI n), .v (tu rs), .v (.tuple [.str "ask", nI m]), .v (.list ((canL n rs).map nI)), .un, .v (.int hf), .v (.bool u)] :=
            callE (os := [.d (nI n), .d (tu (rs ++ [((m : Int), u)]))]) (consE rfl (consE (r := dANil) k1 rfl)) rfl (call_plain rfl rfl (can_spec (by omega) (by simp; omega)))
          refine ⟨_, callBE (consE (r := dANil) k2 rfl) rfl (z := nI (canL n (rs ++ [((m : Int), u)])).length) ?_, rfl⟩
          show some (PyData.int (((canL n (rs ++ [((m : Int), u)])).map nI).length : Int)) = _
          rw [List.length_map]
          rfl
      rw [can_up m1 m2, can_dn m1 m2] at lc6
      refine retE (o := .d (.bool true)) (binE (callBE (os := [.d (.list [nI ((hi n rs).toNat - m), nI (m - (lo rs).toNat)])]) (consE (r := dANil) (fzE lc6) rfl) rfl (z := .int (max (((hi n rs).toNat - m : Nat) : Int) ((m - (lo rs).toNat : Nat) : Int))) rfl) rfl rfl rfl ?_) rfl
      show some (PyData.bool (decide (max (((hi n rs).toNat - m : Nat) : Int) ((m - (lo rs).toNat : Nat) : Int) ≤ hf))) = _
      rw [decide_eq_true (Int.max_le.mpr ⟨by show _ ≤ (_ + 1) / 2; omega, by show _ ≤ (_ + 1) / 2; omega⟩)]
end K68

namespace K68
open PySem
open PySem.Spec
open PyProof.Rows
open L2
open L2.Dl
open PySem.W
theorem appE {d : DE} {env e e1 e2 : Nv} {i : Nat} {w : Bool × List PyData} {o : OV} {p : Bool} {xs : List PyData} {x : PyData} (h0 : ownAt env i = some w) (h : d env = .ok o e) (h1 : pinOV e o = some (x, e1)) (h2 : ownAt e1 i = some (p, xs)) (h3 : xs.length < lenB) (h4 : e1.set i (.own p (xs ++ [x])) = e2) :
    dApp i d env = .ok (.d .none) e2 := by
  rw [← h4]; unfold dApp; simp only [h0, h, Res.bd, h1, h2, h3, if_true]
def E (xs : List Int) (d : DV) (g2 g3 g4 g5 g6 g7 g8 g9 g10 g11 : Slot) : Nv := [.ro (xs.map .int), .dct false d, g2, g3, g4, g5, g6, g7, g8, g9, g10, g11]
def fr (g : Slot) : Bool := !g.par
section
variable {xs : List Int} {d : DV} {lap : Int} {n : Nat} {f : Int} {rs : List Rp2} {g2 g3 g4 g5 g6 g7 g8 g9 g10 g11 : Slot}
theorem draw_call {i : Nat} {m : Int} {dm : DE} (hd : FeedOk d) (h : dm (E xs d g2 g3 g4 g5 g6 g7 g8 g9 g10 g11) = .ok (.d (.int m)) (E xs d g2 g3 g4 g5 g6 g7 g8 g9 g10 g11)) (h0 : 0 < m) (h1 : m < 1000) :
    ∃ (d' : DV) (r : Int), FeedOk d' ∧ 0 ≤ r ∧ r < m ∧ dCall 2 f_L_draw [] (dACons (dVar 1) (dACons dm dANil)) (E xs d g2 g3 g4 g5 g6 g7 g8 g9 g10 g11) = .ok (.d (.int r)) (E xs d' g2 g3 g4 g5 g6 g7 g8 g9 g10 g11) := by
  obtain ⟨d', r, a1, a2, a3, a4⟩ := draw_spec (m := m) hd h0 (by omega)
  exact ⟨d', r, a1, a2, a3, callE (os := [.sl 1, .d (.int m)]) (e := E xs d g2 g3 g4 g5 g6 g7 g8 g9 g10 g11) (consE rfl (consE (r := dANil) h rfl)) rfl (call_dv (l := []) (i := 1) rfl a4)⟩
/-- one more reply -/
theorem m1_spec (hd : FeedOk d) (hn : 2 ≤ n) (hn2 : n ≤ 40) (hl : rs.length ≤ 8) (h7 : fr g7 = true) : ∃ (d' : DV) (k : Int) (t : Bool), FeedOk d' ∧ 1 ≤ k ∧ k < n ∧
    m_law_1 (E xs d (.v (.int lap)) (.v (nI n)) (.v (.int f)) (.own false (rs.map rep)) g6 g7 g8 g9 g10 g11) = .nx (E xs d' (.v (.int lap)) (.v (nI n)) (.v (.int f)) (.own false ((rs ++ [(k, t)]).map rep)) g6 (.v (.int k)) g8 g9 g10 g11) := by
  obtain ⟨d1, r, a1, a2, a3, a4⟩ := draw_call (xs := xs) (g2 := .v (.int lap)) (g3 := .v (nI n)) (g4 := .v (.int f)) (g5 := .own false (rs.map rep)) (g6 := g6) (g7 := g7) (g8 := g8) (g9 := g9) (g10 := g10) (g11 := g11) (i := 0) (m := (n : Int) - 1) (dm := dBin gSubI (dVar 3) (dC (.int 1))) hd rfl (by omega) (by omega)
  obtain ⟨d2, r2, b1, b2, b3, b4⟩ := draw_call (xs := xs) (g2 := .v (.int lap)) (g3 := .v (nI n)) (g4 := .v (.int f)) (g5 := .own false (rs.map rep)) (g6 := g6) (g7 := .v (.int (1 + r))) (g8 := g8) (g9 := g9) (g10 := g10) (g11 := g11) (i := 0) (m := 9) (dm := dC (.int 9)) a1 rfl (by decide) (by decide)
  have s1 : dSet 7 (rE (dBin gAdd (dC (.int 1)) (dCall 2 f_L_draw [] (dACons (dVar 1) (dACons (dBin gSubI (dVar 3) (dC (.int 1))) dANil))))) (E xs d (.v (.int lap)) (.v (nI n)) (.v (.int f)) (.own false (rs.map rep)) g6 g7 g8 g9 g10 g11) = .nx (E xs d1 (.v (.int lap)) (.v (nI n)) (.v (.int f)) (.own false (rs.map rep)) g6 (.v (.int (1 + r))) g8 g9 g10 g11) :=
    setE2 (binE rfl a4 rfl rfl rfl) rfl h7 rfl
  obtain ⟨t, ht⟩ : ∃ t : Bool, dBin gNe (dBin gLeI (dVar 7) (dVar 4)) (dAnd (dBin gEq (dCall 2 f_L_draw [] (dACons (dVar 1) (dACons (dC (.int 9)) dANil))) (dC (.int 0))) (dBin gEq (dBin gModI (dVar 2) (dC (.int 2))) (dC (.int 1)))) (E xs d1 (.v (.int lap)) (.v (nI n)) (.v (.int f)) (.own false (rs.map rep)) g6 (.v (.int (1 + r))) g8 g9 g10 g11)
      = .ok (.d (.bool t)) (E xs d2 (.v (.int lap)) (.v (nI n)) (.v (.int f)) (.own false (rs.map rep)) g6 (.v (.int (1 + r))) g8 g9 g10 g11) := by
    have c1 : dBin gEq (dCall 2 f_L_draw [] (dACons (dVar 1) (dACons (dC (.int 9)) dANil))) (dC (.int 0)) (E xs d1 (.v (.int lap)) (.v (nI n)) (.v (.int f)) (.own false (rs.map rep)) g6 (.v (.int (1 + r))) g8 g9 g10 g11) = .ok (.d (.bool (decide (r2 = 0)))) (E xs d2 (.v (.int lap)) (.v (nI n)) (.v (.int f)) (.own false (rs.map rep)) g6 (.v (.int (1 + r))) g8 g9 g10 g11) := binE b4 rfl rfl rfl rfl
    have c2 : dBin gEq (dBin gModI (dVar 2) (dC (.int 2))) (dC (.int 1)) (E xs d2 (.v (.int lap)) (.v (nI n)) (.v (.int f)) (.own false (rs.map rep)) g6 (.v (.int (1 + r))) g8 g9 g10 g11) = .ok (.d (.bool (decide (lap % 2 = 1)))) (E xs d2 (.v (.int lap)) (.v (nI n)) (.v (.int f)) (.own false (rs.map rep)) g6 (.v (.int (1 + r))) g8 g9 g10 g11) := binE (binE rfl rfl rfl rfl (modOk (j := 2) (by decide))) rfl rfl rfl rfl
    obtain ⟨u, hu⟩ : ∃ u : Bool, dAnd (dBin gEq (dCall 2 f_L_draw [] (dACons (dVar 1) (dACons (dC (.int 9)) dANil))) (dC (.int 0))) (dBin gEq (dBin gModI (dVar 2) (dC (.int 2))) (dC (.int 1))) (E xs d1 (.v (.int lap)) (.v (nI n)) (.v (.int f)) (.own false (rs.map rep)) g6 (.v (.int (1 + r))) g8 g9 g10 g11) = .ok (.d (.bool u)) (E xs d2 (.v (.int lap)) (.v (nI n)) (.v (.int f)) (.own false (rs.map rep)) g6 (.v (.int (1 + r))) g8 g9 g10 g11) := by
      by_cases h0 : r2 = 0
      · rw [decide_eq_true h0] at c1
        exact ⟨decide (lap % 2 = 1), andE c1 c2⟩
      · rw [decide_eq_false h0] at c1
        exact ⟨false, andE c1 rfl⟩
    have hg : ∀ a b : Bool, gNe (.bool a) (.bool b) = some (.bool (!(a == b))) := fun a b => by cases a <;> cases b <;> rfl
    exact ⟨!(decide (1 + r ≤ f) == u), binE rfl hu rfl rfl (hg _ _)⟩
  refine ⟨d2, 1 + r, t, b1, by omega, by omega, ?_⟩
  unfold m_law_1
  refine seqE s1 (expE (appE rfl (tupE (x := .int (1 + r)) (y := .bool t) rfl ht) rfl rfl ?_ ?_))
  · rw [List.length_map]; exact Nat.lt_of_le_of_lt hl (by decide)
  · rw [List.map_append]
    rfl
theorem repl_spec (hd : FeedOk d) (hn : 1 ≤ n) (hn2 : n ≤ 40) (h6 : fr g6 = true) (h7 : fr g7 = true) : ∃ (d' : DV) (rs : List Rp2) (a6 a7 : Slot), FeedOk d' ∧ RsOk n rs ∧ fr a6 = true ∧ fr a7 = true ∧
    dFor (dRange1 (dACons (dIfE (dT (dBin gGtI (dVar 3) (dC (.int 1)))) (dCall 2 f_L_draw [] (dACons (dVar 1) (dACons (dC (.int 7)) dANil))) (dC (.int 0))) dANil)) (.nm 6) m_law_1 (E xs d (.v (.int lap)) (.v (nI n)) (.v (.int f)) (.own false []) g6 g7 g8 g9 g10 g11)
      = .nx (E xs d' (.v (.int lap)) (.v (nI n)) (.v (.int f)) (.own false (rs.map rep)) a6 a7 g8 g9 g10 g11) := by
  by_cases h1 : 1 < n
  · obtain ⟨d1, r, a1, a2, a3, a4⟩ := draw_call (xs := xs) (g2 := .v (.int lap)) (g3 := .v (nI n)) (g4 := .v (.int f)) (g5 := .own false []) (g6 := g6) (g7 := g7) (g8 := g8) (g9 := g9) (g10 := g10) (g11 := g11) (i := 0) (m := 7) (dm := dC (.int 7)) hd rfl (by decide) (by decide)
    have ht : dT (dBin gGtI (dVar 3) (dC (.int 1))) (E xs d (.v (.int lap)) (.v (nI n)) (.v (.int f)) (.own false []) g6 g7 g8 g9 g10 g11) = .ok true (E xs d (.v (.int lap)) (.v (nI n)) (.v (.int f)) (.own false []) g6 g7 g8 g9 g10 g11) := by
      refine tE (binE rfl rfl rfl rfl ?_)
      show some (PyData.bool (decide ((1 : Int) < (n : Int)))) = _
      rw [decide_eq_true (by omega)]
    have it : dRange1 (dACons (dIfE (dT (dBin gGtI (dVar 3) (dC (.int 1)))) (dCall 2 f_L_draw [] (dACons (dVar 1) (dACons (dC (.int 7)) dANil))) (dC (.int 0))) dANil) (E xs d (.v (.int lap)) (.v (nI n)) (.v (.int f)) (.own false []) g6 g7 g8 g9 g10 g11) = .ok (rangeL 0 r.toNat) (E xs d1 (.v (.int lap)) (.v (nI n)) (.v (.int f)) (.own false []) g6 g7 g8 g9 g10 g11) := by
      unfold dRange1
      rw [consE (r := dANil) (ifeE (da := dCall 2 f_L_draw [] (dACons (dVar 1) (dACons (dC (.int 7)) dANil))) (db := dC (.int 0)) ht a4) rfl]
      show (if inLong r = true then _ else _) = _
      rw [if_pos (show inLong r = true from decide_eq_true (by omega))]
    obtain ⟨e', k1, d', rs, a6, a7, k2, k3, k4, k5, k6, rfl⟩ := forL_inv (p := .nm 6) (b := m_law_1) (fun j e => ∃ (d' : DV) (rs : List Rp2) (a6 a7 : Slot), FeedOk d' ∧ rs.length = j ∧ (∀ r ∈ rs, 1 ≤ r.1 ∧ r.1 < n) ∧ fr a6 = true ∧ fr a7 = true ∧ e = E xs d' (.v (.int lap)) (.v (nI n)) (.v (.int f)) (.own false (rs.map rep)) a6 a7 g8 g9 g10 g11)
      (rangeL 0 r.toNat) 0 _ ⟨d1, [], g6, g7, a1, rfl, (fun r hr => nomatch hr), h6, h7, rfl⟩ (fun j x e hx hJ => by
        obtain ⟨d', rs, a6, a7, k2, k3, k4, k5, k6, rfl⟩ := hJ
        obtain ⟨hj, rfl⟩ := rangeL_get hx
        obtain ⟨d2, k, t, q1, q2, q3, q4⟩ := m1_spec (xs := xs) (lap := lap) (n := n) (f := f) (rs := rs) (g6 := .v (.int (0 + (j : Int)))) (g8 := g8) (g9 := g9) (g10 := g10) (g11 := g11) k2 h1 hn2 (by omega) k6
        refine ⟨_, _, asgE k5, q4, d2, rs ++ [(k, t)], .v (.int (0 + (j : Int))), .v (.int k), q1, by rw [List.length_append, List.length_singleton, k3], fun r' hr => ?_, rfl, rfl, rfl⟩
        rcases List.mem_append.mp hr with hr | hr
        · exact k4 r' hr
        · obtain rfl := List.mem_singleton.mp hr
          exact ⟨q2, q3⟩)
    refine ⟨d', rs, a6, a7, k2, ⟨hn, hn2, ?_, k4⟩, k5, k6, forE it k1⟩
    rw [k3, show (rangeL 0 r.toNat).length = r.toNat by simp [rangeL]]
    omega
  · have ht : dT (dBin gGtI (dVar 3) (dC (.int 1))) (E xs d (.v (.int lap)) (.v (nI n)) (.v (.int f)) (.own false []) g6 g7 g8 g9 g10 g11) = .ok false (E xs d (.v (.int lap)) (.v (nI n)) (.v (.int f)) (.own false []) g6 g7 g8 g9 g10 g11) := by
      refine tE (binE rfl rfl rfl rfl ?_)
      show some (PyData.bool (decide ((1 : Int) < (n : Int)))) = _
      rw [decide_eq_false (by omega)]
    have it : dRange1 (dACons (dIfE (dT (dBin gGtI (dVar 3) (dC (.int 1)))) (dCall 2 f_L_draw [] (dACons (dVar 1) (dACons (dC (.int 7)) dANil))) (dC (.int 0))) dANil) (E xs d (.v (.int lap)) (.v (nI n)) (.v (.int f)) (.own false []) g6 g7 g8 g9 g10 g11) = .ok [] (E xs d (.v (.int lap)) (.v (nI n)) (.v (.int f)) (.own false []) g6 g7 g8 g9 g10 g11) := by
      unfold dRange1
      rw [consE (r := dANil) (ifeE (da := dCall 2 f_L_draw [] (dACons (dVar 1) (dACons (dC (.int 7)) dANil))) (db := dC (.int 0)) ht rfl) rfl]
      rfl
    exact ⟨d, [], g6, g7, hd, ⟨hn, hn2, by decide, fun r hr => nomatch hr⟩, h6, h7, forE it rfl⟩
theorem repr_tu {rs : List Rp2} (w : RsOk n rs) : gRepr [tu rs] = some (.str (tu rs).shown) := by
  have hb : ∀ t : Bool, ROk 9 0 (.bool t) := fun t => by cases t <;> exact ⟨rfl, by decide +kernel, Nat.le_refl _, rfl⟩
  have : ROk _ _ (tu rs) := rok_tup (n := 40) (d := 1) fun x hx => by
    obtain ⟨r, hr, rfl⟩ := List.mem_map.mp hx
    have hk := w.k r hr
    have h2 := w.n2
    have : ROk ((9 + 2) * 2 + 3) 1 (rep r) := rok_tup (n := 9) (d := 0) (xs := [.int r.1, .bool r.2]) fun y hy => by
      rcases List.mem_cons.mp hy with rfl | hy
      · have e : (PyData.int r.1) = nI r.1.toNat := by unfold nI; rw [Int.toNat_of_nonneg (by omega)]
        rw [e]
        exact rok_int (by omega)
      · obtain rfl := List.mem_singleton.mp hy
        exact hb _
    exact this.mono (by decide) (Nat.le_refl _)
  refine this.repr ?_ (by decide)
  rw [List.length_map]
  have := w.len
  exact Nat.le_trans (by omega : _ ≤ 423) (by decide)
end
end K68

namespace K68
open PySem
open PySem.Spec
open PyProof.Rows
open L2
open L2.Dl
open PySem.W
theorem forL_cons {p : Pat} {b : DS} {x : PyData} {r : List PyData} {e e1 e2 : Nv} {R : SRes} (h : asgP p x e = some e1) (h2 : b e1 = .nx e2) (h3 : forL p b r e2 = R) : forL p b (x :: r) e = R := by
  unfold forL; simp only [h, h2]; exact h3
structure Jl (xs : List Int) (e : Nv) : Prop where
  ex : ∃ (d : DV) (g2 g3 g4 g5 g6 g7 g8 g9 g10 g11 : Slot), e = E xs d g2 g3 g4 g5 g6 g7 g8 g9 g10 g11 ∧ FeedOk d ∧ fr g2 = true ∧ fr g3 = true ∧ fr g4 = true ∧ fr g5 = true ∧ fr g6 = true ∧ fr g7 = true ∧ fr g8 = true ∧ fr g9 = true ∧ fr g10 = true ∧ fr g11 = true
section
variable {xs : List Int} {d : DV} {lap : Int} {n : Nat} {f : Int} {rs : List Rp2} {g2 g3 g4 g5 g6 g7 g8 g9 g10 g11 : Slot}
theorem none_iff (w : RsOk n rs) : (!(canL n rs).isEmpty) = (br rs).isNone := by
  cases hb : br rs with
  | none =>
    have hlt := br_lt w hb
    have a1 := (lo_spec rs).1
    have hc := canL_some (n := n) (rs := rs) (by omega)
    have hlen : (canL n rs).length = (hi n rs).toNat - (lo rs).toNat := by rw [hc]; simp
    cases hh : canL n rs with
    | nil => rw [hh] at hlen; simp at hlen; omega
    | cons _ _ => rfl
  | some q =>
    obtain ⟨i, j⟩ := q
    rw [canL_none (n := n) (br_ge (n := n) hb)]
    rfl
/-- what was told of the breach is right -/
theorem m2_spec (w : RsOk n rs) : m_law_2 (E xs d g2 g3 g4 (.v (tu rs)) g6 g7 g8 g9 (.v (.bool (br rs).isNone)) (.v (brD (br rs)))) = .nx (E xs d g2 g3 g4 (.v (tu rs)) g6 g7 g8 g9 (.v (.bool (br rs).isNone)) (.v (brD (br rs)))) := by
  unfold m_law_2
  cases hb : br rs with
  | none => exact ifF (orT (a := false) rfl (andT (a := false) rfl rfl)) rfl
  | some q =>
    obtain ⟨i, j⟩ := q
    have c1 : dCall 2 f_L_is_breach [] (dACons (dVar 5) (dACons (dVar 11) dANil)) (E xs d g2 g3 g4 (.v (tu rs)) g6 g7 g8 g9 (.v (.bool (some (i, j)).isNone)) (.v (brD (some (i, j))))) = .ok (.d (.bool true)) (E xs d g2 g3 g4 (.v (tu rs)) g6 g7 g8 g9 (.v (.bool (some (i, j)).isNone)) (.v (brD (some (i, j))))) :=
      callE (os := [.d (tu rs), .d (.tuple [nI i, nI j])]) rfl rfl (call_plain rfl rfl (is_breach_spec w.len hb))
    exact ifF (orT (a := false) rfl (andT (a := true) rfl (notT (tE c1)))) rfl
theorem m3_spec (hd : FeedOk d) (h3 : fr g3 = true) (h4 : fr g4 = true) (h5 : fr g5 = true) (h6 : fr g6 = true) (h7 : fr g7 = true) (h8 : fr g8 = true) (h9 : fr g9 = true) (h10 : fr g10 = true) (h11 : fr g11 = true) :
    ∃ e', m_law_3 (E xs d (.v (.int lap)) g3 g4 g5 g6 g7 g8 g9 g10 g11) = .nx e' ∧ Jl xs e' := by
  obtain ⟨d1, r, a1, a2, a3, a4⟩ := draw_call (xs := xs) (g2 := .v (.int lap)) (g3 := g3) (g4 := g4) (g5 := g5) (g6 := g6) (g7 := g7) (g8 := g8) (g9 := g9) (g10 := g10) (g11 := g11) (i := 0) (m := 40) (dm := dC (.int 40)) hd rfl (by decide) (by decide)
  obtain ⟨n, hn⟩ : ∃ n : Nat, 1 + r = (n : Int) := ⟨(1 + r).toNat, by omega⟩
  have s1 : dSet 3 (rE (dBin gAdd (dC (.int 1)) (dCall 2 f_L_draw [] (dACons (dVar 1) (dACons (dC (.int 40)) dANil))))) (E xs d (.v (.int lap)) g3 g4 g5 g6 g7 g8 g9 g10 g11) = .nx (E xs d1 (.v (.int lap)) (.v (nI n)) g4 g5 g6 g7 g8 g9 g10 g11) :=
    setE2 (binE rfl a4 rfl rfl (z := nI n) (by show some (PyData.int (1 + r)) = _; rw [hn] <;> rfl)) rfl h3 rfl
  obtain ⟨d2, f, b1, b2, b3, b4⟩ := draw_call (xs := xs) (g2 := .v (.int lap)) (g3 := .v (nI n)) (g4 := g4) (g5 := g5) (g6 := g6) (g7 := g7) (g8 := g8) (g9 := g9) (g10 := g10) (g11 := g11) (i := 0) (m := n) (dm := dVar 3) a1 rfl (by omega) (by omega)
  have s2 : dPar 4 5 (rE (dCall 2 f_L_draw [] (dACons (dVar 1) (dACons (dVar 3) dANil)))) (rL (dLst dANil)) (E xs d1 (.v (.int lap)) (.v (nI n)) g4 g5 g6 g7 g8 g9 g10 g11) = .nx (E xs d2 (.v (.int lap)) (.v (nI n)) (.v (.int f)) (.own false []) g6 g7 g8 g9 g10 g11) :=
    parE2 (rEE b4 rfl) rfl (by decide) h4 h5 rfl
  obtain ⟨d3, rs, a6, a7, c1, w, c2, c3, s3⟩ := repl_spec (xs := xs) (lap := lap) (n := n) (f := f) (g8 := g8) (g9 := g9) (g10 := g10) (g11 := g11) b1 (by omega) (by omega) h6 h7
  have hl := w.len
  have s4 : dSet 5 (rE (dCallB gTupleOf (dACons (dVar 5) dANil))) (E xs d3 (.v (.int lap)) (.v (nI n)) (.v (.int f)) (.own false (rs.map rep)) a6 a7 g8 g9 g10 g11) = .nx (E xs d3 (.v (.int lap)) (.v (nI n)) (.v (.int f)) (.v (tu rs)) a6 a7 g8 g9 g10 g11) := rfl
  have s5 : dSet 8 (rE (dCallB gRepr (dACons (dVar 5) dANil))) (E xs d3 (.v (.int lap)) (.v (nI n)) (.v (.int f)) (.v (tu rs)) a6 a7 g8 g9 g10 g11) = .nx (E xs d3 (.v (.int lap)) (.v (nI n)) (.v (.int f)) (.v (tu rs)) a6 a7 (.v (.str (tu rs).shown)) g9 g10 g11) :=
    setE2 (callBE (consE (r := dANil) rfl rfl) rfl (repr_tu w)) rfl h8 rfl
  have s6 : dSet 9 (rE (dFz (dLst (dACons (dCall 2 f_seek [] (dACons (dVar 3) (dACons (dVar 5) dANil))) (dACons (dCallW 2 f_seek 0 2 [1, 0] [] dANil (dACons (dVar 5) (dACons (dVar 3) dANil))) (dACons (dCall 1 f_breach_of [] (dACons (dVar 5) dANil)) (dACons (dCallW 1 f_breach_of 0 1 [0] [] dANil (dACons (dVar 5) dANil)) dANil))))))) (E xs d3 (.v (.int lap)) (.v (nI n)) (.v (.int f)) (.v (tu rs)) a6 a7 (.v (.str (tu rs).shown)) g9 g10 g11)
      = .nx (E xs d3 (.v (.int lap)) (.v (nI n)) (.v (.int f)) (.v (tu rs)) a6 a7 (.v (.str (tu rs).shown)) (.v (.list [seekD n rs, seekD n rs, brD (br rs), brD (br rs)])) g10 g11) := by
    have k1 : dCall 2 f_seek [] (dACons (dVar 3) (dACons (dVar 5) dANil)) (E xs d3 (.v (.int lap)) (.v (nI n)) (.v (.int f)) (.v (tu rs)) a6 a7 (.v (.str (tu rs).shown)) g9 g10 g11) = .ok (.d (seekD n rs)) (E xs d3 (.v (.int lap)) (.v (nI n)) (.v (.int f)) (.v (tu rs)) a6 a7 (.v (.str (tu rs).shown)) g9 g10 g11) := callE (os := [.d (nI n), .d (tu rs)]) rfl rfl (call_plain rfl rfl (seek_spec (by omega)))
    have k2 : dCallW 2 f_seek 0 2 [1, 0] [] dANil (dACons (dVar 5) (dACons (dVar 3) dANil)) (E xs d3 (.v (.int lap)) (.v (nI n)) (.v (.int f)) (.v (tu rs)) a6 a7 (.v (.str (tu rs).shown)) g9 g10 g11) = .ok (.d (seekD n rs)) (E xs d3 (.v (.int lap)) (.v (nI n)) (.v (.int f)) (.v (tu rs)) a6 a7 (.v (.str (tu rs).shown)) g9 g10 g11) := callWE (os := []) (zs := [.d (tu rs), .d (nI n)]) rfl rfl ⟨rfl, rfl, rfl⟩ (call_plain rfl rfl (seek_spec (by omega)))
    have k3 : dCall 1 f_breach_of [] (dACons (dVar 5) dANil) (E xs d3 (.v (.int lap)) (.v (nI n)) (.v (.int f)) (.v (tu rs)) a6 a7 (.v (.str (tu rs).shown)) g9 g10 g11) = .ok (.d (brD (br rs))) (E xs d3 (.v (.int lap)) (.v (nI n)) (.v (.int f)) (.v (tu rs)) a6 a7 (.v (.str (tu rs).shown)) g9 g10 g11) := callE (os := [.d (tu rs)]) rfl rfl (call_plain rfl rfl (breach_spec (by omega)))
    have k4 : dCallW 1 f_breach_of 0 1 [0] [] dANil (dACons (dVar 5) dANil) (E xs d3 (.v (.int lap)) (.v (nI n)) (.v (.int f)) (.v (tu rs)) a6 a7 (.v (.str (tu rs).shown)) g9 g10 g11) = .ok (.d (brD (br rs))) (E xs d3 (.v (.int lap)) (.v (nI n)) (.v (.int f)) (.v (tu rs)) a6 a7 (.v (.str (tu rs).shown)) g9 g10 g11) := callWE (os := []) (zs := [.d (tu rs)]) rfl rfl ⟨rfl, rfl, rfl⟩ (call_plain rfl rfl (breach_spec (by omega)))
    have kk := consE k1 (consE k2 (consE k3 (consE (r := dANil) k4 rfl)))
    have k5 : dLst (dACons (dCall 2 f_seek [] (dACons (dVar 3) (dACons (dVar 5) dANil))) (dACons (dCallW 2 f_seek 0 2 [1, 0] [] dANil (dACons (dVar 5) (dACons (dVar 3) dANil))) (dACons (dCall 1 f_breach_of [] (dACons (dVar 5) dANil)) (dACons (dCallW 1 f_breach_of 0 1 [0] [] dANil (dACons (dVar 5) dANil)) dANil)))) (E xs d3 (.v (.int lap)) (.v (nI n)) (.v (.int f)) (.v (tu rs)) a6 a7 (.v (.str (tu rs).shown)) g9 g10 g11) = .ok [seekD n rs, seekD n rs, brD (br rs), brD (br rs)] (E xs d3 (.v (.int lap)) (.v (nI n)) (.v (.int f)) (.v (tu rs)) a6 a7 (.v (.str (tu rs).shown)) g9 g10 g11) := by
      unfold dLst; rw [kk]; rfl
    exact setE2 (fzE k5) rfl h9 rfl
  generalize hT : PyData.list [seekD n rs, seekD n rs, brD (br rs), brD (br rs)] = T at s6
  have ask : ∀ {ix : Int}, gIx T (.int ix) = some (seekD n rs) → dT (dCall 3 f_L_ask_right [] (dACons (dVar 3) (dACons (dVar 5) (dACons (dBin gIx (dVar 9) (dC (.int ix))) dANil)))) (E xs d3 (.v (.int lap)) (.v (nI n)) (.v (.int f)) (.v (tu rs)) a6 a7 (.v (.str (tu rs).shown)) (.v T) g10 g11) = .ok true (E xs d3 (.v (.int lap)) (.v (nI n)) (.v (.int f)) (.v (tu rs)) a6 a7 (.v (.str (tu rs).shown)) (.v T) g10 g11) := fun {ix} h =>
    tE (callE (os := [.d (nI n), .d (tu rs), .d (seekD n rs)]) (consE rfl (consE rfl (consE (r := dANil) (binE rfl rfl rfl rfl h) rfl))) rfl (call_plain rfl rfl (ask_spec w)))
  have can1 : dCall 2 f_L_can [] (dACons (dVar 3) (dACons (dVar 5) dANil)) (E xs d3 (.v (.int lap)) (.v (nI n)) (.v (.int f)) (.v (tu rs)) a6 a7 (.v (.str (tu rs).shown)) (.v T) g10 g11) = .ok (.d (.list ((canL n rs).map nI))) (E xs d3 (.v (.int lap)) (.v (nI n)) (.v (.int f)) (.v (tu rs)) a6 a7 (.v (.str (tu rs).shown)) (.v T) g10 g11) :=
    callE (os := [.d (nI n), .d (tu rs)]) rfl rfl (call_plain rfl rfl (can_spec (by have := w.n2; omega) (by omega)))
  have s8 : dSet 10 (rE (dBin gNe (dCall 2 f_L_can [] (dACons (dVar 3) (dACons (dVar 5) dANil))) (dFz (dLst dANil)))) (E xs d3 (.v (.int lap)) (.v (nI n)) (.v (.int f)) (.v (tu rs)) a6 a7 (.v (.str (tu rs).shown)) (.v T) g10 g11) = .nx (E xs d3 (.v (.int lap)) (.v (nI n)) (.v (.int f)) (.v (tu rs)) a6 a7 (.v (.str (tu rs).shown)) (.v T) (.v (.bool (br rs).isNone)) g11) :=
    setE2 (binE can1 rfl rfl rfl ((ne_nil (shaped_nI _)).trans (by rw [List.isEmpty_map, none_iff w]))) rfl h10 rfl
  have it9 : dIt (dSl (dVar 9) (dP (dC (.int 2))) dP0) (E xs d3 (.v (.int lap)) (.v (nI n)) (.v (.int f)) (.v (tu rs)) a6 a7 (.v (.str (tu rs).shown)) (.v T) (.v (.bool (br rs).isNone)) g11) = .ok [brD (br rs), brD (br rs)] (E xs d3 (.v (.int lap)) (.v (nI n)) (.v (.int f)) (.v (tu rs)) a6 a7 (.v (.str (tu rs).shown)) (.v T) (.v (.bool (br rs).isNone)) g11) := by
    rw [← hT]
    rfl
  have s9 : dFor (dIt (dSl (dVar 9) (dP (dC (.int 2))) dP0)) (.nm 11) m_law_2 (E xs d3 (.v (.int lap)) (.v (nI n)) (.v (.int f)) (.v (tu rs)) a6 a7 (.v (.str (tu rs).shown)) (.v T) (.v (.bool (br rs).isNone)) g11) = .nx (E xs d3 (.v (.int lap)) (.v (nI n)) (.v (.int f)) (.v (tu rs)) a6 a7 (.v (.str (tu rs).shown)) (.v T) (.v (.bool (br rs).isNone)) (.v (brD (br rs)))) := by
    have hm := m2_spec (xs := xs) (d := d3) (g2 := .v (.int lap)) (g3 := .v (nI n)) (g4 := .v (.int f)) (g6 := a6) (g7 := a7) (g8 := .v (.str (tu rs).shown)) (g9 := .v T) w
    exact forE it9 (forL_cons (asgE h11) hm (forL_cons (asgE rfl) hm rfl))
  have ta : dT (dBin gNe (dCallB gRepr (dACons (dVar 5) dANil)) (dVar 8)) (E xs d3 (.v (.int lap)) (.v (nI n)) (.v (.int f)) (.v (tu rs)) a6 a7 (.v (.str (tu rs).shown)) (.v T) (.v (.bool (br rs).isNone)) (.v (brD (br rs)))) = .ok false (E xs d3 (.v (.int lap)) (.v (nI n)) (.v (.int f)) (.v (tu rs)) a6 a7 (.v (.str (tu rs).shown)) (.v T) (.v (.bool (br rs).isNone)) (.v (brD (br rs)))) := by
    refine tE (binE (callBE (consE (r := dANil) rfl rfl) rfl (repr_tu w)) rfl rfl rfl ?_)
    show some (PyData.bool (!decide ((tu rs).shown = (tu rs).shown))) = _
    rw [decide_eq_true rfl]
    rfl
  have tb : dT (dBin gNotN (dCall 1 f_breach_of [] (dACons (dTup dANil) dANil)) (dC .none)) (E xs d3 (.v (.int lap)) (.v (nI n)) (.v (.int f)) (.v (tu rs)) a6 a7 (.v (.str (tu rs).shown)) (.v T) (.v (.bool (br rs).isNone)) (.v (brD (br rs)))) = .ok false (E xs d3 (.v (.int lap)) (.v (nI n)) (.v (.int f)) (.v (tu rs)) a6 a7 (.v (.str (tu rs).shown)) (.v T) (.v (.bool (br rs).isNone)) (.v (brD (br rs)))) := by
    have k0 : dCall 1 f_breach_of [] (dACons (dTup dANil) dANil) (E xs d3 (.v (.int lap)) (.v (nI n)) (.v (.int f)) (.v (tu rs)) a6 a7 (.v (.str (tu rs).shown)) (.v T) (.v (.bool (br rs).isNone)) (.v (brD (br rs)))) = .ok (.d .none) (E xs d3 (.v (.int lap)) (.v (nI n)) (.v (.int f)) (.v (tu rs)) a6 a7 (.v (.str (tu rs).shown)) (.v T) (.v (.bool (br rs).isNone)) (.v (brD (br rs)))) := callE (os := [.d (.tuple [])]) rfl rfl (call_plain rfl rfl (breach_spec (rs := []) (by decide)))
    exact tE (binE k0 rfl rfl rfl rfl)
  refine ⟨_, ?_, ⟨d3, .v (.int lap), .v (nI n), .v (.int f), .v (tu rs), a6, a7, .v (.str (tu rs).shown), .v T, .v (.bool (br rs).isNone), .v (brD (br rs)), rfl, c1, rfl, rfl, rfl, rfl, c2, c3, rfl, rfl, rfl, rfl⟩⟩
  unfold m_law_3
  refine seqE s1 (seqE s2 (seqE s3 (seqE s4 (seqE s5 (seqE s6 (seqE (ifF (orT (a := false) (notT (ask (by rw [← hT] <;> rfl))) (notT (ask (by rw [← hT] <;> rfl)))) rfl) (seqE s8 (seqE s9 (ifF (orT (a := false) ta tb) rfl)))))))))
end
theorem cutG_map {α β : Type} (f : α → β) (l : List α) (lo hi : Option Int) : cutG (l.map f) lo hi = (cutG l lo hi).map f := by
  unfold cutG
  rw [List.length_map, List.map_take, List.map_drop]
theorem runK {nn : Nat} {m : DS} {ps e l : Nv} {d : DV} (h : m (ps ++ List.replicate (nn - ps.length) .un) = .rtD d e) (h2 : outP e ps 0 = some l) : mkFn nn m ps = .ok (.k d) l := by
  unfold mkFn; rw [h]; simp only [h2, outR]
theorem feed_spec (xs : List Int) : f_L_feed [.ro (xs.map .int)] = .ok (.k (feedD (cutG xs none (some 63)) 0 0 0)) [.ro (xs.map .int)] := by
  have h : m_L_feed [.ro (xs.map .int)] = .rtD ⟨false, [(.str "cells", .list (cutG (xs.map .int) none (some 63))), (.str "at", .int 0), (.str "left", .int 0), (.str "count", .int 0)]⟩ [.ro (xs.map .int)] := rfl
  rw [cutG_map] at h
  exact runK (e := [.ro (xs.map .int)]) (show m_L_feed [.ro (xs.map .int)] = _ from h) rfl
def u11 : Nv := [.un, .un, .un, .un, .un, .un, .un, .un, .un, .un, .un]
theorem law_true (ns : List Int) (h : ns.length ≤ 63) : ∃ ps, f_law [.ro (ns.map .int)] = .ok (.d (.bool true)) ps := by
  have s1 : dSet 1 (rK (dkCall 1 f_L_feed [] (dACons (dVar 0) dANil))) (.ro (ns.map .int) :: u11) = .nx (E ns (feedD (cutG ns none (some 63)) 0 0 0) .un .un .un .un .un .un .un .un .un .un) := by
    have hk : dkCall 1 f_L_feed [] (dACons (dVar 0) dANil) (.ro (ns.map .int) :: u11) = .ok (feedD (cutG ns none (some 63)) 0 0 0) (.ro (ns.map .int) :: u11) := by
      have hc : callDV f_L_feed [.sl 0] (.ro (ns.map .int) :: u11) = .ok (feedD (cutG ns none (some 63)) 0 0 0) (.ro (ns.map .int) :: u11) := by
        unfold callDV
        rw [if_pos (by rfl), show argL (.ro (ns.map .int) :: u11) [.sl 0] = some [.ro (ns.map .int)] from rfl]
        simp only [feed_spec]
        rfl
      exact hc
    unfold dSet rK
    rw [hk]
    rfl
  obtain ⟨e', h1, h2⟩ := forL_inv (p := .nm 2) (b := m_law_3) (fun _ e => Jl ns e) (rangeL 0 8) 0 (E ns (feedD (cutG ns none (some 63)) 0 0 0) .un .un .un .un .un .un .un .un .un .un)
    ⟨_, .un, .un, .un, .un, .un, .un, .un, .un, .un, .un, rfl, ⟨_, _, _, _, rfl, by decide⟩, rfl, rfl, rfl, rfl, rfl, rfl, rfl, rfl, rfl, rfl⟩ (fun k x e hx hJ => by
      obtain ⟨d, g2, g3, g4, g5, g6, g7, g8, g9, g10, g11, rfl, hd, h2, h3, h4, h5, h6, h7, h8, h9, h10, h11⟩ := hJ
      obtain ⟨hk, rfl⟩ := rangeL_get hx
      obtain ⟨e2, k1, k2⟩ := m3_spec (xs := ns) (lap := 0 + (k : Int)) hd h3 h4 h5 h6 h7 h8 h9 h10 h11
      exact ⟨_, e2, asgE h2, k1, k2⟩)
  have sd : seekD 1 [] = .tuple [.str "found", .int 0] := rfl
  have hr : dRet (dBin gEq (dCall 2 f_seek [] (dACons (dC (.int 1)) (dACons (dTup dANil) dANil))) (dTup (dACons (dC (.str "found")) (dACons (dC (.int 0)) dANil)))) e' = .rt (.bool true) e' := by
    have c : dCall 2 f_seek [] (dACons (dC (.int 1)) (dACons (dTup dANil) dANil)) e' = .ok (.d (.tuple [.str "found", .int 0])) e' :=
      callE (os := [.d (.int 1), .d (.tuple [])]) rfl rfl (call_plain rfl rfl (seek_spec (n := 1) (rs := []) (by decide)))
    refine retE (o := .d (.bool true)) (binE c (tupE rfl rfl) rfl rfl ?_) rfl
    show (if (SeqAt.shaped (.tuple [.str "found", .int 0]) && SeqAt.shaped (.tuple [.str "found", .int 0])) = true then some (PyData.bool (PyData.eqv (.tuple [.str "found", .int 0]) (.tuple [.str "found", .int 0]))) else none) = _
    rw [show SeqAt.shaped (.tuple [.str "found", .int 0]) = true by decide +kernel]
    rfl
  have h0 : outP e' [.ro (ns.map .int)] 0 = some [.ro (ns.map .int)] := rfl
  refine ⟨_, runF (e := e') (show m_law (.ro (ns.map .int) :: u11) = _ from ?_) h0⟩
  unfold m_law
  exact seqE s1 (seqE (forE (xs := rangeL 0 8) rfl h1) hr)
end K68

namespace K68
open PySem
open PySem.Spec
open PyProof.Rows
open L2
open L2.Dl
theorem all_mk {l : PySem.W.OpenLaw} {w : World} {K : PySem.W.Frag} {h : Heap} {mg : Str → Option Value} {fa : Addr} (X : K.In h) (G : h.Ns mainGlobals mg) (hfa : mg "law" = some (.ref fa))
    {od0 an0 : Option Addr} {sl0 : Array (Option Value)} {f0 : Addr} {oc0 kV0 dc0 pm0 cd0 ct0 : Value} {od1 an1 : Option Addr} {sl1 : Array (Option Value)} {f1 : Addr} {oc1 kV1 dc1 pm1 cd1 ct1 : Value} {od2 an2 : Option Addr} {sl2 : Array (Option Value)} {f2 : Addr} {oc2 kV2 dc2 pm2 cd2 ct2 : Value} {od3 an3 : Option Addr} {sl3 : Array (Option Value)} {f3 : Addr} {oc3 kV3 dc3 pm3 cd3 ct3 : Value} {od4 an4 : Option Addr} {sl4 : Array (Option Value)} {f4 : Addr} {oc4 kV4 dc4 pm4 cd4 ct4 : Value} {od5 an5 : Option Addr} {sl5 : Array (Option Value)} {f5 : Addr} {oc5 kV5 dc5 pm5 cd5 ct5 : Value} {od6 an6 : Option Addr} {sl6 : Array (Option Value)} {f6 : Addr} {oc6 kV6 dc6 pm6 cd6 ct6 : Value} {od7 an7 : Option Addr} {sl7 : Array (Option Value)} {f7 : Addr} {oc7 kV7 dc7 pm7 cd7 ct7 : Value}
    (a0 : PySem.W.nsIn K mainGlobals "breach_of" = some (some (.ref f0))) (l0 : K.lookup f0 = some ⟨oc0, od0, .func (PySem.W.fnOf "breach_of" "breach_of" (defArgs s_breach_of) (defBody s_breach_of) (defScope s_breach_of) .none kV0 dc0 pm0 an0 cd0 ct0), sl0⟩) (c0 : PySem.W.codeIn K cd0 "breach_of" = true) (k0 : PySem.W.keepIn K (.ref f0) = true)
    (a1 : PySem.W.nsIn K mainGlobals "seek" = some (some (.ref f1))) (l1 : K.lookup f1 = some ⟨oc1, od1, .func (PySem.W.fnOf "seek" "seek" (defArgs s_seek) (defBody s_seek) (defScope s_seek) .none kV1 dc1 pm1 an1 cd1 ct1), sl1⟩) (c1 : PySem.W.codeIn K cd1 "seek" = true) (k1 : PySem.W.keepIn K (.ref f1) = true)
    (a2 : PySem.W.nsIn K mainGlobals "_law_feed" = some (some (.ref f2))) (l2 : K.lookup f2 = some ⟨oc2, od2, .func (PySem.W.fnOf "_law_feed" "_law_feed" (defArgs s_L_feed) (defBody s_L_feed) (defScope s_L_feed) .none kV2 dc2 pm2 an2 cd2 ct2), sl2⟩) (c2 : PySem.W.codeIn K cd2 "_law_feed" = true) (k2 : PySem.W.keepIn K (.ref f2) = true)
    (a3 : PySem.W.nsIn K mainGlobals "_law_draw" = some (some (.ref f3))) (l3 : K.lookup f3 = some ⟨oc3, od3, .func (PySem.W.fnOf "_law_draw" "_law_draw" (defArgs s_L_draw) (defBody s_L_draw) (defScope s_L_draw) .none kV3 dc3 pm3 an3 cd3 ct3), sl3⟩) (c3 : PySem.W.codeIn K cd3 "_law_draw" = true) (k3 : PySem.W.keepIn K (.ref f3) = true)
    (a4 : PySem.W.nsIn K mainGlobals "_law_can" = some (some (.ref f4))) (l4 : K.lookup f4 = some ⟨oc4, od4, .func (PySem.W.fnOf "_law_can" "_law_can" (defArgs s_L_can) (defBody s_L_can) (defScope s_L_can) .none kV4 dc4 pm4 an4 cd4 ct4), sl4⟩) (c4 : PySem.W.codeIn K cd4 "_law_can" = true) (k4 : PySem.W.keepIn K (.ref f4) = true)
    (a5 : PySem.W.nsIn K mainGlobals "_law_is_breach" = some (some (.ref f5))) (l5 : K.lookup f5 = some ⟨oc5, od5, .func (PySem.W.fnOf "_law_is_breach" "_law_is_breach" (defArgs s_L_is_breach) (defBody s_L_is_breach) (defScope s_L_is_breach) .none kV5 dc5 pm5 an5 cd5 ct5), sl5⟩) (c5 : PySem.W.codeIn K cd5 "_law_is_breach" = true) (k5 : PySem.W.keepIn K (.ref f5) = true)
    (a6 : PySem.W.nsIn K mainGlobals "_law_ask_right" = some (some (.ref f6))) (l6 : K.lookup f6 = some ⟨oc6, od6, .func (PySem.W.fnOf "_law_ask_right" "_law_ask_right" (defArgs s_L_ask_right) (defBody s_L_ask_right) (defScope s_L_ask_right) .none kV6 dc6 pm6 an6 cd6 ct6), sl6⟩) (c6 : PySem.W.codeIn K cd6 "_law_ask_right" = true) (k6 : PySem.W.keepIn K (.ref f6) = true)
    (a7 : PySem.W.nsIn K mainGlobals "law" = some (some (.ref f7))) (l7 : K.lookup f7 = some ⟨oc7, od7, .func (PySem.W.fnOf "law" "law" (defArgs s_law) (defBody s_law) (defScope s_law) .none kV7 dc7 pm7 an7 cd7 ct7), sl7⟩) (c7 : PySem.W.codeIn K cd7 "law" = true) (k7 : PySem.W.keepIn K (.ref f7) = true)
    (z_enumerate : PySem.W.nsIn K mainGlobals "enumerate" = some none)
    (z_len : PySem.W.nsIn K mainGlobals "len" = some none)
    (z_max : PySem.W.nsIn K mainGlobals "max" = some none)
    (z_min : PySem.W.nsIn K mainGlobals "min" = some none)
    (z_list : PySem.W.nsIn K mainGlobals "list" = some none)
    (z_range : PySem.W.nsIn K mainGlobals "range" = some none)
    (z_repr : PySem.W.nsIn K mainGlobals "repr" = some none)
    (z_isinstance : PySem.W.nsIn K mainGlobals "isinstance" = some none)
    (z_tuple : PySem.W.nsIn K mainGlobals "tuple" = some none)
    : ∃ fd : FuncData, (∀ (s : Shared) (v : Value), BindsTo s fd ⟨[v], []⟩ [("_law_script", v)]) ∧ ∀ base : Heap, K.In base → base.Ns mainGlobals mg → @FnD l.prog w K mg base 3 fa fd ["_law_script"] (@fnSp ⟨K⟩ mg 1 f_law) := by
  letI : KF := ⟨K⟩
  have e := hfa.symm.trans (PySem.W.mg_of X G a7)
  cases e
  have y_enumerate := PySem.W.mg_none_of X G z_enumerate
  have y_len := PySem.W.mg_none_of X G z_len
  have y_max := PySem.W.mg_none_of X G z_max
  have y_min := PySem.W.mg_none_of X G z_min
  have y_list := PySem.W.mg_none_of X G z_list
  have y_range := PySem.W.mg_none_of X G z_range
  have y_repr := PySem.W.mg_none_of X G z_repr
  have y_isinstance := PySem.W.mg_none_of X G z_isinstance
  have y_tuple := PySem.W.mg_none_of X G z_tuple
  refine ⟨PySem.W.fnOf "law" "law" (defArgs s_law) (defBody s_law) (defScope s_law) .none kV7 dc7 pm7 an7 cd7 ct7, fun s v => .of_eq rfl, fun base _ _ => ?_⟩
  have h_breach_of := c_breach_of (P := l.prog) (w := w) (base := base) y_enumerate y_len (fun_mk (st := s_breach_of) l0 c0 k0) (PySem.W.mg_of X G a0)
  have h_seek := c_seek (P := l.prog) (w := w) (base := base) h_breach_of y_max y_min (fun_mk (st := s_seek) l1 c1 k1) (PySem.W.mg_of X G a1)
  have h_L_feed := c_L_feed (P := l.prog) (w := w) (base := base) y_list (fun_mk (st := s_L_feed) l2 c2 k2) (PySem.W.mg_of X G a2)
  have h_L_draw := c_L_draw (P := l.prog) (w := w) (base := base) y_len (fun_mk (st := s_L_draw) l3 c3 k3) (PySem.W.mg_of X G a3)
  have h_L_can := c_L_can (P := l.prog) (w := w) (base := base) y_range (fun_mk (st := s_L_can) l4 c4 k4) (PySem.W.mg_of X G a4)
  have h_L_is_breach := c_L_is_breach (P := l.prog) (w := w) (base := base) y_range y_len y_repr y_isinstance y_tuple (fun_mk (st := s_L_is_breach) l5 c5 k5) (PySem.W.mg_of X G a5)
  have h_L_ask_right := c_L_ask_right (P := l.prog) (w := w) (base := base) h_L_can h_L_is_breach y_isinstance y_tuple y_len y_repr y_range y_max (fun_mk (st := s_L_ask_right) l6 c6 k6) (PySem.W.mg_of X G a6)
  have h_law := c_law (P := l.prog) (w := w) (base := base) h_L_feed h_L_draw h_seek h_breach_of h_L_ask_right h_L_can h_L_is_breach y_range y_tuple y_repr (fun_mk (st := s_law) l7 c7 k7) (PySem.W.mg_of X G a7)
  exact h_law.fn
end K68
open PySem
open PySem.W
open PyProof.Rows
set_option maxHeartbeats 0 in
theorem PySem.Challenge.cw_mendlines_k68_seeking_holds : PySem.Challenge.rw_mendlines_k68_seeking.Holds := by
  w_on; o_law; k_head; (case hw => w_witness2)
  k_fill
  refine L2.walk_ofD (l := PySem.Challenge.rw_mendlines_k68_seeking) (n := 63) (k := 3) (x := "_law_script") (fn := K68.f_law) rfl (by decide) rfl ⟨⟨rfl, by decide, by decide⟩, rfl⟩ (fun w h Y => PySem.W.kIn_of Y) ?F K68.law_true
  case F =>
    intro w mg fa h KX G hmg
    refine' K68.all_mk KX G hmg ?a0 ?l0 ?c0 ?k0 ?a1 ?l1 ?c1 ?k1 ?a2 ?l2 ?c2 ?k2 ?a3 ?l3 ?c3 ?k3 ?a4 ?l4 ?c4 ?k4 ?a5 ?l5 ?c5 ?k5 ?a6 ?l6 ?c6 ?k6 ?a7 ?l7 ?c7 ?k7 ?z_enumerate ?z_len ?z_max ?z_min ?z_list ?z_range ?z_repr ?z_isinstance ?z_tuple
    (case a0 => k_is); (case l0 => k_is); (case c0 => k_is); (case k0 => k_is); (case a1 => k_is); (case l1 => k_is); (case c1 => k_is); (case k1 => k_is); (case a2 => k_is); (case l2 => k_is); (case c2 => k_is); (case k2 => k_is); (case a3 => k_is); (case l3 => k_is); (case c3 => k_is); (case k3 => k_is); (case a4 => k_is); (case l4 => k_is); (case c4 => k_is); (case k4 => k_is); (case a5 => k_is); (case l5 => k_is); (case c5 => k_is); (case k5 => k_is); (case a6 => k_is); (case l6 => k_is); (case c6 => k_is); (case k6 => k_is); (case a7 => k_is); (case l7 => k_is); (case c7 => k_is); (case k7 => k_is); (case z_enumerate => k_is); (case z_len => k_is); (case z_max => k_is); (case z_min => k_is); (case z_list => k_is); (case z_range => k_is); (case z_repr => k_is); (case z_isinstance => k_is); (case z_tuple => k_is)

