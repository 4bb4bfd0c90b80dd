import PyProof.Rows.All
import Wide.All
import OpenK.AllK
import Wide.FinOn
import HandS.ForMost
import KE.DataEq
import KE.DataFind
import KE.DataAny
import KE.DataIsa
import KE.DataMinMax
import KE.SortData
import KE.SortKeyHeap
import HandS.Star
import HandS.IsInst
import HandS.Wide
import HandS.Style
import PySem.Challenge.RW_struckboards_k56_across_great_spans
set_option Elab.async false
set_option linter.all false
set_option maxRecDepth 100000
set_option maxHeartbeats 4000000
namespace L2.Z
open PySem PySem.Spec PyProof.Rows

def kD : Key → PyData
  | .inl i => .int i
  | .inr s => .str s

mutual
inductive Rp (K : PySem.W.Frag) (F : Hp) : V → PyData → Prop
  | non : Rp K F .non .none
  | bl (b : Bool) : Rp K F (.bl b) (.bool b)
  | int (i : Int) : Rp K F (.int i) (.int i)
  | str (x : Str) : Rp K F (.str x) (.str x)
  | lst {a : Addr} {xs : List V} {ds : List PyData} : SqL K F a xs → xs.length ≤ sizeLine → RpA K F xs ds → Rp K F (.ref a) (.list ds)
  | tup {a : Addr} {xs : List V} {ds : List PyData} : F a = some (.tup xs) → xs.length ≤ sizeLine → RpA K F xs ds → Rp K F (.ref a) (.tuple ds)
  | dk {a : Addr} {ps : List (Key × V)} {kvs : List (PyData × PyData)} : F a = some (.dK ps) → ps.length ≤ sizeLine → kvs.map Prod.fst = ps.map (fun p => kD p.1) →
      RpA K F (ps.map Prod.snd) (kvs.map Prod.snd) → Rp K F (.ref a) (.dict kvs)
  | dt {a : Addr} {ps : List (List Key × V)} {kvs : List (PyData × PyData)} : F a = some (.dT ps) → ps.length ≤ sizeLine → kvs.map Prod.fst = ps.map (fun p => .tuple (p.1.map kD)) →
      RpA K F (ps.map Prod.snd) (kvs.map Prod.snd) → Rp K F (.ref a) (.dict kvs)
inductive RpA (K : PySem.W.Frag) (F : Hp) : List V → List PyData → Prop
  | nil : RpA K F [] []
  | cons {v : V} {vs : List V} {d : PyData} {ds : List PyData} : Rp K F v d → RpA K F vs ds → RpA K F (v :: vs) (d :: ds)
end

theorem Same.sqT {K : PySem.W.Frag} {H H' : Hp} {a : Addr} {xs : List V} (e : Same H H') (h : SqT K H a xs) : SqT K H' a xs := by
  rcases h with (h | ⟨o, h⟩) | h
  · exact .inl (.inl (e _ _ h))
  · exact .inl (.inr ⟨o, e _ _ h⟩)
  · exact .inr h

theorem Same.rd {H H' : Hp} {a : Addr} {u : HO} (e : Same H H') (h : Rd H a u) : Rd H' a u := by
  rcases h with h | ⟨o, h⟩
  · exact .inl (e _ _ h)
  · exact .inr ⟨o, e _ _ h⟩
section
variable {K : PySem.W.Frag} {F F' : Hp}
theorem Rp.mono (s : Same F F') {v : V} {d : PyData} (h : Rp K F v d) : Rp K F' v d :=
  Rp.rec (motive_1 := fun v d _ => Rp K F' v d) (motive_2 := fun vs ds _ => RpA K F' vs ds)
    .non (fun b => .bl b) (fun i => .int i) (fun x => .str x)
    (fun q z _ ih => .lst (s.seq q) z ih) (fun q z _ ih => .tup (s _ _ q) z ih) (fun q z e _ ih => .dk (s _ _ q) z e ih) (fun q z e _ ih => .dt (s _ _ q) z e ih)
    .nil (fun _ _ a b => .cons a b) h
theorem RpA.mono (s : Same F F') : ∀ {vs : List V} {ds : List PyData}, RpA K F vs ds → RpA K F' vs ds
  | _, _, .nil => .nil
  | _, _, .cons a b => .cons (a.mono s) (RpA.mono s b)
theorem RpA.length : ∀ {vs : List V} {ds : List PyData}, RpA K F vs ds → vs.length = ds.length
  | _, _, .nil => rfl
  | _, _, .cons _ b => by simp [RpA.length b]
theorem RpA.get : ∀ {vs : List V} {ds : List PyData} {i : Nat} {d : PyData}, RpA K F vs ds → ds[i]? = some d → ∃ v, vs[i]? = some v ∧ Rp K F v d
  | _, _, _, _, .nil, e => by simp at e
  | _, _, 0, _, .cons a _, e => by simp at e; subst e; exact ⟨_, rfl, a⟩
  | _, _, i + 1, d, .cons _ b, e => by
    obtain ⟨v, h1, h2⟩ := RpA.get (i := i) (d := d) b (by simpa using e)
    exact ⟨v, by simpa using h1, h2⟩
theorem RpA.getV : ∀ {vs : List V} {ds : List PyData} {i : Nat} {v : V}, RpA K F vs ds → vs[i]? = some v → ∃ d, ds[i]? = some d ∧ Rp K F v d
  | _, _, _, _, .nil, e => by simp at e
  | _, _, 0, _, .cons a _, e => by simp at e; subst e; exact ⟨_, rfl, a⟩
  | _, _, i + 1, v, .cons _ b, e => by
    obtain ⟨d, h1, h2⟩ := RpA.getV (i := i) (v := v) b (by simpa using e)
    exact ⟨d, by simpa using h1, h2⟩
theorem RpA.append : ∀ {vs ws : List V} {ds es : List PyData}, RpA K F vs ds → RpA K F ws es → RpA K F (vs ++ ws) (ds ++ es)
  | _, _, _, _, .nil, s => s
  | _, _, _, _, .cons r t, s => .cons r (RpA.append t s)
theorem RpA.take : ∀ {vs : List V} {ds : List PyData} (n : Nat), RpA K F vs ds → RpA K F (vs.take n) (ds.take n)
  | _, _, 0, _ => .nil
  | _, _, _ + 1, .nil => .nil
  | _, _, n + 1, .cons r t => .cons r (RpA.take n t)
theorem RpA.drop : ∀ {vs : List V} {ds : List PyData} (n : Nat), RpA K F vs ds → RpA K F (vs.drop n) (ds.drop n)
  | _, _, 0, r => r
  | _, _, _ + 1, .nil => .nil
  | _, _, n + 1, .cons _ t => RpA.drop n t
theorem RpA.set {v : V} {d : PyData} (r : Rp K F v d) : ∀ {vs : List V} {ds : List PyData} (i : Nat), RpA K F vs ds → RpA K F (vs.set i v) (ds.set i d)
  | _, _, _, .nil => .nil
  | _, _, 0, .cons _ t => .cons r t
  | _, _, i + 1, .cons q t => .cons q (RpA.set r i t)
/-- without dicts it is the layer's own reading -/
theorem Rp.dp {v : V} {d : PyData} (h : Rp K F v d) : d.plain = true → Dp K F v d :=
  Rp.rec (motive_1 := fun v d _ => d.plain = true → Dp K F v d) (motive_2 := fun vs ds _ => PyData.plainAll ds = true → DpAll K F vs ds)
    (fun _ => .non) (fun b _ => .bl b) (fun i _ => .int i) (fun x _ => .str x)
    (fun q _ _ ih e => .lst q (ih (by simpa [PyData.plain] using e))) (fun q _ _ ih e => .tup (SqT.of q) (ih (by simpa [PyData.plain] using e)))
    (fun _ _ _ _ _ e => by simp [PyData.plain] at e) (fun _ _ _ _ _ e => by simp [PyData.plain] at e)
    (fun _ => .nil) (fun _ _ a b e => by
      simp only [PyData.plainAll, Bool.and_eq_true] at e
      exact .cons (a e.1) (b e.2)) h
theorem RpA.dp : ∀ {vs : List V} {ds : List PyData}, RpA K F vs ds → PyData.plainAll ds = true → DpAll K F vs ds
  | _, _, .nil, _ => .nil
  | _, _, .cons a b, e => by
    simp only [PyData.plainAll, Bool.and_eq_true] at e
    exact .cons (a.dp e.1) (b.dp e.2)
end

inductive Slot where
  | un
  /-- frozen data -/
  | dat (d : PyData)
  /-- a container that this slot alone holds -/
  | own (d : PyData)
  /-- a container handed in by reference -/
  | ref (d : PyData)
  /-- a container that is being walked: read, not changed -/
  | lok (r : Bool) (d : PyData)
abbrev Ev := List Slot
def Slot.isMut : Slot → Bool
  | .own _ | .ref _ => true
  | _ => false
def Slot.isRf : Slot → Bool
  | .ref _ | .lok _ _ => true
  | _ => false
def Slot.get : Slot → Option PyData
  | .un => none
  | .dat d | .own d | .ref d | .lok _ d => some d

/-- the container at a, its items frozen -/
def MutAt (K : PySem.W.Frag) (F H : Hp) (a : Addr) : PyData → Prop
  | .list ds => ∃ vs, H a = some (.lst vs) ∧ vs.length ≤ sizeLine ∧ RpA K F vs ds
  | .dict kvs => (∃ ps : List (Key × V), H a = some (.dK ps) ∧ ps.length ≤ sizeLine ∧ kvs.map Prod.fst = ps.map (fun p => kD p.1) ∧ RpA K F (ps.map Prod.snd) (kvs.map Prod.snd)) ∨
      (∃ ps : List (List Key × V), H a = some (.dT ps) ∧ ps.length ≤ sizeLine ∧ kvs.map Prod.fst = ps.map (fun p => .tuple (p.1.map kD)) ∧ RpA K F (ps.map Prod.snd) (kvs.map Prod.snd))
  | _ => False

def SlotOk (K : PySem.W.Frag) (Rf : Nat → Option Addr) (G F H : Hp) (i : Nat) (v : Option (Option V)) : Slot → Prop
  | .un => True
  | .dat d => ∃ x, v = some (some x) ∧ Rp K F x d
  | .own d => ∃ a, v = some (some (.ref a)) ∧ F a = none ∧ MutAt K F H a d
  | .ref d => ∃ a, v = some (some (.ref a)) ∧ F a = none ∧ MutAt K F H a d ∧ Rf i = some a
  | .lok _ d => ∃ a o, v = some (some (.ref a)) ∧ Rf i = some a ∧ G a = some o ∧ MutAt K F H a d

def MutI (ρ : Ev) (i : Nat) : Prop := ∃ s, ρ[i]? = some s ∧ s.isMut = true

structure SR (K : PySem.W.Frag) (Rf : Nat → Option Addr) (G : Hp) (ρ : Ev) (F : Hp) (σ : St) (H : Hp) : Prop where
  len : ρ.length = σ.length
  fz : Same F H
  sl : ∀ i s, ρ[i]? = some s → SlotOk K Rf G F H i σ[i]? s
  dis : ∀ i j a, MutI ρ i → MutI ρ j → σ[i]? = some (some (.ref a)) → σ[j]? = some (some (.ref a)) → i = j
  gm : ∀ i a, MutI ρ i → σ[i]? = some (some (.ref a)) → G a = none
  gs : ∀ a o, G a = some o → H a = some o ∧ F a = none
  rf : ∀ i a, Rf i = some a → σ[i]? = some (some (.ref a)) ∧ ∃ s, ρ[i]? = some s ∧ s.isRf = true

section
variable {K : PySem.W.Frag} {Rf : Nat → Option Addr} {G F F' H H' : Hp} {ρ : Ev} {σ : St} {a : Addr} {d : PyData}

theorem MutAt.mono (hH : H' a = H a) (hF : Same F F') (m : MutAt K F H a d) : MutAt K F' H' a d := by
  cases d with
  | list ds => obtain ⟨vs, e, z, r⟩ := m; exact ⟨vs, hH.trans e, z, r.mono hF⟩
  | dict kvs =>
    rcases m with ⟨ps, e, z, k, r⟩ | ⟨ps, e, z, k, r⟩
    · exact .inl ⟨ps, hH.trans e, z, k, r.mono hF⟩
    · exact .inr ⟨ps, hH.trans e, z, k, r.mono hF⟩
  | _ => exact m.elim
theorem MutAt.there (m : MutAt K F H a d) : ∃ o, H a = some o := by
  cases d with
  | list ds => obtain ⟨vs, e, r⟩ := m; exact ⟨_, e⟩
  | dict kvs =>
    rcases m with ⟨ps, e, _⟩ | ⟨ps, e, _⟩
    · exact ⟨_, e⟩
    · exact ⟨_, e⟩
  | _ => exact m.elim
/-- read at once -/
theorem MutAt.rp (m : MutAt K F H a d) (s : Same F H) : Rp K H (.ref a) d := by
  cases d with
  | list ds => obtain ⟨vs, e, z, r⟩ := m; exact .lst (SqL.of e) z (r.mono s)
  | dict kvs =>
    rcases m with ⟨ps, e, z, k, r⟩ | ⟨ps, e, z, k, r⟩
    · exact .dk e z k (r.mono s)
    · exact .dt e z k (r.mono s)
  | _ => exact m.elim

theorem upd_Same {o : HO} (h : H a = none) : Same H (upd H a o) := fun b x e => by
  rw [upd_ne (ne_of_none e h)]
  exact e

theorem SlotOk.mono {i : Nat} {v : Option (Option V)} {s : Slot} (hF : Same F F') (hn : ∀ b, s.isMut = true → v = some (some (.ref b)) → F' b = none ∧ H' b = H b) (hG : ∀ b o, G b = some o → H' b = H b) (h : SlotOk K Rf G F H i v s) : SlotOk K Rf G F' H' i v s := by
  cases s with
  | un => trivial
  | dat d => obtain ⟨x, e, r⟩ := h; exact ⟨x, e, r.mono hF⟩
  | own d => obtain ⟨a, e, n, m⟩ := h; exact ⟨a, e, (hn a rfl e).1, m.mono (hn a rfl e).2 hF⟩
  | ref d => obtain ⟨a, e, n, m, q⟩ := h; exact ⟨a, e, (hn a rfl e).1, m.mono (hn a rfl e).2 hF, q⟩
  | lok r d => obtain ⟨a, o, e, q, g, m⟩ := h; exact ⟨a, o, e, q, g, m.mono (hG a o g) hF⟩
theorem SR.mutNone (R : SR K Rf G ρ F σ H) {i : Nat} {a : Addr} (m : MutI ρ i) (e : σ[i]? = some (some (.ref a))) : F a = none ∧ ∃ o, H a = some o := by
  obtain ⟨s, e1, e2⟩ := m
  have q := R.sl i s e1
  cases s with
  | un => cases e2
  | dat d => cases e2
  | own d => obtain ⟨b, eb, n, m⟩ := q; rw [eb] at e; cases e; exact ⟨n, m.there⟩
  | ref d => obtain ⟨b, eb, n, m, _⟩ := q; rw [eb] at e; cases e; exact ⟨n, m.there⟩
  | lok r d => cases e2

/-- the heap grows -/
theorem SR.grow (R : SR K Rf G ρ F σ H) (s : Same H H') : SR K Rf G ρ F σ H' where
  len := R.len
  fz := R.fz.trans s
  sl := fun i t e => (R.sl i t e).mono (Same.refl _) (fun b m ev => by
    obtain ⟨n, o, eo⟩ := R.mutNone ⟨t, e, m⟩ ev
    exact ⟨n, (s b o eo).trans eo.symm⟩) fun b o g => (s b o (R.gs b o g).1).trans (R.gs b o g).1.symm
  dis := R.dis
  gm := R.gm
  gs := fun b o e => ⟨s b o (R.gs b o e).1, (R.gs b o e).2⟩
  rf := R.rf
/-- .. by a new object -/
theorem SR.laid {p : Addr} {o : HO} (R : SR K Rf G ρ F σ H) (h : H p = none) : SR K Rf G ρ F σ (L2.upd H p o) := R.grow (upd_Same h)
/-- p is nobody's -/
def Loose (G : Hp) (ρ : Ev) (F : Hp) (σ : St) (p : Addr) : Prop := F p = none ∧ G p = none ∧ ∀ i, MutI ρ i → σ[i]? ≠ some (some (.ref p))
theorem SR.loose_new (R : SR K Rf G ρ F σ H) {p : Addr} (h : H p = none) : Loose G ρ F σ p := by
  refine ⟨R.fz.free h, ?_, fun i m e => ?_⟩
  · cases q : G p with
    | none => rfl
    | some o => rw [(R.gs p o q).1] at h; cases h
  · obtain ⟨_, o, e'⟩ := R.mutNone m e
    rw [e'] at h; cases h
/-- an object that is nobody's is frozen -/
theorem SR.freeze (R : SR K Rf G ρ F σ H) {p : Addr} {o : HO} (h : H p = some o) (l : Loose G ρ F σ p) : SR K Rf G ρ (upd F p o) σ H ∧ Same F (upd F p o) := by
  obtain ⟨l1, l2, l3⟩ := l
  have s := upd_Same (o := o) l1
  refine ⟨⟨R.len, fun b x e => ?_, fun i t e => (R.sl i t e).mono s (fun b m ev => ⟨?_, rfl⟩) fun _ _ _ => rfl, R.dis, R.gm, fun b x e => ⟨(R.gs b x e).1, ?_⟩, R.rf⟩, s⟩
  · by_cases hb : b = p
    · subst hb; rw [upd_same] at e; cases e; exact h
    · rw [upd_ne hb] at e; exact R.fz b x e
  · have hb : b ≠ p := fun z => l3 i ⟨t, e, m⟩ (z ▸ ev)
    rw [upd_ne hb]
    exact (R.mutNone ⟨t, e, m⟩ ev).1
  · have hb : b ≠ p := fun z => by rw [z, l2] at e; cases e
    rw [upd_ne hb]
    exact (R.gs b x e).2
/-- a container that is nobody's becomes data -/
theorem SR.freezeM (R : SR K Rf G ρ F σ H) {p : Addr} (m : MutAt K F H p d) (l : Loose G ρ F σ p) : ∃ F', SR K Rf G ρ F' σ H ∧ Same F F' ∧ Rp K F' (.ref p) d := by
  obtain ⟨o, eo⟩ := m.there
  obtain ⟨R', s⟩ := R.freeze eo l
  refine ⟨_, R', s, ?_⟩
  cases d with
  | list ds =>
    obtain ⟨vs, e, z, r⟩ := m
    rw [e] at eo; cases eo
    exact .lst (SqL.of upd_same) z (r.mono s)
  | dict kvs =>
    rcases m with ⟨ps, e, z, k, r⟩ | ⟨ps, e, z, k, r⟩
    · rw [e] at eo; cases eo; exact .dk upd_same z k (r.mono s)
    · rw [e] at eo; cases eo; exact .dt upd_same z k (r.mono s)
  | _ => exact m.elim
end
end L2.Z

namespace L2.Z
open PySem PySem.Spec PyProof.Rows

/-- a result: data, a container just made, what stands in a slot -/
inductive Res where
  | val (d : PyData) | new (d : PyData) | slot (i : Nat)
def Res.get (ρ : Ev) : Res → Option PyData
  | .val d | .new d => some d
  | .slot i => (ρ[i]?).bind Slot.get
/-- as a value that may go anywhere: a slot's own container is frozen -/
def esc (ρ : Ev) : Res → Option (PyData × Ev)
  | .val d | .new d => some (d, ρ)
  | .slot i => match ρ[i]? with
    | some (.dat d) => some (d, ρ)
    | some (.own d) => some (d, ρ.set i (.dat d))
    | _ => none
def mkR (n : Bool) (d : PyData) : Res := if n then .new d else .val d
def asg (i : Nat) (s : Slot) (ρ : Ev) : Option Ev := match ρ[i]? with
  | some .un | some (.dat _) | some (.own _) => some (ρ.set i s)
  | _ => none
def getAll (ρ : Ev) : List Res → Option (List PyData)
  | [] => some []
  | r :: rs => (r.get ρ).bind fun d => (getAll ρ rs).bind fun ds => some (d :: ds)

inductive Tg where
  | n (i : Nat) | t (a b : Tg) | t3 (a b c : Tg) | t4 (a b c d : Tg)
def Tg.ixs : Tg → List Nat
  | .n i => [i]
  | .t a b => a.ixs ++ b.ixs
  | .t3 a b c => a.ixs ++ b.ixs ++ c.ixs
  | .t4 a b c d => a.ixs ++ b.ixs ++ c.ixs ++ d.ixs
def Tg.bind : Tg → PyData → Ev → Option Ev
  | .n i, d, ρ => asg i (.dat d) ρ
  | .t a b, d, ρ => match d with
    | .tuple [x, y] => (a.bind x ρ).bind fun ρ => b.bind y ρ
    | _ => none
  | .t3 a b c, d, ρ => match d with
    | .tuple [x, y, z] => (a.bind x ρ).bind fun ρ => (b.bind y ρ).bind fun ρ => c.bind z ρ
    | _ => none
  | .t4 a b c e, d, ρ => match d with
    | .tuple [x, y, z, u] => (a.bind x ρ).bind fun ρ => (b.bind y ρ).bind fun ρ => (c.bind z ρ).bind fun ρ => e.bind u ρ
    | _ => none

def lockR (ρ : Ev) : Res → Ev
  | .slot i => match ρ[i]? with
    | some (.own d) => ρ.set i (.lok false d)
    | some (.ref d) => ρ.set i (.lok true d)
    | _ => ρ
  | _ => ρ
/-- back to what it was in ρ₀ -/
def unlockR (ρ₀ : Ev) (r : Res) (ρ : Ev) : Option Ev := match r with
  | .slot i => match ρ₀[i]? with
    | some (.own _) => (match ρ[i]? with
      | some (.lok _ d) => some (ρ.set i (.own d))
      | _ => none)
    | some (.ref _) => (match ρ[i]? with
      | some (.lok _ d) => some (ρ.set i (.ref d))
      | _ => none)
    | _ => some ρ
  | _ => some ρ
def lockAll : List Res → Ev → Ev
  | [], ρ => ρ
  | r :: rs, ρ => lockAll rs (lockR ρ r)
def unlockAll : List Res → Ev → Ev → Option Ev
  | [], _, ρ => some ρ
  | r :: rs, ρ₀, ρ => (unlockAll rs (lockR ρ₀ r) ρ).bind (unlockR ρ₀ r)
/-- a comprehension's own slots: nothing that may be changed stands there -/
def wipeE : List Nat → Ev → Option Ev
  | [], ρ => some ρ
  | i :: is, ρ => (wipeE is ρ).bind fun ρ => match ρ[i]? with
    | some .un | some (.dat _) => some (ρ.set i .un)
    | _ => none
def backE (ρ₀ : Ev) : List Nat → Ev → Ev
  | [], ρ => ρ
  | i :: is, ρ => match ρ₀[i]? with
    | some s => (backE ρ₀ is ρ).set i s
    | none => backE ρ₀ is ρ

mutual
inductive X where
  | v (i : Nat)
  | k (d : PyData)
  | op1 (f : PyData → Option (Bool × PyData)) (a : X)
  | op2 (f : PyData → PyData → Option (Bool × PyData)) (a b : X)
  | opn (f : List PyData → Option (Bool × PyData)) (as : Xs)
  | and (a b : X) | or (a b : X) | ite (c a b : X)
  | chain (f g : PyData → PyData → Option (Bool × PyData)) (a b c : X)
  | chain3 (f g h : PyData → PyData → Option (Bool × PyData)) (a b c d : X)
  | call (f : Nat) (as : Xs)
  | tup (as : Xs) | lst (as : Xs) | tups (as : Xs) | lsts (as : Xs)
  | lc (e : X) (t : Tg) (g : List PyData → Option (List PyData)) (as : Xs) (c : X) (own : List Nat)
  | pop (i : Nat)
inductive Xs where
  | nil | cons (x : X) (r : Xs) | star (x : X) (r : Xs)
end

/-- what a def does: its arguments as data (one may be a container by reference), its value, and what that container is then -/
abbrev Fns := Nat → List PyData → Option (PyData × PyData)

/-- a comprehension's turns -/
def lcLoop (own : List Nat) (t : Tg) (c : Ev → Option (Bool × Ev)) (e : Ev → Option (PyData × Ev)) : List PyData → List PyData → Ev → Option (List PyData × Ev)
  | [], acc, ρ => some (acc, ρ)
  | d :: ds, acc, ρ => (t.bind d ρ).bind fun ρ => (c ρ).bind fun p => match p.1 with
    | true => (e p.2).bind fun q => (wipeE own q.2).bind fun ρ => lcLoop own t c e ds (acc ++ [q.1]) ρ
    | false => (wipeE own p.2).bind fun ρ => lcLoop own t c e ds acc ρ
def truth (f : Ev → Option (Res × Ev)) (ρ : Ev) : Option (Bool × Ev) := (f ρ).bind fun p => match p.1.get p.2 with
  | some (.bool b) => some (b, p.2)
  | _ => none
def valof (f : Ev → Option (Res × Ev)) (ρ : Ev) : Option (PyData × Ev) := (f ρ).bind fun p => esc p.2 p.1
def escAll (ρ : Ev) : List Res → Option (List PyData × Ev)
  | [] => some ([], ρ)
  | r :: rs => (esc ρ r).bind fun p => (escAll p.2 rs).bind fun q => some (p.1 :: q.1, q.2)
/-- what a slot's own container is -/
def conOf (ρ : Ev) (j : Nat) : Option PyData := match ρ[j]? with
  | some (.own d) | some (.ref d) => some d
  | _ => none
def conSet (ρ : Ev) (j : Nat) (c : PyData) : Option Ev := match ρ[j]? with
  | some (.own _) => some (ρ.set j (.own c))
  | some (.ref _) => some (ρ.set j (.ref c))
  | _ => none
def Res.ix : Res → Option Nat
  | .slot j => some j
  | _ => none
/-- the arguments of a def that is called; the one at k goes by reference -/
def callArgs (ρ : Ev) (rs : List Res) : Option Nat → Option (List PyData × Ev)
  | none => escAll ρ rs
  | some k => (escAll ρ (rs.take k)).bind fun p => (escAll p.2 (rs.drop (k + 1))).bind fun q => (rs[k]?).bind fun r => r.ix.bind fun j => (conOf q.2 j).bind fun d => some (p.1 ++ d :: q.1, q.2)
def callBack (ρ : Ev) (rs : List Res) (c : PyData) : Option Nat → Option Ev
  | none => some ρ
  | some k => (rs[k]?).bind fun r => r.ix.bind fun j => conSet ρ j c
/-- a def's first slots -/
def slotsOf (ds : List PyData) (c : PyData) : Option Nat → List Slot
  | none => ds.map .dat
  | some k => (ds.map Slot.dat).set k (.ref c)

section
variable (Φ : Fns) (by_ : Nat → Option Nat)
mutual
def ev : X → Ev → Option (Res × Ev)
  | .v i, ρ => (ρ[i]?).bind fun s => s.get.bind fun _ => some (.slot i, ρ)
  | .k d, ρ => some (.val d, ρ)
  | .op1 f a, ρ => (ev a ρ).bind fun p => (p.1.get p.2).bind fun d => (f d).bind fun q => some (mkR q.1 q.2, p.2)
  | .op2 f a b, ρ => (ev a ρ).bind fun p => (ev b p.2).bind fun p' => (p.1.get p'.2).bind fun d => (p'.1.get p'.2).bind fun d' => (f d d').bind fun q => some (mkR q.1 q.2, p'.2)
  | .opn f as, ρ => (evs as ρ).bind fun p => (getAll p.2 p.1).bind fun ds => (f ds).bind fun q => some (mkR q.1 q.2, p.2)
  | .and a b, ρ => (truth (ev a) ρ).bind fun p => if p.1 = true then (truth (ev b) p.2).bind fun q => some (.val (.bool q.1), q.2) else some (.val (.bool false), p.2)
  | .or a b, ρ => (truth (ev a) ρ).bind fun p => if p.1 = true then some (.val (.bool true), p.2) else (truth (ev b) p.2).bind fun q => some (.val (.bool q.1), q.2)
  | .ite c a b, ρ => (truth (ev c) ρ).bind fun p => if p.1 = true then ev a p.2 else ev b p.2
  | .chain f g a b c, ρ => (ev a ρ).bind fun p => (ev b p.2).bind fun p' => (p.1.get p'.2).bind fun d => (p'.1.get p'.2).bind fun d' => match f d d' with
    | some (false, .bool true) => (ev c p'.2).bind fun p'' => (p'.1.get p''.2).bind fun e => (p''.1.get p''.2).bind fun e' => match g e e' with
      | some (false, .bool z) => some (.val (.bool z), p''.2)
      | _ => none
    | some (false, .bool false) => some (.val (.bool false), p'.2)
    | _ => none
  | .chain3 f g h a b c d, ρ => (ev a ρ).bind fun p => (ev b p.2).bind fun p' => (p.1.get p'.2).bind fun v => (p'.1.get p'.2).bind fun v' => match f v v' with
    | some (false, .bool true) => (ev c p'.2).bind fun p'' => (p'.1.get p''.2).bind fun e => (p''.1.get p''.2).bind fun e' => match g e e' with
      | some (false, .bool true) => (ev d p''.2).bind fun q => (p''.1.get q.2).bind fun w => (q.1.get q.2).bind fun w' => match h w w' with
        | some (false, .bool z) => some (.val (.bool z), q.2)
        | _ => none
      | some (false, .bool false) => some (.val (.bool false), p''.2)
      | _ => none
    | some (false, .bool false) => some (.val (.bool false), p'.2)
    | _ => none
  | .call f as, ρ => (evs as ρ).bind fun p => (callArgs p.2 p.1 (by_ f)).bind fun q => (Φ f q.1).bind fun z => (callBack q.2 p.1 z.2 (by_ f)).bind fun ρ' => some (.val z.1, ρ')
  | .tup as, ρ => (evv as ρ).bind fun p => some (.val (.tuple p.1), p.2)
  | .lst as, ρ => (evv as ρ).bind fun p => some (.new (.list p.1), p.2)
  | .tups as, ρ => (evv as ρ).bind fun p => if p.1.length ≤ sizeLine then some (.val (.tuple p.1), p.2) else none
  | .lsts as, ρ => (evv as ρ).bind fun p => if p.1.length ≤ sizeLine then some (.new (.list p.1), p.2) else none
  | .lc e t g as c own, ρ => (evs as ρ).bind fun p => (getAll p.2 p.1).bind fun ds => (g ds).bind fun items =>
      (wipeE own (lockAll p.1 p.2)).bind fun ρ₁ => (lcLoop own t (truth (ev c)) (valof (ev e)) items [] ρ₁).bind fun q =>
      (unlockAll p.1 p.2 (backE (lockAll p.1 p.2) own q.2)).bind fun ρ₂ => some (.new (.list q.1), ρ₂)
  | .pop i, ρ => (conOf ρ i).bind fun c => match c with
    | .list ds => (ds[ds.length - 1]?).bind fun d => (conSet ρ i (.list ds.dropLast)).bind fun ρ => some (.val d, ρ)
    | _ => none
/-- operands, arguments: no star -/
def evs : Xs → Ev → Option (List Res × Ev)
  | .nil, ρ => some ([], ρ)
  | .cons x r, ρ => (ev x ρ).bind fun p => (evs r p.2).bind fun q => some (p.1 :: q.1, q.2)
  | .star _ _, _ => none
/-- a display's items, with stars -/
def evv : Xs → Ev → Option (List PyData × Ev)
  | .nil, ρ => some ([], ρ)
  | .cons x r, ρ => (valof (ev x) ρ).bind fun p => (evv r p.2).bind fun q => some (p.1 :: q.1, q.2)
  | .star x r, ρ => (ev x ρ).bind fun p => match p.1.get p.2 with
    | some (.list ds) | some (.tuple ds) => (evv r p.2).bind fun q => some (ds ++ q.1, q.2)
    | _ => none
end
end

mutual
inductive S where
  | set (i : Nat) (e : X)
  | put (t : Tg) (e : X)
  | par (is : List Nat) (es : Xs)
  | aug (i : Nat) (f : PyData → PyData → Option (Bool × PyData)) (e : X)
  | setAt (i : Nat) (k e : X)
  | app (i : Nat) (e : X)
  | ext (i : Nat) (e : X)
  | expr (e : X)
  | ite (c : X) (a b : Ss)
  | whl (c : X) (b : Ss)
  | frr (t : Tg) (g : List PyData → Option (List PyData)) (as : Xs) (b : Ss)
  | ret (e : X)
  | pass | brk | cnt | stuck
inductive Ss where
  | nil | cons (s : S) (r : Ss)
end
inductive Out where
  | nx (ρ : Ev) | rt (d : PyData) (ρ : Ev) | bk (ρ : Ev) | ct (ρ : Ev)

/-- what is stored by name = e -/
def stored (ρ : Ev) : Res → Option (Slot × Ev)
  | .new d => some (.own d, ρ)
  | r => (esc ρ r).bind fun p => some (.dat p.1, p.2)
def asgAll : List Nat → List Slot → Ev → Option Ev
  | [], [], ρ => some ρ
  | i :: is, s :: ss, ρ => (asgAll is ss ρ).bind (asg i s)
  | _, _, _ => none
/-- several values, each as it will be stored -/
def evst (Φ : Fns) (by_ : Nat → Option Nat) : Xs → Ev → Option (List Slot × Ev)
  | .nil, ρ => some ([], ρ)
  | .cons x r, ρ => (ev Φ by_ x ρ).bind fun p => (stored p.2 p.1).bind fun q => (evst Φ by_ r q.2).bind fun z => some (q.1 :: z.1, z.2)
  | .star _ _, _ => none
def whLoop (c : Ev → Option (Bool × Ev)) (b : Ev → Option Out) : Nat → Ev → Option Out
  | 0, _ => none
  | n + 1, ρ => (c ρ).bind fun p => if p.1 = true then (b p.2).bind fun o => match o with
      | .nx ρ | .ct ρ => whLoop c b n ρ
      | .bk ρ => some (.nx ρ)
      | .rt d ρ => some (.rt d ρ)
    else some (.nx p.2)
def frLoop (t : Tg) (b : Ev → Option Out) : List PyData → Ev → Option Out
  | [], ρ => some (.nx ρ)
  | d :: ds, ρ => (t.bind d ρ).bind fun ρ => (b ρ).bind fun o => match o with
      | .nx ρ | .ct ρ => frLoop t b ds ρ
      | .bk ρ => some (.nx ρ)
      | .rt d ρ => some (.rt d ρ)
def Out.mapM (f : Ev → Option Ev) : Out → Option Out
  | .nx ρ => (f ρ).bind fun ρ => some (.nx ρ)
  | .rt d ρ => (f ρ).bind fun ρ => some (.rt d ρ)
  | .bk ρ => (f ρ).bind fun ρ => some (.bk ρ)
  | .ct ρ => (f ρ).bind fun ρ => some (.ct ρ)
/-- a key that a dict may have -/
def keyD : PyData → Option Key
  | .int i => some (.inl i)
  | .str s => some (.inr s)
  | _ => none
def putD (k v : PyData) : List (PyData × PyData) → List (PyData × PyData)
  | [] => [(k, v)]
  | (k', v') :: r => if PyData.eqv k k' then (k', v) :: r else (k', v') :: putD k v r
/-- c[k] = v, the container as data -/
def setD (c k v : PyData) : Option PyData := match c with
  | .list ds => match k with
    | .int i => (ixN ds.length i).bind fun j => some (.list (ds.set j v))
    | _ => none
  | _ => none
/-- slot i's own list -/
def lstAt (ρ : Ev) (i : Nat) : Option (List PyData) := (conOf ρ i).bind fun c => match c with
  | .list ds => some ds
  | _ => none
def appD (c : PyData) (es : List PyData) : Option PyData := match c with
  | .list ds => if ds.length + es.length ≤ sizeLine then some (.list (ds ++ es)) else none
  | _ => none
/-- a list that is no part of anything yet -/
def extSrc (ρ : Ev) : Res → Option (List PyData)
  | .new (.list es) => some es
  | .slot j => lstAt ρ j
  | _ => none

section
variable (Φ : Fns) (by_ : Nat → Option Nat) (M : Nat)
mutual
def evS : S → Ev → Option Out
  | .set i e, ρ => (ev Φ by_ e ρ).bind fun p => (stored p.2 p.1).bind fun q => (asg i q.1 q.2).bind fun ρ => some (.nx ρ)
  | .put t e, ρ => (valof (ev Φ by_ e) ρ).bind fun p => (t.bind p.1 p.2).bind fun ρ => some (.nx ρ)
  | .par is es, ρ => (evst Φ by_ es ρ).bind fun p => (asgAll is p.1 p.2).bind fun ρ => some (.nx ρ)
  | .aug i f e, ρ => match ρ[i]? with
    | some (.dat d) => (ev Φ by_ e ρ).bind fun p => (p.1.get p.2).bind fun d' => (f d d').bind fun q => match q.1 with
      | false => (asg i (.dat q.2) p.2).bind fun ρ => some (.nx ρ)
      | true => none
    | _ => none
  | .setAt i k e, ρ => (valof (ev Φ by_ e) ρ).bind fun p => (conOf p.2 i).bind fun _ => (ev Φ by_ k p.2).bind fun q => (q.1.get q.2).bind fun dk => (conOf q.2 i).bind fun c => (setD c dk p.1).bind fun c' => (conSet q.2 i c').bind fun ρ => some (.nx ρ)
  | .app i e, ρ => (lstAt ρ i).bind fun _ => (valof (ev Φ by_ e) ρ).bind fun p => (conOf p.2 i).bind fun c => (appD c [p.1]).bind fun c' => (conSet p.2 i c').bind fun ρ => some (.nx ρ)
  | .ext i e, ρ => (lstAt ρ i).bind fun _ => (ev Φ by_ e ρ).bind fun p => (extSrc p.2 p.1).bind fun es => (conOf p.2 i).bind fun c => (appD c es).bind fun c' => (conSet p.2 i c').bind fun ρ => some (.nx ρ)
  | .expr e, ρ => (ev Φ by_ e ρ).bind fun p => some (.nx p.2)
  | .ite c a b, ρ => (truth (ev Φ by_ c) ρ).bind fun p => if p.1 = true then evSs a p.2 else evSs b p.2
  | .whl c b, ρ => whLoop (truth (ev Φ by_ c)) (evSs b) M ρ
  | .frr t g as b, ρ => (evs Φ by_ as ρ).bind fun p => (getAll p.2 p.1).bind fun ds => (g ds).bind fun items =>
      (frLoop t (evSs b) items (lockAll p.1 p.2)).bind fun o => o.mapM (unlockAll p.1 p.2)
  | .ret e, ρ => (valof (ev Φ by_ e) ρ).bind fun p => some (.rt p.1 p.2)
  | .pass, ρ => some (.nx ρ)
  | .brk, ρ => some (.bk ρ)
  | .cnt, ρ => some (.ct ρ)
  | .stuck, _ => none
def evSs : Ss → Ev → Option Out
  | .nil, ρ => some (.nx ρ)
  | .cons s r, ρ => (evS s ρ).bind fun o => match o with
    | .nx ρ => evSs r ρ
    | o => some o
end
end
end L2.Z

namespace L2.Z
open PySem PySem.Spec PyProof.Rows

def OR (K : PySem.W.Frag) (F : Hp) (σ : St) (v : V) : Res → Prop
  | .val d => Rp K F v d
  | .new d => Rp K F v d
  | .slot i => σ[i]? = some (some v)
def RR (K : PySem.W.Frag) (G : Hp) (ρ : Ev) (F : Hp) (σ : St) (H : Hp) (v : V) : Res → Prop
  | .val d => Rp K F v d
  | .new d => ∃ p, v = .ref p ∧ Loose G ρ F σ p ∧ MutAt K F H p d
  | .slot i => σ[i]? = some (some v)
/-- an operand: its items are frozen -/
def Rq (K : PySem.W.Frag) (F H : Hp) (v : V) : PyData → Prop
  | .list ds => ∃ a xs, v = .ref a ∧ SqL K H a xs ∧ xs.length ≤ sizeLine ∧ RpA K F xs ds
  | .tuple ds => ∃ a xs, v = .ref a ∧ H a = some (.tup xs) ∧ xs.length ≤ sizeLine ∧ RpA K F xs ds
  | .dict kvs => ∃ a, v = .ref a ∧ MutAt K F H a (.dict kvs)
  | .none => v = .non
  | .bool b => v = .bl b
  | .int i => v = .int i
  | .str x => v = .str x
inductive RqA (K : PySem.W.Frag) (F H : Hp) : List V → List PyData → Prop
  | nil : RqA K F H [] []
  | cons {v : V} {vs : List V} {d : PyData} {ds : List PyData} : Rq K F H v d → RqA K F H vs ds → RqA K F H (v :: vs) (d :: ds)
inductive ORs (K : PySem.W.Frag) (F : Hp) (σ : St) : List V → List Res → Prop
  | nil : ORs K F σ [] []
  | cons {v : V} {vs : List V} {r : Res} {rs : List Res} : OR K F σ v r → ORs K F σ vs rs → ORs K F σ (v :: vs) (r :: rs)

section
variable {K : PySem.W.Frag} {Rf : Nat → Option Addr} {G F F' H H' : Hp} {ρ ρ' : Ev} {σ : St} {a : Addr} {d : PyData} {v : V} {r : Res}
theorem Rp.rq (s : Same F H) (h : Rp K F v d) : Rq K F H v d := by
  cases h with
  | non => rfl
  | bl b => rfl
  | int i => rfl
  | str x => rfl
  | lst q z e => exact ⟨_, _, rfl, s.seq q, z, e⟩
  | tup q z e => exact ⟨_, _, rfl, s _ _ q, z, e⟩
  | dk q z e1 e2 => exact ⟨_, rfl, .inl ⟨_, s _ _ q, z, e1, e2⟩⟩
  | dt q z e1 e2 => exact ⟨_, rfl, .inr ⟨_, s _ _ q, z, e1, e2⟩⟩
theorem MutAt.rq (m : MutAt K F H a d) : Rq K F H (.ref a) d := by
  cases d with
  | list ds => obtain ⟨vs, e, z, r⟩ := m; exact ⟨_, _, rfl, SqL.of e, z, r⟩
  | dict kvs => exact ⟨_, rfl, m⟩
  | _ => exact m.elim
theorem Rq.rp (s : Same F H) (h : Rq K F H v d) : Rp K H v d := by
  cases d with
  | none => cases h; exact .non
  | bool b => cases h; exact .bl b
  | int i => cases h; exact .int i
  | str x => cases h; exact .str x
  | list ds => obtain ⟨a, xs, rfl, q, z, e⟩ := h; exact .lst q z (e.mono s)
  | tuple ds => obtain ⟨a, xs, rfl, q, z, e⟩ := h; exact .tup q z (e.mono s)
  | dict kvs => obtain ⟨a, rfl, m⟩ := h; exact m.rp s
theorem Rq.mono (s : Same F F') (h : Rq K F H v d) : Rq K F' H v d := by
  cases d with
  | none => exact h
  | bool b => exact h
  | int i => exact h
  | str x => exact h
  | list ds => obtain ⟨a, xs, rfl, q, z, e⟩ := h; exact ⟨a, xs, rfl, q, z, e.mono s⟩
  | tuple ds => obtain ⟨a, xs, rfl, q, z, e⟩ := h; exact ⟨a, xs, rfl, q, z, e.mono s⟩
  | dict kvs => obtain ⟨a, rfl, m⟩ := h; exact ⟨a, rfl, m.mono rfl s⟩
theorem RqA.rp (s : Same F H) : ∀ {vs : List V} {ds : List PyData}, RqA K F H vs ds → RpA K H vs ds
  | _, _, .nil => .nil
  | _, _, .cons a b => .cons (a.rp s) (RqA.rp s b)
theorem OR.mono (s : Same F F') (h : OR K F σ v r) : OR K F' σ v r := by
  cases r with
  | val d => exact Rp.mono s h
  | new d => exact Rp.mono s h
  | slot i => exact h
theorem ORs.mono (s : Same F F') : ∀ {vs : List V} {rs : List Res}, ORs K F σ vs rs → ORs K F' σ vs rs
  | _, _, .nil => .nil
  | _, _, .cons a b => .cons (a.mono s) (ORs.mono s b)
theorem SlotOk.rq {i : Nat} {s : Slot} (fz : Same F H) (h : SlotOk K Rf G F H i (some (some v)) s) (e : s.get = some d) : Rq K F H v d := by
  cases s with
  | un => cases e
  | dat d' => cases e; obtain ⟨x, e, r⟩ := h; cases e; exact r.rq fz
  | own d' => cases e; obtain ⟨x, e, _, m⟩ := h; cases e; exact m.rq
  | ref d' => cases e; obtain ⟨x, e, _, m, _⟩ := h; cases e; exact m.rq
  | lok b d' => cases e; obtain ⟨x, o, e, _, _, m⟩ := h; cases e; exact m.rq
/-- an operand read now -/
theorem SR.rq (R : SR K Rf G ρ F σ H) (o : OR K F σ v r) (e : r.get ρ = some d) : Rq K F H v d := by
  cases r with
  | val d' => cases e; exact Rp.rq R.fz o
  | new d' => cases e; exact Rp.rq R.fz o
  | slot i =>
    simp only [Res.get, Option.bind_eq_some_iff] at e
    obtain ⟨s, e1, e2⟩ := e
    have q := R.sl i s e1
    rw [show σ[i]? = some (some v) from o] at q
    exact q.rq R.fz e2
theorem SR.rqs (R : SR K Rf G ρ F σ H) : ∀ {vs : List V} {rs : List Res} {ds : List PyData}, ORs K F σ vs rs → getAll ρ rs = some ds → RqA K F H vs ds
  | _, _, _, .nil, e => by cases e; exact .nil
  | _, _, _, .cons a b, e => by
    simp only [getAll, Option.bind_eq_some_iff] at e
    obtain ⟨d, e1, ds, e2, e3⟩ := e
    cases e3
    exact .cons (R.rq a e1) (R.rqs b e2)
/-- a new container as an operand: it is frozen -/
theorem SR.opd (R : SR K Rf G ρ F σ H) (q : RR K G ρ F σ H v r) : ∃ F', SR K Rf G ρ F' σ H ∧ Same F F' ∧ OR K F' σ v r := by
  cases r with
  | val d => exact ⟨F, R, Same.refl _, q⟩
  | slot i => exact ⟨F, R, Same.refl _, q⟩
  | new d =>
    obtain ⟨p, rfl, l, m⟩ := q
    obtain ⟨F', R', s, z⟩ := R.freezeM m l
    exact ⟨F', R', s, z⟩
/-- slot i's container is frozen -/
theorem SR.slotFreeze (R : SR K Rf G ρ F σ H) {i : Nat} (e : ρ[i]? = some (.own d)) : ∃ F' a, SR K Rf G (ρ.set i (.dat d)) F' σ H ∧ Same F F' ∧ σ[i]? = some (some (.ref a)) ∧ Rp K F' (.ref a) d := by
  obtain ⟨a, ea, na, m⟩ := R.sl i _ e
  obtain ⟨o, eo⟩ := m.there
  have mi : MutI ρ i := ⟨_, e, rfl⟩
  have hi : i < ρ.length := (List.getElem?_eq_some_iff.mp e).1
  have s := upd_Same (o := o) na
  have rp : Rp K (upd F a o) (.ref a) d := by
    cases d with
    | list ds =>
      obtain ⟨vs, e, z, r⟩ := m
      rw [e] at eo; cases eo
      exact .lst (SqL.of upd_same) z (r.mono s)
    | dict kvs =>
      rcases m with ⟨ps, e, z, k, r⟩ | ⟨ps, e, z, k, r⟩
      · rw [e] at eo; cases eo; exact .dk upd_same z k (r.mono s)
      · rw [e] at eo; cases eo; exact .dt upd_same z k (r.mono s)
    | _ => exact m.elim
  have mut' : ∀ j, MutI (ρ.set i (.dat d)) j → MutI ρ j ∧ j ≠ i := fun j ⟨t, et, mt⟩ => by
    by_cases hj : j = i
    · subst hj; rw [List.getElem?_set_self hi] at et; cases et; cases mt
    · rw [List.getElem?_set_ne (Ne.symm hj)] at et; exact ⟨⟨t, et, mt⟩, hj⟩
  refine ⟨upd F a o, a, ⟨by rw [List.length_set]; exact R.len, fun b x e => ?_, fun j t et => ?_, fun j k b mj mk => R.dis j k b (mut' j mj).1 (mut' k mk).1, fun j b mj => R.gm j b (mut' j mj).1, fun b x e => ⟨(R.gs b x e).1, ?_⟩, fun j b eb => ?_⟩, s, ea, rp⟩
  · by_cases hb : b = a
    · subst hb; rw [upd_same] at e; cases e; exact eo
    · rw [upd_ne hb] at e; exact R.fz b x e
  · by_cases hj : j = i
    · subst hj
      rw [List.getElem?_set_self hi] at et; cases et
      exact ⟨.ref a, ea, rp⟩
    · rw [List.getElem?_set_ne (Ne.symm hj)] at et
      refine (R.sl j t et).mono s (fun b mt ev => ⟨?_, rfl⟩) fun _ _ _ => rfl
      have hb : b ≠ a := fun z => hj (R.dis j i a ⟨t, et, mt⟩ mi (z ▸ ev) ea)
      rw [upd_ne hb]
      exact (R.mutNone ⟨t, et, mt⟩ ev).1
  · have hb : b ≠ a := fun z => by rw [z, R.gm i a mi ea] at e; cases e
    rw [upd_ne hb]
    exact (R.gs b x e).2
  · obtain ⟨z1, t, z2, z3⟩ := R.rf j b eb
    have hj : j ≠ i := fun z => by subst z; rw [e] at z2; cases z2; cases z3
    exact ⟨z1, t, by rw [List.getElem?_set_ne (Ne.symm hj)]; exact z2, z3⟩
theorem SR.esc (R : SR K Rf G ρ F σ H) (o : OR K F σ v r) (e : Z.esc ρ r = some (d, ρ')) : ∃ F', SR K Rf G ρ' F' σ H ∧ Same F F' ∧ Rp K F' v d := by
  cases r with
  | val d' => simp only [Z.esc, Option.some.injEq, Prod.mk.injEq] at e; obtain ⟨rfl, rfl⟩ := e; exact ⟨F, R, Same.refl _, o⟩
  | new d' => simp only [Z.esc, Option.some.injEq, Prod.mk.injEq] at e; obtain ⟨rfl, rfl⟩ := e; exact ⟨F, R, Same.refl _, o⟩
  | slot i =>
    simp only [Z.esc] at e
    split at e
    · rename_i d' h
      simp only [Option.some.injEq, Prod.mk.injEq] at e; obtain ⟨rfl, rfl⟩ := e
      obtain ⟨x, ex, rx⟩ := R.sl i _ h
      rw [show σ[i]? = some (some v) from o] at ex; cases ex
      exact ⟨F, R, Same.refl _, rx⟩
    · rename_i d' h
      simp only [Option.some.injEq, Prod.mk.injEq] at e; obtain ⟨rfl, rfl⟩ := e
      obtain ⟨F', a, R', s, ea, rp⟩ := R.slotFreeze h
      rw [show σ[i]? = some (some v) from o] at ea; cases ea
      exact ⟨F', R', s, rp⟩
    · cases e
end

theorem PE.imp {X : Cx} {e : Expr} {t t' : TE} (h : PE X e t) (hi : ∀ σ H Q, t' σ H Q → t σ H Q) : PE X e t' := ⟨fun pins s σ H Q I q => h.run pins s σ H Q I (hi σ H Q q)⟩
theorem PT.imp {X : Cx} {e : Expr} {t t' : TT} (h : PT X e t) (hi : ∀ σ H Q, t' σ H Q → t σ H Q) : PT X e t' := ⟨fun pins s σ H Q I q => h.run pins s σ H Q I (hi σ H Q q)⟩
theorem PA.imp {X : Cx} {e : List Expr} {t t' : TA} (h : PA X e t) (hi : ∀ σ H Q, t' σ H Q → t σ H Q) : PA X e t' := ⟨fun pos pins s σ H Q I q => h.run pos pins s σ H Q I (hi σ H Q q)⟩
theorem PS.imp {X : Cx} {e : Stmt} {t t' : TS} (h : PS X e t) (hi : ∀ D σ H, t' D σ H → t D σ H) : PS X e t' := ⟨fun pins s σ H D I q => h.run pins s σ H D I (hi D σ H q)⟩
theorem PSs.imp {X : Cx} {e : List Stmt} {t t' : TS} (h : PSs X e t) (hi : ∀ D σ H, t' D σ H → t D σ H) : PSs X e t' := ⟨fun pins s σ H D I q => h.run pins s σ H D I (hi D σ H q)⟩
theorem PG.imp {X : Cx} {e : Expr} {t t' : TG} (h : PG X e t) (hi : ∀ v σ H Q, t' v σ H Q → t v σ H Q) : PG X e t' := ⟨fun pins s σ H v u Q I r q => h.run pins s σ H v u Q I r (hi v σ H Q q)⟩

abbrev Sem1 := Ev → Option (Res × Ev)
def tX (K : PySem.W.Frag) (f : Sem1) : TE := fun σ H Q => ∃ Rf G ρ F r ρ', SR K Rf G ρ F σ H ∧ f ρ = some (r, ρ') ∧ ∀ v F' H', SR K Rf G ρ' F' σ H' → Same F F' → RR K G ρ' F' σ H' v r → Q v H'
def tV (K : PySem.W.Frag) (f : Ev → Option (PyData × Ev)) : TE := fun σ H Q => ∃ Rf G ρ F d ρ', SR K Rf G ρ F σ H ∧ f ρ = some (d, ρ') ∧ ∀ v F' H', SR K Rf G ρ' F' σ H' → Same F F' → Rp K F' v d → Q v H'
def tB1 (K : PySem.W.Frag) (f : Ev → Option (Bool × Ev)) : TT := fun σ H Q => ∃ Rf G ρ F b ρ', SR K Rf G ρ F σ H ∧ f ρ = some (b, ρ') ∧ ∀ F' H', SR K Rf G ρ' F' σ H' → Same F F' → Q b H'
/-- operands from the left -/
def tOs (K : PySem.W.Frag) (f : Ev → Option (List Res × Ev)) : TA := fun σ H Q => ∃ Rf G ρ F rs ρ', SR K Rf G ρ F σ H ∧ f ρ = some (rs, ρ') ∧ ∀ vs F' H', SR K Rf G ρ' F' σ H' → Same F F' → ORs K F' σ vs rs → Q vs H'
/-- values from the left -/
def tVs (K : PySem.W.Frag) (f : Ev → Option (List PyData × Ev)) : TA := fun σ H Q => ∃ Rf G ρ F ds ρ', SR K Rf G ρ F σ H ∧ f ρ = some (ds, ρ') ∧ ∀ vs F' H', SR K Rf G ρ' F' σ H' → Same F F' → RpA K F' vs ds → Q vs H'

/-- an operand's reading out of a value's -/
theorem tX_opd {K : PySem.W.Frag} {f : Sem1} {σ : St} {H : Hp} {Q : VK} {Rf : Nat → Option Addr} {G F : Hp} {ρ ρ' : Ev} {r : Res} (R : SR K Rf G ρ F σ H) (e : f ρ = some (r, ρ'))
    (k : ∀ v F' H', SR K Rf G ρ' F' σ H' → Same F F' → OR K F' σ v r → Q v H') : tX K f σ H Q :=
  ⟨Rf, G, ρ, F, r, ρ', R, e, fun v F1 H1 R1 s1 q => by
    obtain ⟨F2, R2, s2, o⟩ := R1.opd q
    exact k v F2 H1 R2 (s1.trans s2) o⟩
theorem tX_val {K : PySem.W.Frag} {f : Sem1} {σ : St} {H : Hp} {Q : VK} {Rf : Nat → Option Addr} {G F : Hp} {ρ ρ' : Ev} {d : PyData} (R : SR K Rf G ρ F σ H) (e : valof f ρ = some (d, ρ'))
    (k : ∀ v F' H', SR K Rf G ρ' F' σ H' → Same F F' → Rp K F' v d → Q v H') : tX K f σ H Q := by
  simp only [valof, Option.bind_eq_some_iff] at e
  obtain ⟨⟨r, ρ1⟩, e1, e2⟩ := e
  refine tX_opd R e1 fun v F1 H1 R1 s1 o => ?_
  obtain ⟨F2, R2, s2, z⟩ := R1.esc o e2
  exact k v F2 H1 R2 (s1.trans s2) z
theorem tX_bool {K : PySem.W.Frag} {f : Sem1} {σ : St} {H : Hp} {Q : VK} {Rf : Nat → Option Addr} {G F : Hp} {ρ ρ' : Ev} {b : Bool} (R : SR K Rf G ρ F σ H) (e : truth f ρ = some (b, ρ'))
    (k : ∀ F' H', SR K Rf G ρ' F' σ H' → Same F F' → Q (.bl b) H') : tX K f σ H Q := by
  simp only [truth, Option.bind_eq_some_iff] at e
  obtain ⟨⟨r, ρ1⟩, e1, e2⟩ := e
  simp only at e2
  split at e2
  · rename_i b' h
    simp only [Option.some.injEq, Prod.mk.injEq] at e2
    obtain ⟨rfl, rfl⟩ := e2
    refine tX_opd R e1 fun v F1 H1 R1 s1 o => ?_
    obtain rfl : v = .bl b' := R1.rq o h
    exact k F1 H1 R1 s1
  · cases e2

abbrev CE (X : Cx) (Φ : Fns) (bf : Nat → Option Nat) (e : Expr) (x : Z.X) : Prop := PE X e (tX X.K (ev Φ bf x))
abbrev CT (X : Cx) (Φ : Fns) (bf : Nat → Option Nat) (e : Expr) (x : Z.X) : Prop := PT X e (tB1 X.K (truth (ev Φ bf x)))
abbrev CA (X : Cx) (Φ : Fns) (bf : Nat → Option Nat) (es : List Expr) (xs : Xs) : Prop := PA X es (tOs X.K (evs Φ bf xs))
abbrev CV (X : Cx) (Φ : Fns) (bf : Nat → Option Nat) (es : List Expr) (xs : Xs) : Prop := PA X es (tVs X.K (evv Φ bf xs))

/-- what a rule r by values is worth -/
def Ok1 (K : PySem.W.Frag) (r : V → Hp → VK → Prop) (f : PyData → Option (Bool × PyData)) : Prop := ∀ (Rf : Nat → Option Addr) (G : Hp) (ρ : Ev) (F : Hp) (σ : St) (H : Hp) (v : V) (d : PyData) (n : Bool) (d' : PyData) (Q : VK),
  SR K Rf G ρ F σ H → Rq K F H v d → f d = some (n, d') → (∀ v' F' H', SR K Rf G ρ F' σ H' → Same F F' → RR K G ρ F' σ H' v' (mkR n d') → Q v' H') → r v H Q
def Ok2 (K : PySem.W.Frag) (r : R2) (f : PyData → PyData → Option (Bool × PyData)) : Prop := ∀ (Rf : Nat → Option Addr) (G : Hp) (ρ : Ev) (F : Hp) (σ : St) (H : Hp) (v w : V) (d e : PyData) (n : Bool) (d' : PyData) (Q : VK),
  SR K Rf G ρ F σ H → Rq K F H v d → Rq K F H w e → f d e = some (n, d') → (∀ v' F' H', SR K Rf G ρ F' σ H' → Same F F' → RR K G ρ F' σ H' v' (mkR n d') → Q v' H') → r v w H Q
def OkN (K : PySem.W.Frag) (r : List V → Hp → VK → Prop) (f : List PyData → Option (Bool × PyData)) : Prop := ∀ (Rf : Nat → Option Addr) (G : Hp) (ρ : Ev) (F : Hp) (σ : St) (H : Hp) (vs : List V) (ds : List PyData) (n : Bool) (d' : PyData) (Q : VK),
  SR K Rf G ρ F σ H → RqA K F H vs ds → f ds = some (n, d') → (∀ v' F' H', SR K Rf G ρ F' σ H' → Same F F' → RR K G ρ F' σ H' v' (mkR n d') → Q v' H') → r vs H Q

section
variable {X : Cx} {Φ : Fns} {bf : Nat → Option Nat} {e a b c : Expr} {x y z : Z.X}
theorem red1 {K : PySem.W.Frag} {r : V → Hp → VK → Prop} {f : PyData → Option (Bool × PyData)} (ok : Ok1 K r f) {σ : St} {H : Hp} {Q : VK} (h : tX K (ev Φ bf (.op1 f x)) σ H Q) : tX K (ev Φ bf x) σ H fun v H1 => r v H1 Q := by
  obtain ⟨Rf, G, ρ, F, res, ρ', R, e, k⟩ := h
  simp only [ev, Option.bind_eq_some_iff] at e
  obtain ⟨⟨ra, ρ1⟩, ea, d, ed, ⟨n, d'⟩, ef, e⟩ := e
  simp only [Option.some.injEq, Prod.mk.injEq] at e
  obtain ⟨rfl, rfl⟩ := e
  refine tX_opd R ea fun v F1 H1 R1 s1 o => ?_
  exact ok _ _ _ _ _ _ _ _ _ _ _ R1 (R1.rq o ed) ef fun v' F' H' R' s' q => k v' F' H' R' (s1.trans s') q
theorem red2 {K : PySem.W.Frag} {r : R2} {f : PyData → PyData → Option (Bool × PyData)} (ok : Ok2 K r f) {σ : St} {H : Hp} {Q : VK} (h : tX K (ev Φ bf (.op2 f x y)) σ H Q) : tX K (ev Φ bf x) σ H fun v H1 => tX K (ev Φ bf y) σ H1 fun w H2 => r v w H2 Q := by
  obtain ⟨Rf, G, ρ, F, res, ρ', R, e, k⟩ := h
  simp only [ev, Option.bind_eq_some_iff] at e
  obtain ⟨⟨ra, ρ1⟩, ea, ⟨rb, ρ2⟩, eb, d, ed, d2, ed2, ⟨n, d'⟩, ef, e⟩ := e
  simp only [Option.some.injEq, Prod.mk.injEq] at e
  obtain ⟨rfl, rfl⟩ := e
  refine tX_opd R ea fun v F1 H1 R1 s1 o => ?_
  refine tX_opd R1 eb fun w F2 H2 R2 s2 o2 => ?_
  exact ok _ _ _ _ _ _ _ _ _ _ _ _ _ R2 (R2.rq (o.mono s2) ed) (R2.rq o2 ed2) ef fun v' F' H' R' s' q => k v' F' H' R' (s1.trans (s2.trans s')) q
theorem redN {K : PySem.W.Frag} {r : List V → Hp → VK → Prop} {f : List PyData → Option (Bool × PyData)} {xs : Xs} (ok : OkN K r f) {σ : St} {H : Hp} {Q : VK} (h : tX K (ev Φ bf (.opn f xs)) σ H Q) : tOs K (evs Φ bf xs) σ H fun vs H1 => r vs H1 Q := by
  obtain ⟨Rf, G, ρ, F, res, ρ', R, e, k⟩ := h
  simp only [ev, Option.bind_eq_some_iff] at e
  obtain ⟨⟨rs, ρ1⟩, ea, ds, ed, ⟨n, d'⟩, ef, e⟩ := e
  simp only [Option.some.injEq, Prod.mk.injEq] at e
  obtain ⟨rfl, rfl⟩ := e
  refine ⟨Rf, G, ρ, F, rs, ρ1, R, ea, fun vs F1 H1 R1 s1 o => ?_⟩
  exact ok _ _ _ _ _ _ _ _ _ _ _ R1 (R1.rqs o ed) ef fun v' F' H' R' s' q => k v' F' H' R' (s1.trans s') q
/-- a test out of a reading -/
theorem redT {K : PySem.W.Frag} {f : Sem1} {σ : St} {H : Hp} {Q : Bool → Hp → Prop} (h : tB1 K (truth f) σ H Q) : tX K f σ H fun x H1 => ∃ k, x = .bl k ∧ Q k H1 := by
  obtain ⟨Rf, G, ρ, F, b, ρ', R, e, k⟩ := h
  exact tX_bool R e fun F' H' R' s' => ⟨b, rfl, k F' H' R' s'⟩

/-- forms with one, two operands -/
theorem ce1 {r : V → Hp → VK → Prop} {f : PyData → Option (Bool × PyData)} (ok : Ok1 X.K r f) (hp : ∀ ta, PE X a ta → PE X e (fun σ H Q => ta σ H fun x H1 => r x H1 Q)) (ha : CE X Φ bf a x) : CE X Φ bf e (.op1 f x) :=
  PE.imp (hp _ ha) fun σ H Q h => red1 ok h
theorem ce2 {r : R2} {f : PyData → PyData → Option (Bool × PyData)} (ok : Ok2 X.K r f) (hp : ∀ ta tb, PE X a ta → PE X b tb → PE X e (tOp r ta tb)) (ha : CE X Φ bf a x) (hb : CE X Φ bf b y) : CE X Φ bf e (.op2 f x y) :=
  PE.imp (hp _ _ ha hb) fun σ H Q h => red2 ok h
theorem ceN {r : List V → Hp → VK → Prop} {f : List PyData → Option (Bool × PyData)} {es : List Expr} {xs : Xs} (ok : OkN X.K r f) (hp : ∀ t, PA X es t → PE X e (tCB r t)) (ha : CA X Φ bf es xs) : CE X Φ bf e (.opn f xs) :=
  PE.imp (hp _ ha) fun σ H Q h => redN ok h
theorem ct_of (h : ∀ t, PE X e t → PT X e (tTest t)) (he : CE X Φ bf e x) : CT X Φ bf e x := PT.imp (h _ he) fun σ H Q q => redT q
theorem ct2 {r : R2} {f : PyData → PyData → Option (Bool × PyData)} (ok : Ok2 X.K r f) (hp : ∀ ta tb, PE X a ta → PE X b tb → PT X e (tTest (tOp r ta tb))) (ha : CE X Φ bf a x) (hb : CE X Φ bf b y) : CT X Φ bf e (.op2 f x y) :=
  PT.imp (hp _ _ ha hb) fun σ H Q h => red2 ok (redT h)

/-- names, constants -/
theorem SR.there {K : PySem.W.Frag} {Rf : Nat → Option Addr} {G F H : Hp} {ρ : Ev} {σ : St} {i : Nat} {s : Slot} {d : PyData} (R : SR K Rf G ρ F σ H) (e : ρ[i]? = some s) (g : s.get = some d) : ∃ v, σ[i]? = some (some v) := by
  have q := R.sl i s e
  cases s with
  | un => cases g
  | dat d' => obtain ⟨x, e, _⟩ := q; exact ⟨x, e⟩
  | own d' => obtain ⟨x, e, _⟩ := q; exact ⟨_, e⟩
  | ref d' => obtain ⟨x, e, _⟩ := q; exact ⟨_, e⟩
  | lok b d' => obtain ⟨x, o, e, _⟩ := q; exact ⟨_, e⟩
theorem ce_v (i : Nat) {n : Str} {pos : Pos} (hN : X.N[i]? = some n) (hv : Vis X.env.scope n) (hd : (n == ("__debug__" : Str)) = false := by decide) (hcd : (n == ("__classdict__" : Str)) = false := by decide) : CE X Φ bf (.Name n pos) (.v i) := by
  refine PE.imp (pe_var hN hv hd hcd) fun σ H Q h => ?_
  obtain ⟨Rf, G, ρ, F, r, ρ', R, e, k⟩ := h
  simp only [ev, Option.bind_eq_some_iff] at e
  obtain ⟨s, e1, d, e2, e⟩ := e
  simp only [Option.some.injEq, Prod.mk.injEq] at e
  obtain ⟨rfl, rfl⟩ := e
  obtain ⟨v, hv⟩ := R.there e1 e2
  exact ⟨v, hv, k v F H R (Same.refl _) hv⟩
/-- a reading of one known value -/
theorem ce_k {v : V} {d : PyData} (h : PE X e (tC v)) (hd : ∀ F, Rp X.K F v d) : CE X Φ bf e (.k d) := by
  refine PE.imp h fun σ H Q h => ?_
  obtain ⟨Rf, G, ρ, F, r, ρ', R, e, k⟩ := h
  simp only [ev, Option.some.injEq, Prod.mk.injEq] at e
  obtain ⟨rfl, rfl⟩ := e
  exact k v F H R (Same.refl _) (hd F)
theorem ce_int {i : Int} {j pos} : CE X Φ bf (.Constant (.int i) j pos) (.k (.int i)) := ce_k pe_int fun _ => .int i
theorem ce_bl {b : Bool} {j pos} : CE X Φ bf (.Constant (.bool b) j pos) (.k (.bool b)) := ce_k pe_bl fun _ => .bl b
theorem ce_non {j pos} : CE X Φ bf (.Constant .none j pos) (.k .none) := ce_k pe_non fun _ => .non
theorem ce_str {s : Str} {j pos} : CE X Φ bf (.Constant (.str s) j pos) (.k (.str s)) := ce_k pe_str fun _ => .str s

theorem ce_one {op} {pos} (h : CE X Φ bf a x) : CE X Φ bf (.BoolOp op [a] pos) x := pe_one h
theorem ce_and {rest : List Expr} {pos} (ha : CE X Φ bf a x) (hb : CE X Φ bf (.BoolOp .And (b :: rest) pos) y) : CE X Φ bf (.BoolOp .And (a :: b :: rest) pos) (.and x y) := by
  refine PE.imp (pe_and ha hb) fun σ H Q h => ?_
  obtain ⟨Rf, G, ρ, F, r, ρ', R, e, k⟩ := h
  simp only [ev, Option.bind_eq_some_iff] at e
  obtain ⟨⟨p, ρ1⟩, ea, e⟩ := e
  refine tX_bool R ea fun F1 H1 R1 s1 => ⟨p, rfl, ?_⟩
  cases p with
  | true =>
    simp only [if_true, Option.bind_eq_some_iff] at e ⊢
    obtain ⟨⟨q, ρ2⟩, eb, e⟩ := e
    simp only [Option.some.injEq, Prod.mk.injEq] at e
    obtain ⟨rfl, rfl⟩ := e
    exact tX_bool R1 eb fun F2 H2 R2 s2 => k _ F2 H2 R2 (s1.trans s2) (.bl q)
  | false =>
    simp only [Bool.false_eq_true, if_false, Option.some.injEq, Prod.mk.injEq] at e ⊢
    obtain ⟨rfl, rfl⟩ := e
    exact k _ F1 H1 R1 s1 (.bl false)
theorem ce_or {rest : List Expr} {pos} (ha : CE X Φ bf a x) (hb : CE X Φ bf (.BoolOp .Or (b :: rest) pos) y) : CE X Φ bf (.BoolOp .Or (a :: b :: rest) pos) (.or x y) := by
  refine PE.imp (pe_or ha hb) fun σ H Q h => ?_
  obtain ⟨Rf, G, ρ, F, r, ρ', R, e, k⟩ := h
  simp only [ev, Option.bind_eq_some_iff] at e
  obtain ⟨⟨p, ρ1⟩, ea, e⟩ := e
  refine tX_bool R ea fun F1 H1 R1 s1 => ⟨p, rfl, ?_⟩
  cases p with
  | false =>
    simp only [Bool.false_eq_true, if_false, Option.bind_eq_some_iff] at e ⊢
    obtain ⟨⟨q, ρ2⟩, eb, e⟩ := e
    simp only [Option.some.injEq, Prod.mk.injEq] at e
    obtain ⟨rfl, rfl⟩ := e
    exact tX_bool R1 eb fun F2 H2 R2 s2 => k _ F2 H2 R2 (s1.trans s2) (.bl q)
  | true =>
    simp only [if_true, Option.some.injEq, Prod.mk.injEq] at e ⊢
    obtain ⟨rfl, rfl⟩ := e
    exact k _ F1 H1 R1 s1 (.bl true)
def pNot : PyData → Option (Bool × PyData)
  | .bool b => some (false, .bool (!b))
  | _ => none
theorem ok_not {K : PySem.W.Frag} : Ok1 K (fun x H Q => ∃ c, x = .bl c ∧ Q (.bl (!c)) H) pNot := by
  intro Rf G ρ F σ H v d n d' Q R q e k
  cases d with
  | bool b =>
    cases e
    cases q
    exact ⟨b, rfl, k _ F H R (Same.refl _) (.bl _)⟩
  | _ => cases e
theorem ce_not {pos} (ha : CE X Φ bf a x) : CE X Φ bf (.UnaryOp .Not a pos) (.op1 pNot x) := ce1 ok_not (fun _ h => pe_not h) ha
abbrev CW (X : Cx) (Φ : Fns) (bf : Nat → Option Nat) (e : Expr) (x : Z.X) : Prop := PW X e (tB1 X.K (truth (ev Φ bf x)))
theorem PW.imp {X : Cx} {e : Expr} {t t' : TT} (h : PW X e t) (hi : ∀ σ H Q, t' σ H Q → t σ H Q) : PW X e t' := ⟨fun wh pins s σ H Q I q => h.run wh pins s σ H Q I (hi σ H Q q)⟩
theorem ct_and1 {pos} (ha : CT X Φ bf a x) : CW X Φ bf (.BoolOp .And [a] pos) x := pw_and1 ha
theorem ct_or1 {pos} (ha : CT X Φ bf a x) : CW X Φ bf (.BoolOp .Or [a] pos) x := pw_or1 ha
theorem ct_and {rest : List Expr} {pos} (ha : CT X Φ bf a x) (hb : CW X Φ bf (.BoolOp .And (b :: rest) pos) y) : CW X Φ bf (.BoolOp .And (a :: b :: rest) pos) (.and x y) := by
  refine PW.imp (pw_and ha hb) fun σ H Q h => ?_
  obtain ⟨Rf, G, ρ, F, r, ρ', R, e, k⟩ := h
  simp only [truth, ev, Option.bind_eq_some_iff] at e
  obtain ⟨⟨r0, ρ0⟩, ⟨⟨p, ρ1⟩, ea, e⟩, e0⟩ := e
  refine ⟨Rf, G, ρ, F, p, ρ1, R, by simp only [truth, Option.bind_eq_some_iff]; exact ea, fun F1 H1 R1 s1 => ?_⟩
  cases p with
  | true =>
    simp only [if_true, Option.bind_eq_some_iff] at e ⊢
    obtain ⟨⟨q, ρ2⟩, eb, e⟩ := e
    simp only [Option.some.injEq, Prod.mk.injEq] at e
    obtain ⟨rfl, rfl⟩ := e
    simp only [Res.get, Option.some.injEq, Prod.mk.injEq] at e0
    obtain ⟨rfl, rfl⟩ := e0
    exact ⟨Rf, G, ρ1, F1, q, _, R1, by simp only [truth, Option.bind_eq_some_iff]; exact eb, fun F2 H2 R2 s2 => k F2 H2 R2 (s1.trans s2)⟩
  | false =>
    simp only [Bool.false_eq_true, if_false, Option.some.injEq, Prod.mk.injEq] at e ⊢
    obtain ⟨rfl, rfl⟩ := e
    simp only [Res.get, Option.some.injEq, Prod.mk.injEq] at e0
    obtain ⟨rfl, rfl⟩ := e0
    exact k F1 H1 R1 s1
theorem ct_or {rest : List Expr} {pos} (ha : CT X Φ bf a x) (hb : CW X Φ bf (.BoolOp .Or (b :: rest) pos) y) : CW X Φ bf (.BoolOp .Or (a :: b :: rest) pos) (.or x y) := by
  refine PW.imp (pw_or ha hb) fun σ H Q h => ?_
  obtain ⟨Rf, G, ρ, F, r, ρ', R, e, k⟩ := h
  simp only [truth, ev, Option.bind_eq_some_iff] at e
  obtain ⟨⟨r0, ρ0⟩, ⟨⟨p, ρ1⟩, ea, e⟩, e0⟩ := e
  refine ⟨Rf, G, ρ, F, p, ρ1, R, by simp only [truth, Option.bind_eq_some_iff]; exact ea, fun F1 H1 R1 s1 => ?_⟩
  cases p with
  | false =>
    simp only [Bool.false_eq_true, if_false, Option.bind_eq_some_iff] at e ⊢
    obtain ⟨⟨q, ρ2⟩, eb, e⟩ := e
    simp only [Option.some.injEq, Prod.mk.injEq] at e
    obtain ⟨rfl, rfl⟩ := e
    simp only [Res.get, Option.some.injEq, Prod.mk.injEq] at e0
    obtain ⟨rfl, rfl⟩ := e0
    exact ⟨Rf, G, ρ1, F1, q, _, R1, by simp only [truth, Option.bind_eq_some_iff]; exact eb, fun F2 H2 R2 s2 => k F2 H2 R2 (s1.trans s2)⟩
  | true =>
    simp only [if_true, Option.some.injEq, Prod.mk.injEq] at e ⊢
    obtain ⟨rfl, rfl⟩ := e
    simp only [Res.get, Option.some.injEq, Prod.mk.injEq] at e0
    obtain ⟨rfl, rfl⟩ := e0
    exact k F1 H1 R1 s1
theorem ct_not {pos} (ha : CT X Φ bf a x) : CT X Φ bf (.UnaryOp .Not a pos) (.op1 pNot x) := by
  refine PT.imp (pt_not ha) fun σ H Q h => ?_
  obtain ⟨Rf, G, ρ, F, b, ρ', R, e, k⟩ := h
  simp only [truth, ev, Option.bind_eq_some_iff] at e
  obtain ⟨⟨r0, ρ0⟩, ⟨⟨r1, ρ1⟩, ea, d, ed, ⟨n, d'⟩, ef, e⟩, e0⟩ := e
  cases d with
  | bool b1 =>
    cases ef
    simp only [Option.some.injEq, Prod.mk.injEq] at e
    obtain ⟨rfl, rfl⟩ := e
    simp only [mkR, Bool.false_eq_true, if_false, Res.get, Option.some.injEq, Prod.mk.injEq] at e0
    obtain ⟨rfl, rfl⟩ := e0
    refine ⟨Rf, G, ρ, F, b1, _, R, ?_, fun F1 H1 R1 s1 => k F1 H1 R1 s1⟩
    simp only [truth, Option.bind_eq_some_iff]
    exact ⟨(r1, ρ1), ea, by simp only [ed]⟩
  | _ => cases ef
theorem ce_ite {pos} (hc : CT X Φ bf c z) (ha : CE X Φ bf a x) (hb : CE X Φ bf b y) : CE X Φ bf (.IfExp c a b pos) (.ite z x y) := by
  refine PE.imp (pe_ifExp hc ha hb) fun σ H Q h => ?_
  obtain ⟨Rf, G, ρ, F, r, ρ', R, e, k⟩ := h
  simp only [ev, Option.bind_eq_some_iff] at e
  obtain ⟨⟨p, ρ1⟩, ec, e⟩ := e
  refine ⟨Rf, G, ρ, F, p, ρ1, R, ec, fun F1 H1 R1 s1 => ?_⟩
  cases p with
  | true =>
    simp only [if_true] at e ⊢
    exact ⟨Rf, G, ρ1, F1, r, ρ', R1, e, fun v F2 H2 R2 s2 q => k v F2 H2 R2 (s1.trans s2) q⟩
  | false =>
    simp only [Bool.false_eq_true, if_false] at e ⊢
    exact ⟨Rf, G, ρ1, F1, r, ρ', R1, e, fun v F2 H2 R2 s2 q => k v F2 H2 R2 (s1.trans s2) q⟩
theorem redC {K : PySem.W.Frag} {r r' : R2} {f g : PyData → PyData → Option (Bool × PyData)} (ok : Ok2 K r f) (ok' : Ok2 K r' g) {σ : St} {H : Hp} {Q : VK} (h : tX K (ev Φ bf (.chain f g x y z)) σ H Q) : tChain r r' (tX K (ev Φ bf x)) (tX K (ev Φ bf y)) (tX K (ev Φ bf z)) σ H Q := by
  obtain ⟨Rf, G, ρ, F, res, ρ', R, e, k⟩ := h
  simp only [ev, Option.bind_eq_some_iff] at e
  obtain ⟨⟨ra, ρ1⟩, ea, ⟨rb, ρ2⟩, eb, d, ed, d2, ed2, e⟩ := e
  refine tX_opd R ea fun v F1 H1 R1 s1 o => ?_
  refine tX_opd R1 eb fun w F2 H2 R2 s2 o2 => ?_
  split at e
  · rename_i ef
    simp only [Option.bind_eq_some_iff] at e
    obtain ⟨⟨rc, ρ3⟩, ec, d3, ed3, d4, ed4, e⟩ := e
    split at e
    · rename_i zb eg
      simp only [Option.some.injEq, Prod.mk.injEq] at e
      obtain ⟨rfl, rfl⟩ := e
      refine ok _ _ _ _ _ _ _ _ _ _ _ _ _ R2 (R2.rq (o.mono s2) ed) (R2.rq o2 ed2) ef fun v' F' H' R' s' q => ?_
      obtain rfl : v' = .bl true := Rp.rq R'.fz q
      refine ⟨true, rfl, ?_⟩
      rw [if_pos rfl]
      refine tX_opd R' ec fun u F3 H3 R3 s3 o3 => ?_
      refine ok' _ _ _ _ _ _ _ _ _ _ _ _ _ R3 (R3.rq ((o2.mono s').mono s3) ed3) (R3.rq o3 ed4) eg fun v' F' H' R' s'' q => ?_
      exact k v' F' H' R' (s1.trans (s2.trans (s'.trans (s3.trans s'')))) q
    · cases e
  · rename_i ef
    simp only [Option.some.injEq, Prod.mk.injEq] at e
    obtain ⟨rfl, rfl⟩ := e
    refine ok _ _ _ _ _ _ _ _ _ _ _ _ _ R2 (R2.rq (o.mono s2) ed) (R2.rq o2 ed2) ef fun v' F' H' R' s' q => ?_
    obtain rfl : v' = .bl false := Rp.rq R'.fz q
    refine ⟨false, rfl, ?_⟩
    rw [if_neg Bool.false_ne_true]
    exact k _ F' H' R' (s1.trans (s2.trans s')) (.bl false)
  · cases e
/-- a op1 b op2 c op3 d -/
def tChain3 (r r' r'' : R2) (ta tb tc td : TE) : TE := fun σ H Q => ta σ H fun x H1 => tb σ H1 fun y H2 => r x y H2 fun z H3 => ∃ k, z = .bl k ∧
  (if k = true then tc σ H3 fun w H4 => r' y w H4 fun z' H5 => ∃ k', z' = .bl k' ∧ (if k' = true then td σ H5 fun u H6 => r'' w u H6 Q else Q (.bl false) H5) else Q (.bl false) H3)
theorem pe_chain3 {X : Cx} {a b c d : Expr} {ta tb tc td : TE} {pos : Pos} {op op' op'' : CmpOp} {r r' r'' : R2} (ho : OpR X (compareOp op) r) (ho' : OpR X (compareOp op') r') (ho'' : OpR X (compareOp op'') r'') (ha : PE X a ta) (hb : PE X b tb) (hc : PE X c tc) (hd : PE X d td)
    (hm : lastMarks [op, op', op''] [b, c, d] = false := by with_unfolding_all rfl) : PE X (.Compare a [op, op', op''] [b, c, d] pos) (tChain3 r r' r'' ta tb tc td) := by
  refine ⟨fun pins s σ H Q I h => ?_⟩
  refine Compare_chain (thn (ha.run pins s σ H _ I h) fun v s1 ⟨x, H1, I1, r1, q1⟩ => chain_link (thn (hb.run pins s1 σ H1 _ I1 q1) fun u s2 ⟨y, H2, I2, r2, q2⟩ =>
    thn (ho pins s2 σ H2 x y v u _ I2 r1 r2 q2) fun d s3 ⟨z, H3, I3, r3, k, e, q3⟩ => ?_)) hm
  subst e
  cases r3
  refine wpAny_truthy_bool ?_
  cases k with
  | false => exact ite_ff ⟨.bl false, H3, I3, rfl, q3⟩
  | true =>
    refine ite_tt (chain_link (thn (hc.run pins s3 σ H3 _ I3 q3) fun w' s4 ⟨z', H4, I4, r4, q4⟩ => thn (ho' pins s4 σ H4 y z' u w' _ I4 r2 r4 q4) fun d s5 ⟨z, H5, I5, r5, k, e, q5⟩ => ?_))
    subst e
    cases r5
    refine wpAny_truthy_bool ?_
    cases k with
    | false => exact ite_ff ⟨.bl false, H5, I5, rfl, q5⟩
    | true => exact ite_tt (chain_last (thn (hd.run pins s5 σ H5 _ I5 q5) fun t' s6 ⟨z6, H6, I6, r6, q6⟩ => ho'' pins s6 σ H6 z' z6 w' t' Q I6 r4 r6 q6))
theorem pt_chain3 {X : Cx} {a b c d : Expr} {ta tb tc td : TE} {pos : Pos} {op op' op'' : CmpOp} {r r' r'' : R2} (ho : OpR X (compareOp op) r) (ho' : OpR X (compareOp op') r') (ho'' : OpR X (compareOp op'') r'') (ha : PE X a ta) (hb : PE X b tb) (hc : PE X c tc) (hd : PE X d td)
    (hm : lastMarks [op, op', op''] [b, c, d] = false := by with_unfolding_all rfl) : PT X (.Compare a [op, op', op''] [b, c, d] pos) (tTest (tChain3 r r' r'' ta tb tc td)) := by
  refine ⟨fun pins s σ H Q I h => ?_⟩
  refine isTrue_chain (thn (ha.run pins s σ H _ I h) fun v s1 ⟨x, H1, I1, r1, q1⟩ => test_link (thn (hb.run pins s1 σ H1 _ I1 q1) fun u s2 ⟨y, H2, I2, r2, q2⟩ =>
    thn (ho pins s2 σ H2 x y v u _ I2 r1 r2 q2) fun d s3 ⟨z, H3, I3, r3, k, e, q3⟩ => ?_)) hm
  subst e
  cases r3
  refine wpAny_truthy_bool ?_
  cases k with
  | false =>
    obtain ⟨k', e', q'⟩ := q3
    cases e'
    exact ite_ff ⟨H3, I3, q'⟩
  | true =>
    refine ite_tt (test_link (thn (hc.run pins s3 σ H3 _ I3 q3) fun w' s4 ⟨z', H4, I4, r4, q4⟩ => thn (ho' pins s4 σ H4 y z' u w' _ I4 r2 r4 q4) fun d s5 ⟨z, H5, I5, r5, k, e, q5⟩ => ?_))
    subst e
    cases r5
    refine wpAny_truthy_bool ?_
    cases k with
    | false =>
      obtain ⟨k', e', q'⟩ := q5
      cases e'
      exact ite_ff ⟨H5, I5, q'⟩
    | true =>
      refine ite_tt (test_last (thn (hd.run pins s5 σ H5 _ I5 q5) fun t' s6 ⟨z6, H6, I6, r6, q6⟩ => thn (ho'' pins s6 σ H6 z' z6 w' t' _ I6 r4 r6 q6) fun c s7 ⟨z7, H7, I7, r7, k7, e7, q7⟩ => ?_))
      subst e7
      cases r7
      exact wpAny_truthy_bool ⟨H7, I7, q7⟩
theorem redC3 {K : PySem.W.Frag} {r r' r'' : R2} {f g h : PyData → PyData → Option (Bool × PyData)} (ok : Ok2 K r f) (ok' : Ok2 K r' g) (ok'' : Ok2 K r'' h) {t : L2.Z.X} {σ : St} {H : Hp} {Q : VK} (q : tX K (ev Φ bf (.chain3 f g h x y z t)) σ H Q) : tChain3 r r' r'' (tX K (ev Φ bf x)) (tX K (ev Φ bf y)) (tX K (ev Φ bf z)) (tX K (ev Φ bf t)) σ H Q := by
  obtain ⟨Rf, G, ρ, F, res, ρ', R, e, k⟩ := q
  simp only [ev, Option.bind_eq_some_iff] at e
  obtain ⟨⟨ra, ρ1⟩, ea, ⟨rb, ρ2⟩, eb, d, ed, d2, ed2, e⟩ := e
  refine tX_opd R ea fun v F1 H1 R1 s1 o => ?_
  refine tX_opd R1 eb fun w F2 H2 R2 s2 o2 => ?_
  split at e
  · rename_i ef
    simp only [Option.bind_eq_some_iff] at e
    obtain ⟨⟨rc, ρ3⟩, ec, d3, ed3, d4, ed4, e⟩ := e
    refine ok _ _ _ _ _ _ _ _ _ _ _ _ _ R2 (R2.rq (o.mono s2) ed) (R2.rq o2 ed2) ef fun v' F' H' R' s' q => ?_
    obtain rfl : v' = .bl true := Rp.rq R'.fz q
    refine ⟨true, rfl, ?_⟩
    rw [if_pos rfl]
    refine tX_opd R' ec fun u F3 H3 R3 s3 o3 => ?_
    split at e
    · rename_i eg
      simp only [Option.bind_eq_some_iff] at e
      obtain ⟨⟨rd, ρ4⟩, ed', d5, ed5, d6, ed6, e⟩ := e
      refine ok' _ _ _ _ _ _ _ _ _ _ _ _ _ R3 (R3.rq ((o2.mono s').mono s3) ed3) (R3.rq o3 ed4) eg fun v' F5 H5 R5 s5 q => ?_
      obtain rfl : v' = .bl true := Rp.rq R5.fz q
      refine ⟨true, rfl, ?_⟩
      rw [if_pos rfl]
      refine tX_opd R5 ed' fun u' F6 H6 R6 s6 o6 => ?_
      split at e
      · rename_i zb eh
        simp only [Option.some.injEq, Prod.mk.injEq] at e
        obtain ⟨rfl, rfl⟩ := e
        refine ok'' _ _ _ _ _ _ _ _ _ _ _ _ _ R6 (R6.rq ((o3.mono s5).mono s6) ed5) (R6.rq o6 ed6) eh fun v' F' H' R' s'' q => ?_
        exact k v' F' H' R' (s1.trans (s2.trans (s'.trans (s3.trans (s5.trans (s6.trans s'')))))) q
      · cases e
    · rename_i eg
      simp only [Option.some.injEq, Prod.mk.injEq] at e
      obtain ⟨rfl, rfl⟩ := e
      refine ok' _ _ _ _ _ _ _ _ _ _ _ _ _ R3 (R3.rq ((o2.mono s').mono s3) ed3) (R3.rq o3 ed4) eg fun v' F5 H5 R5 s5 q => ?_
      obtain rfl : v' = .bl false := Rp.rq R5.fz q
      refine ⟨false, rfl, ?_⟩
      rw [if_neg Bool.false_ne_true]
      exact k _ F5 H5 R5 (s1.trans (s2.trans (s'.trans (s3.trans s5)))) (.bl false)
    · cases e
  · rename_i ef
    simp only [Option.some.injEq, Prod.mk.injEq] at e
    obtain ⟨rfl, rfl⟩ := e
    refine ok _ _ _ _ _ _ _ _ _ _ _ _ _ R2 (R2.rq (o.mono s2) ed) (R2.rq o2 ed2) ef fun v' F' H' R' s' q => ?_
    obtain rfl : v' = .bl false := Rp.rq R'.fz q
    refine ⟨false, rfl, ?_⟩
    rw [if_neg Bool.false_ne_true]
    exact k _ F' H' R' (s1.trans (s2.trans s')) (.bl false)
  · cases e
theorem ce_chain3 {op op' op'' : CmpOp} {r r' r'' : R2} {f g h : PyData → PyData → Option (Bool × PyData)} {d : Expr} {t : L2.Z.X} {pos} (ok : Ok2 X.K r f) (ok' : Ok2 X.K r' g) (ok'' : Ok2 X.K r'' h) (ho : OpR X (compareOp op) r) (ho' : OpR X (compareOp op') r') (ho'' : OpR X (compareOp op'') r'') (ha : CE X Φ bf a x) (hb : CE X Φ bf b y) (hc : CE X Φ bf c z) (hd : CE X Φ bf d t)
    (hm : lastMarks [op, op', op''] [b, c, d] = false := by with_unfolding_all rfl) : CE X Φ bf (.Compare a [op, op', op''] [b, c, d] pos) (.chain3 f g h x y z t) :=
  PE.imp (pe_chain3 ho ho' ho'' ha hb hc hd hm) fun σ H Q h => redC3 ok ok' ok'' h
theorem ct_chain3 {op op' op'' : CmpOp} {r r' r'' : R2} {f g h : PyData → PyData → Option (Bool × PyData)} {d : Expr} {t : L2.Z.X} {pos} (ok : Ok2 X.K r f) (ok' : Ok2 X.K r' g) (ok'' : Ok2 X.K r'' h) (ho : OpR X (compareOp op) r) (ho' : OpR X (compareOp op') r') (ho'' : OpR X (compareOp op'') r'') (ha : CE X Φ bf a x) (hb : CE X Φ bf b y) (hc : CE X Φ bf c z) (hd : CE X Φ bf d t)
    (hm : lastMarks [op, op', op''] [b, c, d] = false := by with_unfolding_all rfl) : CT X Φ bf (.Compare a [op, op', op''] [b, c, d] pos) (.chain3 f g h x y z t) :=
  PT.imp (pt_chain3 ho ho' ho'' ha hb hc hd hm) fun σ H Q h => redC3 ok ok' ok'' (redT h)
theorem ce_chain {op op' : CmpOp} {r r' : R2} {f g : PyData → PyData → Option (Bool × PyData)} {pos} (ok : Ok2 X.K r f) (ok' : Ok2 X.K r' g) (ho : OpR X (compareOp op) r) (ho' : OpR X (compareOp op') r') (ha : CE X Φ bf a x) (hb : CE X Φ bf b y) (hc : CE X Φ bf c z)
    (hm : lastMarks [op, op'] [b, c] = false := by with_unfolding_all rfl) : CE X Φ bf (.Compare a [op, op'] [b, c] pos) (.chain f g x y z) :=
  PE.imp (pe_chain ho ho' ha hb hc hm) fun σ H Q h => redC ok ok' h
theorem ct_chain {op op' : CmpOp} {r r' : R2} {f g : PyData → PyData → Option (Bool × PyData)} {pos} (ok : Ok2 X.K r f) (ok' : Ok2 X.K r' g) (ho : OpR X (compareOp op) r) (ho' : OpR X (compareOp op') r') (ha : CE X Φ bf a x) (hb : CE X Φ bf b y) (hc : CE X Φ bf c z)
    (hm : lastMarks [op, op'] [b, c] = false := by with_unfolding_all rfl) : CT X Φ bf (.Compare a [op, op'] [b, c] pos) (.chain f g x y z) :=
  PT.imp (pt_chain ho ho' ha hb hc hm) fun σ H Q h => redC ok ok' (redT h)
theorem ce_cmp {op : CmpOp} {r : R2} {f : PyData → PyData → Option (Bool × PyData)} {pos} (ok : Ok2 X.K r f) (ho : OpR X (compareOp op) r) (ha : CE X Φ bf a x) (hb : CE X Φ bf b y) (hm : behindInMarks op b = false) : CE X Φ bf (.Compare a [op] [b] pos) (.op2 f x y) :=
  ce2 ok (fun _ _ h1 h2 => pe_cmpR ho h1 h2 hm) ha hb
theorem ct_cmp {op : CmpOp} {r : R2} {f : PyData → PyData → Option (Bool × PyData)} {pos} (ok : Ok2 X.K r f) (ho : OpR X (compareOp op) r) (ha : CE X Φ bf a x) (hb : CE X Φ bf b y) (hm : behindInMarks op b = false) : CT X Φ bf (.Compare a [op] [b] pos) (.op2 f x y) :=
  ct2 ok (fun _ _ h1 h2 => pt_cmpR ho h1 h2 hm) ha hb
theorem ce_bin {op : Operator} {r : R2} {f : PyData → PyData → Option (Bool × PyData)} {pos} (ok : Ok2 X.K r f) (ho : OpR X (binaryOp op) r) (ha : CE X Φ bf a x) (hb : CE X Φ bf b y) : CE X Φ bf (.BinOp a op b pos) (.op2 f x y) :=
  ce2 ok (fun _ _ h1 h2 => pe_op ho h1 h2) ha hb
theorem ce_un {op : UnaryOp} {r : V → Hp → VK → Prop} {f : PyData → Option (Bool × PyData)} {pos} (ok : Ok1 X.K r f) (ho : UnR X (unaryOp op) r) (ha : CE X Φ bf a x) : CE X Φ bf (.UnaryOp op a pos) (.op1 f x) :=
  ce1 ok (fun _ h => pe_un ho h) ha

theorem ca_nil : CA X Φ bf [] .nil := by
  refine PA.imp pa_nil fun σ H Q h => ?_
  obtain ⟨Rf, G, ρ, F, r, ρ', R, e, k⟩ := h
  simp only [evs, Option.some.injEq, Prod.mk.injEq] at e
  obtain ⟨rfl, rfl⟩ := e
  exact k [] F H R (Same.refl _) .nil
theorem ca_cons {es : List Expr} {xs : Xs} (ha : CE X Φ bf a x) (hr : CA X Φ bf es xs) (hs : starEach (a :: es) X.env = (false, eval a X.env) :: starEach es X.env := by rfl) : CA X Φ bf (a :: es) (.cons x xs) := by
  refine PA.imp (pa_cons ha hr hs) fun σ H Q h => ?_
  obtain ⟨Rf, G, ρ, F, r, ρ', R, e, k⟩ := h
  simp only [evs, Option.bind_eq_some_iff] at e
  obtain ⟨⟨r1, ρ1⟩, e1, ⟨rs, ρ2⟩, e2, e⟩ := e
  simp only [Option.some.injEq, Prod.mk.injEq] at e
  obtain ⟨rfl, rfl⟩ := e
  refine tX_opd R e1 fun v F1 H1 R1 s1 o => ?_
  exact ⟨Rf, G, ρ1, F1, rs, ρ2, R1, e2, fun vs F2 H2 R2 s2 os => k (v :: vs) F2 H2 R2 (s1.trans s2) (.cons (o.mono s2) os)⟩
theorem cv_nil : CV X Φ bf [] .nil := by
  refine PA.imp pa_nil fun σ H Q h => ?_
  obtain ⟨Rf, G, ρ, F, r, ρ', R, e, k⟩ := h
  simp only [evv, Option.some.injEq, Prod.mk.injEq] at e
  obtain ⟨rfl, rfl⟩ := e
  exact k [] F H R (Same.refl _) .nil
theorem cv_cons {es : List Expr} {xs : Xs} (ha : CE X Φ bf a x) (hr : CV X Φ bf es xs) (hs : starEach (a :: es) X.env = (false, eval a X.env) :: starEach es X.env := by rfl) : CV X Φ bf (a :: es) (.cons x xs) := by
  refine PA.imp (pa_cons ha hr hs) fun σ H Q h => ?_
  obtain ⟨Rf, G, ρ, F, r, ρ', R, e, k⟩ := h
  simp only [evv, Option.bind_eq_some_iff] at e
  obtain ⟨⟨d1, ρ1⟩, e1, ⟨ds, ρ2⟩, e2, e⟩ := e
  simp only [Option.some.injEq, Prod.mk.injEq] at e
  obtain ⟨rfl, rfl⟩ := e
  refine tX_val R e1 fun v F1 H1 R1 s1 o => ?_
  exact ⟨Rf, G, ρ1, F1, ds, ρ2, R1, e2, fun vs F2 H2 R2 s2 os => k (v :: vs) F2 H2 R2 (s1.trans s2) (.cons (o.mono s2) os)⟩
theorem cv_star {es : List Expr} {xs : Xs} {p : Pos} (ha : CE X Φ bf a x) (hr : CV X Φ bf es xs) (hs : starEach (.Starred a p :: es) X.env = (true, eval a X.env) :: starEach es X.env := by rfl) : CV X Φ bf (.Starred a p :: es) (.star x xs) := by
  refine PA.imp (StX.pa_star ha hr hs) fun σ H Q h => ?_
  obtain ⟨Rf, G, ρ, F, r, ρ', R, e, k⟩ := h
  simp only [evv, Option.bind_eq_some_iff] at e
  obtain ⟨⟨r1, ρ1⟩, e1, e⟩ := e
  refine tX_opd R e1 fun v F1 H1 R1 s1 o => ?_
  simp only at e
  split at e
  · rename_i ds hg
    simp only [Option.bind_eq_some_iff] at e
    obtain ⟨⟨es', ρ2⟩, e2, e⟩ := e
    simp only [Option.some.injEq, Prod.mk.injEq] at e
    obtain ⟨rfl, rfl⟩ := e
    obtain ⟨p, vs, rfl, q, _, ra⟩ := R1.rq o hg
    refine ⟨p, vs, rfl, .inr q, Rf, G, ρ1, F1, es', ρ2, R1, e2, fun ws F2 H2 R2 s2 os => k (vs ++ ws) F2 H2 R2 (s1.trans s2) ((ra.mono s2).append os)⟩
  · rename_i ds hg
    simp only [Option.bind_eq_some_iff] at e
    obtain ⟨⟨es', ρ2⟩, e2, e⟩ := e
    simp only [Option.some.injEq, Prod.mk.injEq] at e
    obtain ⟨rfl, rfl⟩ := e
    obtain ⟨p, vs, rfl, q, _, ra⟩ := R1.rq o hg
    refine ⟨p, vs, rfl, .inl (SqT.of q), Rf, G, ρ1, F1, es', ρ2, R1, e2, fun ws F2 H2 R2 s2 os => k (vs ++ ws) F2 H2 R2 (s1.trans s2) ((ra.mono s2).append os)⟩
  · cases e
/-- a new tuple is data at once -/
theorem SR.newTup {K : PySem.W.Frag} {Rf : Nat → Option Addr} {G F H : Hp} {ρ : Ev} {σ : St} {p : Addr} {vs : List V} {ds : List PyData} (R : SR K Rf G ρ F σ H) (h : H p = none) (hl : vs.length ≤ sizeLine) (ra : RpA K F vs ds) :
    ∃ F', SR K Rf G ρ F' σ (upd H p (.tup vs)) ∧ Same F F' ∧ Rp K F' (.ref p) (.tuple ds) := by
  have R1 := R.laid (o := .tup vs) h
  have l := R1.loose_new (p := p)
  have l' : Loose G ρ F σ p := R.loose_new h
  obtain ⟨R2, s⟩ := R1.freeze upd_same l'
  exact ⟨_, R2, s, .tup upd_same hl (ra.mono s)⟩
/-- a new list -/
theorem SR.newLst {K : PySem.W.Frag} {Rf : Nat → Option Addr} {G F H : Hp} {ρ : Ev} {σ : St} {p : Addr} {vs : List V} {ds : List PyData} (R : SR K Rf G ρ F σ H) (h : H p = none) (hl : vs.length ≤ sizeLine) (ra : RpA K F vs ds) :
    SR K Rf G ρ F σ (upd H p (.lst vs)) ∧ RR K G ρ F σ (upd H p (.lst vs)) (.ref p) (.new (.list ds)) :=
  ⟨R.laid h, p, rfl, R.loose_new h, vs, upd_same, hl, ra⟩
def Xs.len : Xs → Nat
  | .nil => 0
  | .cons _ r => r.len + 1
  | .star _ _ => sizeLine + 1
theorem evv_len : ∀ {xs : Xs} {ρ ρ' : Ev} {ds : List PyData}, xs.len ≤ sizeLine → evv Φ bf xs ρ = some (ds, ρ') → ds.length = xs.len
  | .nil, _, _, _, _, e => by simp only [evv, Option.some.injEq, Prod.mk.injEq] at e; obtain ⟨rfl, rfl⟩ := e; rfl
  | .cons x r, _, _, _, h, e => by
    simp only [evv, Option.bind_eq_some_iff] at e
    obtain ⟨⟨d1, ρ1⟩, e1, ⟨ds, ρ2⟩, e2, e⟩ := e
    simp only [Option.some.injEq, Prod.mk.injEq] at e
    obtain ⟨rfl, rfl⟩ := e
    have := evv_len (xs := r) (by simp only [Xs.len] at h; omega) e2
    simp only [List.length_cons, Xs.len, this]
  | .star x r, _, _, _, h, _ => by simp only [Xs.len] at h; omega
theorem ce_tup {es : List Expr} {xs : Xs} {n pos} (h : CV X Φ bf es xs) (hl : xs.len ≤ sizeLine) : CE X Φ bf (.Tuple es n pos) (.tup xs) := by
  refine PE.imp (pe_tup h) fun σ H Q h => ?_
  obtain ⟨Rf, G, ρ, F, r, ρ', R, e, k⟩ := h
  simp only [ev, Option.bind_eq_some_iff] at e
  obtain ⟨⟨ds, ρ1⟩, e1, e⟩ := e
  simp only [Option.some.injEq, Prod.mk.injEq] at e
  obtain ⟨rfl, rfl⟩ := e
  refine ⟨Rf, G, ρ, F, ds, ρ1, R, e1, fun vs F1 H1 R1 s1 ra => ?_⟩
  have hz : vs.length ≤ sizeLine := by rw [ra.length, evv_len hl e1]; exact hl
  refine ⟨hz, fun p hp => ?_⟩
  obtain ⟨F2, R2, s2, q⟩ := R1.newTup hp hz ra
  exact k _ F2 _ R2 (s1.trans s2) q
theorem ce_tups {es : List Expr} {xs : Xs} {n pos} (h : CV X Φ bf es xs) : CE X Φ bf (.Tuple es n pos) (.tups xs) := by
  refine PE.imp (pe_tup h) fun σ H Q h => ?_
  obtain ⟨Rf, G, ρ, F, r, ρ', R, e, k⟩ := h
  simp only [ev, Option.bind_eq_some_iff] at e
  obtain ⟨⟨ds, ρ1⟩, e1, e⟩ := e
  split at e
  · rename_i hz
    simp only [Option.some.injEq, Prod.mk.injEq] at e
    obtain ⟨rfl, rfl⟩ := e
    refine ⟨Rf, G, ρ, F, ds, ρ1, R, e1, fun vs F1 H1 R1 s1 ra => ?_⟩
    have hz : vs.length ≤ sizeLine := by rw [ra.length]; exact hz
    refine ⟨hz, fun p hp => ?_⟩
    obtain ⟨F2, R2, s2, q⟩ := R1.newTup hp hz ra
    exact k _ F2 _ R2 (s1.trans s2) q
  · cases e
theorem ce_lst {es : List Expr} {xs : Xs} {pos} (h : CV X Φ bf es xs) (hl : xs.len ≤ sizeLine) : CE X Φ bf (.List es pos) (.lst xs) := by
  refine PE.imp (pe_lst h) fun σ H Q h => ?_
  obtain ⟨Rf, G, ρ, F, r, ρ', R, e, k⟩ := h
  simp only [ev, Option.bind_eq_some_iff] at e
  obtain ⟨⟨ds, ρ1⟩, e1, e⟩ := e
  simp only [Option.some.injEq, Prod.mk.injEq] at e
  obtain ⟨rfl, rfl⟩ := e
  refine ⟨Rf, G, ρ, F, ds, ρ1, R, e1, fun vs F1 H1 R1 s1 ra => ?_⟩
  have hz : vs.length ≤ sizeLine := by rw [ra.length, evv_len hl e1]; exact hl
  refine ⟨hz, fun p hp => ?_⟩
  obtain ⟨R2, q⟩ := R1.newLst hp hz ra
  exact k _ F1 _ R2 s1 q
theorem ce_lsts {es : List Expr} {xs : Xs} {pos} (h : CV X Φ bf es xs) : CE X Φ bf (.List es pos) (.lsts xs) := by
  refine PE.imp (pe_lst h) fun σ H Q h => ?_
  obtain ⟨Rf, G, ρ, F, r, ρ', R, e, k⟩ := h
  simp only [ev, Option.bind_eq_some_iff] at e
  obtain ⟨⟨ds, ρ1⟩, e1, e⟩ := e
  split at e
  · rename_i hz
    simp only [Option.some.injEq, Prod.mk.injEq] at e
    obtain ⟨rfl, rfl⟩ := e
    refine ⟨Rf, G, ρ, F, ds, ρ1, R, e1, fun vs F1 H1 R1 s1 ra => ?_⟩
    have hz : vs.length ≤ sizeLine := by rw [ra.length]; exact hz
    refine ⟨hz, fun p hp => ?_⟩
    obtain ⟨R2, q⟩ := R1.newLst hp hz ra
    exact k _ F1 _ R2 s1 q
  · cases e
end
end L2.Z

namespace L2.Z
open PySem PySem.Spec PyProof.Rows

section
variable {K : PySem.W.Frag} {Rf Rf' : Nat → Option Addr} {G F F' H H' : Hp} {ρ ρ' ρc : Ev} {σ σc : St} {a : Addr} {d c : PyData} {v : V} {r : Res} {j : Nat}
theorem getSet {ρ : Ev} {j i : Nat} {s : Slot} (hj : j < ρ.length) : (ρ.set j s)[i]? = if i = j then some s else ρ[i]? := by
  by_cases h : i = j
  · subst h; rw [List.getElem?_set_self hj, if_pos rfl]
  · rw [List.getElem?_set_ne (Ne.symm h), if_neg h]
/-- the slot j's own container -/
theorem conOf_some (R : SR K Rf G ρ F σ H) (e : conOf ρ j = some c) : ∃ a, σ[j]? = some (some (.ref a)) ∧ F a = none ∧ MutAt K F H a c ∧ MutI ρ j ∧ (∀ d, ρ[j]? = some (.ref d) → Rf j = some a) := by
  unfold conOf at e
  split at e
  · rename_i d h
    cases e
    obtain ⟨a, ea, na, m⟩ := R.sl j _ h
    exact ⟨a, ea, na, m, ⟨_, h, rfl⟩, fun d' h' => by rw [h] at h'; cases h'⟩
  · rename_i d h
    cases e
    obtain ⟨a, ea, na, m, q⟩ := R.sl j _ h
    exact ⟨a, ea, na, m, ⟨_, h, rfl⟩, fun d' h' => q⟩
  · cases e
theorem conSet_some (e : conSet ρ j c = some ρ') : (∃ d, ρ[j]? = some (.own d) ∧ ρ' = ρ.set j (.own c)) ∨ (∃ d, ρ[j]? = some (.ref d) ∧ ρ' = ρ.set j (.ref c)) := by
  unfold conSet at e
  split at e
  · rename_i d h; cases e; exact .inl ⟨d, h, rfl⟩
  · rename_i d h; cases e; exact .inr ⟨d, h, rfl⟩
  · cases e
/-- other facts of the slots, as they are behind a change of slot j's container -/
theorem SR.reset (R : SR K Rf G ρ F σ H) (e : conSet ρ j c = some ρ') (ea : σ[j]? = some (some (.ref a))) (s : Same F F') (fz : Same F' H') (na : F' a = none) (m : MutAt K F' H' a c)
    (hm : ∀ i b, i ≠ j → MutI ρ i → σ[i]? = some (some (.ref b)) → F' b = none ∧ H' b = H b) (hG : ∀ b o, G b = some o → H' b = some o ∧ F' b = none) : SR K Rf G ρ' F' σ H' := by
  have key : ∃ s' s0, ρ[j]? = some s0 ∧ s0.isMut = true ∧ ρ' = ρ.set j s' ∧ s'.isMut = true ∧ SlotOk K Rf G F' H' j (σ[j]?) s' ∧ s'.isRf = s0.isRf := by
    rcases conSet_some e with ⟨d, h, rfl⟩ | ⟨d, h, rfl⟩
    · exact ⟨_, _, h, rfl, rfl, rfl, ⟨a, ea, na, m⟩, rfl⟩
    · obtain ⟨b, eb, _, _, q⟩ := R.sl j _ h
      rw [ea] at eb; cases eb
      exact ⟨_, _, h, rfl, rfl, rfl, ⟨a, ea, na, m, q⟩, rfl⟩
  obtain ⟨s', s0, h0, m0, rfl, m', ok, rr⟩ := key
  have hj : j < ρ.length := (List.getElem?_eq_some_iff.mp h0).1
  have mut' : ∀ i, MutI (ρ.set j s') i → MutI ρ i := fun i ⟨t, et, mt⟩ => by
    rw [getSet hj] at et
    split at et
    · rename_i h; subst h; exact ⟨s0, h0, m0⟩
    · exact ⟨t, et, mt⟩
  refine ⟨by rw [List.length_set]; exact R.len, fz, fun i t et => ?_, fun i k b mi mk => R.dis i k b (mut' i mi) (mut' k mk), fun i b mi => R.gm i b (mut' i mi), hG, fun i b eb => ?_⟩
  · rw [getSet hj] at et
    split at et
    · rename_i h; subst h; cases et; exact ok
    · rename_i h
      exact (R.sl i t et).mono s (fun b mt ev => hm i b h ⟨t, et, mt⟩ ev) fun b o g => (hG b o g).1.trans (R.gs b o g).1.symm
  · obtain ⟨z1, t, z2, z3⟩ := R.rf i b eb
    refine ⟨z1, ?_⟩
    rw [getSet hj]
    split
    · rename_i h; subst h; rw [h0] at z2; cases z2; exact ⟨s', rfl, rr.trans z3⟩
    · exact ⟨t, z2, z3⟩
/-- slot j's container is written -/
theorem SR.write (R : SR K Rf G ρ F σ H) (e : conSet ρ j c = some ρ') (ea : σ[j]? = some (some (.ref a))) (na : F a = none) {o : HO} (mj : MutI ρ j) (m : MutAt K F (upd H a o) a c) : SR K Rf G ρ' F σ (upd H a o) := by
  have ne : ∀ b, b ≠ a → upd H a o b = H b := fun b hb => upd_ne hb
  refine R.reset e ea (Same.refl _) (fun b x q => ?_) na m (fun i b hi mi eb => ?_) (fun b x g => ?_)
  · have hb : b ≠ a := fun z => by rw [z, na] at q; cases q
    rw [ne b hb]; exact R.fz b x q
  · have hb : b ≠ a := fun z => hi (R.dis i j a mi mj (z ▸ eb) ea)
    exact ⟨(R.mutNone mi eb).1, ne b hb⟩
  · have hb : b ≠ a := fun z => by rw [z, R.gm j a mj ea] at g; cases g
    rw [ne b hb]; exact R.gs b x g

theorem SR.escs : ∀ {vs : List V} {rs : List Res} {ds : List PyData} {ρ ρ' : Ev} {F : Hp}, SR K Rf G ρ F σ H → ORs K F σ vs rs → escAll ρ rs = some (ds, ρ') → ∃ F', SR K Rf G ρ' F' σ H ∧ Same F F' ∧ RpA K F' vs ds
  | _, _, _, _, _, _, R, .nil, e => by
    simp only [escAll, Option.some.injEq, Prod.mk.injEq] at e; obtain ⟨rfl, rfl⟩ := e
    exact ⟨_, R, Same.refl _, .nil⟩
  | _, _, _, _, _, _, R, .cons o os, e => by
    simp only [escAll, Option.bind_eq_some_iff] at e
    obtain ⟨⟨d, ρ1⟩, e1, ⟨ds, ρ2⟩, e2, e⟩ := e
    simp only [Option.some.injEq, Prod.mk.injEq] at e
    obtain ⟨rfl, rfl⟩ := e
    obtain ⟨F1, R1, s1, q⟩ := R.esc o e1
    obtain ⟨F2, R2, s2, qs⟩ := SR.escs R1 (os.mono s1) e2
    exact ⟨F2, R2, s1.trans s2, .cons (q.mono s2) qs⟩
theorem ORs.take : ∀ {vs : List V} {rs : List Res} (n : Nat), ORs K F σ vs rs → ORs K F σ (vs.take n) (rs.take n)
  | _, _, 0, _ => .nil
  | _, _, _ + 1, .nil => .nil
  | _, _, n + 1, .cons r t => .cons r (ORs.take n t)
theorem ORs.drop : ∀ {vs : List V} {rs : List Res} (n : Nat), ORs K F σ vs rs → ORs K F σ (vs.drop n) (rs.drop n)
  | _, _, 0, r => r
  | _, _, _ + 1, .nil => .nil
  | _, _, n + 1, .cons _ t => ORs.drop n t
theorem ORs.get : ∀ {vs : List V} {rs : List Res} {i : Nat} {r : Res}, ORs K F σ vs rs → rs[i]? = some r → ∃ v, vs[i]? = some v ∧ OR K F σ v r
  | _, _, _, _, .nil, e => by simp at e
  | _, _, 0, _, .cons a _, e => by simp at e; subst e; exact ⟨_, rfl, a⟩
  | _, _, i + 1, r, .cons _ b, e => by
    obtain ⟨v, h1, h2⟩ := ORs.get (i := i) (r := r) b (by simpa using e)
    exact ⟨v, by simpa using h1, h2⟩
theorem ORs.length : ∀ {vs : List V} {rs : List Res}, ORs K F σ vs rs → vs.length = rs.length
  | _, _, .nil => rfl
  | _, _, .cons _ b => by simp [ORs.length b]

/-- the parameter that goes by reference: its address -/
def rfOf (k : Option Nat) (vs : List V) : Nat → Option Addr := fun i => if k = some i then (match vs[i]? with | some (.ref a) => some a | _ => none) else none
/-- a def's promise: what φ says of data -/
def spF (K : PySem.W.Frag) (k : Option Nat) (np : Nat) (φ : List PyData → Option (PyData × PyData)) : Sp := fun vs H Q _ => vs.length = np ∧ ∃ (G F : Hp) (ds : List PyData) (c d c' : PyData),
  SR K (rfOf k vs) G (slotsOf ds c k) F (vs.map some) H ∧ (∀ i, k = some i → ds[i]? = some c) ∧ φ ds = some (d, c') ∧
  ∀ v F' H', SR K (rfOf k vs) G (slotsOf ds c' k) F' (vs.map some) H' → Same F F' → Rp K F' v d → Q v H'
open Classical in
/-- all that the caller's slots hold (but slot j) is out of the callee's reach -/
noncomputable def prot (G : Hp) (ρ : Ev) (σ : St) (H : Hp) (j : Option Nat) : Hp := fun b => if ∃ i, some i ≠ j ∧ MutI ρ i ∧ σ[i]? = some (some (.ref b)) then H b else G b
theorem prot_gs (R : SR K Rf G ρ F σ H) {j : Option Nat} {b : Addr} {o : HO} (e : prot G ρ σ H j b = some o) : H b = some o ∧ F b = none := by
  unfold prot at e
  split at e
  · rename_i h
    obtain ⟨i, _, mi, ei⟩ := h
    exact ⟨e, (R.mutNone mi ei).1⟩
  · exact R.gs b o e
theorem prot_G (R : SR K Rf G ρ F σ H) {j : Option Nat} {b : Addr} {o : HO} (e : G b = some o) : prot G ρ σ H j b = some o := by
  unfold prot
  split
  · exact (R.gs b o e).1
  · exact e
theorem prot_mut (R : SR K Rf G ρ F σ H) {j : Option Nat} {b : Addr} {i : Nat} (hi : some i ≠ j) (mi : MutI ρ i) (ei : σ[i]? = some (some (.ref b))) : prot G ρ σ H j b = H b := by
  unfold prot
  rw [if_pos ⟨i, hi, mi, ei⟩]
theorem prot_at (R : SR K Rf G ρ F σ H) (mj : MutI ρ j) (ej : σ[j]? = some (some (.ref a))) : prot G ρ σ H (some j) a = none := by
  unfold prot
  rw [if_neg, R.gm j a mj ej]
  rintro ⟨i, hi, mi, ei⟩
  exact hi (congrArg some (R.dis i j a mi mj ei ej))

/-- what is kept behind a call -/
theorem SR.kept (R : SR K Rf G ρ F σ H) {jo : Option Nat} (Rc : SR K Rf' (prot G ρ σ H jo) ρc F' σc H') :
    (∀ i b, some i ≠ jo → MutI ρ i → σ[i]? = some (some (.ref b)) → F' b = none ∧ H' b = H b) ∧ (∀ b o, G b = some o → H' b = some o ∧ F' b = none) := by
  refine ⟨fun i b hi mi ei => ?_, fun b o g => Rc.gs b o (prot_G R g)⟩
  obtain ⟨_, o, ho⟩ := R.mutNone mi ei
  have q := Rc.gs b o ((prot_mut R hi mi ei).trans ho)
  exact ⟨q.2, q.1.trans ho.symm⟩
theorem SR.backN (R : SR K Rf G ρ F σ H) (Rc : SR K Rf' (prot G ρ σ H none) ρc F' σc H') (s : Same F F') : SR K Rf G ρ F' σ H' := by
  obtain ⟨k1, k2⟩ := R.kept Rc
  exact ⟨R.len, Rc.fz, fun i t e => (R.sl i t e).mono s (fun b mt ev => k1 i b (by simp) ⟨t, e, mt⟩ ev) fun b o g => (k2 b o g).1.trans (R.gs b o g).1.symm, R.dis, R.gm, k2, R.rf⟩
theorem slotsOf_get {ds : List PyData} {c : PyData} {k : Option Nat} {i : Nat} {s : Slot} (e : (slotsOf ds c k)[i]? = some s) : (k = some i ∧ s = .ref c ∧ i < ds.length) ∨ (k ≠ some i ∧ ∃ d, ds[i]? = some d ∧ s = .dat d) := by
  cases k with
  | none =>
    unfold slotsOf at e
    rw [List.getElem?_map] at e
    cases h : ds[i]? with
    | none => rw [h] at e; cases e
    | some d => rw [h] at e; cases e; exact .inr ⟨by simp, d, rfl, rfl⟩
  | some k =>
    unfold slotsOf at e
    by_cases hi : k = i
    · subst hi
      by_cases hk : k < (ds.map Slot.dat).length
      · rw [List.getElem?_set_self hk] at e; cases e; exact .inl ⟨rfl, rfl, by simpa using hk⟩
      · rw [List.getElem?_eq_none (by rw [List.length_set]; omega)] at e; cases e
    · rw [List.getElem?_set_ne hi, List.getElem?_map] at e
      cases h : ds[i]? with
      | none => rw [h] at e; cases e
      | some d => rw [h] at e; cases e; exact .inr ⟨by simpa using hi, d, rfl, rfl⟩
theorem slotsOf_length {ds : List PyData} {c : PyData} {k : Option Nat} : (slotsOf ds c k).length = ds.length := by
  cases k <;> simp [slotsOf]
/-- the callee's slots at its entry -/
theorem SR.entryN {G' : Hp} {vs : List V} {ds : List PyData} (R : SR K Rf G ρ F σ H) (ra : RpA K F vs ds) (hG : ∀ b o, G' b = some o → H b = some o ∧ F b = none) : SR K (rfOf none vs) G' (slotsOf ds .none none) F (vs.map some) H := by
  have nm : ∀ i, ¬ MutI (slotsOf ds .none none) i := fun i ⟨t, et, mt⟩ => by
    rcases slotsOf_get et with ⟨z, _⟩ | ⟨_, d, _, rfl⟩
    · cases z
    · cases mt
  refine ⟨by rw [slotsOf_length, List.length_map, ra.length], R.fz, fun i t et => ?_, fun i _ _ mi => (nm i mi).elim, fun i _ mi => (nm i mi).elim, hG, fun i b eb => by unfold rfOf at eb; rw [if_neg (by simp)] at eb; cases eb⟩
  rcases slotsOf_get et with ⟨z, _⟩ | ⟨_, d, ed, rfl⟩
  · cases z
  · obtain ⟨v, ev, rv⟩ := ra.get ed
    exact ⟨v, by rw [List.getElem?_map, ev]; rfl, rv⟩
theorem SR.entryS {G' : Hp} {vs : List V} {ds : List PyData} {k : Nat} (R : SR K Rf G ρ F σ H) (hl : vs.length = ds.length) (ra : ∀ i d, i ≠ k → ds[i]? = some d → ∃ v, vs[i]? = some v ∧ Rp K F v d) (ea : vs[k]? = some (.ref a)) (na : F a = none) (m : MutAt K F H a c)
    (ga : G' a = none) (hG : ∀ b o, G' b = some o → H b = some o ∧ F b = none) : SR K (rfOf (some k) vs) G' (slotsOf ds c (some k)) F (vs.map some) H := by
  have mk : ∀ i, MutI (slotsOf ds c (some k)) i → i = k := fun i ⟨t, et, mt⟩ => by
    rcases slotsOf_get et with ⟨z, _⟩ | ⟨_, d, _, rfl⟩
    · cases z; rfl
    · cases mt
  refine ⟨by rw [slotsOf_length, List.length_map, hl], R.fz, fun i t et => ?_, fun i j _ mi mj _ _ => (mk i mi).trans (mk j mj).symm, fun i b mi eb => ?_, hG, fun i b eb => ?_⟩
  · rcases slotsOf_get et with ⟨z, rfl, _⟩ | ⟨hi, d, ed, rfl⟩
    · cases z
      exact ⟨a, by rw [List.getElem?_map, ea]; rfl, na, m, by unfold rfOf; rw [if_pos rfl, ea]⟩
    · obtain ⟨v, ev, rv⟩ := ra i d (fun z => hi (by rw [z])) ed
      exact ⟨v, by rw [List.getElem?_map, ev]; rfl, rv⟩
  · rw [mk i mi, List.getElem?_map, ea] at eb
    cases eb
    exact ga
  · unfold rfOf at eb
    split at eb
    · rename_i h
      cases h
      rw [ea] at eb
      cases eb
      have hk : k < ds.length := by rw [← hl]; exact (List.getElem?_eq_some_iff.mp ea).1
      refine ⟨by rw [List.getElem?_map, ea]; rfl, .ref c, ?_, rfl⟩
      unfold slotsOf
      rw [List.getElem?_set_self (by rw [List.length_map]; exact hk)]
    · cases eb
end

theorem getElem?_mid {α : Type} {l1 l2 : List α} {x : α} {i : Nat} : (l1 ++ x :: l2)[i]? = if i < l1.length then l1[i]? else if i = l1.length then some x else l2[i - l1.length - 1]? := by
  by_cases h : i < l1.length
  · rw [if_pos h, List.getElem?_append_left h]
  · rw [if_neg h, List.getElem?_append_right (by omega)]
    by_cases h2 : i = l1.length
    · rw [if_pos h2, h2]; simp
    · rw [if_neg h2]
      obtain ⟨m, hm⟩ : ∃ m, i - l1.length = m + 1 := ⟨i - l1.length - 1, by omega⟩
      rw [hm]; simp

section
variable {X : Cx} {Φ : Fns} {bf : Nat → Option Nat} {e : Expr} {es : List Expr} {xs : Xs} {k f : Nat} {fa : Addr} {fd : FuncData} {ps : List Str} {n : Str} {p pos : Pos}
theorem redCall {np : Nat} {E : XK} {σ : St} {H : Hp} {Q : VK} (hnp : ∀ ds r, Φ f ds = some r → ds.length = np) (h : tX X.K (ev Φ bf (.call f xs)) σ H Q) : tOs X.K (evs Φ bf xs) σ H fun vs H1 => spF X.K (bf f) np (Φ f) (vs ++ []) H1 Q E := by
  obtain ⟨Rf, G, ρ, F, r, ρ', R, e, k⟩ := h
  simp only [ev, Option.bind_eq_some_iff] at e
  obtain ⟨⟨rs, ρ1⟩, e1, ⟨ds, ρ2⟩, e2, ⟨d, c'⟩, e3, ρ3, e4, e⟩ := e
  simp only [Option.some.injEq, Prod.mk.injEq] at e
  obtain ⟨rfl, rfl⟩ := e
  refine ⟨Rf, G, ρ, F, rs, ρ1, R, e1, fun vs F1 H1 R1 s1 os => ?_⟩
  show spF X.K (bf f) np (Φ f) (vs ++ []) H1 Q E
  rw [List.append_nil]
  have hlen := hnp _ _ e3
  cases hb : bf f with
  | none =>
    rw [hb] at e2 e4
    simp only [callArgs] at e2
    simp only [callBack, Option.some.injEq] at e4
    subst e4
    obtain ⟨F2, R2, s2, ra⟩ := SR.escs R1 os e2
    refine ⟨by rw [ra.length, hlen], prot G ρ2 σ H1 none, F2, ds, .none, d, c', R2.entryN ra fun b o q => prot_gs R2 q, fun i z => (by cases z), e3, fun v F' H' Rc s' q => ?_⟩
    exact k v F' H' (R2.backN Rc s') (s1.trans (s2.trans s')) q
  | some kk =>
    rw [hb] at e2 e4
    simp only [callArgs, Option.bind_eq_some_iff] at e2
    obtain ⟨⟨ds1, ρa⟩, ea, ⟨ds2, ρb⟩, eb, r, er, j, ej, c, ec, e2⟩ := e2
    simp only [Option.some.injEq, Prod.mk.injEq] at e2
    obtain ⟨rfl, rfl⟩ := e2
    simp only [callBack, Option.bind_eq_some_iff] at e4
    obtain ⟨r', er', j', ej', e4⟩ := e4
    rw [er] at er'; cases er'
    rw [ej] at ej'; cases ej'
    obtain ⟨Fa, Ra, sa, ra1⟩ := SR.escs R1 (os.take kk) ea
    obtain ⟨F2, R2, sb, ra2⟩ := SR.escs Ra ((os.mono sa).drop (kk + 1)) eb
    have rj : r = .slot j := by cases r <;> simp only [Res.ix] at ej <;> cases ej; rfl
    subst rj
    obtain ⟨v, hv, ov⟩ := os.get er
    obtain ⟨a, ea', na, m, mj, hrf⟩ := conOf_some R2 ec
    have eva : v = .ref a := by
      have z : σ[j]? = some (some v) := ov
      rw [ea'] at z; cases z; rfl
    subst eva
    have hk : kk < vs.length := (List.getElem?_eq_some_iff.mp hv).1
    have hl1 : ds1.length = kk := by rw [← ra1.length, List.length_take]; omega
    have hl2 : ds2.length = vs.length - (kk + 1) := by rw [← ra2.length, List.length_drop]
    have hl : vs.length = (ds1 ++ c :: ds2).length := by rw [List.length_append, List.length_cons]; omega
    have en : SR X.K (rfOf (some kk) vs) (prot G ρb σ H1 (some j)) (slotsOf (ds1 ++ c :: ds2) c (some kk)) F2 (vs.map some) H1 := by
      refine R2.entryS hl (fun i d hi hd => ?_) hv na m (prot_at R2 mj ea') fun b o q => prot_gs R2 q
      rw [getElem?_mid] at hd
      split at hd
      · rename_i h
        obtain ⟨w, hw, rw'⟩ := (ra1.mono sb).get hd
        rw [List.getElem?_take_of_lt (by omega)] at hw
        exact ⟨w, hw, rw'⟩
      · split at hd
        · omega
        · obtain ⟨w, hw, rw'⟩ := ra2.get hd
          rw [List.getElem?_drop] at hw
          exact ⟨w, by rw [← hw]; congr 1; omega, rw'⟩
    refine ⟨by rw [hl, hlen], _, F2, _, c, d, c', en, fun i z => (by cases z; rw [getElem?_mid, if_neg (by omega), if_pos hl1.symm]), e3, fun v F' H' Rc s' q => ?_⟩
    have back : SR X.K Rf G ρ3 F' σ H' := by
      obtain ⟨k1, k2⟩ := R2.kept Rc
      have hsl : (slotsOf (ds1 ++ c :: ds2) c' (some kk))[kk]? = some (.ref c') := by
        unfold slotsOf
        rw [List.getElem?_set_self (by rw [List.length_map]; omega)]
      obtain ⟨a', ea2, na2, m2, _⟩ := Rc.sl kk _ hsl
      rw [List.getElem?_map, hv] at ea2
      cases ea2
      exact R2.reset e4 ea' s' Rc.fz na2 m2 (fun i b hi mi eb => k1 i b (by simpa using hi) mi eb) k2
    exact k v F' H' back (s1.trans (sa.trans (sb.trans s'))) q
theorem ce_call (Fk : FnOk X.prog X.w X.K X.mg X.base CX0 k fa fd ps (spF X.K (bf f) ps.length (Φ f))) (hnp : ∀ ds r, Φ f ds = some r → ds.length = ps.length) (hr : Room k X.A) (hm : X.mg n = some (.ref fa)) (hk : PySem.W.keepIn X.K (.ref fa) = true) (hb : Binds X.K fd ps [])
    (hg : Gl X n) (ha : CA X Φ bf (e :: es) xs) (hdb : (n == ("__debug__" : Str)) = false := by decide) (he : starEach (e :: es) X.env = (false, eval e X.env) :: starEach es X.env := by rfl) (hpl : (backTo pos (starEach es X.env)).any (·.1) = false := by rfl) :
    CE X Φ bf (.Call (.Name n p) (e :: es) [] pos) (.call f xs) :=
  PE.imp (pe_call Fk hr hg hm hk hb .nil pass0 ha hdb he hpl) fun σ H Q h => redCall hnp h
end
end L2.Z

namespace L2.Z
open PySem PySem.Spec PyProof.Rows

section
variable {K : PySem.W.Frag} {Rf Rf' : Nat → Option Addr} {G F F' H H' : Hp} {ρ ρ' : Ev} {σ σ' : St} {a p : Addr} {d c : PyData} {v : V} {r : Res} {j i : Nat} {s : Slot}
theorem asg_some (e : asg i s ρ = some ρ') : (∃ t, ρ[i]? = some t ∧ t.isRf = false) ∧ ρ' = ρ.set i s := by
  unfold asg at e
  split at e
  · rename_i h; cases e; exact ⟨⟨_, h, rfl⟩, rfl⟩
  · rename_i h; cases e; exact ⟨⟨_, h, rfl⟩, rfl⟩
  · rename_i h; cases e; exact ⟨⟨_, h, rfl⟩, rfl⟩
  · cases e
theorem Loose.rf (R : SR K Rf G ρ F σ H) (l : Loose G ρ F σ p) : Rf i ≠ some p := fun e => by
  obtain ⟨z1, s, z2, z3⟩ := R.rf i p e
  cases s with
  | ref d => exact l.2.2 i ⟨_, z2, rfl⟩ z1
  | lok b d =>
    obtain ⟨a, o, e1, _, g, _⟩ := R.sl i _ z2
    rw [z1] at e1; cases e1
    rw [l.2.1] at g; cases g
  | _ => cases z3
/-- what may be stored -/
def SO (K : PySem.W.Frag) (G : Hp) (ρ : Ev) (F : Hp) (σ : St) (H : Hp) (v : V) : Slot → Prop
  | .dat d => Rp K F v d
  | .own d => ∃ p, v = .ref p ∧ Loose G ρ F σ p ∧ MutAt K F H p d
  | _ => False
theorem SR.asg (R : SR K Rf G ρ F σ H) (e : Z.asg i s ρ = some ρ') (so : SO K G ρ F σ H v s) : SR K Rf G ρ' F (σ.set i (some v)) H := by
  obtain ⟨⟨t, ht, hr⟩, rfl⟩ := asg_some e
  have hi : i < ρ.length := (List.getElem?_eq_some_iff.mp ht).1
  have hσ : i < σ.length := by rw [← R.len]; exact hi
  have gσ : ∀ k, (σ.set i (some v))[k]? = if k = i then some (some v) else σ[k]? := fun k => by
    by_cases h : k = i
    · subst h; rw [List.getElem?_set_self hσ, if_pos rfl]
    · rw [List.getElem?_set_ne (Ne.symm h), if_neg h]
  have mutc : ∀ k, MutI (ρ.set i s) k → (k = i ∧ s.isMut = true) ∨ (k ≠ i ∧ MutI ρ k) := fun k ⟨u, eu, mu⟩ => by
    rw [getSet hi] at eu
    split at eu
    · rename_i h; cases eu; exact .inl ⟨h, mu⟩
    · rename_i h; exact .inr ⟨h, u, eu, mu⟩
  have own : s.isMut = true → ∃ p, v = .ref p ∧ Loose G ρ F σ p := fun m => by
    cases s with
    | own d => obtain ⟨p, e, l, _⟩ := so; exact ⟨p, e, l⟩
    | ref d => exact so.elim
    | _ => cases m
  refine ⟨by rw [List.length_set, List.length_set]; exact R.len, R.fz, fun k u eu => ?_, fun k l b mk ml ek el => ?_, fun k b mk ek => ?_, R.gs, fun k b eb => ?_⟩
  · rw [getSet hi] at eu
    rw [gσ]
    split at eu
    · rename_i h
      cases eu
      rw [if_pos h]
      cases s with
      | un => trivial
      | dat d => exact ⟨v, rfl, so⟩
      | own d => obtain ⟨p, rfl, l, m⟩ := so; exact ⟨p, rfl, l.1, m⟩
      | ref d => exact so.elim
      | lok b d => exact so.elim
    · rename_i h
      rw [if_neg h]
      exact R.sl k u eu
  · rw [gσ] at ek el
    rcases mutc k mk with ⟨hk, mk1⟩ | ⟨hk, mk1⟩
    · rcases mutc l ml with ⟨hl, ml1⟩ | ⟨hl, ml1⟩
      · exact hk.trans hl.symm
      · rw [if_pos hk] at ek; rw [if_neg hl] at el
        cases ek
        obtain ⟨p, e, q⟩ := own mk1
        cases e
        exact (q.2.2 l ml1 el).elim
    · rcases mutc l ml with ⟨hl, ml1⟩ | ⟨hl, ml1⟩
      · rw [if_pos hl] at el; rw [if_neg hk] at ek
        cases el
        obtain ⟨p, e, q⟩ := own ml1
        cases e
        exact (q.2.2 k mk1 ek).elim
      · rw [if_neg hk] at ek; rw [if_neg hl] at el
        exact R.dis k l b mk1 ml1 ek el
  · rw [gσ] at ek
    rcases mutc k mk with ⟨hk, mk1⟩ | ⟨hk, mk1⟩
    · rw [if_pos hk] at ek
      cases ek
      obtain ⟨p, e, q⟩ := own mk1
      cases e
      exact q.2.1
    · rw [if_neg hk] at ek
      exact R.gm k b mk1 ek
  · obtain ⟨z1, u, z2, z3⟩ := R.rf k b eb
    have hk : k ≠ i := fun h => by subst h; rw [ht] at z2; cases z2; rw [hr] at z3; cases z3
    exact ⟨by rw [gσ, if_neg hk]; exact z1, u, by rw [getSet hi, if_neg hk]; exact z2, z3⟩
/-- a loose object, guarded -/
theorem SR.guard (R : SR K Rf G ρ F σ H) {o : HO} (h : H p = some o) (l : Loose G ρ F σ p) : SR K Rf (upd G p o) ρ F σ H := by
  refine ⟨R.len, R.fz, fun k t et => ?_, R.dis, fun k b mk ek => ?_, fun b x e => ?_, R.rf⟩
  · have q := R.sl k t et
    cases t with
    | lok b d =>
      obtain ⟨a, o', e, q, g, m⟩ := q
      exact ⟨a, o', e, q, by rw [upd_ne (fun z => by rw [z, l.2.1] at g; cases g)]; exact g, m⟩
    | _ => exact q
  · rw [upd_ne (fun z => l.2.2 k mk (by rw [ek, z]))]
    exact R.gm k b mk ek
  · by_cases hb : b = p
    · subst hb; rw [upd_same] at e; cases e; exact ⟨h, l.1⟩
    · rw [upd_ne hb] at e; exact R.gs b x e
theorem SR.unguard {o : HO} (R : SR K Rf (upd G p o) ρ F σ H) (hG : G p = none) (hr : ∀ i, Rf i ≠ some p) : SR K Rf G ρ F σ H ∧ Loose G ρ F σ p ∧ H p = some o := by
  have g0 := R.gs p o upd_same
  refine ⟨⟨R.len, R.fz, fun k t et => ?_, R.dis, fun k b mk ek => ?_, fun b x e => ?_, R.rf⟩, ⟨g0.2, hG, fun k mk ek => ?_⟩, g0.1⟩
  · have q := R.sl k t et
    cases t with
    | lok b d =>
      obtain ⟨a, o', e, q, g, m⟩ := q
      exact ⟨a, o', e, q, by rw [upd_ne (fun z => hr k (by rw [q, z]))] at g; exact g, m⟩
    | _ => exact q
  · have q := R.gm k b mk ek
    by_cases hb : b = p
    · subst hb; rw [upd_same] at q; cases q
    · rw [upd_ne hb] at q; exact q
  · exact R.gs b x (by rw [upd_ne (fun z => by rw [z, hG] at e; cases e)]; exact e)
  · have q := R.gm k p mk ek
    rw [upd_same] at q; cases q
/-- stored as it came -/
theorem SR.stored (R : SR K Rf G ρ F σ H) (q : RR K G ρ F σ H v r) (e : Z.stored ρ r = some (s, ρ')) : ∃ F', SR K Rf G ρ' F' σ H ∧ Same F F' ∧ SO K G ρ' F' σ H v s := by
  have other : ∀ {r}, OR K F σ v r → ((Z.esc ρ r).bind fun p => some (Slot.dat p.1, p.2)) = some (s, ρ') → ∃ F', SR K Rf G ρ' F' σ H ∧ Same F F' ∧ SO K G ρ' F' σ H v s := fun {r} o e => by
    simp only [Option.bind_eq_some_iff] at e
    obtain ⟨⟨d, ρ1⟩, e1, e⟩ := e
    simp only [Option.some.injEq, Prod.mk.injEq] at e
    obtain ⟨rfl, rfl⟩ := e
    exact R.esc o e1
  cases r with
  | new d =>
    simp only [Z.stored, Option.some.injEq, Prod.mk.injEq] at e
    obtain ⟨rfl, rfl⟩ := e
    exact ⟨F, R, Same.refl _, q⟩
  | val d => exact other (r := .val d) q e
  | slot i => exact other (r := .slot i) q e
end

def OutOk (K : PySem.W.Frag) (Rf : Nat → Option Addr) (G F : Hp) (D : Ends) : Out → Prop
  | .nx ρ => ∀ σ F' H, SR K Rf G ρ F' σ H → Same F F' → D.nx σ H
  | .bk ρ => ∀ σ F' H, SR K Rf G ρ F' σ H → Same F F' → D.bk σ H
  | .ct ρ => ∀ σ F' H, SR K Rf G ρ F' σ H → Same F F' → D.ct σ H
  | .rt d ρ => ∀ v σ F' H, SR K Rf G ρ F' σ H → Same F F' → Rp K F' v d → D.rt v H
theorem OutOk.mono {K : PySem.W.Frag} {Rf : Nat → Option Addr} {G F F' : Hp} {D : Ends} {o : Out} (s : Same F F') (h : OutOk K Rf G F D o) : OutOk K Rf G F' D o := by
  cases o with
  | nx ρ => exact fun σ F1 H R s1 => h σ F1 H R (s.trans s1)
  | bk ρ => exact fun σ F1 H R s1 => h σ F1 H R (s.trans s1)
  | ct ρ => exact fun σ F1 H R s1 => h σ F1 H R (s.trans s1)
  | rt d ρ => exact fun v σ F1 H R s1 => h v σ F1 H R (s.trans s1)
def tS (K : PySem.W.Frag) (f : Ev → Option Out) : TS := fun D σ H => ∃ Rf G ρ F o, SR K Rf G ρ F σ H ∧ f ρ = some o ∧ OutOk K Rf G F D o
abbrev CS (X : Cx) (Φ : Fns) (bf : Nat → Option Nat) (M : Nat) (st : Stmt) (s : S) : Prop := PS X st (tS X.K (evS Φ bf M s))
abbrev CSs (X : Cx) (Φ : Fns) (bf : Nat → Option Nat) (M : Nat) (st : List Stmt) (s : Ss) : Prop := PSs X st (tS X.K (evSs Φ bf M s))

def tG (K : PySem.W.Frag) (t : Tg) : TG := fun v σ H Q => ∃ Rf G ρ F d ρ', SR K Rf G ρ F σ H ∧ Rp K F v d ∧ t.bind d ρ = some ρ' ∧ ∀ σ', σ'.length = σ.length → (∀ i, i ∉ t.ixs → σ'[i]? = σ[i]?) → SR K Rf G ρ' F σ' H → Q σ' H
abbrev CG (X : Cx) (e : Expr) (t : Tg) : Prop := PG X e (tG X.K t)
section
variable {X : Cx} {pos : Pos} {e1 e2 e3 e4 : Expr} {t1 t2 t3 t4 : Tg} {k : Nat}
theorem cg_n (i : Nat) {x : Str} (hN : X.N.Nodup) (hi : X.N[i]? = some x) (hx : Loc X.env.scope x) (hf : X.fn x = true ∨ X.env.scope.names.lookup x = some .local := by first | exact .inl rfl | exact .inr rfl | assumption) : CG X (.Name x pos) (.n i) := by
  refine PG.imp (pg_name (i := i) hN hi hx hf) fun v σ H Q h => ?_
  obtain ⟨Rf, G, ρ, F, d, ρ', R, q, e, k⟩ := h
  exact k _ (by rw [List.length_set]) (fun j hj => by rw [List.getElem?_set_ne]; intro z; exact hj (by simp [Tg.ixs, z])) (R.asg e q)
theorem rp_tup2 {K : PySem.W.Frag} {F H : Hp} {v : V} {x y : PyData} (s : Same F H) (q : Rp K F v (.tuple [x, y])) : ∃ a u w, v = .ref a ∧ SqT K H a [u, w] ∧ Rp K F u x ∧ Rp K F w y := by
  cases q with
  | tup h _ r =>
    cases r with
    | cons a r => cases r with
      | cons b r => cases r; exact ⟨_, _, _, rfl, SqT.of (s _ _ h), a, b⟩
theorem cg_t (hc : X.calm = true) (h1 : CG X e1 t1) (h2 : CG X e2 t2)
    (s1 : (assignEach [e1, e2] X.env).map (·.2) = assign e1 X.env :: (assignEach [e2] X.env).map (·.2) := by rfl) (s2 : (assignEach [e2] X.env).map (·.2) = assign e2 X.env :: (assignEach [] X.env).map (·.2) := by rfl)
    (hn : (assignEach [e1, e2] X.env).length = 2 := by rfl) (hst : (assignEach [e1, e2] X.env).findIdx? (·.1) = none := by rfl) : CG X (.Tuple [e1, e2] k pos) (.t t1 t2) := by
  refine PG.imp (pg_tup (n := 2) hc (pgs_cons h1 (pgs_cons h2 pgs_nil s2) s1) hn hst) fun v σ H Q h => ?_
  obtain ⟨Rf, G, ρ, F, d, ρ', R, q, e, kk⟩ := h
  simp only [Tg.bind] at e
  split at e
  · rename_i x y
    simp only [Option.bind_eq_some_iff] at e
    obtain ⟨ρ1, e1, e2⟩ := e
    obtain ⟨a, u, w, rfl, hq, q1, q2⟩ := rp_tup2 R.fz q
    refine ⟨a, [u, w], rfl, hq, rfl, u, [w], rfl, Rf, G, ρ, F, x, ρ1, R, q1, e1, fun σ1 l1 g1 R1 => ?_⟩
    refine ⟨w, [], rfl, Rf, G, ρ1, F, y, ρ', R1, q2, e2, fun σ2 l2 g2 R2 => ⟨rfl, ?_⟩⟩
    exact kk σ2 (l2.trans l1) (fun i hi => by
      simp only [Tg.ixs, List.mem_append, not_or] at hi
      rw [g2 i hi.2, g1 i hi.1]) R2
  · cases e
theorem rp_tup3 {K : PySem.W.Frag} {F H : Hp} {v : V} {x y z : PyData} (s : Same F H) (q : Rp K F v (.tuple [x, y, z])) : ∃ a u w t, v = .ref a ∧ SqT K H a [u, w, t] ∧ Rp K F u x ∧ Rp K F w y ∧ Rp K F t z := by
  cases q with
  | tup h _ r =>
    cases r with
    | cons a r => cases r with
      | cons b r => cases r with
        | cons c r => cases r; exact ⟨_, _, _, _, rfl, SqT.of (s _ _ h), a, b, c⟩
theorem cg_t3 (hc : X.calm = true) (h1 : CG X e1 t1) (h2 : CG X e2 t2) (h3 : CG X e3 t3)
    (s1 : (assignEach [e1, e2, e3] X.env).map (·.2) = assign e1 X.env :: (assignEach [e2, e3] X.env).map (·.2) := by rfl) (s2 : (assignEach [e2, e3] X.env).map (·.2) = assign e2 X.env :: (assignEach [e3] X.env).map (·.2) := by rfl) (s3 : (assignEach [e3] X.env).map (·.2) = assign e3 X.env :: (assignEach [] X.env).map (·.2) := by rfl)
    (hn : (assignEach [e1, e2, e3] X.env).length = 3 := by rfl) (hst : (assignEach [e1, e2, e3] X.env).findIdx? (·.1) = none := by rfl) : CG X (.Tuple [e1, e2, e3] k pos) (.t3 t1 t2 t3) := by
  refine PG.imp (pg_tup (n := 3) hc (pgs_cons h1 (pgs_cons h2 (pgs_cons h3 pgs_nil s3) s2) s1) hn hst) fun v σ H Q h => ?_
  obtain ⟨Rf, G, ρ, F, d, ρ', R, q, e, kk⟩ := h
  simp only [Tg.bind] at e
  split at e
  · rename_i x y z
    simp only [Option.bind_eq_some_iff] at e
    obtain ⟨ρ1, e1, ρ2, e2, e3⟩ := e
    obtain ⟨a, u, w, t, rfl, hq, q1, q2, q3⟩ := rp_tup3 R.fz q
    refine ⟨a, [u, w, t], rfl, hq, rfl, u, [w, t], rfl, Rf, G, ρ, F, x, ρ1, R, q1, e1, fun σ1 l1 g1 R1 => ?_⟩
    refine ⟨w, [t], rfl, Rf, G, ρ1, F, y, ρ2, R1, q2, e2, fun σ2 l2 g2 R2 => ?_⟩
    refine ⟨t, [], rfl, Rf, G, ρ2, F, z, ρ', R2, q3, e3, fun σ3 l3 g3 R3 => ⟨rfl, ?_⟩⟩
    exact kk σ3 (l3.trans (l2.trans l1)) (fun i hi => by
      simp only [Tg.ixs, List.mem_append, not_or] at hi
      rw [g3 i hi.2, g2 i hi.1.2, g1 i hi.1.1]) R3
  · cases e
end

section
variable {X : Cx} {Φ : Fns} {bf : Nat → Option Nat} {M : Nat} {e c : Expr} {x y : Z.X} {st : Stmt} {rest a b : List Stmt} {s : S} {ss s1 s2 : Ss} {pos : Pos}
theorem cs_nil : CSs X Φ bf M [] .nil := by
  refine PSs.imp pss_nil fun D σ H h => ?_
  obtain ⟨Rf, G, ρ, F, o, R, e, k⟩ := h
  simp only [evSs, Option.some.injEq] at e
  subst e
  exact k σ F H R (Same.refl _)
theorem cs_cons (h1 : CS X Φ bf M st s) (h2 : CSs X Φ bf M rest ss) : CSs X Φ bf M (st :: rest) (.cons s ss) := by
  refine PSs.imp (pss_cons h1 h2) fun D σ H h => ?_
  obtain ⟨Rf, G, ρ, F, o, R, e, k⟩ := h
  simp only [evSs, Option.bind_eq_some_iff] at e
  obtain ⟨o1, e1, e2⟩ := e
  refine ⟨Rf, G, ρ, F, o1, R, e1, ?_⟩
  cases o1 with
  | nx ρ1 => exact fun σ1 F1 H1 R1 s1 => ⟨Rf, G, ρ1, F1, o, R1, e2, k.mono s1⟩
  | bk ρ1 => simp only [Option.some.injEq] at e2; subst e2; exact k
  | ct ρ1 => simp only [Option.some.injEq] at e2; subst e2; exact k
  | rt d ρ1 => simp only [Option.some.injEq] at e2; subst e2; exact k
/-- name = value, by the value's reading -/
theorem redSet {K : PySem.W.Frag} {i : Nat} {D : Ends} {σ : St} {H : Hp} (h : tS K (evS Φ bf M (.set i x)) D σ H) : tX K (ev Φ bf x) σ H fun v H1 => D.nx (σ.set i (some v)) H1 := by
  obtain ⟨Rf, G, ρ, F, o, R, e, k⟩ := h
  simp only [evS, Option.bind_eq_some_iff] at e
  obtain ⟨⟨r, ρ1⟩, e1, ⟨s, ρ2⟩, e2, ρ3, e3, e⟩ := e
  simp only [Option.some.injEq] at e
  subst e
  refine ⟨Rf, G, ρ, F, r, ρ1, R, e1, fun v F1 H1 R1 s1 q => ?_⟩
  obtain ⟨F2, R2, s2, so⟩ := R1.stored q e2
  exact k _ F2 H1 (R2.asg e3 so) (s1.trans s2)
theorem cs_set (i : Nat) {n : Str} {pos' : Pos} (he : CE X Φ bf e x) (hN : X.N.Nodup) (hi : X.N[i]? = some n) (hx : Loc X.env.scope n) (hs : swapsWith e (some (.Name n pos')) pos.line X.env = pure false := by rfl) (hf : X.fn n = true ∨ X.env.scope.names.lookup n = some .local := by first | exact .inl rfl | exact .inr rfl | assumption) :
    CS X Φ bf M (.Assign [.Name n pos'] e pos) (.set i x) :=
  PS.imp (ps_set hN hi hx he hs hf) fun D σ H h => redSet h
theorem cs_set_by {te : TE} {i : Nat} (hp : PS X st (tAsg te (gName i))) (hr : ∀ σ H Q, tX X.K (ev Φ bf x) σ H Q → te σ H Q) : CS X Φ bf M st (.set i x) :=
  PS.imp hp fun D σ H h => hr _ _ _ (redSet h)
theorem cs_put {tg : Expr} {t : Tg} (he : CE X Φ bf e x) (hg : CG X tg t) (hs : swapsWithSole [tg] e pos.line X.env = pure false := by rfl) (hw : swappedStores [tg] e X.env = pure none := by rfl)
    (h1 : (assignEach [tg] X.env).map (·.2) = [assign tg X.env] := by rfl) : CS X Φ bf M (.Assign [tg] e pos) (.put t x) := by
  refine PS.imp (ps_asg he hg hs hw h1) fun D σ H h => ?_
  obtain ⟨Rf, G, ρ, F, o, R, e, k⟩ := h
  simp only [evS, Option.bind_eq_some_iff] at e
  obtain ⟨⟨d, ρ1⟩, e1, ρ2, e2, e⟩ := e
  simp only [Option.some.injEq] at e
  subst e
  refine tX_val R e1 fun v F1 H1 R1 s1 q => ?_
  exact ⟨Rf, G, ρ1, F1, d, ρ2, R1, q, e2, fun σ' _ _ R' => k σ' F1 H1 R' s1⟩
theorem cs_expr (he : CE X Φ bf e x) (hs : swapsWith e none pos.line X.env = pure false := by rfl) : CS X Φ bf M (.Expr e pos) (.expr x) := by
  refine PS.imp (ps_expr he hs) fun D σ H h => ?_
  obtain ⟨Rf, G, ρ, F, o, R, e, k⟩ := h
  simp only [evS, Option.bind_eq_some_iff] at e
  obtain ⟨⟨r, ρ1⟩, e1, e⟩ := e
  simp only [Option.some.injEq] at e
  subst e
  exact ⟨Rf, G, ρ, F, r, ρ1, R, e1, fun v F1 H1 R1 s1 q => k σ F1 H1 R1 s1⟩
theorem cs_ret (he : CE X Φ bf e x) : CS X Φ bf M (.Return (some e) pos) (.ret x) := by
  refine PS.imp (ps_ret he) fun D σ H h => ?_
  obtain ⟨Rf, G, ρ, F, o, R, e, k⟩ := h
  simp only [evS, Option.bind_eq_some_iff] at e
  obtain ⟨⟨d, ρ1⟩, e1, e⟩ := e
  simp only [Option.some.injEq] at e
  subst e
  exact tX_val R e1 fun v F1 H1 R1 s1 q => k v σ F1 H1 R1 s1 q
theorem cs_ite (hc : CT X Φ bf c x) (ha : CSs X Φ bf M a s1) (hb : CSs X Φ bf M b s2) : CS X Φ bf M (.If c a b pos) (.ite x s1 s2) := by
  refine PS.imp (ps_if hc ha hb) fun D σ H h => ?_
  obtain ⟨Rf, G, ρ, F, o, R, e, k⟩ := h
  simp only [evS, Option.bind_eq_some_iff] at e
  obtain ⟨⟨p, ρ1⟩, e1, e⟩ := e
  refine ⟨Rf, G, ρ, F, p, ρ1, R, e1, fun F1 H1 R1 s1 => ?_⟩
  cases p with
  | true => simp only [if_true] at e ⊢; exact ⟨Rf, G, ρ1, F1, o, R1, e, k.mono s1⟩
  | false => simp only [Bool.false_eq_true, if_false] at e ⊢; exact ⟨Rf, G, ρ1, F1, o, R1, e, k.mono s1⟩
theorem cs_pass : CS X Φ bf M (.Pass pos) .pass := by
  refine PS.imp ps_pass fun D σ H h => ?_
  obtain ⟨Rf, G, ρ, F, o, R, e, k⟩ := h
  simp only [evS, Option.some.injEq] at e
  subst e
  exact k σ F H R (Same.refl _)
theorem cs_brk : CS X Φ bf M (.Break pos) .brk := by
  refine PS.imp ps_break fun D σ H h => ?_
  obtain ⟨Rf, G, ρ, F, o, R, e, k⟩ := h
  simp only [evS, Option.some.injEq] at e
  subst e
  exact k σ F H R (Same.refl _)
theorem cs_cnt : CS X Φ bf M (.Continue pos) .cnt := by
  refine PS.imp ps_continue fun D σ H h => ?_
  obtain ⟨Rf, G, ρ, F, o, R, e, k⟩ := h
  simp only [evS, Option.some.injEq] at e
  subst e
  exact k σ F H R (Same.refl _)
/-- what is never reached -/
theorem cs_stuck : CS X Φ bf M st .stuck := by
  refine PS.imp ps_never fun D σ H h => ?_
  obtain ⟨Rf, G, ρ, F, o, R, e, k⟩ := h
  simp only [evS] at e
  cases e
theorem cs_whl (hp : PassesOwn (model X.prog X.w) X.A X.env X.xe) (hc : CT X Φ bf c x) (hb : CSs X Φ bf M b ss) : CS X Φ bf M (.While c b [] pos) (.whl x ss) := by
  refine PS.imp (ps_while hp hc hb) fun D σ H h => ?_
  obtain ⟨Rf, G, ρ, F, o, R, e, k⟩ := h
  simp only [evS] at e
  refine ⟨fun m σ H => ∃ ρ F1, SR X.K Rf G ρ F1 σ H ∧ Same F F1 ∧ whLoop (truth (ev Φ bf x)) (evSs Φ bf M ss) m ρ = some o, ⟨M, ρ, F, R, Same.refl _, e⟩, ?_⟩
  rintro m σ H ⟨ρ, F1, R, s1, e⟩
  cases m with
  | zero => simp only [whLoop] at e; cases e
  | succ m =>
    simp only [whLoop, Option.bind_eq_some_iff] at e
    obtain ⟨⟨p, ρ1⟩, e1, e⟩ := e
    refine ⟨Rf, G, ρ, F1, p, ρ1, R, e1, fun F2 H1 R1 s2 => ?_⟩
    cases p with
    | false =>
      simp only [Bool.false_eq_true, if_false, Option.some.injEq] at e ⊢
      subst e
      exact k σ F2 H1 R1 (s1.trans s2)
    | true =>
      simp only [if_true, Option.bind_eq_some_iff] at e ⊢
      obtain ⟨o1, e2, e⟩ := e
      refine ⟨fun σ' H' => ∃ ρ F1, SR X.K Rf G ρ F1 σ' H' ∧ Same F F1 ∧ whLoop (truth (ev Φ bf x)) (evSs Φ bf M ss) m ρ = some o, fun σ' H' q => ⟨m, Nat.lt_succ_self m, q⟩, Rf, G, ρ1, F2, o1, R1, e2, ?_⟩
      cases o1 with
      | nx ρ2 => exact fun σ' F3 H3 R3 s3 => ⟨ρ2, F3, R3, s1.trans (s2.trans s3), e⟩
      | ct ρ2 => exact fun σ' F3 H3 R3 s3 => ⟨ρ2, F3, R3, s1.trans (s2.trans s3), e⟩
      | bk ρ2 =>
        simp only [Option.some.injEq] at e
        subst e
        exact fun σ' F3 H3 R3 s3 => k σ' F3 H3 R3 (s1.trans (s2.trans s3))
      | rt d ρ2 =>
        simp only [Option.some.injEq] at e
        subst e
        exact fun v σ' F3 H3 R3 s3 q => k v σ' F3 H3 R3 (s1.trans (s2.trans s3)) q
end
end L2.Z

namespace L2.Z
open PySem PySem.Spec PyProof.Rows

def pin (Rf : Nat → Option Addr) (j : Nat) (a : Addr) : Nat → Option Addr := fun i => if i = j then some a else Rf i
theorem pin_self {Rf : Nat → Option Addr} {j : Nat} {a : Addr} : pin Rf j a j = some a := by unfold pin; rw [if_pos rfl]
theorem pin_ne {Rf : Nat → Option Addr} {j k : Nat} {a : Addr} (h : k ≠ j) : pin Rf j a k = Rf k := by unfold pin; rw [if_neg h]
def Slot.back (d : PyData) : Slot → Slot
  | .ref _ => .ref d
  | _ => .own d
section
variable {K : PySem.W.Frag} {Rf Rf' : Nat → Option Addr} {G F F' H H' : Hp} {ρ ρ' : Ev} {σ σ' : St} {a p : Addr} {d c : PyData} {v : V} {r : Res} {j i : Nat} {s : Slot}
/-- one container is locked; how it is unlocked -/
theorem SR.lock1 (R : SR K Rf G ρ F σ H) {b : Bool} (h : ρ[j]? = some s) (hm : s.isMut = true) (hs : s.get = some d) :
    ∃ a o, SR K (pin Rf j a) (upd G a o) (ρ.set j (.lok b d)) F σ H ∧ σ[j]? = some (some (.ref a)) ∧ G a = none ∧ MutAt K F H a d ∧ H a = some o ∧
      ∀ G0 ρ' F' σ' H' b' d' s', G0 a = none → SR K (pin Rf j a) (upd G0 a o) ρ' F' σ' H' → ρ'[j]? = some (.lok b' d') → s' = s.back d' → SR K Rf G0 (ρ'.set j s') F' σ' H' := by
  have hj : j < ρ.length := (List.getElem?_eq_some_iff.mp h).1
  obtain ⟨a, ea, na, m, qr⟩ : ∃ a, σ[j]? = some (some (.ref a)) ∧ F a = none ∧ MutAt K F H a d ∧ (∀ d', s = .ref d' → Rf j = some a) := by
    have q := R.sl j s h
    cases s with
    | own d' => cases hs; obtain ⟨a, e, n, m⟩ := q; exact ⟨a, e, n, m, fun _ z => by cases z⟩
    | ref d' => cases hs; obtain ⟨a, e, n, m, q⟩ := q; exact ⟨a, e, n, m, fun _ _ => q⟩
    | _ => cases hm
  obtain ⟨o, eo⟩ := m.there
  have mj : MutI ρ j := ⟨s, h, hm⟩
  have ga : G a = none := R.gm j a mj ea
  -- no other slot's pin is a
  have nrf : ∀ k, k ≠ j → Rf k ≠ some a := fun k hk e => by
    obtain ⟨z1, t, z2, z3⟩ := R.rf k a e
    cases t with
    | ref d' => exact hk (R.dis k j a ⟨_, z2, rfl⟩ mj z1 ea)
    | lok b d' =>
      obtain ⟨a', o', e1, _, g, _⟩ := R.sl k _ z2
      rw [z1] at e1; cases e1
      rw [ga] at g; cases g
    | _ => cases z3
  have mutc : ∀ k, MutI (ρ.set j (.lok b d)) k → k ≠ j ∧ MutI ρ k := fun k ⟨u, eu, mu⟩ => by
    rw [getSet hj] at eu
    split at eu
    · cases eu; cases mu
    · rename_i z; exact ⟨z, u, eu, mu⟩
  refine ⟨a, o, ⟨by rw [List.length_set]; exact R.len, R.fz, fun k t et => ?_, fun k l x mk ml => R.dis k l x (mutc k mk).2 (mutc l ml).2, fun k x mk ek => ?_, fun x y e => ?_, fun k x e => ?_⟩, ea, ga, m, eo, ?_⟩
  · rw [getSet hj] at et
    split at et
    · rename_i z
      cases et
      subst z
      exact ⟨a, o, ea, pin_self, upd_same, m⟩
    · rename_i z
      have q := R.sl k t et
      cases t with
      | ref d' => obtain ⟨a', e, n, m', q⟩ := q; exact ⟨a', e, n, m', (pin_ne z).trans q⟩
      | lok b' d' =>
        obtain ⟨a', o', e, q, g, m'⟩ := q
        exact ⟨a', o', e, (pin_ne z).trans q, by rw [upd_ne (fun z => by rw [z, ga] at g; cases g)]; exact g, m'⟩
      | _ => exact q
  · obtain ⟨hk, mk⟩ := mutc k mk
    rw [upd_ne (fun z => hk (R.dis k j a mk mj (by rw [ek, z]) ea))]
    exact R.gm k x mk ek
  · by_cases hx : x = a
    · subst hx; rw [upd_same] at e; cases e; exact ⟨eo, na⟩
    · rw [upd_ne hx] at e; exact R.gs x y e
  · by_cases hk : k = j
    · subst hk
      rw [pin_self] at e
      cases e
      exact ⟨ea, .lok b d, by rw [getSet hj, if_pos rfl], rfl⟩
    · rw [pin_ne hk] at e
      obtain ⟨z1, t, z2, z3⟩ := R.rf k x e
      exact ⟨z1, t, by rw [getSet hj, if_neg hk]; exact z2, z3⟩
  · intro G0 ρ' F' σ' H' b' d' s' ga R' hl es
    have hj' : j < ρ'.length := (List.getElem?_eq_some_iff.mp hl).1
    obtain ⟨a', o', e1, e2, e3, m'⟩ := R'.sl j _ hl
    rw [pin_self] at e2
    cases e2
    have gs' := R'.gs a o upd_same
    have gle : ∀ x y, G0 x = some y → upd G0 a o x = some y := fun x y e => by rw [upd_ne (fun z => by rw [z, ga] at e; cases e)]; exact e
    have nm : ∀ k, MutI ρ' k → σ'[k]? ≠ some (some (.ref a)) := fun k mk ek => by
      have q := R'.gm k a mk ek
      rw [upd_same] at q; cases q
    have sm' : s'.isMut = true := by subst es; cases s <;> rfl
    have mutc' : ∀ k, MutI (ρ'.set j s') k → k = j ∨ MutI ρ' k := fun k ⟨u, eu, mu⟩ => by
      rw [getSet hj'] at eu
      split at eu
      · rename_i z; exact .inl z
      · exact .inr ⟨u, eu, mu⟩
    refine ⟨by rw [List.length_set]; exact R'.len, R'.fz, fun k t et => ?_, fun k l x mk ml ek el => ?_, fun k x mk ek => ?_, fun x y e => R'.gs x y (gle x y e), fun k x e => ?_⟩
    · rw [getSet hj'] at et
      split at et
      · rename_i z
        cases et
        subst z
        subst es
        cases s with
        | own d0 => exact ⟨a, e1, gs'.2, m'⟩
        | ref d0 => exact ⟨a, e1, gs'.2, m', qr d0 rfl⟩
        | _ => cases hm
      · rename_i z
        have q := R'.sl k t et
        cases t with
        | ref d0 => obtain ⟨x, e, n, m0, q⟩ := q; rw [pin_ne z] at q; exact ⟨x, e, n, m0, q⟩
        | lok b0 d0 =>
          obtain ⟨x, y, e, q, g, m0⟩ := q
          rw [pin_ne z] at q
          rw [upd_ne (fun w => nrf k z (by rw [q, w]))] at g
          exact ⟨x, y, e, q, g, m0⟩
        | _ => exact q
    · rcases mutc' k mk with hk | mk1
      · rcases mutc' l ml with hl | ml1
        · exact hk.trans hl.symm
        · subst hk; rw [e1] at ek; cases ek; exact (nm l ml1 el).elim
      · rcases mutc' l ml with hl | ml1
        · subst hl; rw [e1] at el; cases el; exact (nm k mk1 ek).elim
        · exact R'.dis k l x mk1 ml1 ek el
    · rcases mutc' k mk with hk | mk1
      · subst hk; rw [e1] at ek; cases ek; exact ga
      · have q := R'.gm k x mk1 ek
        cases g : G0 x with
        | none => rfl
        | some y => rw [gle x y g] at q; cases q
    · by_cases hk : k = j
      · subst hk
        obtain ⟨z1, t, z2, z3⟩ := R.rf k x e
        rw [h] at z2
        cases z2
        cases s with
        | ref d0 =>
          rw [qr d0 rfl] at e
          cases e
          subst es
          exact ⟨e1, _, by rw [getSet hj', if_pos rfl], rfl⟩
        | own d0 => cases z3
        | _ => cases hm
      · obtain ⟨z1, t, z2, z3⟩ := R'.rf k x ((pin_ne hk).trans e)
        exact ⟨z1, t, by rw [getSet hj', if_neg hk]; exact z2, z3⟩

/-- an operand that will stay -/
def Keep (K : PySem.W.Frag) (F G : Hp) (v : V) (d : PyData) : Prop := Rp K F v d ∨ ∃ a o, v = .ref a ∧ G a = some o ∧ ∀ F2 H2, Same F F2 → H2 a = some o → MutAt K F2 H2 a d
inductive Keeps (K : PySem.W.Frag) (F G : Hp) : List V → List PyData → Prop
  | nil : Keeps K F G [] []
  | cons {v : V} {vs : List V} {d : PyData} {ds : List PyData} : Keep K F G v d → Keeps K F G vs ds → Keeps K F G (v :: vs) (d :: ds)
theorem Keep.gmono {G' : Hp} (h : ∀ b x, G b = some x → G' b = some x) (k : Keep K F G v d) : Keep K F G' v d := by
  rcases k with k | ⟨a, o, e, g, q⟩
  · exact .inl k
  · exact .inr ⟨a, o, e, h a o g, q⟩
theorem Keeps.gmono {G' : Hp} (h : ∀ b x, G b = some x → G' b = some x) : ∀ {vs : List V} {ds : List PyData}, Keeps K F G vs ds → Keeps K F G' vs ds
  | _, _, .nil => .nil
  | _, _, .cons a b => .cons (a.gmono h) (Keeps.gmono h b)
theorem Keep.rq (R : SR K Rf G ρ F' σ H) (s : Same F F') (k : Keep K F G v d) : Rq K F' H v d := by
  rcases k with k | ⟨a, o, rfl, g, q⟩
  · exact (k.mono s).rq R.fz
  · exact (q F' H s (R.gs a o g).1).rq
theorem Keeps.rq (R : SR K Rf G ρ F' σ H) (s : Same F F') : ∀ {vs : List V} {ds : List PyData}, Keeps K F G vs ds → RqA K F' H vs ds
  | _, _, .nil => .nil
  | _, _, .cons a b => .cons (a.rq R s) (Keeps.rq R s b)
def updL (G : Hp) : List (Addr × HO) → Hp
  | [] => G
  | p :: l => updL (upd G p.1 p.2) l
theorem updL_out {G : Hp} {b : Addr} : ∀ {L : List (Addr × HO)}, (∀ p ∈ L, p.1 ≠ b) → updL G L b = G b
  | [], _ => rfl
  | p :: l, h => by
    unfold updL
    rw [updL_out (fun q hq => h q (List.mem_cons_of_mem _ hq)), upd_ne (Ne.symm (h p List.mem_cons_self))]
theorem upd_comm {G : Hp} {a b : Addr} {x y : HO} (h : a ≠ b) : upd (upd G a x) b y = upd (upd G b y) a x := by
  funext c
  by_cases h1 : c = a
  · subst h1; rw [upd_ne h, upd_same, upd_same]
  · rw [upd_ne (a := a) h1]
    by_cases h2 : c = b
    · subst h2; rw [upd_same, upd_same]
    · rw [upd_ne h2, upd_ne h2, upd_ne h1]
theorem updL_comm {D : Addr} {o : HO} : ∀ {L : List (Addr × HO)} {G : Hp}, (∀ p ∈ L, p.1 ≠ D) → updL (upd G D o) L = upd (updL G L) D o
  | [], _, _ => rfl
  | p :: l, G, h => by
    unfold updL
    rw [upd_comm (Ne.symm (h p List.mem_cons_self)), updL_comm (fun q hq => h q (List.mem_cons_of_mem _ hq))]
theorem SR.lockR (R : SR K Rf G ρ F σ H) (o : OR K F σ v r) (e : r.get ρ = some d) :
    ∃ Rf' L, SR K Rf' (updL G L) (Z.lockR ρ r) F σ H ∧ Keep K F (updL G L) v d ∧ (∀ p ∈ L, G p.1 = none ∧ ∃ x, H p.1 = some x) ∧
      ∀ G0 ρ' F' σ' H' ρ'', (∀ p ∈ L, G0 p.1 = none) → SR K Rf' (updL G0 L) ρ' F' σ' H' → unlockR ρ r ρ' = some ρ'' → SR K Rf G0 ρ'' F' σ' H' := by
  have same : ∀ {d : PyData} {f : Ev → Option Ev}, (∀ ρ', f ρ' = some ρ') → ∀ {ρl}, ρl = ρ → Keep K F G v d → ∃ Rf' L, SR K Rf' (updL G L) ρl F σ H ∧ Keep K F (updL G L) v d ∧ (∀ p ∈ L, G p.1 = none ∧ ∃ x, H p.1 = some x) ∧
      ∀ G0 ρ' F' σ' H' ρ'', (∀ p ∈ L, G0 p.1 = none) → SR K Rf' (updL G0 L) ρ' F' σ' H' → f ρ' = some ρ'' → SR K Rf G0 ρ'' F' σ' H' := fun {d f} hf {ρl} hl hk => by
    subst hl
    exact ⟨Rf, [], R, hk, fun _ h => by simp at h, fun G0 ρ' F' σ' H' ρ'' _ R' e => by rw [hf] at e; cases e; exact R'⟩
  cases r with
  | val d' => cases e; exact same (f := unlockR ρ (.val d)) (fun _ => rfl) rfl (.inl o)
  | new d' => cases e; exact same (f := unlockR ρ (.new d)) (fun _ => rfl) rfl (.inl o)
  | slot j =>
    simp only [Res.get, Option.bind_eq_some_iff] at e
    obtain ⟨s, e1, e2⟩ := e
    have hv : σ[j]? = some (some v) := o
    have q := R.sl j s e1
    have mu : ∀ b, s.isMut = true → (∀ ρ', unlockR ρ (.slot j) ρ' = (match ρ'[j]? with | some (.lok _ d) => some (ρ'.set j (s.back d)) | _ => none)) → Z.lockR ρ (.slot j) = ρ.set j (.lok b d) →
        ∃ Rf' L, SR K Rf' (updL G L) (Z.lockR ρ (.slot j)) F σ H ∧ Keep K F (updL G L) v d ∧ (∀ p ∈ L, G p.1 = none ∧ ∃ x, H p.1 = some x) ∧
      ∀ G0 ρ' F' σ' H' ρ'', (∀ p ∈ L, G0 p.1 = none) → SR K Rf' (updL G0 L) ρ' F' σ' H' → unlockR ρ (.slot j) ρ' = some ρ'' → SR K Rf G0 ρ'' F' σ' H' := fun b hm hu hl => by
      obtain ⟨a, o', R', ea, ga, m, ho, un⟩ := R.lock1 (b := b) e1 hm e2
      rw [hv] at ea; cases ea
      refine ⟨pin Rf j a, [(a, o')], by rw [hl]; exact R', .inr ⟨a, o', rfl, upd_same, fun F2 H2 s2 h2 => m.mono (h2.trans ho.symm) s2⟩, fun p hp => ?_, fun G0 ρ' F' σ' H' ρ'' hG R2 eu => ?_⟩
      · obtain rfl : p = (a, o') := by simpa using hp
        exact ⟨ga, o', ho⟩
      · rw [hu] at eu
        split at eu
        · rename_i b2 d2 h2
          cases eu
          exact un G0 ρ' F' σ' H' b2 d2 _ (hG (a, o') (by simp)) R2 h2 rfl
        · cases eu
    cases s with
    | un => cases e2
    | dat d' =>
      cases e2
      obtain ⟨x, ex, rx⟩ := q
      rw [hv] at ex; cases ex
      exact same (f := unlockR ρ (.slot j)) (fun ρ' => by simp only [unlockR, e1]) (by simp only [Z.lockR, e1]) (.inl rx)
    | lok b d' =>
      cases e2
      obtain ⟨a, o', ex, _, g, m⟩ := q
      rw [hv] at ex; cases ex
      refine same (f := unlockR ρ (.slot j)) (fun ρ' => by simp only [unlockR, e1]) (by simp only [Z.lockR, e1]) (.inr ⟨a, o', rfl, g, fun F2 H2 s2 h2 => m.mono (h2.trans (R.gs a o' g).1.symm) s2⟩)
    | own d' => cases e2; exact mu false rfl (fun ρ' => by simp only [unlockR, e1]; rfl) (by simp only [Z.lockR, e1])
    | ref d' => cases e2; exact mu true rfl (fun ρ' => by simp only [unlockR, e1]; rfl) (by simp only [Z.lockR, e1])
theorem lockR_get (R : SR K Rf G ρ F σ H) {r r' : Res} (e : r'.get ρ = some d) : r'.get (Z.lockR ρ r) = some d := by
  cases r with
  | slot j =>
    unfold Z.lockR
    have key : ∀ s b d0, ρ[j]? = some s → s.get = some d0 → r'.get (ρ.set j (.lok b d0)) = some d := fun s b d0 hs hg => by
      have hj : j < ρ.length := (List.getElem?_eq_some_iff.mp hs).1
      cases r' with
      | slot k =>
        simp only [Res.get, Option.bind_eq_some_iff] at e ⊢
        obtain ⟨t, e1, e2⟩ := e
        by_cases hk : k = j
        · subst hk
          rw [hs] at e1; cases e1
          exact ⟨.lok b d0, by rw [getSet hj, if_pos rfl], hg.symm.trans e2⟩
        · exact ⟨t, by rw [getSet hj, if_neg hk]; exact e1, e2⟩
      | _ => exact e
    simp only
    split
    · rename_i d0 h; exact key _ _ _ h rfl
    · rename_i d0 h; exact key _ _ _ h rfl
    · exact e
  | _ => exact e
theorem lockR_all (R : SR K Rf G ρ F σ H) {r : Res} : ∀ {rs : List Res} {ds : List PyData}, getAll ρ rs = some ds → getAll (Z.lockR ρ r) rs = some ds
  | [], _, e => e
  | r' :: rs, _, e => by
    simp only [getAll, Option.bind_eq_some_iff] at e ⊢
    obtain ⟨d, e1, ds, e2, e3⟩ := e
    exact ⟨d, lockR_get R e1, ds, lockR_all R e2, e3⟩
theorem SR.locks : ∀ {vs : List V} {rs : List Res} {ds : List PyData} {Rf : Nat → Option Addr} {G : Hp} {ρ : Ev}, SR K Rf G ρ F σ H → ORs K F σ vs rs → getAll ρ rs = some ds →
    ∃ Rf' L, SR K Rf' (updL G L) (lockAll rs ρ) F σ H ∧ Keeps K F (updL G L) vs ds ∧ (∀ p ∈ L, G p.1 = none ∧ ∃ x, H p.1 = some x) ∧
      ∀ G0 ρ' F' σ' H' ρ'', (∀ p ∈ L, G0 p.1 = none) → SR K Rf' (updL G0 L) ρ' F' σ' H' → unlockAll rs ρ ρ' = some ρ'' → SR K Rf G0 ρ'' F' σ' H'
  | _, _, _, Rf, G, ρ, R, .nil, e => by
    simp only [getAll, Option.some.injEq] at e
    subst e
    exact ⟨Rf, [], R, .nil, fun _ h => by simp at h, fun G0 ρ' F' σ' H' ρ'' _ R' e => by simp only [unlockAll, Option.some.injEq] at e; subst e; exact R'⟩
  | _, _, _, Rf, G, ρ, R, .cons (r := r) (rs := rs) o os, e => by
    simp only [getAll, Option.bind_eq_some_iff] at e
    obtain ⟨d, e1, ds, e2, e3⟩ := e
    simp only [Option.some.injEq] at e3
    subst e3
    obtain ⟨Rf1, L1, R1, k1, g1, u1⟩ := R.lockR o e1
    obtain ⟨Rf2, L2, R2, k2, g2, u2⟩ := SR.locks R1 os (lockR_all R e2)
    have app : ∀ {G : Hp} {l1 l2 : List (Addr × HO)}, updL G (l1 ++ l2) = updL (updL G l1) l2 := fun {G l1 l2} => by
      induction l1 generalizing G with
      | nil => rfl
      | cons p l ih => exact ih
    have sep : ∀ p ∈ L2, ∀ q ∈ L1, q.1 ≠ p.1 := fun p hp q hq z => by
      have n := (g2 p hp).1
      have there : ∀ {l : List (Addr × HO)} {G : Hp}, q ∈ l → ∃ x, updL G l q.1 = some x := by
        intro l
        induction l with
        | nil => intro G h; simp at h
        | cons y l ih =>
          intro G h
          unfold updL
          by_cases hl : q ∈ l
          · exact ih hl
          · have hy : q = y := by simpa [hl] using h
            subst hy
            by_cases hx : ∃ w ∈ l, w.1 = q.1
            · obtain ⟨w, hw, ew⟩ := hx
              have gen : ∀ {l : List (Addr × HO)} {G : Hp} {b : Addr}, (∃ x, G b = some x) → ∃ x, updL G l b = some x := by
                intro l
                induction l with
                | nil => intro G b h; exact h
                | cons y l ih =>
                  intro G b h
                  unfold updL
                  refine ih ?_
                  by_cases hb : b = y.1
                  · exact ⟨y.2, by rw [hb, upd_same]⟩
                  · rw [upd_ne hb]; exact h
              exact gen ⟨_, upd_same⟩
            · refine ⟨q.2, ?_⟩
              rw [updL_out (fun w hw e => hx ⟨w, hw, e⟩), upd_same]
      obtain ⟨x, hx⟩ := there (G := G) hq
      rw [z, n] at hx
      cases hx
    refine ⟨Rf2, L1 ++ L2, by rw [app]; exact R2, ?_, fun p hp => ?_, fun G0 ρ' F' σ' H' ρ'' hG R' e => ?_⟩
    · rw [app]
      refine .cons (k1.gmono fun b x e => ?_) k2
      rw [updL_out (fun p hp z => by rw [← z, (g2 p hp).1] at e; cases e)]
      exact e
    · rcases List.mem_append.mp hp with hp | hp
      · exact g1 p hp
      · obtain ⟨n, x, hx⟩ := g2 p hp
        rw [updL_out (fun q hq => sep p hp q hq)] at n
        exact ⟨n, x, hx⟩
    · simp only [unlockAll, Option.bind_eq_some_iff] at e
      obtain ⟨ρm, e4, e5⟩ := e
      rw [app] at R'
      refine u1 _ _ _ _ _ _ (fun p hp => hG p (List.mem_append_left _ hp)) (u2 _ _ _ _ _ _ (fun p hp => ?_) R' e4) e5
      rw [updL_out (fun q hq => sep p hp q hq)]
      exact hG p (List.mem_append_right _ hp)
end

/-- J walks the items while the operands stand -/
def JOk (K : PySem.W.Frag) (vs : List V) (ds : List PyData) (items : List PyData) (J : It) : Prop := ∀ (Rf : Nat → Option Addr) (G : Hp) (ρ : Ev) (F : Hp) (σ : St) (H : Hp), SR K Rf G ρ F σ H → RqA K F H vs ds →
  (∀ i, items.length ≤ i → J.stop i H) ∧ (∀ i d, items[i]? = some d → J.go i H ∧ ∀ x H', J.yld i H x H' → ∃ F', SR K Rf G ρ F' σ H' ∧ Same F F' ∧ Rp K F' x d)
def tI (K : PySem.W.Frag) (f : Ev → Option (List Res × Ev)) (g : List PyData → Option (List PyData)) : TI := fun σ H R => ∃ Rf G ρ F rs ρ' ds items, SR K Rf G ρ F σ H ∧ f ρ = some (rs, ρ') ∧ getAll ρ' rs = some ds ∧ g ds = some items ∧
  ∀ vs F' H' J, SR K Rf G ρ' F' σ H' → Same F F' → ORs K F' σ vs rs → JOk K vs ds items J → items.length ≤ sizeLine → R J H'
theorem PI.imp {X : Cx} {tg e : Expr} {t t' : TI} (h : PI X tg e t) (hi : ∀ σ H R, t' σ H R → t σ H R) : PI X tg e t' := ⟨fun pins s σ H R I q => h.run pins s σ H R I (hi σ H R q)⟩
abbrev CI (X : Cx) (Φ : Fns) (bf : Nat → Option Nat) (tg it : Expr) (g : List PyData → Option (List PyData)) (xs : Xs) : Prop := PI X tg it (tI X.K (evs Φ bf xs) g)

section
variable {X : Cx} {Φ : Fns} {bf : Nat → Option Nat} {M : Nat} {tg it e : Expr} {xs : Xs} {t : Tg} {g : List PyData → Option (List PyData)} {b : List Stmt} {ss : Ss} {pos : Pos}
theorem cs_for (hp : PassesOwn (model X.prog X.w) X.A X.env X.xe) (hc : X.calm = true) (hi : CI X Φ bf tg it g xs) (hg : CG X tg t) (hb : CSs X Φ bf M b ss) (hs : ∀ x, foldedSetIterable it X.env x = pure x := by intro _; rfl) :
    CS X Φ bf M (.For tg it b [] pos) (.frr t g xs ss) := by
  refine PS.imp (ps_for hp hc hi hg hb hs) fun D σ H h => ?_
  obtain ⟨Rf, G, ρ, F, o, R, e, k⟩ := h
  simp only [evS, Option.bind_eq_some_iff] at e
  obtain ⟨⟨rs, ρ1⟩, e1, ds, e2, items, e3, o1, e4, e5⟩ := e
  refine ⟨Rf, G, ρ, F, rs, ρ1, ds, items, R, e1, e2, e3, fun vs F1 H1 J R1 s1 os hJ hlen => ?_⟩
  obtain ⟨Rf2, L, R2, kp, gl, un0⟩ := SR.locks R1 os e2
  have un : ∀ ρ' F' σ' H' ρ'', SR X.K Rf2 (updL G L) ρ' F' σ' H' → unlockAll rs ρ1 ρ' = some ρ'' → SR X.K Rf G ρ'' F' σ' H' := fun ρ' F' σ' H' ρ'' a b => un0 G ρ' F' σ' H' ρ'' (fun p hp => (gl p hp).1) a b
  generalize updL G L = G2 at R2 kp un
  refine ⟨fun i m σ H => m = items.length - i ∧ i ≤ items.length ∧ ∃ ρ F2, SR X.K Rf2 G2 ρ F2 σ H ∧ Same F1 F2 ∧ frLoop t (evSs Φ bf M ss) (items.drop i) ρ = some o1, ⟨items.length, by simp, Nat.zero_le _, _, F1, R2, Same.refl _, by simpa using e4⟩, ?_⟩
  rintro i m σ H ⟨rfl, hi, ρi, F2, R3, s2, e⟩
  have rq := kp.rq R3 s2
  obtain ⟨jstop, jgo⟩ := hJ Rf2 G2 ρi F2 σ H R3 rq
  by_cases hlt : i < items.length
  · have hd : items.drop i = items[i] :: items.drop (i + 1) := List.drop_eq_getElem_cons hlt
    rw [hd] at e
    simp only [frLoop, Option.bind_eq_some_iff] at e
    obtain ⟨ρ2, eb, o2, es, e⟩ := e
    obtain ⟨go, yl⟩ := jgo i items[i] (List.getElem?_eq_getElem hlt)
    refine .inr ⟨go, fun σ' H' => ∃ ρ F2, SR X.K Rf2 G2 ρ F2 σ' H' ∧ Same F1 F2 ∧ frLoop t (evSs Φ bf M ss) (items.drop (i + 1)) ρ = some o1, fun σ' H' q => ⟨items.length - (i + 1), by omega, rfl, hlt, q⟩, fun x H' y => ?_⟩
    obtain ⟨F3, R4, s3, q⟩ := yl x H' y
    refine ⟨Rf2, G2, ρi, F3, items[i], ρ2, R4, q, eb, fun σ' _ _ R5 => ?_⟩
    refine ⟨Rf2, G2, ρ2, F3, o2, R5, es, ?_⟩
    have back : ∀ {ρ' F' σ' H' ρ''}, SR X.K Rf2 G2 ρ' F' σ' H' → unlockAll rs ρ1 ρ' = some ρ'' → SR X.K Rf G ρ'' F' σ' H' := fun a b => un _ _ _ _ _ a b
    cases o2 with
    | nx ρ3 => exact fun σ7 F7 H7 R7 s7 => ⟨ρ3, F7, R7, s2.trans (s3.trans s7), e⟩
    | ct ρ3 => exact fun σ7 F7 H7 R7 s7 => ⟨ρ3, F7, R7, s2.trans (s3.trans s7), e⟩
    | bk ρ3 =>
      simp only [Option.some.injEq] at e
      subst e
      simp only [Out.mapM, Option.bind_eq_some_iff, Option.some.injEq] at e5
      obtain ⟨ρ4, e6, rfl⟩ := e5
      exact fun σ7 F7 H7 R7 s7 => k σ7 F7 H7 (back R7 e6) (s1.trans (s2.trans (s3.trans s7)))
    | rt d ρ3 =>
      simp only [Option.some.injEq] at e
      subst e
      simp only [Out.mapM, Option.bind_eq_some_iff, Option.some.injEq] at e5
      obtain ⟨ρ4, e6, rfl⟩ := e5
      exact fun v σ7 F7 H7 R7 s7 q => k v σ7 F7 H7 (back R7 e6) (s1.trans (s2.trans (s3.trans s7))) q
  · have hi' : i = items.length := by omega
    rw [hi', List.drop_length] at e
    simp only [frLoop, Option.some.injEq] at e
    subst e
    simp only [Out.mapM, Option.bind_eq_some_iff, Option.some.injEq] at e5
    obtain ⟨ρ4, e6, rfl⟩ := e5
    refine .inl ⟨jstop i (by omega), ?_⟩
    exact k σ F2 H (un _ _ _ _ _ R3 e6) (s1.trans s2)
end

/-- a list, a tuple -/
def gSeq : List PyData → Option (List PyData)
  | [.list ds] => some ds
  | [.tuple ds] => some ds
  | _ => none
def gRange1 : List PyData → Option (List PyData)
  | [.int n] => if -(2 ^ 62) ≤ n ∧ n ≤ sizeLine then some ((List.range n.toNat).map fun i => .int (i : Nat)) else none
  | _ => none
def gRange2 : List PyData → Option (List PyData)
  | [.int a, .int n] => if n - a ≤ sizeLine ∧ (-(2 ^ 62) ≤ a ∧ a < 2 ^ 62) ∧ -(2 ^ 62) ≤ n ∧ n < 2 ^ 62 then some ((List.range (n - a).toNat).map fun i => .int (a + (i : Nat))) else none
  | _ => none
theorem SqL.uniq {K : PySem.W.Frag} {H : Hp} {a : Addr} {xs ys : List V} (h : SqL K H a xs) (h' : SqL K H a ys) (hk : ∀ o, K.lookup a = some o → H a = none) : xs = ys := by
  rcases h with (h | ⟨o, h⟩) | ⟨o, its, n, k1, _, _, d1, _, r1⟩
  · rcases h' with (h' | ⟨o', h'⟩) | ⟨o', its', n', k2, _⟩
    · rw [h] at h'; cases h'; rfl
    · rw [h] at h'; cases h'
    · rw [hk _ k2] at h; cases h
  · rcases h' with (h' | ⟨o', h'⟩) | ⟨o', its', n', k2, _⟩
    · rw [h] at h'; cases h'
    · rw [h] at h'; cases h'; rfl
    · rw [hk _ k2] at h; cases h
  · rcases h' with (h' | ⟨o', h'⟩) | ⟨o', its', n', k2, _, _, d2, _, r2⟩
    · rw [hk _ k1] at h'; cases h'
    · rw [hk _ k1] at h'; cases h'
    · rw [k1] at k2; cases k2
      rw [d1] at d2; cases d2
      exact r1.inj r2
end L2.Z

namespace L2.Z
open PySem PySem.Spec PyProof.Rows

section
variable {K : PySem.W.Frag} {Rf Rf' : Nat → Option Addr} {G F F' H H' : Hp} {ρ ρ' ρw : Ev} {σ σ' : St} {a p : Addr} {d c : PyData} {v : V} {r : Res} {j i : Nat} {s : Slot}
theorem wipe_len (σ : St) (vs : List Nat) : (wipe σ vs).length = σ.length := wipe_length σ vs
theorem wipe_get {σ : St} : ∀ {vs : List Nat} {i : Nat}, i ∉ vs → (wipe σ vs)[i]? = σ[i]? := fun {vs i} h => wipe_out h
/-- a comprehension's own slots are forgotten -/
theorem SR.wipe : ∀ {vs : List Nat} {ρw : Ev}, SR K Rf G ρ F σ H → wipeE vs ρ = some ρw →
    SR K Rf G ρw F (L2.wipe σ vs) H ∧ (∀ i, i ∉ vs → ρw[i]? = ρ[i]?) ∧ (∀ i, i ∈ vs → ∃ t, ρ[i]? = some t ∧ (t = .un ∨ ∃ d, t = .dat d)) ∧ ρw.length = ρ.length
  | [], _, R, e => by
    simp only [wipeE, Option.some.injEq] at e
    subst e
    exact ⟨R, fun _ _ => rfl, fun _ h => by simp at h, rfl⟩
  | k :: vs, ρw, R, e => by
    simp only [wipeE, Option.bind_eq_some_iff] at e
    obtain ⟨ρ1, e1, e2⟩ := e
    obtain ⟨R1, g1, o1, l1⟩ := SR.wipe R e1
    have key : ∃ t, ρ1[k]? = some t ∧ (t = .un ∨ ∃ d, t = .dat d) ∧ ρw = ρ1.set k .un := by
      split at e2
      · rename_i h; cases e2; exact ⟨_, h, .inl rfl, rfl⟩
      · rename_i d h; cases e2; exact ⟨_, h, .inr ⟨d, rfl⟩, rfl⟩
      · cases e2
    obtain ⟨t, ht, ho, rfl⟩ := key
    have hk : k < ρ1.length := (List.getElem?_eq_some_iff.mp ht).1
    have gσ : ∀ i, i ≠ k → (L2.wipe σ (k :: vs))[i]? = (L2.wipe σ vs)[i]? := fun i hi => by
      show ((L2.wipe σ vs).set k none)[i]? = _
      rw [List.getElem?_set_ne (Ne.symm hi)]
    have mutc : ∀ i, MutI (ρ1.set k .un) i → i ≠ k ∧ MutI ρ1 i := fun i ⟨u, eu, mu⟩ => by
      rw [getSet hk] at eu
      split at eu
      · cases eu; cases mu
      · rename_i z; exact ⟨z, u, eu, mu⟩
    refine ⟨⟨by rw [List.length_set, l1, wipe_length]; exact R.len, R.fz, fun i u eu => ?_, fun i l b mi ml ei el => ?_, fun i b mi ei => ?_, R.gs, fun i b eb => ?_⟩, fun i hi => ?_, fun i hi => ?_, by rw [List.length_set, l1]⟩
    · rw [getSet hk] at eu
      split at eu
      · cases eu; trivial
      · rename_i z; rw [gσ i z]; exact R1.sl i u eu
    · rw [gσ i (mutc i mi).1] at ei
      rw [gσ l (mutc l ml).1] at el
      exact R1.dis i l b (mutc i mi).2 (mutc l ml).2 ei el
    · rw [gσ i (mutc i mi).1] at ei
      exact R1.gm i b (mutc i mi).2 ei
    · obtain ⟨z1, u, z2, z3⟩ := R1.rf i b eb
      have hi : i ≠ k := fun z => by
        subst z
        rw [ht] at z2; cases z2
        rcases ho with rfl | ⟨d, rfl⟩ <;> cases z3
      exact ⟨by rw [gσ i hi]; exact z1, u, by rw [getSet hk, if_neg hi]; exact z2, z3⟩
    · simp only [List.mem_cons, not_or] at hi
      rw [getSet hk, if_neg hi.1]
      exact g1 i hi.2
    · by_cases hv : i ∈ vs
      · exact o1 i hv
      · have hik : i = k := by simpa [hv] using hi
        subst hik
        rw [g1 i hv] at ht
        exact ⟨t, ht, ho⟩
theorem backE_get {ρ₀ ρ : Ev} (hl : ρ.length = ρ₀.length) : ∀ {vs : List Nat}, (backE ρ₀ vs ρ).length = ρ.length ∧ ∀ i, (backE ρ₀ vs ρ)[i]? = if i ∈ vs then (if i < ρ.length then ρ₀[i]? else none) else ρ[i]?
  | [] => ⟨rfl, fun i => by simp [backE]⟩
  | k :: vs => by
    obtain ⟨l1, g1⟩ := backE_get hl (vs := vs)
    unfold backE
    split
    · rename_i s h
      have hk : k < ρ₀.length := (List.getElem?_eq_some_iff.mp h).1
      refine ⟨by rw [List.length_set, l1], fun i => ?_⟩
      rw [getSet (by rw [l1, hl]; exact hk)]
      by_cases hi : i = k
      · subst hi
        rw [if_pos rfl, if_pos (by simp), if_pos (by omega), h]
      · rw [if_neg hi, g1 i]
        simp only [List.mem_cons, hi, false_or]
    · rename_i h
      have hk : ρ₀.length ≤ k := List.getElem?_eq_none_iff.mp h
      refine ⟨l1, fun i => ?_⟩
      rw [g1 i]
      by_cases hi : i = k
      · subst hi
        have e1 : (i ∈ i :: vs) = True := by simp
        have h2 : ¬ i < ρ.length := by omega
        have h3 : ρ[i]? = none := List.getElem?_eq_none (by omega)
        simp only [e1, if_true, if_neg h2, h3]
        split <;> rfl
      · simp only [List.mem_cons, hi, false_or]
/-- .. and come back -/
theorem SR.unwipe {vs : List Nat} {G' : Hp} (R : SR K Rf G ρ F σ H) (e : wipeE vs ρ = some ρw) (R' : SR K Rf G' ρ' F' (L2.wipe σ vs) H') (s : Same F F') : SR K Rf G' (backE ρ vs ρ') F' σ H' := by
  obtain ⟨_, g1, o1, l1⟩ := R.wipe e
  have hl : ρ'.length = ρ.length := by rw [R'.len, wipe_length]; exact R.len.symm
  obtain ⟨l2, g2⟩ := backE_get (ρ₀ := ρ) hl (vs := vs)
  have hn : ∀ i, i ∉ vs → (backE ρ vs ρ')[i]? = ρ'[i]? := fun i hi => by rw [g2, if_neg hi]
  have hi' : ∀ i, i ∈ vs → ∃ t, (backE ρ vs ρ')[i]? = some t ∧ ρ[i]? = some t ∧ (t = .un ∨ ∃ d, t = .dat d) := fun i hi => by
    obtain ⟨t, ht, ho⟩ := o1 i hi
    refine ⟨t, ?_, ht, ho⟩
    rw [g2, if_pos hi, if_pos (by rw [hl]; exact (List.getElem?_eq_some_iff.mp ht).1)]
    exact ht
  have mutc : ∀ i, MutI (backE ρ vs ρ') i → i ∉ vs ∧ MutI ρ' i := fun i ⟨u, eu, mu⟩ => by
    by_cases hi : i ∈ vs
    · obtain ⟨t, ht, _, ho⟩ := hi' i hi
      rw [ht] at eu; cases eu
      rcases ho with rfl | ⟨d, rfl⟩ <;> cases mu
    · exact ⟨hi, u, by rw [← hn i hi]; exact eu, mu⟩
  refine ⟨by rw [l2, hl]; exact R.len, R'.fz, fun i t et => ?_, fun i l b mi ml ei el => ?_, fun i b mi ei => ?_, R'.gs, fun i b eb => ?_⟩
  · by_cases hi : i ∈ vs
    · obtain ⟨u, hu, ho, hh⟩ := hi' i hi
      rw [hu] at et; cases et
      have q := R.sl i _ ho
      rcases hh with rfl | ⟨d, rfl⟩
      · trivial
      · obtain ⟨x, ex, rx⟩ := q
        exact ⟨x, ex, rx.mono s⟩
    · rw [hn i hi] at et
      have q := R'.sl i t et
      rw [wipe_out hi] at q
      exact q
  · have h1 := mutc i mi
    have h2 := mutc l ml
    exact R'.dis i l b h1.2 h2.2 (by rw [wipe_out h1.1]; exact ei) (by rw [wipe_out h2.1]; exact el)
  · have h1 := mutc i mi
    exact R'.gm i b h1.2 (by rw [wipe_out h1.1]; exact ei)
  · obtain ⟨z1, u, z2, z3⟩ := R'.rf i b eb
    have hi : i ∉ vs := fun hi => by
      obtain ⟨y1, w, y2, y3⟩ := R.rf i b eb
      obtain ⟨t, _, ht, ho⟩ := hi' i hi
      rw [ht] at y2; cases y2
      rcases ho with rfl | ⟨d, rfl⟩ <;> cases y3
    exact ⟨by rw [wipe_out hi] at z1; exact z1, u, by rw [hn i hi]; exact z2, z3⟩
/-- the guarded list grows -/
theorem SR.regrow {o o' : HO} (R : SR K Rf (upd G p o) ρ F σ H) (hr : ∀ i, Rf i ≠ some p) : SR K Rf (upd G p o') ρ F σ (upd H p o') := by
  have g0 := R.gs p o upd_same
  have fzn : ∀ b x, F b = some x → b ≠ p := fun b x e z => by rw [z, g0.2] at e; cases e
  have mne : ∀ i b, MutI ρ i → σ[i]? = some (some (.ref b)) → b ≠ p := fun i b mi ei z => by
    have q := R.gm i b mi ei
    rw [z, upd_same] at q; cases q
  refine ⟨R.len, fun b x e => by rw [upd_ne (fzn b x e)]; exact R.fz b x e, fun i t et => ?_, R.dis, fun i b mi ei => ?_, fun b x e => ?_, R.rf⟩
  · have q := R.sl i t et
    cases t with
    | un => trivial
    | dat d => exact q
    | own d =>
      obtain ⟨a, e, n, m⟩ := q
      exact ⟨a, e, n, m.mono (upd_ne (mne i a ⟨_, et, rfl⟩ e)) (Same.refl _)⟩
    | ref d =>
      obtain ⟨a, e, n, m, q⟩ := q
      exact ⟨a, e, n, m.mono (upd_ne (mne i a ⟨_, et, rfl⟩ e)) (Same.refl _), q⟩
    | lok b d =>
      obtain ⟨a, x, e, q, g, m⟩ := q
      have ha : a ≠ p := fun z => hr i (by rw [q, z])
      rw [upd_ne ha] at g
      exact ⟨a, x, e, q, by rw [upd_ne ha]; exact g, m.mono (upd_ne ha) (Same.refl _)⟩
  · have q := R.gm i b mi ei
    rw [upd_ne (mne i b mi ei)] at q ⊢
    exact q
  · by_cases hb : b = p
    · subst hb; rw [upd_same] at e ⊢; cases e; exact ⟨rfl, g0.2⟩
    · rw [upd_ne hb] at e ⊢
      exact R.gs b x (by rw [upd_ne hb]; exact e)
end

section
variable {X : Cx} {Φ : Fns} {bf : Nat → Option Nat} {tg it e : Expr} {xs : Xs} {t : Tg} {x c : Z.X} {g : List PyData → Option (List PyData)}
theorem redLc {K : PySem.W.Frag} {own : List Nat} {σ : St} {H : Hp} {Q : VK} (hsub : ∀ i ∈ t.ixs, i ∈ own) (h : tX K (ev Φ bf (.lc x t g xs c own)) σ H Q) :
    tLc (tI K (evs Φ bf xs) g) (tG K t) (tB1 K (truth (ev Φ bf c))) (tX K (ev Φ bf x)) own σ H Q := by
  obtain ⟨Rf, G, ρ, F, r, ρ', R, e, k⟩ := h
  simp only [ev, Option.bind_eq_some_iff] at e
  obtain ⟨⟨rs, ρ1⟩, e1, ds, e2, items, e3, ρw, ew, ⟨res, ρe⟩, el, ρ2, eu, e⟩ := e
  simp only [Option.some.injEq, Prod.mk.injEq] at e
  obtain ⟨rfl, rfl⟩ := e
  refine ⟨Rf, G, ρ, F, rs, ρ1, ds, items, R, e1, e2, e3, fun vs F1 H1 J R1 s1 os hJ hlen D hD => ?_⟩
  obtain ⟨Rf2, L, R2, kp, gl, un⟩ := SR.locks R1 os e2
  have hDL : ∀ p ∈ L, p.1 ≠ D := fun p hp z => by
    obtain ⟨_, x, hx⟩ := gl p hp
    rw [z, hD] at hx; cases hx
  have lD0 : Loose G ρ1 F1 σ D := R1.loose_new hD
  have hr0 : ∀ i, Rf i ≠ some D := fun i => lD0.rf R1
  have unD : ∀ {va ρ' F' H' ρ''}, SR K Rf2 (upd (updL G L) D (.lst va)) ρ' F' σ H' → unlockAll rs ρ1 ρ' = some ρ'' → SR K Rf (upd G D (.lst va)) ρ'' F' σ H' := fun {va ρ' F' H' ρ''} a b => by
    rw [← updL_comm hDL] at a
    exact un _ _ _ _ _ _ (fun p hp => by rw [upd_ne (hDL p hp)]; exact (gl p hp).1) a b
  generalize updL G L = G2 at R2 kp unD
  have lD : Loose G2 (lockAll rs ρ1) F1 σ D := R2.loose_new hD
  have hr : ∀ i, Rf2 i ≠ some D := fun i => lD.rf R2
  have R3 : SR K Rf2 G2 (lockAll rs ρ1) F1 σ (upd H1 D (.lst [])) := R2.laid hD
  have R4 : SR K Rf2 (upd G2 D (.lst [])) (lockAll rs ρ1) F1 σ (upd H1 D (.lst [])) := R3.guard upd_same lD
  obtain ⟨R5, _, _, _⟩ := R4.wipe ew
  refine ⟨fun i m H => m = items.length - i ∧ i ≤ items.length ∧ ∃ (ρi : Ev) (Fi : Hp) (acc : List PyData) (va : List V), SR K Rf2 (upd G2 D (.lst va)) ρi Fi (wipe σ own) H ∧ Same F1 Fi ∧ RpA K Fi va acc ∧ acc.length ≤ i ∧
      lcLoop own t (truth (ev Φ bf c)) (valof (ev Φ bf x)) (items.drop i) acc ρi = some (res, ρe), ⟨items.length, by simp, Nat.zero_le _, ρw, F1, [], [], R5, Same.refl _, .nil, Nat.le_refl _, by simpa using el⟩, ?_⟩
  rintro i m H ⟨rfl, hi, ρi, Fi, acc, va, Ri, si, ra, hal, ei⟩
  have kp' : Keeps K F1 (upd G2 D (.lst va)) vs ds := kp.gmono fun b y e => by rw [upd_ne (fun z => by rw [z, lD.2.1] at e; cases e)]; exact e
  have rq := kp'.rq Ri si
  obtain ⟨jstop, jgo⟩ := hJ Rf2 _ ρi Fi _ H Ri rq
  by_cases hlt : i < items.length
  · have hd : items.drop i = items[i] :: items.drop (i + 1) := List.drop_eq_getElem_cons hlt
    rw [hd] at ei
    simp only [lcLoop, Option.bind_eq_some_iff] at ei
    obtain ⟨ρa, ea, ⟨b, ρb⟩, eb, ei⟩ := ei
    obtain ⟨go, yl⟩ := jgo i items[i] (List.getElem?_eq_getElem hlt)
    refine .inr ⟨go, fun H' => ∃ (ρi : Ev) (Fi : Hp) (acc : List PyData) (va : List V), SR K Rf2 (upd G2 D (.lst va)) ρi Fi (wipe σ own) H' ∧ Same F1 Fi ∧ RpA K Fi va acc ∧ acc.length ≤ i + 1 ∧
      lcLoop own t (truth (ev Φ bf c)) (valof (ev Φ bf x)) (items.drop (i + 1)) acc ρi = some (res, ρe), fun H' q => ⟨items.length - (i + 1), by omega, rfl, hlt, q⟩, fun y H' hy => ?_⟩
    obtain ⟨Fa, Ra, sa, q⟩ := yl y H' hy
    refine ⟨Rf2, _, ρi, Fa, items[i], ρa, Ra, q, ea, fun σ2 l2 g2 Rb => ?_⟩
    have hw : wipe σ2 own = wipe σ own := by
      apply List.ext_getElem?
      intro j
      by_cases hj : j ∈ own
      · have key : ∀ (τ : St) (vs : List Nat), j ∈ vs → (wipe τ vs)[j]? = if j < τ.length then some none else none := by
          intro τ vs
          induction vs with
          | nil => intro h; simp at h
          | cons k r ih =>
            intro h
            show ((wipe τ r).set k none)[j]? = _
            by_cases hk : j = k
            · subst hk
              by_cases hl : j < τ.length
              · rw [List.getElem?_set_self (by rw [wipe_length]; exact hl), if_pos hl]
              · rw [List.getElem?_eq_none (by rw [List.length_set, wipe_length]; omega), if_neg hl]
            · rw [List.getElem?_set_ne (Ne.symm hk)]
              exact ih (by simpa [hk] using h)
        rw [key _ _ hj, key _ _ hj, l2, wipe_length]
      · rw [wipe_out hj, wipe_out hj, g2 j (fun z => hj (hsub j z)), wipe_out hj]
    refine ⟨hw, Rf2, _, ρa, Fa, b, ρb, Rb, eb, fun Fb H3 Rc sb => ?_⟩
    cases b with
    | false =>
      simp only [Bool.false_eq_true, if_false]
      simp only [Option.bind_eq_some_iff] at ei
      obtain ⟨ρz, ez, ei⟩ := ei
      obtain ⟨Rd, _, _, _⟩ := Rc.wipe ez
      rw [hw] at Rd
      exact ⟨ρz, Fb, acc, va, Rd, si.trans (sa.trans sb), ra.mono (sa.trans sb), by omega, ei⟩
    | true =>
      simp only [if_true]
      simp only [Option.bind_eq_some_iff] at ei
      obtain ⟨⟨dv, ρy⟩, ey, ρz, ez, ei⟩ := ei
      refine tX_val Rc ey fun y F4 H4 Rd sd qd => ?_
      have hD4 := (Rd.gs D _ upd_same).1
      have hlv : va.length = acc.length := ra.length
      refine ⟨va, hD4, by omega, ?_⟩
      obtain ⟨Re, _, _, _⟩ := Rd.wipe ez
      rw [hw] at Re
      have Rf' := Re.regrow (o' := .lst (va ++ [y])) hr
      exact ⟨ρz, F4, acc ++ [dv], va ++ [y], Rf', si.trans (sa.trans (sb.trans sd)), (ra.mono (sa.trans (sb.trans sd))).append (.cons qd .nil), by rw [List.length_append, List.length_singleton]; omega, ei⟩
  · have hi' : i = items.length := by omega
    rw [hi', List.drop_length] at ei
    simp only [lcLoop, Option.some.injEq, Prod.mk.injEq] at ei
    obtain ⟨rfl, rfl⟩ := ei
    refine .inl ⟨jstop i (by omega), ?_⟩
    have R6 := R4.unwipe ew Ri si
    obtain ⟨R8, l8, h8⟩ := (unD R6 eu).unguard lD0.2.1 hr0
    exact k (.ref D) Fi H R8 (s1.trans si) ⟨D, rfl, l8, va, h8, by rw [ra.length]; omega, ra⟩
end
end L2.Z

namespace L2.Z
open PySem PySem.Spec PyProof.Rows

section
variable {K : PySem.W.Frag}
theorem rr_val {G F H : Hp} {ρ : Ev} {σ : St} {v : V} {d : PyData} (h : Rp K F v d) : RR K G ρ F σ H v (mkR false d) := h
def pI2 (f : Int → Int → Int) : PyData → PyData → Option (Bool × PyData)
  | .int i, .int j => some (false, .int (f i j))
  | _, _ => none
theorem ok_I2 {f : Int → Int → Int} : Ok2 K (rI0 fun i j => .int (f i j)) (pI2 f) := by
  intro Rf G ρ F σ H v w d e n d' Q R q1 q2 h k
  cases d <;> cases e <;> simp only [pI2] at h <;> try cases h
  rename_i i j
  cases q1; cases q2
  exact ⟨i, j, rfl, rfl, k _ F H R (Same.refl _) (rr_val (.int _))⟩
def pIC (C : Int → Int → Prop) [∀ i j, Decidable (C i j)] (f : Int → Int → Int) : PyData → PyData → Option (Bool × PyData)
  | .int i, .int j => if C i j then some (false, .int (f i j)) else none
  | _, _ => none
theorem ok_IC {C : Int → Int → Prop} [∀ i j, Decidable (C i j)] {f : Int → Int → Int} : Ok2 K (rI C fun i j => .int (f i j)) (pIC C f) := by
  intro Rf G ρ F σ H v w d e n d' Q R q1 q2 h k
  cases d <;> cases e <;> simp only [pIC] at h <;> try cases h
  rename_i i j
  split at h
  · rename_i hc
    cases h
    cases q1; cases q2
    exact ⟨i, j, rfl, rfl, hc, k _ F H R (Same.refl _) (rr_val (.int _))⟩
  · cases h
abbrev pAddI := pI2 fun i j => i + j
abbrev pSubI := pI2 fun i j => i - j
def MulOk (i j : Int) : Prop := ((-(2 ^ 64) < i ∧ i < 2 ^ 64) ∨ (-(2 ^ 64) < j ∧ j < 2 ^ 64)) ∨ (i.natAbs < 2 ^ 8192 ∧ j.natAbs < 2 ^ 8192)
instance (i j : Int) : Decidable (MulOk i j) := by unfold MulOk; infer_instance
theorem MulOk.ok {i j : Int} (h : MulOk i j) : IntMulOk i j := by
  rcases h with h | ⟨h1, h2⟩
  · exact CMul.ok h
  · exact CMulW.ok (wide_mul h1 h2 (by decide) (by decide) (by decide))
theorem op_mulZ {X : Cx} : OpR X (binaryOp .Mult) (rI MulOk fun i j => .int (i * j)) := opI fun _ _ _ _ _ _ _ hc q => mul_int q hc.ok
instance (i j : Int) : Decidable (CDiv i j) := by unfold CDiv; infer_instance
instance (i j : Int) : Decidable (CPow i j) := by unfold CPow; infer_instance
abbrev pMulI := pIC MulOk fun i j => i * j
abbrev pDivI := pIC CDiv fun i j => i / j
abbrev pModI := pIC (fun _ j => 0 < j) fun i j => i % j
abbrev pPowI := pIC CPow fun i j => i ^ j.toNat
def pIB (f : Int → Int → Bool) : PyData → PyData → Option (Bool × PyData)
  | .int i, .int j => some (false, .bool (f i j))
  | _, _ => none
theorem ok_IB {f : Int → Int → Bool} : Ok2 K (rI0 fun i j => .bl (f i j)) (pIB f) := by
  intro Rf G ρ F σ H v w d e n d' Q R q1 q2 h k
  cases d <;> cases e <;> simp only [pIB] at h <;> try cases h
  rename_i i j
  cases q1; cases q2
  exact ⟨i, j, rfl, rfl, k _ F H R (Same.refl _) (rr_val (.bl _))⟩
abbrev pLt := pIB fun i j => decide (i < j)
abbrev pLe := pIB fun i j => decide (i ≤ j)
abbrev pGt := pIB fun i j => decide (j < i)
abbrev pGe := pIB fun i j => decide (j ≤ i)
def pI1 (f : Int → Int) : PyData → Option (Bool × PyData)
  | .int i => some (false, .int (f i))
  | _ => none
theorem ok_I1 {f : Int → Int} : Ok1 K (rU fun i => .int (f i)) (pI1 f) := by
  intro Rf G ρ F σ H v d n d' Q R q h k
  cases d <;> simp only [pI1] at h <;> try cases h
  rename_i i
  cases q
  exact ⟨i, rfl, k _ F H R (Same.refl _) (rr_val (.int _))⟩
abbrev pNeg := pI1 fun i => -i

def okEq (d e : PyData) : Bool := d.plain && e.plain && decide (min d.depth e.depth ≤ 60)
def pEq (d e : PyData) : Option (Bool × PyData) := if okEq d e = true then some (false, .bool (PyData.eqv d e)) else none
def pNe (d e : PyData) : Option (Bool × PyData) := if okEq d e = true then some (false, .bool (!PyData.eqv d e)) else none
def rEqZ (K : PySem.W.Frag) : R2 := fun x y H Q => ∃ d e, Dp K H x d ∧ Dp K H y e ∧ d.plain = true ∧ e.plain = true ∧ min d.depth e.depth ≤ 60 ∧ Q (.bl (PyData.eqv d e)) H
def rNeZ (K : PySem.W.Frag) : R2 := fun x y H Q => ∃ d e, Dp K H x d ∧ Dp K H y e ∧ d.plain = true ∧ e.plain = true ∧ min d.depth e.depth ≤ 60 ∧ Q (.bl (!PyData.eqv d e)) H
theorem op_eqZ {X : Cx} (hu : X.A.units + 64 < cLine) : OpR X (compareOp .Eq) (rEqZ X.K) := by
  intro pins s σ H x y v u Q I rx ry h
  obtain ⟨d, e, hd, he, sd, se, hm, q⟩ := h
  obtain ⟨as, r1⟩ := Dp.reads I d x v hd rx
  obtain ⟨bs, r2⟩ := Dp.reads I e y u he ry
  exact SeqAt.eq_plain r1 r2 sd se (by omega) ⟨.bl _, H, I, rfl, q⟩
theorem op_neZ {X : Cx} (hu : X.A.units + 64 < cLine) : OpR X (compareOp .NotEq) (rNeZ X.K) := by
  intro pins s σ H x y v u Q I rx ry h
  obtain ⟨d, e, hd, he, sd, se, hm, q⟩ := h
  obtain ⟨as, r1⟩ := Dp.reads I d x v hd rx
  obtain ⟨bs, r2⟩ := Dp.reads I e y u he ry
  exact SeqAt.ne_plain r1 r2 sd se (by omega) ⟨.bl _, H, I, rfl, q⟩
theorem okEq_iff {d e : PyData} : okEq d e = true ↔ d.plain = true ∧ e.plain = true ∧ min d.depth e.depth ≤ 60 := by
  unfold okEq
  rw [Bool.and_eq_true, Bool.and_eq_true, decide_eq_true_eq, and_assoc]
theorem ok_eq : Ok2 K (rEqZ K) pEq := by
  intro Rf G ρ F σ H v w d e n d' Q R q1 q2 h k
  unfold pEq at h
  split at h
  · rename_i hc
    obtain ⟨h1, h2, h3⟩ := okEq_iff.mp hc
    cases h
    exact ⟨d, e, (q1.rp R.fz).dp h1, (q2.rp R.fz).dp h2, h1, h2, h3, k _ F H R (Same.refl _) (rr_val (.bl _))⟩
  · cases h
theorem ok_ne : Ok2 K (rNeZ K) pNe := by
  intro Rf G ρ F σ H v w d e n d' Q R q1 q2 h k
  unfold pNe at h
  split at h
  · rename_i hc
    obtain ⟨h1, h2, h3⟩ := okEq_iff.mp hc
    cases h
    exact ⟨d, e, (q1.rp R.fz).dp h1, (q2.rp R.fz).dp h2, h1, h2, h3, k _ F H R (Same.refl _) (rr_val (.bl _))⟩
  · cases h
def isNone : PyData → Bool
  | .none => true
  | _ => false
def pIsN (d : PyData) : Option (Bool × PyData) := some (false, .bool (isNone d))
def pNotN (d : PyData) : Option (Bool × PyData) := some (false, .bool (!isNone d))
theorem isNone_rq {F H : Hp} {v : V} {d : PyData} (q : Rq K F H v d) : decide (v = .non) = isNone d := by
  cases d with
  | none => cases q; rfl
  | bool b => cases q; rfl
  | int i => cases q; rfl
  | str x => cases q; rfl
  | list ds => obtain ⟨a, xs, rfl, _⟩ := q; rfl
  | tuple ds => obtain ⟨a, xs, rfl, _⟩ := q; rfl
  | dict kvs => obtain ⟨a, rfl, _⟩ := q; rfl
theorem ok_isN : Ok1 K (fun x H Q => Q (.bl (decide (x = .non))) H) pIsN := by
  intro Rf G ρ F σ H v d n d' Q R q h k
  cases h
  have e := isNone_rq q
  show Q (.bl (decide (v = .non))) H
  rw [e]
  exact k _ F H R (Same.refl _) (rr_val (.bl _))
theorem ok_notN : Ok1 K (fun x H Q => Q (.bl (!decide (x = .non))) H) pNotN := by
  intro Rf G ρ F σ H v d n d' Q R q h k
  cases h
  have e := isNone_rq q
  show Q (.bl (!decide (v = .non))) H
  rw [e]
  exact k _ F H R (Same.refl _) (rr_val (.bl _))

def tyD : PyData → String
  | .none => "NoneType" | .bool _ => "bool" | .int _ => "int" | .str _ => "str" | .list _ => "list" | .tuple _ => "tuple" | .dict _ => "dict"
theorem rq_ty {F H : Hp} {v : V} {d : PyData} (q : Rq K F H v d) : TyX K H v (.type (tyD d)) := by
  cases d with
  | none => cases q; exact .base .non
  | bool b => cases q; exact .base (.bl b)
  | int i => cases q; exact .base (.int i)
  | str x => cases q; exact .base (.str x)
  | list ds =>
    obtain ⟨a, xs, rfl, h, _⟩ := q
    rcases h with (h | ⟨o, h⟩) | ⟨o, its, n, k1, k2, _⟩
    · exact .base (.lst h)
    · exact .base (.frz h)
    · exact .kList k1 k2
  | tuple ds => obtain ⟨a, xs, rfl, h, _⟩ := q; exact .base (.tup h)
  | dict kvs =>
    obtain ⟨a, rfl, m⟩ := q
    rcases m with ⟨ps, e, _⟩ | ⟨ps, e, _⟩
    · exact .base (.dK e)
    · exact .base (.dT e)
def pIsInt : PyData → Option (Bool × PyData)
  | .int _ | .bool _ => some (false, .bool true)
  | _ => some (false, .bool false)
def pIsBool : PyData → Option (Bool × PyData)
  | .bool _ => some (false, .bool true)
  | _ => some (false, .bool false)
def pIsStr : PyData → Option (Bool × PyData)
  | .str _ => some (false, .bool true)
  | _ => some (false, .bool false)
def pIsTup : PyData → Option (Bool × PyData)
  | .tuple _ => some (false, .bool true)
  | _ => some (false, .bool false)
def pIsList : PyData → Option (Bool × PyData)
  | .list _ => some (false, .bool true)
  | _ => some (false, .bool false)
def rIs1 (K : PySem.W.Frag) (T : String) : V → Hp → VK → Prop := fun x H Q => rIsi K [x, .ty T] H Q
theorem ok_is {T : String} {f : PyData → Option (Bool × PyData)} (hf : ∀ d, ∃ b, f d = some (false, .bool b) ∧ kitB (tyD d) T = some b) : Ok1 K (rIs1 K T) f := by
  intro Rf G ρ F σ H v d n d' Q R q h k
  obtain ⟨b, e1, e2⟩ := hf d
  rw [e1] at h
  cases h
  exact ⟨_, _, _, _, b, rfl, .ty T, rq_ty q, kit_ty e2, k _ F H R (Same.refl _) (rr_val (.bl _))⟩
theorem ok_isInt : Ok1 K (rIs1 K "int") pIsInt := ok_is fun d => by
  cases d
  · exact ⟨_, rfl, show kitB "NoneType" "int" = _ by decide +kernel⟩
  · exact ⟨_, rfl, show kitB "bool" "int" = _ by decide +kernel⟩
  · exact ⟨_, rfl, show kitB "int" "int" = _ by decide +kernel⟩
  · exact ⟨_, rfl, show kitB "str" "int" = _ by decide +kernel⟩
  · exact ⟨_, rfl, show kitB "list" "int" = _ by decide +kernel⟩
  · exact ⟨_, rfl, show kitB "tuple" "int" = _ by decide +kernel⟩
  · exact ⟨_, rfl, show kitB "dict" "int" = _ by decide +kernel⟩

theorem ok_isBool : Ok1 K (rIs1 K "bool") pIsBool := ok_is fun d => by
  cases d
  · exact ⟨_, rfl, show kitB "NoneType" "bool" = _ by decide +kernel⟩
  · exact ⟨_, rfl, show kitB "bool" "bool" = _ by decide +kernel⟩
  · exact ⟨_, rfl, show kitB "int" "bool" = _ by decide +kernel⟩
  · exact ⟨_, rfl, show kitB "str" "bool" = _ by decide +kernel⟩
  · exact ⟨_, rfl, show kitB "list" "bool" = _ by decide +kernel⟩
  · exact ⟨_, rfl, show kitB "tuple" "bool" = _ by decide +kernel⟩
  · exact ⟨_, rfl, show kitB "dict" "bool" = _ by decide +kernel⟩

theorem ok_isStr : Ok1 K (rIs1 K "str") pIsStr := ok_is fun d => by
  cases d
  · exact ⟨_, rfl, show kitB "NoneType" "str" = _ by decide +kernel⟩
  · exact ⟨_, rfl, show kitB "bool" "str" = _ by decide +kernel⟩
  · exact ⟨_, rfl, show kitB "int" "str" = _ by decide +kernel⟩
  · exact ⟨_, rfl, show kitB "str" "str" = _ by decide +kernel⟩
  · exact ⟨_, rfl, show kitB "list" "str" = _ by decide +kernel⟩
  · exact ⟨_, rfl, show kitB "tuple" "str" = _ by decide +kernel⟩
  · exact ⟨_, rfl, show kitB "dict" "str" = _ by decide +kernel⟩

theorem ok_isTup : Ok1 K (rIs1 K "tuple") pIsTup := ok_is fun d => by
  cases d
  · exact ⟨_, rfl, show kitB "NoneType" "tuple" = _ by decide +kernel⟩
  · exact ⟨_, rfl, show kitB "bool" "tuple" = _ by decide +kernel⟩
  · exact ⟨_, rfl, show kitB "int" "tuple" = _ by decide +kernel⟩
  · exact ⟨_, rfl, show kitB "str" "tuple" = _ by decide +kernel⟩
  · exact ⟨_, rfl, show kitB "list" "tuple" = _ by decide +kernel⟩
  · exact ⟨_, rfl, show kitB "tuple" "tuple" = _ by decide +kernel⟩
  · exact ⟨_, rfl, show kitB "dict" "tuple" = _ by decide +kernel⟩

theorem ok_isList : Ok1 K (rIs1 K "list") pIsList := ok_is fun d => by
  cases d
  · exact ⟨_, rfl, show kitB "NoneType" "list" = _ by decide +kernel⟩
  · exact ⟨_, rfl, show kitB "bool" "list" = _ by decide +kernel⟩
  · exact ⟨_, rfl, show kitB "int" "list" = _ by decide +kernel⟩
  · exact ⟨_, rfl, show kitB "str" "list" = _ by decide +kernel⟩
  · exact ⟨_, rfl, show kitB "list" "list" = _ by decide +kernel⟩
  · exact ⟨_, rfl, show kitB "tuple" "list" = _ by decide +kernel⟩
  · exact ⟨_, rfl, show kitB "dict" "list" = _ by decide +kernel⟩

end

section
variable {X : Cx} {Φ : Fns} {bf : Nat → Option Nat} {a : Expr} {x y : Z.X} {p p2 pos : Pos} {e : Expr}
/-- isinstance(e, T) -/
theorem ce_isi {T : String} {n : Str} {f : PyData → Option (Bool × PyData)} (ok : Ok1 X.K (rIs1 X.K T) f) (hv : bootBuiltins n = some (.type T)) (hn : n ≠ "__name__") (hdb : (n == ("__debug__" : Str)) = false) (hm : X.mg "isinstance" = none) (hm2 : X.mg n = none) (hg : Gl X "isinstance") (hg2 : Gl X n) (ha : CE X Φ bf a x)
    (he : starEach [a, .Name n p2] X.env = (false, eval a X.env) :: starEach [.Name n p2] X.env := by rfl) (hpl : (backTo pos (starEach [.Name n p2] X.env)).any (·.1) = false := by rfl) (he2 : starEach [.Name n p2] X.env = (false, eval (.Name n p2) X.env) :: starEach [] X.env := by rfl) :
    CE X Φ bf (.Call (.Name "isinstance" p) [a, .Name n p2] [] pos) (.op1 f x) := by
  refine ce1 ok (fun ta h => ?_) ha
  exact (pe_callB call_isi hg hm (by decide +kernel) (pa_cons h (pa_cons (pe_bltn (v := .ty T) hg2 hm2 hv rfl hn hdb) pa_nil he2) he) (by decide) (by decide) he hpl)
end
end L2.Z

namespace L2.Z
open PySem PySem.Spec PyProof.Rows

section
variable {K : PySem.W.Frag}
def pLen : PyData → Option (Bool × PyData)
  | .list ds => some (false, .int ds.length)
  | .tuple ds => some (false, .int ds.length)
  | _ => none
def r1 (r : List V → Hp → VK → Prop) : V → Hp → VK → Prop := fun x H Q => r [x] H Q
def r2 (r : List V → Hp → VK → Prop) : V → V → Hp → VK → Prop := fun x y H Q => r [x, y] H Q
abbrev rLen (K : PySem.W.Frag) : List V → Hp → VK → Prop := fun xs H Q => ∃ x n, xs = [x] ∧ LenV K x H n ∧ Q (.int n) H
theorem ok_len : Ok1 K (r1 (rLen K)) pLen := by
  intro Rf G ρ F σ H v d n d' Q R q h k
  cases d <;> simp only [pLen] at h <;> cases h
  · obtain ⟨a, xs, rfl, e, _, r⟩ := q
    refine ⟨_, xs.length, rfl, .inl ⟨xs, e, rfl⟩, ?_⟩
    rw [r.length]
    exact k _ F H R (Same.refl _) (rr_val (.int _))
  · obtain ⟨a, xs, rfl, e, _, r⟩ := q
    refine ⟨_, xs.length, rfl, .inr ⟨xs, SqT.of e, rfl⟩, ?_⟩
    rw [r.length]
    exact k _ F H R (Same.refl _) (rr_val (.int _))
def pAbs := pI1 fun i => if i < 0 then -i else i
theorem ok_abs : Ok1 K (r1 fun xs H Q => ∃ i, xs = [.int i] ∧ Q (.int (if i < 0 then -i else i)) H) pAbs := by
  intro Rf G ρ F σ H v d n d' Q R q h k
  unfold pAbs at h
  cases d <;> simp only [pI1] at h <;> cases h
  cases q
  exact ⟨_, rfl, k _ F H R (Same.refl _) (rr_val (.int _))⟩
def pInt1 : PyData → Option (Bool × PyData)
  | .int i => some (false, .int i)
  | .bool b => some (false, .int (if b then 1 else 0))
  | _ => none
theorem ok_int1 : Ok1 K (r1 fun xs H Q => (∃ i, xs = [.int i] ∧ Q (.int i) H) ∨ ∃ k, xs = [.bl k] ∧ Q (.int (if k then 1 else 0)) H) pInt1 := by
  intro Rf G ρ F σ H v d n d' Q R q h k
  cases d <;> simp only [pInt1] at h <;> cases h
  · cases q; exact .inr ⟨_, rfl, k _ F H R (Same.refl _) (rr_val (.int _))⟩
  · cases q; exact .inl ⟨_, rfl, k _ F H R (Same.refl _) (rr_val (.int _))⟩
abbrev pMax2 := pI2 fun i j => if j > i then j else i
abbrev pMin2 := pI2 fun i j => if j < i then j else i
theorem ok_max2 : Ok2 K (r2 fun xs H Q => ∃ i j, xs = [.int i, .int j] ∧ Q (.int (if j > i then j else i)) H) pMax2 := by
  intro Rf G ρ F σ H v w d e n d' Q R q1 q2 h k
  cases d <;> cases e <;> simp only [pI2] at h <;> try cases h
  cases q1; cases q2
  exact ⟨_, _, rfl, k _ F H R (Same.refl _) (rr_val (.int _))⟩
theorem ok_min2 : Ok2 K (r2 fun xs H Q => ∃ i j, xs = [.int i, .int j] ∧ Q (.int (if j < i then j else i)) H) pMin2 := by
  intro Rf G ρ F σ H v w d e n d' Q R q1 q2 h k
  cases d <;> cases e <;> simp only [pI2] at h <;> try cases h
  cases q1; cases q2
  exact ⟨_, _, rfl, k _ F H R (Same.refl _) (rr_val (.int _))⟩
def boolsOf : List PyData → Option (List Bool)
  | [] => some []
  | .bool b :: r => (boolsOf r).bind fun bs => some (b :: bs)
  | _ => none
def intsOf : List PyData → Option (List Int)
  | [] => some []
  | .int b :: r => (intsOf r).bind fun bs => some (b :: bs)
  | _ => none
theorem rpa_bools {F : Hp} : ∀ {ds : List PyData} {xs : List V} {bs : List Bool}, RpA K F xs ds → boolsOf ds = some bs → xs = bs.map V.bl
  | [], _, _, r, e => by cases r; cases e; rfl
  | .bool b :: ds, _, _, r, e => by
    cases r with
    | cons a r =>
      simp only [boolsOf, Option.bind_eq_some_iff] at e
      obtain ⟨bs, e1, e⟩ := e
      cases e
      cases a
      rw [rpa_bools r e1]; rfl
theorem rpa_ints {F : Hp} : ∀ {ds : List PyData} {xs : List V} {bs : List Int}, RpA K F xs ds → intsOf ds = some bs → xs = bs.map V.int
  | [], _, _, r, e => by cases r; cases e; rfl
  | .int b :: ds, _, _, r, e => by
    cases r with
    | cons a r =>
      simp only [intsOf, Option.bind_eq_some_iff] at e
      obtain ⟨bs, e1, e⟩ := e
      cases e
      cases a
      rw [rpa_ints r e1]; rfl
def pAll : PyData → Option (Bool × PyData)
  | .list ds => (boolsOf ds).bind fun bs => some (false, .bool (bs.all id))
  | _ => none
def pAny : PyData → Option (Bool × PyData)
  | .list ds => (boolsOf ds).bind fun bs => some (false, .bool (bs.any id))
  | _ => none
theorem ok_all : Ok1 K (r1 (rAll K)) pAll := by
  intro Rf G ρ F σ H v d n d' Q R q h k
  cases d <;> simp only [pAll, Option.bind_eq_some_iff] at h <;> try cases h
  rename_i h
  obtain ⟨h1, h2⟩ := h
  cases h2
  obtain ⟨a, xs, rfl, e, _, r⟩ := q
  rw [rpa_bools r h1] at e
  exact ⟨a, _, rfl, e, k _ F H R (Same.refl _) (rr_val (.bl _))⟩
theorem ok_any : Ok1 K (r1 (rAny K)) pAny := by
  intro Rf G ρ F σ H v d n d' Q R q h k
  cases d <;> simp only [pAny, Option.bind_eq_some_iff] at h <;> try cases h
  rename_i h
  obtain ⟨h1, h2⟩ := h
  cases h2
  obtain ⟨a, xs, rfl, e, _, r⟩ := q
  rw [rpa_bools r h1] at e
  exact ⟨a, _, rfl, e, k _ F H R (Same.refl _) (rr_val (.bl _))⟩
def pSum : PyData → Option (Bool × PyData)
  | .list ds => (intsOf ds).bind fun bs => some (false, .int bs.sum)
  | _ => none
theorem ok_sum : Ok1 K (r1 (rSum K)) pSum := by
  intro Rf G ρ F σ H v d n d' Q R q h k
  cases d <;> simp only [pSum, Option.bind_eq_some_iff] at h <;> try cases h
  rename_i h
  obtain ⟨h1, h2⟩ := h
  cases h2
  obtain ⟨a, xs, rfl, e, _, r⟩ := q
  rw [rpa_ints r h1] at e
  exact ⟨a, _, rfl, e, k _ F H R (Same.refl _) (rr_val (.int _))⟩
def pIdx : PyData → PyData → Option (Bool × PyData)
  | .list ds, .int i => (atI ds i).bind fun d => some (false, d)
  | .tuple ds, .int i => (atI ds i).bind fun d => some (false, d)
  | _, _ => none
theorem rpa_at {F : Hp} {xs : List V} {ds : List PyData} {i : Int} {d : PyData} (r : RpA K F xs ds) (e : atI ds i = some d) : ∃ v, atI xs i = some v ∧ Rp K F v d := by
  unfold atI at e ⊢
  rw [r.length]
  cases h : ixN ds.length i with
  | none => rw [h] at e; cases e
  | some j => rw [h] at e; exact r.get e
theorem ok_idx : Ok2 K (fun x y H Q => rIxL K x y H Q ∨ rIxT K x y H Q) pIdx := by
  intro Rf G ρ F σ H v w d e n d' Q R q1 q2 h k
  cases d <;> cases e <;> simp only [pIdx] at h <;> try cases h
  · simp only [Option.bind_eq_some_iff] at h
    obtain ⟨z, h1, h2⟩ := h
    cases h2
    cases q2
    obtain ⟨a, xs, rfl, e, _, r⟩ := q1
    obtain ⟨u, hu, ru⟩ := rpa_at r h1
    exact .inl ⟨a, xs, _, u, rfl, rfl, e, hu, k _ F H R (Same.refl _) (rr_val ru)⟩
  · simp only [Option.bind_eq_some_iff] at h
    obtain ⟨z, h1, h2⟩ := h
    cases h2
    cases q2
    obtain ⟨a, xs, rfl, e, _, r⟩ := q1
    obtain ⟨u, hu, ru⟩ := rpa_at r h1
    exact .inr ⟨a, xs, _, u, rfl, rfl, SqT.of e, hu, k _ F H R (Same.refl _) (rr_val ru)⟩
end

section
variable {X : Cx} {Φ : Fns} {bf : Nat → Option Nat} {M : Nat} {a b e it tg : Expr} {es : List Expr} {x y c : Z.X} {p pos apos : Pos} {n : Str} {xs : Xs} {t : Tg} {g : List PyData → Option (List PyData)}
theorem ce_b1 {id : String} {r : List V → Hp → VK → Prop} {f : PyData → Option (Bool × PyData)} (ok : Ok1 X.K (r1 r) f) (hc : CallR X (.builtin id) r) (hv : bootBuiltins n = some (.builtin id)) (hn : n ≠ "__name__") (hdb : (n == ("__debug__" : Str)) = false) (hm : X.mg n = none) (hg : Gl X n) (ha : CE X Φ bf a x)
    (he : starEach [a] X.env = (false, eval a X.env) :: starEach [] X.env := by rfl) (hpl : (backTo pos (starEach [] X.env)).any (·.1) = false := by rfl) : CE X Φ bf (.Call (.Name n p) [a] [] pos) (.op1 f x) :=
  ce1 ok (fun ta h => pe_callB hc hg hm hv (pa_cons h pa_nil he) hn hdb he hpl) ha
theorem ce_ty1 {T : String} {r : List V → Hp → VK → Prop} {f : PyData → Option (Bool × PyData)} (ok : Ok1 X.K (r1 r) f) (hc : CallR X (.type T) r) (hv : bootBuiltins n = some (.type T)) (hn : n ≠ "__name__") (hdb : (n == ("__debug__" : Str)) = false) (hm : X.mg n = none) (hg : Gl X n) (ha : CE X Φ bf a x)
    (he : starEach [a] X.env = (false, eval a X.env) :: starEach [] X.env := by rfl) (hpl : (backTo pos (starEach [] X.env)).any (·.1) = false := by rfl) : CE X Φ bf (.Call (.Name n p) [a] [] pos) (.op1 f x) :=
  ce1 ok (fun ta h => pe_callTy hc hg hm hv (pa_cons h pa_nil he) hn hdb he hpl) ha
theorem ce_b2 {id : String} {r : List V → Hp → VK → Prop} {f : PyData → PyData → Option (Bool × PyData)} (ok : Ok2 X.K (r2 r) f) (hc : CallR X (.builtin id) r) (hv : bootBuiltins n = some (.builtin id)) (hn : n ≠ "__name__") (hdb : (n == ("__debug__" : Str)) = false) (hm : X.mg n = none) (hg : Gl X n) (ha : CE X Φ bf a x) (hb : CE X Φ bf b y)
    (he : starEach [a, b] X.env = (false, eval a X.env) :: starEach [b] X.env := by rfl) (he2 : starEach [b] X.env = (false, eval b X.env) :: starEach [] X.env := by rfl) (hpl : (backTo pos (starEach [b] X.env)).any (·.1) = false := by rfl) : CE X Φ bf (.Call (.Name n p) [a, b] [] pos) (.op2 f x y) :=
  ce2 ok (fun ta tb h h' => pe_callB hc hg hm hv (pa_cons h (pa_cons h' pa_nil he2) he) hn hdb he hpl) ha hb
theorem ce_idx (hs : PlainIx b) (ha : CE X Φ bf a x) (hb : CE X Φ bf b y) : CE X Φ bf (.Subscript a b pos) (.op2 pIdx x y) :=
  ce2 ok_idx (fun ta tb h h' => pe_ix (IxR.or ix_list ix_tup) h h' hs) ha hb
/-- a module's constant -/
theorem ce_glob {v : V} {u : Value} {d : PyData} (hm : X.mg n = some u) (r : RelV v u) (hd : ∀ F, Rp X.K F v d) (hg : Gl X n) (hdb : (n == ("__debug__" : Str)) = false) : CE X Φ bf (.Name n pos) (.k d) := ce_k (pe_glob hg hm r hdb) hd

theorem ce_lc {scope : Scope} {own : List (Str × Nat)} {ifs : List Expr} (hc : X.calm = true) (hN : X.N.Nodup) (hsub : ∀ i ∈ t.ixs, i ∈ own.map (·.2)) (hi : CI X Φ bf tg it g xs) (ok : blkC X.N X.env.scope scope own = true)
    (hg : ∀ (s : Shared) (H : Hp) (C : Addr) (cl : List (Str × Addr)) (fp : List Addr), CG (X.blk s H scope (compEnvC scope cl C X.env) fp) tg t)
    (ht : ∀ (s : Shared) (H : Hp) (C : Addr) (cl : List (Str × Addr)) (fp : List Addr), PTs (X.blk s H scope (compEnvC scope cl C X.env) fp) ifs (tB1 X.K (truth (ev Φ bf c))))
    (he : ∀ (s : Shared) (H : Hp) (C : Addr) (cl : List (Str × Addr)) (fp : List Addr), CE (X.blk s H scope (compEnvC scope cl C X.env) fp) Φ bf e x) (hs : ∀ x, foldedSetIterable it X.env x = pure x := by intro _; rfl) :
    CE X Φ bf (.ListComp e [⟨tg, it, ifs, 0⟩] scope pos) (.lc x t g xs c (own.map (·.2))) :=
  PE.imp (pe_lc hc hN hi (blkOk_by ok) hg ht he hs) fun σ H Q h => redLc hsub h
theorem pts0 : PTs X [] (tB1 X.K (truth (ev Φ bf (.k (.bool true))))) := by
  refine ⟨fun pins s σ H Q I h => pts_nil.run pins s σ H Q I ?_⟩
  obtain ⟨Rf, G, ρ, F, b, ρ', R, e, k⟩ := h
  simp only [truth, ev, Option.bind_eq_some_iff] at e
  obtain ⟨_, e1, e2⟩ := e
  simp only [Option.some.injEq] at e1
  subst e1
  simp only [Res.get, Option.some.injEq, Prod.mk.injEq] at e2
  obtain ⟨rfl, rfl⟩ := e2
  exact k F H R (Same.refl _)
theorem pts1 {cc : Expr} (h : CT X Φ bf cc c) : PTs X [cc] (tB1 X.K (truth (ev Φ bf c))) := pts_one h
theorem cs_setLc (i : Nat) {y : Str} {py : Pos} {scope : Scope} {own : List (Str × Nat)} {ifs : List Expr} {spos : Pos} (hc : X.calm = true) (hN : X.N.Nodup) (hsub : ∀ i ∈ t.ixs, i ∈ own.map (·.2)) (hy : X.N[i]? = some y) (hyl : X.env.scope.names.lookup y = some .local)
    (hk : X.env.scope.kind = .function) (hl : (py.line == pos.line) = true) (hany : (scope.names.any fun (n, k) => n == y && (k == .local || k == .cell)) = false)
    (hi : CI X Φ bf tg it g xs) (ok : blkC X.N X.env.scope scope own = true)
    (hg : ∀ (s : Shared) (H : Hp) (C : Addr) (cl : List (Str × Addr)) (fp : List Addr), CG (X.blk s H scope (compEnvC scope cl C X.env) fp) tg t)
    (ht : ∀ (s : Shared) (H : Hp) (C : Addr) (cl : List (Str × Addr)) (fp : List Addr), PTs (X.blk s H scope (compEnvC scope cl C X.env) fp) ifs (tB1 X.K (truth (ev Φ bf c))))
    (he : ∀ (s : Shared) (H : Hp) (C : Addr) (cl : List (Str × Addr)) (fp : List Addr), CE (X.blk s H scope (compEnvC scope cl C X.env) fp) Φ bf e x) (hs : ∀ x, foldedSetIterable it X.env x = pure x := by intro _; rfl) :
    CS X Φ bf M (.Assign [.Name y py] (.ListComp e [⟨tg, it, ifs, 0⟩] scope pos) spos) (.set i (.lc x t g xs c (own.map (·.2)))) :=
  cs_set_by (ps_setLc hc hN hy hyl (sw_true hk hyl hl hany) hi (blkOk_by ok) hg ht he hs) fun σ H Q h => redLc hsub h

theorem jok_list {K : PySem.W.Frag} {a : Addr} {ds : List PyData} : JOk K [.ref a] [.list ds] ds (Itl K a) := by
  intro Rf G ρ F σ H R rq
  cases rq with
  | cons q _ =>
    obtain ⟨a', ys, e, h, _, r⟩ := q
    cases e
    refine ⟨fun i hi => ⟨ys, h, by rw [r.length]; exact hi⟩, fun i d hd => ?_⟩
    obtain ⟨v, hv, rv⟩ := r.get hd
    refine ⟨⟨ys, v, h, hv⟩, fun z H' hz => ?_⟩
    obtain ⟨e1, e2⟩ := hz
    subst e1
    have e3 := e2 ys h
    rw [hv] at e3; cases e3
    exact ⟨F, R, Same.refl _, rv⟩
theorem jok_tup {K : PySem.W.Frag} {a : Addr} {ds : List PyData} : JOk K [.ref a] [.tuple ds] ds (Itt K a) := by
  intro Rf G ρ F σ H R rq
  cases rq with
  | cons q _ =>
    obtain ⟨a', ys, e, h, _, r⟩ := q
    cases e
    refine ⟨fun i hi => ⟨ys, SqT.of h, by rw [r.length]; exact hi⟩, fun i d hd => ?_⟩
    obtain ⟨v, hv, rv⟩ := r.get hd
    refine ⟨⟨ys, v, SqT.of h, hv⟩, fun z H' hz => ?_⟩
    obtain ⟨e1, e2⟩ := hz
    subst e1
    have e3 := e2 ys (SqT.of h)
    rw [hv] at e3; cases e3
    exact ⟨F, R, Same.refl _, rv⟩
/-- a list or a tuple that is walked -/
def iSeq (K : PySem.W.Frag) (tl : TE) : TI := fun σ H R => tl σ H fun x H1 => (∃ a, x = .ref a ∧ (∃ xs, SqL K H1 a xs) ∧ R (Itl K a) H1) ∨ (∃ a, x = .ref a ∧ (∃ xs, SqT K H1 a xs) ∧ R (Itt K a) H1)
theorem pi_seq {l : Expr} {tl : TE} (hl : PE X l tl) : PI X tg l (iSeq X.K tl) := by
  refine ⟨fun pins s σ H R I h => ?_⟩
  refine thn (hl.run pins s σ H _ I h) fun v s1 ⟨x, H1, I1, r1, q1⟩ => ?_
  have nb : ∀ b ∈ [s1.heap.objs.size], FpOk X pins H1 b := fun b hb => by
    have e : b = s1.heap.objs.size := by simpa using hb
    subst e
    exact I1.fpOk (Nat.le_refl _) (I1.hok.fresh (Nat.le_refl _))
  rcases q1 with ⟨a, e, ⟨xs, hq⟩, q⟩ | ⟨a, e, ⟨xs, hq⟩, q⟩
  · subst e
    cases r1
    obtain ⟨its, rv, p, hz⟩ := I1.list hq
    exact wpAny_pyIter_list p.isList ⟨s1.heap.objs.size, [s1.heap.objs.size], _, _, H1, rfl, I1.kept (t' := s1.toks) (fun b o e => Heap.get?_push_of_some _ e), turn_list a _, ⟨_, Heap.get?_push_size _ rfl, rfl, rfl⟩, nb, q⟩
  · subst e
    cases r1
    obtain ⟨its, rv, p, hz⟩ := I1.tuple hq
    exact wpAny_pyIter_tuple (show s1.heap.IsTuple a its.toArray from p) ⟨s1.heap.objs.size, [s1.heap.objs.size], _, _, H1, rfl, I1.kept (t' := s1.toks) (fun b o e => Heap.get?_push_of_some _ e), turn_tuple a _, ⟨_, Heap.get?_push_size _ rfl, rfl, rfl⟩, nb, q⟩
theorem getAll1 {ρ : Ev} {r : Res} {ds : List PyData} (e : getAll ρ [r] = some ds) : ∃ d, r.get ρ = some d ∧ ds = [d] := by
  simp only [getAll, Option.bind_eq_some_iff] at e
  obtain ⟨d, e1, ds', e2, e3⟩ := e
  simp only [Option.some.injEq] at e2 e3
  subst e2 e3
  exact ⟨d, e1, rfl⟩
theorem evs1 {x : Z.X} {ρ ρ' : Ev} {rs : List Res} (e : evs Φ bf (.cons x .nil) ρ = some (rs, ρ')) : ∃ r, ev Φ bf x ρ = some (r, ρ') ∧ rs = [r] := by
  simp only [evs, Option.bind_eq_some_iff] at e
  obtain ⟨⟨r, ρ1⟩, e1, ⟨rs', ρ2⟩, e2, e⟩ := e
  simp only [Option.some.injEq, Prod.mk.injEq] at e2 e
  obtain ⟨rfl, rfl⟩ := e2
  obtain ⟨rfl, rfl⟩ := e
  exact ⟨r, e1, rfl⟩
theorem ci_seq (ha : CE X Φ bf it x) : CI X Φ bf tg it gSeq (.cons x .nil) := by
  refine PI.imp (pi_seq ha) fun σ H R' h => ?_
  obtain ⟨Rf, G, ρ, F, rs, ρ', ds, items, R, e1, e2, e3, k⟩ := h
  obtain ⟨r, e4, rfl⟩ := evs1 e1
  obtain ⟨d, e5, rfl⟩ := getAll1 e2
  refine tX_opd R e4 fun v F1 H1 R1 s1 o => ?_
  have q := R1.rq o e5
  cases d <;> simp only [gSeq] at e3 <;> try cases e3
  · obtain ⟨a, ys, rfl, h, z, ra⟩ := q
    exact .inl ⟨a, rfl, ⟨ys, h⟩, k [.ref a] F1 H1 _ R1 s1 (.cons o .nil) jok_list (by rw [← ra.length]; exact z)⟩
  · obtain ⟨a, ys, rfl, h, z, ra⟩ := q
    exact .inr ⟨a, rfl, ⟨ys, SqT.of h⟩, k [.ref a] F1 H1 _ R1 s1 (.cons o .nil) jok_tup (by rw [← ra.length]; exact z)⟩
theorem jok_range {K : PySem.W.Frag} {vs : List V} {ds : List PyData} {lo : Int} {n : Nat} : JOk K vs ds ((List.range n).map fun i => .int (lo + (i : Nat))) (Itr lo n) := by
  intro Rf G ρ F σ H R rq
  refine ⟨fun i hi => (show n ≤ i by simpa using hi), fun i d hd => ?_⟩
  rw [List.getElem?_map] at hd
  cases h : (List.range n)[i]? with
  | none => rw [h] at hd; cases hd
  | some j =>
    rw [h] at hd
    have hi : i < n := by
      have := (List.getElem?_eq_some_iff.mp h).1
      simpa using this
    rw [List.getElem?_range hi] at h
    cases h
    cases hd
    refine ⟨hi, fun z H' hz => ?_⟩
    obtain ⟨e1, e2⟩ := hz
    subst e1 e2
    exact ⟨F, R, Same.refl _, .int _⟩
theorem ci_range1 (hg : Gl X "range") (hm : X.mg "range" = none) (ha : CE X Φ bf a x) (hs : starEach [a] X.env = [(false, eval a X.env)] := by rfl) (he : starEach [a] X.env = (false, eval a X.env) :: starEach [] X.env := by rfl) : CI X Φ bf tg (.Call (.Name "range" p) [a] [] pos) gRange1 (.cons x .nil) := by
  refine PI.imp (pi_range1 hg hm (pa_cons ha pa_nil he) hs) fun σ H R' h => ?_
  obtain ⟨Rf, G, ρ, F, rs, ρ', ds, items, R, e1, e2, e3, k⟩ := h
  obtain ⟨r, e4, rfl⟩ := evs1 e1
  obtain ⟨d, e5, rfl⟩ := getAll1 e2
  refine tX_opd R e4 fun v F1 H1 R1 s1 o => ?_
  have q := R1.rq o e5
  cases d <;> simp only [gRange1] at e3 <;> try cases e3
  rename_i n
  cases q
  split at e3
  · rename_i hn
    cases e3
    have hz : (sizeLine : Int) < 2 ^ 62 := by rw [sizeLine_eq]; decide
    obtain ⟨h0, hn⟩ := hn
    refine ⟨n, rfl, h0, by omega, ?_⟩
    have j := jok_range (K := X.K) (vs := [.int n]) (ds := [.int n]) (lo := 0) (n := n.toNat)
    have ej : ((List.range n.toNat).map fun i : Nat => PyData.int (0 + (i : Nat))) = (List.range n.toNat).map fun i : Nat => PyData.int (i : Nat) := by
      congr 1; funext i; rw [Int.zero_add]
    rw [ej] at j
    exact k [.int n] F1 H1 _ R1 s1 (.cons o .nil) j (by rw [List.length_map, List.length_range]; omega)
  · cases e3
theorem ci_range2 (hg : Gl X "range") (hm : X.mg "range" = none) (ha : CE X Φ bf a x) (hb : CE X Φ bf b y) (hs : starEach [a, b] X.env = [(false, eval a X.env), (false, eval b X.env)] := by rfl) (hs2 : starEach [b] X.env = [(false, eval b X.env)] := by rfl)
    (he : starEach [a, b] X.env = (false, eval a X.env) :: starEach [b] X.env := by rfl) (he2 : starEach [b] X.env = (false, eval b X.env) :: starEach [] X.env := by rfl) : CI X Φ bf tg (.Call (.Name "range" p) [a, b] [] pos) gRange2 (.cons x (.cons y .nil)) := by
  refine PI.imp (pi_range2 hg hm (pa_cons ha (pa_cons hb pa_nil he2) he) hs hs2) fun σ H R' h => ?_
  obtain ⟨Rf, G, ρ, F, rs, ρ', ds, items, R, e1, e2, e3, k⟩ := h
  simp only [evs, Option.bind_eq_some_iff] at e1
  obtain ⟨⟨ra, ρ1⟩, ea, ⟨rs1, ρ2⟩, ⟨⟨rb, ρ3⟩, eb, ⟨rs2, ρ4⟩, e4, e5⟩, e6⟩ := e1
  simp only [Option.some.injEq, Prod.mk.injEq] at e4 e5 e6
  obtain ⟨rfl, rfl⟩ := e4
  obtain ⟨rfl, rfl⟩ := e5
  obtain ⟨rfl, rfl⟩ := e6
  simp only [getAll, Option.bind_eq_some_iff] at e2
  obtain ⟨da, e7, ds1, ⟨db, e8, ds2, e9, e10⟩, e11⟩ := e2
  simp only [Option.some.injEq] at e9 e10 e11
  subst e9 e10 e11
  refine tX_opd R ea fun v F1 H1 R1 s1 o => ?_
  refine tX_opd R1 eb fun w F2 H2 R2 s2 o2 => ?_
  have q1 := R2.rq (o.mono s2) e7
  have q2 := R2.rq o2 e8
  cases da <;> cases db <;> simp only [gRange2] at e3 <;> try cases e3
  rename_i m n
  cases q1
  cases q2
  split at e3
  · rename_i hn
    cases e3
    exact ⟨m, n, rfl, ⟨hn.2.1.1, hn.2.1.2, hn.2.2.1, hn.2.2.2⟩, k [.int m, .int n] F2 H2 _ R2 (s1.trans s2) (.cons (o.mono s2) (.cons o2 .nil)) jok_range (by rw [List.length_map, List.length_range]; omega)⟩
  · cases e3

theorem lstAt_some {K : PySem.W.Frag} {Rf : Nat → Option Addr} {G F H : Hp} {ρ : Ev} {σ : St} {j : Nat} {ds : List PyData} (R : SR K Rf G ρ F σ H) (e : lstAt ρ j = some ds) : ∃ a, σ[j]? = some (some (.ref a)) ∧ ∃ vs, H a = some (.lst vs) ∧ vs.length ≤ sizeLine ∧ RpA K F vs ds := by
  simp only [lstAt, Option.bind_eq_some_iff] at e
  obtain ⟨c, e1, e2⟩ := e
  obtain ⟨a, ea, _, m, _⟩ := conOf_some R e1
  cases c <;> simp only at e2 <;> cases e2
  exact ⟨a, ea, m⟩

theorem cs_app (i : Nat) {nm : Str} {p1 p2 p3 p4 : Pos} (hN : X.N[i]? = some nm) (hv : Vis X.env.scope nm) (hd : (nm == ("__debug__" : Str)) = false) (hcd : (nm == ("__classdict__" : Str)) = false) (hb : CE X Φ bf e x)
    (hbase : attributeBase (.Name nm p1) "append" X.env (eval (.Name nm p1) X.env) = eval (.Name nm p1) X.env := by rfl)
    (hfew : ((backTo p3 (starEach [e] X.env)).all (fun x => !x.1) && (backToKw p3 (keywordEach [] X.env)).all (fun x => x.1.isSome) && decide ([e].length + ([] : List Keyword).length + (if ([] : List Keyword).isEmpty then 0 else 1) < 30)) = true := by rfl)
    (hline : (p2.endLine == p3.line) = true := by rfl) (hs : starEach [e] X.env = (false, eval e X.env) :: starEach [] X.env := by rfl) (hplain : (backTo p3 (starEach [] X.env)).any (·.1) = false := by rfl)
    (hsw : swapsWith (.Call (.Attribute (.Name nm p1) "append" p2) [e] [] p3) none p4.line X.env = pure false := by rfl) :
    CS X Φ bf M (.Expr (.Call (.Attribute (.Name nm p1) "append" p2) [e] [] p3) p4) (.app i x) := by
  refine PS.imp (ps_expr (pe_bm PySem.F.plainAttrs_list PySem.F.slot_list_append PySem.F.type_list_append mt_append (pe_var hN hv hd hcd) (pa_cons hb pa_nil hs) hbase hfew hline hs hplain) hsw) fun D σ H h => ?_
  obtain ⟨Rf, G, ρ, F, o, R, e, k⟩ := h
  simp only [evS, Option.bind_eq_some_iff] at e
  obtain ⟨ds0, e0, ⟨d, ρ1⟩, e1, c, e2, c', e3, ρ2, e4, e⟩ := e
  simp only [Option.some.injEq] at e
  subst e
  obtain ⟨a0, ea0, va0, ha0, _, ra0⟩ := lstAt_some R e0
  refine ⟨.ref a0, ea0, .inl ⟨rfl, va0, SqL.of ha0⟩, ?_⟩
  refine tX_val R e1 fun v F1 H1 R1 s1 q => ?_
  obtain ⟨a, ea, na, m, mj, _⟩ := conOf_some R1 e2
  rw [ea0] at ea; cases ea
  cases c with
  | list ds =>
    simp only [appD] at e3
    split at e3
    · rename_i hz
      cases e3
      obtain ⟨vs, hv1, hvz, rv⟩ := m
      refine ⟨a0, vs, v, rfl, rfl, hv1, by have := rv.length; simp only [List.length_singleton] at hz; omega, ?_⟩
      exact k σ F1 _ (R1.write e4 ea0 na mj ⟨vs ++ [v], upd_same, by rw [List.length_append, rv.length]; exact hz, rv.append (.cons q .nil)⟩) s1
    · cases e3
  | _ => cases e3
theorem cs_ext (i : Nat) {nm : Str} {p1 p2 p3 p4 : Pos} (hN : X.N[i]? = some nm) (hv : Vis X.env.scope nm) (hd : (nm == ("__debug__" : Str)) = false) (hcd : (nm == ("__classdict__" : Str)) = false) (hb : CE X Φ bf e x)
    (hbase : attributeBase (.Name nm p1) "extend" X.env (eval (.Name nm p1) X.env) = eval (.Name nm p1) X.env := by rfl)
    (hfew : ((backTo p3 (starEach [e] X.env)).all (fun x => !x.1) && (backToKw p3 (keywordEach [] X.env)).all (fun x => x.1.isSome) && decide ([e].length + ([] : List Keyword).length + (if ([] : List Keyword).isEmpty then 0 else 1) < 30)) = true := by rfl)
    (hline : (p2.endLine == p3.line) = true := by rfl) (hs : starEach [e] X.env = (false, eval e X.env) :: starEach [] X.env := by rfl) (hplain : (backTo p3 (starEach [] X.env)).any (·.1) = false := by rfl)
    (hsw : swapsWith (.Call (.Attribute (.Name nm p1) "extend" p2) [e] [] p3) none p4.line X.env = pure false := by rfl) :
    CS X Φ bf M (.Expr (.Call (.Attribute (.Name nm p1) "extend" p2) [e] [] p3) p4) (.ext i x) := by
  refine PS.imp (ps_expr (pe_bm PySem.F.plainAttrs_list PySem.F.slot_list_extend PySem.F.type_list_extend mt_extend (pe_var hN hv hd hcd) (pa_cons hb pa_nil hs) hbase hfew hline hs hplain) hsw) fun D σ H h => ?_
  obtain ⟨Rf, G, ρ, F, o, R, e, k⟩ := h
  simp only [evS, Option.bind_eq_some_iff] at e
  obtain ⟨ds0, e0, ⟨r, ρ1⟩, e1, es, e5, c, e2, c', e3, ρ2, e4, e⟩ := e
  simp only [Option.some.injEq] at e
  subst e
  obtain ⟨a0, ea0, va0, ha0, _, ra0⟩ := lstAt_some R e0
  refine ⟨.ref a0, ea0, .inl ⟨rfl, va0, SqL.of ha0⟩, ?_⟩
  refine ⟨Rf, G, ρ, F, r, ρ1, R, e1, fun v F1 H1 R1 s1 q => ?_⟩
  obtain ⟨a, ea, na, m, mj, _⟩ := conOf_some R1 e2
  rw [ea0] at ea; cases ea
  obtain ⟨b, zs, rfl, hb1, rz⟩ : ∃ b zs, v = .ref b ∧ H1 b = some (.lst zs) ∧ RpA X.K F1 zs es := by
    cases r with
    | val d => cases e5
    | new d =>
      obtain ⟨p, rfl, l, mm⟩ := q
      cases d <;> simp only [extSrc] at e5 <;> cases e5
      obtain ⟨zs, hz, _, rz⟩ := mm
      exact ⟨p, zs, rfl, hz, rz⟩
    | slot j =>
      obtain ⟨b, eb, zs, hz, _, rz⟩ := lstAt_some R1 e5
      rw [show σ[j]? = some (some v) from q] at eb
      cases eb
      exact ⟨b, zs, rfl, hz, rz⟩
  cases c with
  | list ds =>
    simp only [appD] at e3
    split at e3
    · rename_i hz
      cases e3
      obtain ⟨vs, hv1, hvz, rv⟩ := m
      refine ⟨a0, b, vs, zs, rfl, rfl, hv1, hb1, by rw [rv.length, rz.length]; exact hz, ?_⟩
      exact k σ F1 _ (R1.write e4 ea0 na mj ⟨vs ++ zs, upd_same, by rw [List.length_append, rv.length, rz.length]; exact hz, rv.append rz⟩) s1
    · cases e3
  | _ => cases e3
/-- v[k] = e, v a list -/
theorem cs_setL (i : Nat) {nm : Str} {p1 p2 p3 : Pos} {kx : Expr} (hN : X.N[i]? = some nm) (hv : Vis X.env.scope nm) (hd : (nm == ("__debug__" : Str)) = false) (hcd : (nm == ("__classdict__" : Str)) = false) (hk : CE X Φ bf kx y) (he : CE X Φ bf e x)
    (ha : ∀ v, assign (.Subscript (.Name nm p1) kx p2) X.env v = (do
      let ov ← holding [v] (eval (.Name nm p1) X.env)
      let iv ← holding [v, ov] (eval kx X.env)
      standAt p2
      holding [v, ov, iv] (setItem ov iv v)
      release [v, ov, iv] []) := by intro _; rfl)
    (hs : swapsWithSole [.Subscript (.Name nm p1) kx p2] e p3.line X.env = pure false := by rfl) (hw : swappedStores [.Subscript (.Name nm p1) kx p2] e X.env = pure none := by rfl)
    (h1 : (assignEach [.Subscript (.Name nm p1) kx p2] X.env).map (·.2) = [assign (.Subscript (.Name nm p1) kx p2) X.env] := by rfl) :
    CS X Φ bf M (.Assign [.Subscript (.Name nm p1) kx p2] e p3) (.setAt i y x) := by
  refine PS.imp (ps_asg he (pg_sub (pe_var hN hv hd hcd) hk set_list ha) hs hw h1) fun D σ H h => ?_
  obtain ⟨Rf, G, ρ, F, o, R, e, k⟩ := h
  simp only [evS, Option.bind_eq_some_iff] at e
  obtain ⟨⟨d, ρ1⟩, e1, c0, e0, ⟨r, ρ2⟩, e2, dk, e3, c, e4, c', e5, ρ3, e6, e⟩ := e
  simp only [Option.some.injEq] at e
  subst e
  refine tX_val R e1 fun v F1 H1 R1 s1 q => ?_
  obtain ⟨a0, ea0, _⟩ := conOf_some R1 e0
  refine ⟨.ref a0, ea0, ?_⟩
  refine tX_opd R1 e2 fun w F2 H2 R2 s2 o2 => ?_
  obtain ⟨a, ea, na, m, mj, _⟩ := conOf_some R2 e4
  rw [ea0] at ea; cases ea
  have qk := R2.rq o2 e3
  cases c with
  | list ds =>
    cases dk <;> simp only [setD] at e5 <;> try cases e5
    simp only [Option.bind_eq_some_iff] at e5
    obtain ⟨j, e7, e8⟩ := e5
    simp only [Option.some.injEq] at e8
    subst e8
    cases qk
    obtain ⟨vs, hv1, hvz, rv⟩ := m
    refine ⟨a0, vs, _, j, rfl, rfl, hv1, by rw [rv.length]; exact e7, ?_⟩
    exact k σ F2 _ (R2.write e6 ea0 na mj ⟨vs.set j v, upd_same, by rw [List.length_set]; exact hvz, RpA.set (q.mono s2) j rv⟩) (s1.trans s2)
  | _ => cases e5
end
end L2.Z

namespace L2.Z
open PySem PySem.Spec PyProof.Rows

section
variable {K : PySem.W.Frag} {Rf : Nat → Option Addr} {G F F' H H' : Hp} {ρ ρ' : Ev} {σ : St} {v : V} {d : PyData}
/-- values that wait to be stored; the containers among them are guarded -/
def Pend (K : PySem.W.Frag) (Rf : Nat → Option Addr) (ρ : Ev) (F : Hp) (σ : St) (H : Hp) : Hp → List V → List Slot → Prop
  | G, [], [] => SR K Rf G ρ F σ H
  | G, v :: vs, .dat d :: ss => Rp K F v d ∧ Pend K Rf ρ F σ H G vs ss
  | G, v :: vs, .own d :: ss => ∃ p o, v = .ref p ∧ G p = none ∧ (∀ i, Rf i ≠ some p) ∧ MutAt K F H p d ∧ Pend K Rf ρ F σ H (upd G p o) vs ss
  | _, _, _ => False
theorem Pend.gs : ∀ {vs : List V} {ss : List Slot} {G : Hp}, Pend K Rf ρ F σ H G vs ss → ∀ b o, G b = some o → H b = some o ∧ F b = none
  | [], [], G, R, b, o, e => SR.gs R b o e
  | v :: vs, .dat d :: ss, G, R, b, o, e => Pend.gs R.2 b o e
  | v :: vs, .own d :: ss, G, R, b, o, e => by
    obtain ⟨p, o', _, g, _, _, R'⟩ := R
    exact Pend.gs R' b o (by rw [upd_ne (fun z => by rw [z, g] at e; cases e)]; exact e)
theorem Pend.grow (s : Same H H') : ∀ {vs : List V} {ss : List Slot} {G : Hp}, Pend K Rf ρ F σ H G vs ss → Pend K Rf ρ F σ H' G vs ss
  | [], [], G, R => SR.grow R s
  | v :: vs, .dat d :: ss, G, R => ⟨R.1, Pend.grow s R.2⟩
  | v :: vs, .own d :: ss, G, R => by
    obtain ⟨p, o', e, g, hr, m, R'⟩ := R
    obtain ⟨o, eo⟩ := m.there
    exact ⟨p, o', e, g, hr, m.mono ((s p o eo).trans eo.symm) (Same.refl _), Pend.grow s R'⟩
theorem Pend.length : ∀ {vs : List V} {ss : List Slot} {G : Hp}, Pend K Rf ρ F σ H G vs ss → vs.length = ss.length
  | [], [], G, _ => rfl
  | v :: vs, .dat d :: ss, G, R => by simp [Pend.length R.2]
  | v :: vs, .own d :: ss, G, R => by obtain ⟨p, o', _, _, _, _, R'⟩ := R; simp [Pend.length R']
/-- the last one first -/
def setAll (σ : St) : List Nat → List V → St
  | i :: is, v :: vs => (setAll σ is vs).set i (some v)
  | _, _ => σ
theorem Pend.store : ∀ {vs : List V} {ss : List Slot} {is : List Nat} {G : Hp} {ρ' : Ev}, Pend K Rf ρ F σ H G vs ss → asgAll is ss ρ = some ρ' → SR K Rf G ρ' F (setAll σ is vs) H
  | [], [], [], G, _, R, e => by simp only [asgAll, Option.some.injEq] at e; subst e; exact R
  | v :: vs, .dat d :: ss, i :: is, G, _, R, e => by
    simp only [asgAll, Option.bind_eq_some_iff] at e
    obtain ⟨ρ1, e1, e2⟩ := e
    exact (Pend.store R.2 e1).asg e2 R.1
  | v :: vs, .own d :: ss, i :: is, G, _, R, e => by
    simp only [asgAll, Option.bind_eq_some_iff] at e
    obtain ⟨ρ1, e1, e2⟩ := e
    obtain ⟨p, o, rfl, g, hr, m, R'⟩ := R
    obtain ⟨R1, l, ho⟩ := (Pend.store R' e1).unguard g hr
    exact R1.asg e2 ⟨p, rfl, l, m⟩
  | [], [], i :: is, G, _, R, e => by simp only [asgAll] at e; cases e
  | v :: vs, .dat d :: ss, [], G, _, R, e => by simp only [asgAll] at e; cases e
  | v :: vs, .own d :: ss, [], G, _, R, e => by simp only [asgAll] at e; cases e
end
def tSl (K : PySem.W.Frag) (f : Ev → Option (List Slot × Ev)) : TA := fun σ H Q => ∃ Rf G ρ F ss ρ', SR K Rf G ρ F σ H ∧ f ρ = some (ss, ρ') ∧ ∀ vs F' H', Pend K Rf ρ' F' σ H' G vs ss → Same F F' → Q vs H'
abbrev CL (X : Cx) (Φ : Fns) (bf : Nat → Option Nat) (es : List Expr) (xs : Xs) : Prop := PA X es (tSl X.K (evst Φ bf xs))
section
variable {X : Cx} {Φ : Fns} {bf : Nat → Option Nat} {M : Nat} {a b e e1 e2 e3 e4 : Expr} {es : List Expr} {x y : Z.X} {xs : Xs} {pos pt pt2 px py pz : Pos} {n : Str} {kt k2 : Nat} {st : Stmt}
theorem cl_nil : CL X Φ bf [] .nil := by
  refine PA.imp pa_nil fun σ H Q h => ?_
  obtain ⟨Rf, G, ρ, F, r, ρ', R, e, k⟩ := h
  simp only [evst, Option.some.injEq, Prod.mk.injEq] at e
  obtain ⟨rfl, rfl⟩ := e
  exact k [] F H R (Same.refl _)
theorem cl_cons (ha : CE X Φ bf a x) (hr : CL X Φ bf es xs) (hs : starEach (a :: es) X.env = (false, eval a X.env) :: starEach es X.env := by rfl) : CL X Φ bf (a :: es) (.cons x xs) := by
  refine PA.imp (pa_cons ha hr hs) fun σ H Q h => ?_
  obtain ⟨Rf, G, ρ, F, r, ρ', R, e, k⟩ := h
  simp only [evst, Option.bind_eq_some_iff] at e
  obtain ⟨⟨r1, ρ1⟩, e1, ⟨s, ρ2⟩, e2, ⟨ss, ρ3⟩, e3, e⟩ := e
  simp only [Option.some.injEq, Prod.mk.injEq] at e
  obtain ⟨rfl, rfl⟩ := e
  refine ⟨Rf, G, ρ, F, r1, ρ1, R, e1, fun v F1 H1 R1 s1 q => ?_⟩
  obtain ⟨F2, R2, s2, so⟩ := R1.stored q e2
  cases s with
  | dat d => exact ⟨Rf, G, ρ2, F2, ss, ρ3, R2, e3, fun vs F3 H3 P s3 => k (v :: vs) F3 H3 ⟨Rp.mono s3 so, P⟩ (s1.trans (s2.trans s3))⟩
  | own d =>
    obtain ⟨p, rfl, l, m⟩ := so
    obtain ⟨o, eo⟩ := m.there
    refine ⟨Rf, upd G p o, ρ2, F2, ss, ρ3, R2.guard eo l, e3, fun vs F3 H3 P s3 => ?_⟩
    have g3 := P.gs p o upd_same
    exact k (.ref p :: vs) F3 H3 ⟨p, o, rfl, l.2.1, fun i => l.rf R2, m.mono (g3.1.trans eo.symm) s3, P⟩ (s1.trans (s2.trans s3))
  | un => exact so.elim
  | ref d => exact so.elim
  | lok b d => exact so.elim
theorem redPar {K : PySem.W.Frag} {is : List Nat} {D : Ends} {σ : St} {H : Hp} (h : tS K (evS Φ bf M (.par is xs)) D σ H) : tSl K (evst Φ bf xs) σ H fun vs H1 => (∃ s : List Slot, s.length = vs.length ∧ s.length = is.length) ∧ D.nx (setAll σ is vs) H1 ∧ True := by
  obtain ⟨Rf, G, ρ, F, o, R, e, k⟩ := h
  simp only [evS, Option.bind_eq_some_iff] at e
  obtain ⟨⟨ss, ρ1⟩, e1, ρ2, e2, e⟩ := e
  simp only [Option.some.injEq] at e
  subst e
  have len : ∀ {is : List Nat} {ss : List Slot} {ρ ρ' : Ev}, asgAll is ss ρ = some ρ' → ss.length = is.length := by
    intro is
    induction is with
    | nil => intro ss ρ ρ' e; cases ss with
      | nil => rfl
      | cons _ _ => simp only [asgAll] at e; cases e
    | cons i is ih => intro ss ρ ρ' e; cases ss with
      | nil => simp only [asgAll] at e; cases e
      | cons s ss =>
        simp only [asgAll, Option.bind_eq_some_iff] at e
        obtain ⟨ρ1, e1, _⟩ := e
        simp [ih e1]
  exact ⟨Rf, G, ρ, F, ss, ρ1, R, e1, fun vs F1 H1 P s1 => ⟨⟨ss, P.length.symm, len e2⟩, k _ F1 H1 (P.store e2) s1, trivial⟩⟩
theorem cs_par2 {i j : Nat} {nx ny : Str} (hc : X.calm = true) (hN : X.N.Nodup) (hi : X.N[i]? = some nx) (hj : X.N[j]? = some ny) (hij : i ≠ j) (hx : X.env.scope.names.lookup nx = some .local) (hy : X.env.scope.names.lookup ny = some .local) (ha : CL X Φ bf [a, b] xs)
    (hw : swappedStores [.Tuple [.Name nx px, .Name ny py] kt pt] (.Tuple [a, b] k2 pt2) X.env = pure (some [nx, ny]))
    (hs : swapsWithSole [.Tuple [.Name nx px, .Name ny py] kt pt] (.Tuple [a, b] k2 pt2) pos.line X.env = pure false := by rfl) :
    CS X Φ bf M (.Assign [.Tuple [.Name nx px, .Name ny py] kt pt] (.Tuple [a, b] k2 pt2) pos) (.par [i, j] xs) := by
  refine PS.imp (ps_par hc hN hi hj hij hx hy ha hw hs) fun D σ H h => ?_
  obtain ⟨Rf, G, ρ, F, ss, ρ', R, e, k⟩ := redPar h
  refine ⟨Rf, G, ρ, F, ss, ρ', R, e, fun vs F' H' P s => ?_⟩
  obtain ⟨⟨s0, l1, l2⟩, q, _⟩ := k vs F' H' P s
  have l3 : vs.length = 2 := by rw [← l1, l2]; rfl
  match vs, l3, q with
  | [v, w], _, q =>
    refine ⟨v, w, rfl, ?_⟩
    have e0 : setAll σ [i, j] [v, w] = (σ.set i (some v)).set j (some w) := List.set_comm _ _ (Ne.symm hij)
    rw [← e0]
    exact q
theorem cs_par3 {i j l : Nat} {nx ny nz : Str} (hc : X.calm = true) (hN : X.N.Nodup) (hi : X.N[i]? = some nx) (hj : X.N[j]? = some ny) (hl : X.N[l]? = some nz) (hij : i ≠ j) (hil : i ≠ l) (hjl : j ≠ l)
    (hp : ∀ {ta : TA}, PA X [a, b, e] ta → PS X st (tPar3 i j l ta)) (ha : CL X Φ bf [a, b, e] xs) : CS X Φ bf M st (.par [i, j, l] xs) := by
  refine PS.imp (hp ha) fun D σ H h => ?_
  obtain ⟨Rf, G, ρ, F, ss, ρ', R, e, k⟩ := redPar h
  refine ⟨Rf, G, ρ, F, ss, ρ', R, e, fun vs F' H' P s => ?_⟩
  obtain ⟨⟨s0, l1, l2⟩, q, _⟩ := k vs F' H' P s
  have l3 : vs.length = 3 := by rw [← l1, l2]; rfl
  match vs, l3, q with
  | [u, v, w], _, q =>
    refine ⟨u, v, w, rfl, ?_⟩
    have e0 : setAll σ [i, j, l] [u, v, w] = ((σ.set i (some u)).set j (some v)).set l (some w) := by
      show ((σ.set l (some w)).set j (some v)).set i (some u) = _
      rw [List.set_comm (l := σ) _ _ (Ne.symm hjl), List.set_comm _ _ (Ne.symm hil), List.set_comm (l := σ) _ _ (Ne.symm hij)]
    rw [← e0]
    exact q
/-- by a tuple that is made and unpacked -/
theorem redParT {K : PySem.W.Frag} {is : List Nat} {D : Ends} {σ : St} {H : Hp} (hz : is.length ≤ sizeLine) (h : tS K (evS Φ bf M (.par is xs)) D σ H) : tSl K (evst Φ bf xs) σ H fun vs H1 => vs.length ≤ sizeLine ∧ ∀ p, H1 p = none → (vs.length = is.length ∧ D.nx (setAll σ is vs) (upd H1 p (.tup vs))) := by
  obtain ⟨Rf, G, ρ, F, o, R, e, k⟩ := h
  have len : ∀ {is : List Nat} {ss : List Slot} {ρ ρ' : Ev}, asgAll is ss ρ = some ρ' → ss.length = is.length := by
    intro is
    induction is with
    | nil => intro ss ρ ρ' e; cases ss with
      | nil => rfl
      | cons _ _ => simp only [asgAll] at e; cases e
    | cons i is ih => intro ss ρ ρ' e; cases ss with
      | nil => simp only [asgAll] at e; cases e
      | cons s ss =>
        simp only [asgAll, Option.bind_eq_some_iff] at e
        obtain ⟨ρ1, e1, _⟩ := e
        simp [ih e1]
  simp only [evS, Option.bind_eq_some_iff] at e
  obtain ⟨⟨ss, ρ1⟩, e1, ρ2, e2, e⟩ := e
  simp only [Option.some.injEq] at e
  subst e
  refine ⟨Rf, G, ρ, F, ss, ρ1, R, e1, fun vs F1 H1 P s1 => ?_⟩
  have l : vs.length = is.length := P.length.trans (len e2)
  refine ⟨by omega, fun p hp => ⟨l, ?_⟩⟩
  have P' : Pend K Rf ρ1 F1 σ (upd H1 p (.tup vs)) G vs ss := P.grow (upd_Same hp)
  exact k _ F1 _ (P'.store e2) s1
theorem cs_parT2 {i j : Nat} {t1 t2 : Expr} (hc : X.calm = true) (hij : i ≠ j) (h1 : PG X t1 (gName i)) (h2 : PG X t2 (gName j)) (ha : CL X Φ bf [a, b] xs)
    (hs : swapsWithSole [.Tuple [t1, t2] kt pt] (.Tuple [a, b] k2 pt2) pos.line X.env = pure false := by rfl) (hw : swappedStores [.Tuple [t1, t2] kt pt] (.Tuple [a, b] k2 pt2) X.env = pure none)
    (g1 : (assignEach [.Tuple [t1, t2] kt pt] X.env).map (·.2) = [assign (.Tuple [t1, t2] kt pt) X.env] := by rfl)
    (s1 : (assignEach [t1, t2] X.env).map (·.2) = assign t1 X.env :: (assignEach [t2] X.env).map (·.2) := by rfl) (s2 : (assignEach [t2] X.env).map (·.2) = assign t2 X.env :: (assignEach [] X.env).map (·.2) := by rfl)
    (hn : (assignEach [t1, t2] X.env).length = 2 := by rfl) (hst : (assignEach [t1, t2] X.env).findIdx? (·.1) = none := by rfl) :
    CS X Φ bf M (.Assign [.Tuple [t1, t2] kt pt] (.Tuple [a, b] k2 pt2) pos) (.par [i, j] xs) := by
  refine PS.imp (ps_asg (pe_tup ha) (pg_tup (n := 2) hc (pgs_cons h1 (pgs_cons h2 pgs_nil s2) s1) hn hst) hs hw g1) fun D σ H h => ?_
  obtain ⟨Rf, G, ρ, F, ss, ρ', R, e, k⟩ := redParT (by show 2 ≤ sizeLine; rw [sizeLine_eq]; decide) h
  refine ⟨Rf, G, ρ, F, ss, ρ', R, e, fun vs F' H' P s => ?_⟩
  obtain ⟨z, k'⟩ := k vs F' H' P s
  refine ⟨z, fun p hp => ?_⟩
  obtain ⟨l3, q⟩ := k' p hp
  match vs, l3, q with
  | [v, w], _, q =>
    refine ⟨p, [v, w], rfl, SqT.of upd_same, rfl, v, [w], rfl, w, [], rfl, rfl, ?_⟩
    have e0 : setAll σ [i, j] [v, w] = (σ.set i (some v)).set j (some w) := List.set_comm _ _ (Ne.symm hij)
    rw [← e0]
    exact q
theorem cs_parT3 {i j l : Nat} {t1 t2 t3 : Expr} (hc : X.calm = true) (hij : i ≠ j) (hil : i ≠ l) (hjl : j ≠ l) (h1 : PG X t1 (gName i)) (h2 : PG X t2 (gName j)) (h3 : PG X t3 (gName l)) (ha : CL X Φ bf [a, b, e] xs)
    (hs : swapsWithSole [.Tuple [t1, t2, t3] kt pt] (.Tuple [a, b, e] k2 pt2) pos.line X.env = pure false := by rfl) (hw : swappedStores [.Tuple [t1, t2, t3] kt pt] (.Tuple [a, b, e] k2 pt2) X.env = pure none)
    (g1 : (assignEach [.Tuple [t1, t2, t3] kt pt] X.env).map (·.2) = [assign (.Tuple [t1, t2, t3] kt pt) X.env] := by rfl)
    (s1 : (assignEach [t1, t2, t3] X.env).map (·.2) = assign t1 X.env :: (assignEach [t2, t3] X.env).map (·.2) := by rfl) (s2 : (assignEach [t2, t3] X.env).map (·.2) = assign t2 X.env :: (assignEach [t3] X.env).map (·.2) := by rfl) (s3 : (assignEach [t3] X.env).map (·.2) = assign t3 X.env :: (assignEach [] X.env).map (·.2) := by rfl)
    (hn : (assignEach [t1, t2, t3] X.env).length = 3 := by rfl) (hst : (assignEach [t1, t2, t3] X.env).findIdx? (·.1) = none := by rfl) :
    CS X Φ bf M (.Assign [.Tuple [t1, t2, t3] kt pt] (.Tuple [a, b, e] k2 pt2) pos) (.par [i, j, l] xs) := by
  refine PS.imp (ps_asg (pe_tup ha) (pg_tup (n := 3) hc (pgs_cons h1 (pgs_cons h2 (pgs_cons h3 pgs_nil s3) s2) s1) hn hst) hs hw g1) fun D σ H h => ?_
  obtain ⟨Rf, G, ρ, F, ss, ρ', R, e, k⟩ := redParT (by show 3 ≤ sizeLine; rw [sizeLine_eq]; decide) h
  refine ⟨Rf, G, ρ, F, ss, ρ', R, e, fun vs F' H' P s => ?_⟩
  obtain ⟨z, k'⟩ := k vs F' H' P s
  refine ⟨z, fun p hp => ?_⟩
  obtain ⟨l3, q⟩ := k' p hp
  match vs, l3, q with
  | [u, v, w], _, q =>
    refine ⟨p, [u, v, w], rfl, SqT.of upd_same, rfl, u, [v, w], rfl, v, [w], rfl, w, [], rfl, rfl, ?_⟩
    have e0 : setAll σ [i, j, l] [u, v, w] = ((σ.set i (some u)).set j (some v)).set l (some w) := by
      show ((σ.set l (some w)).set j (some v)).set i (some u) = _
      rw [List.set_comm (l := σ) _ _ (Ne.symm hjl), List.set_comm _ _ (Ne.symm hil), List.set_comm (l := σ) _ _ (Ne.symm hij)]
    rw [← e0]
    exact q
/-- name op= value, whole numbers -/
theorem cs_aug (i : Nat) {op : Operator} {f : PyData → PyData → Option (Bool × PyData)} {r : R2} (ok : Ok2 X.K r f) (ho : OpR X (inplaceOp op) r) (hN : X.N.Nodup) (hi : X.N[i]? = some n) (hx : Loc X.env.scope n) (he : CE X Φ bf e x)
    (hf : X.fn n = true ∨ X.env.scope.names.lookup n = some .local := by first | exact .inl rfl | exact .inr rfl | assumption) : CS X Φ bf M (.AugAssign (.Name n px) op e pos) (.aug i f x) := by
  refine PS.imp (ps_aug (ti := r) hN hi hx he ho hf) fun D σ H h => ?_
  obtain ⟨Rf, G, ρ, F, o, R, e, k⟩ := h
  simp only [evS] at e
  split at e
  · rename_i d hd
    simp only [Option.bind_eq_some_iff] at e
    obtain ⟨⟨r1, ρ1⟩, e1, d', e2, ⟨nn, dz⟩, e3, e⟩ := e
    cases nn with
    | true => cases e
    | false =>
      simp only [Option.bind_eq_some_iff] at e
      obtain ⟨ρ2, e4, e⟩ := e
      simp only [Option.some.injEq] at e
      subst e
      obtain ⟨v, ev0, rv⟩ := R.sl i _ hd
      refine ⟨v, ev0, tX_opd R e1 fun w F1 H1 R1 s1 o1 => ?_⟩
      refine ok _ _ _ _ _ _ _ _ _ _ _ _ _ R1 ((rv.mono s1).rq R1.fz) (R1.rq o1 e2) e3 fun v' F2 H2 R2 s2 q => ?_
      exact k _ F2 H2 (R2.asg e4 q) (s1.trans s2)
  · cases e
/-- v.pop() -/
theorem ce_pop (i : Nat) {nm : Str} {p1 p2 p3 : Pos} (hN : X.N[i]? = some nm) (hv : Vis X.env.scope nm) (hd : (nm == ("__debug__" : Str)) = false) (hcd : (nm == ("__classdict__" : Str)) = false)
    (hbase : attributeBase (.Name nm p1) "pop" X.env (eval (.Name nm p1) X.env) = eval (.Name nm p1) X.env := by rfl) (hline : (p2.endLine == p3.line) = true := by rfl) :
    CE X Φ bf (.Call (.Attribute (.Name nm p1) "pop" p2) [] [] p3) (.pop i) := by
  refine PE.imp (pe_bm0 PySem.F.plainAttrs_list PySem.F.slot_list_pop PySem.F.type_list_pop mt_pop (pe_var hN hv hd hcd) hbase hline) fun σ H Q h => ?_
  obtain ⟨Rf, G, ρ, F, r, ρ', R, e, k⟩ := h
  simp only [ev, Option.bind_eq_some_iff] at e
  obtain ⟨c, e1, e⟩ := e
  obtain ⟨a, ea, na, m, mj, _⟩ := conOf_some R e1
  cases c with
  | list ds =>
    simp only [Option.bind_eq_some_iff] at e
    obtain ⟨d, e2, ρ1, e3, e⟩ := e
    simp only [Option.some.injEq, Prod.mk.injEq] at e
    obtain ⟨rfl, rfl⟩ := e
    obtain ⟨vs, hv1, hz, rv⟩ := m
    obtain ⟨v, hv2, rd⟩ := rv.get e2
    refine ⟨.ref a, ea, .inl ⟨rfl, vs, SqL.of hv1⟩, a, vs, v, rfl, rfl, hv1, by rw [rv.length]; exact hv2, ?_⟩
    have W := R.write e3 ea na mj (o := .lst vs.dropLast) ⟨vs.dropLast, upd_same, by rw [List.length_dropLast]; exact Nat.le_trans (Nat.sub_le _ _) hz, by
      rw [List.dropLast_eq_take, List.dropLast_eq_take, rv.length]; exact rv.take _⟩
    exact k v F _ W (Same.refl _) rd
  | _ => cases e

def outOf (d : PyData) (ρ : Ev) : Option Nat → Option (PyData × PyData)
  | none => some (d, .none)
  | some k => match ρ[k]? with
    | some (.ref c) => some (d, c)
    | _ => none
def conArg (ds : List PyData) : Option Nat → PyData
  | none => .none
  | some k => ds.getD k .none
/-- what a body is worth: N slots, one parameter perhaps by reference -/
def callBody (Φ : Fns) (bf : Nat → Option Nat) (M : Nat) (b : Ss) (np ns : Nat) (k : Option Nat) (ds : List PyData) : Option (PyData × PyData) :=
  if ds.length = np then
    match evSs Φ bf M b (slotsOf ds (conArg ds k) k ++ List.replicate (ns - np) .un) with
    | some (.rt d ρ) => outOf d ρ k
    | some (.nx ρ) => outOf .none ρ k
    | _ => none
  else none
theorem SR.more {K : PySem.W.Frag} {Rf : Nat → Option Addr} {G F H : Hp} {ρ : Ev} {σ : St} (R : SR K Rf G ρ F σ H) (n : Nat) : SR K Rf G (ρ ++ List.replicate n .un) F (σ ++ List.replicate n none) H := by
  have nl : ∀ i s, (ρ ++ List.replicate n Slot.un)[i]? = some s → (i < ρ.length ∧ ρ[i]? = some s) ∨ s = .un := fun i s e => by
    by_cases h : i < ρ.length
    · rw [List.getElem?_append_left h] at e; exact .inl ⟨h, e⟩
    · rw [List.getElem?_append_right (by omega), List.getElem?_replicate] at e
      split at e
      · cases e; exact .inr rfl
      · cases e
  have sl : ∀ i, i < ρ.length → (σ ++ List.replicate n none)[i]? = σ[i]? := fun i h => List.getElem?_append_left (by rw [← R.len]; exact h)
  have mu : ∀ i, MutI (ρ ++ List.replicate n .un) i → i < ρ.length ∧ MutI ρ i := fun i ⟨s, e, m⟩ => by
    rcases nl i s e with ⟨h, e'⟩ | rfl
    · exact ⟨h, s, e', m⟩
    · cases m
  refine ⟨by rw [List.length_append, List.length_append, R.len, List.length_replicate, List.length_replicate], R.fz, fun i s e => ?_, fun i j a mi mj ei ej => ?_, fun i a mi ei => ?_, R.gs, fun i a e => ?_⟩
  · rcases nl i s e with ⟨h, e'⟩ | rfl
    · rw [sl i h]; exact R.sl i s e'
    · trivial
  · rw [sl i (mu i mi).1] at ei
    rw [sl j (mu j mj).1] at ej
    exact R.dis i j a (mu i mi).2 (mu j mj).2 ei ej
  · rw [sl i (mu i mi).1] at ei
    exact R.gm i a (mu i mi).2 ei
  · obtain ⟨z1, s, z2, z3⟩ := R.rf i a e
    have h : i < ρ.length := (List.getElem?_eq_some_iff.mp z2).1
    exact ⟨by rw [sl i h]; exact z1, s, by rw [List.getElem?_append_left h]; exact z2, z3⟩
/-- at a def's end, from its slots back to its arguments -/
theorem SR.leave {K : PySem.W.Frag} {k : Option Nat} {vs : List V} {G F F' H H' : Hp} {ds : List PyData} {c d c' : PyData} {ρ : Ev} {σ : St} (R : SR K (rfOf k vs) G (slotsOf ds c k) F (vs.map some) H) (R' : SR K (rfOf k vs) G ρ F' σ H') (s : Same F F') (e : outOf d ρ k = some (d, c')) :
    SR K (rfOf k vs) G (slotsOf ds c' k) F' (vs.map some) H' := by
  have hl : vs.length = ds.length := by have := R.len; rw [slotsOf_length, List.length_map] at this; exact this.symm
  have key : ∀ i, k = some i → ∃ a, vs[i]? = some (.ref a) ∧ F' a = none ∧ MutAt K F' H' a c' ∧ G a = none := fun i hk => by
    subst hk
    simp only [outOf] at e
    split at e
    · rename_i c2 hc
      cases e
      obtain ⟨a, ea, na, m, q⟩ := R'.sl i _ hc
      unfold rfOf at q
      rw [if_pos rfl] at q
      split at q
      · rename_i b hb
        cases q
        exact ⟨a, hb, na, m, R'.gm i a ⟨_, hc, rfl⟩ ea⟩
      · cases q
    · cases e
  have mk : ∀ i, MutI (slotsOf ds c' k) i → k = some i := fun i ⟨t, et, mt⟩ => by
    rcases slotsOf_get et with ⟨z, _⟩ | ⟨_, d, _, rfl⟩
    · exact z
    · cases mt
  refine ⟨by rw [slotsOf_length, List.length_map, hl], R'.fz, fun i t et => ?_, fun i j a mi mj _ _ => by have h1 := mk i mi; have h2 := mk j mj; rw [h1] at h2; exact Option.some.inj h2, fun i a mi ei => ?_, R'.gs, fun i a ea => ?_⟩
  · rcases slotsOf_get et with ⟨z, rfl, _⟩ | ⟨hk, d, ed, rfl⟩
    · obtain ⟨a, ha, na, m, _⟩ := key i z
      exact ⟨a, by rw [List.getElem?_map, ha]; rfl, na, m, by unfold rfOf; rw [if_pos z, ha]⟩
    · have h0 : (slotsOf ds c k)[i]? = some (.dat d) := by
        cases k with
        | none => unfold slotsOf; rw [List.getElem?_map, ed]; rfl
        | some k => unfold slotsOf; rw [List.getElem?_set_ne (fun z => hk (by rw [z])), List.getElem?_map, ed]; rfl
      obtain ⟨x, ex, rx⟩ := R.sl i _ h0
      exact ⟨x, ex, rx.mono s⟩
  · obtain ⟨b, hb, _, _, g⟩ := key i (mk i mi)
    rw [List.getElem?_map, hb] at ei
    cases ei
    exact g
  · unfold rfOf at ea
    split at ea
    · rename_i hk
      obtain ⟨b, hb, _⟩ := key i hk
      rw [hb] at ea
      cases ea
      subst hk
      have hi : i < ds.length := by rw [← hl]; exact (List.getElem?_eq_some_iff.mp hb).1
      refine ⟨by rw [List.getElem?_map, hb]; rfl, .ref c', ?_, rfl⟩
      unfold slotsOf
      rw [List.getElem?_set_self (by rw [List.length_map]; exact hi)]
    · cases ea
theorem outOf_fst {d : PyData} {ρ : Ev} {k : Option Nat} {r : PyData × PyData} (e : outOf d ρ k = some r) : r.1 = d ∧ outOf d ρ k = some (d, r.2) := by
  cases k with
  | none => simp only [outOf, Option.some.injEq] at e; subst e; exact ⟨rfl, rfl⟩
  | some k =>
    simp only [outOf] at e ⊢
    split at e
    · rename_i c h; cases e; exact ⟨rfl, rfl⟩
    · cases e
/-- THE RULE for a def -/
theorem fn_ok {P : Program} {w : World} {K : PySem.W.Frag} {mg : Str → Option Value} {base : Heap} {nm qual : Str} {st : Stmt} {f : Addr} {fd : FuncData} {N ps : List Str} {lv : Nat} {k : Option Nat} {body : Ss} {φ : List PyData → Option (PyData × PyData)}
    (F : Fun K nm qual st f fd) (S : FnScope N ps (defScope st))
    (hb : ∀ (cdv : Value) (A : Around) (outer : List Env) (s : Shared) (H : Hp) (E : XK), Room lv (A.deeper (envOfC qual (defScope st) s.heap.objs.size f cdv)) →
      CSs (cxOf CX0 P w K mg base N qual (defScope st) f cdv A outer s H E).nox Φ bf M (defBody st) body)
    (hφ : ∀ ds r, φ ds = some r → callBody Φ bf M body ps.length N.length k ds = some r) : FnOk P w K mg base CX0 (lv + 1) f fd ps (spF K k ps.length φ) := by
  refine F.ok S (fun vs H Q E h => h.1) (fun cdv A outer s H vs Q E hr h => ⟨_, hb cdv A outer s H E hr, ?_⟩)
  obtain ⟨hl, G, F0, ds, c, d, c', R, hk, e, kk⟩ := h
  have e := hφ _ _ e
  unfold callBody at e
  split at e
  · rename_i hdl
    have hc : slotsOf ds (conArg ds k) k = slotsOf ds c k := by
      cases k with
      | none => rfl
      | some k => simp only [slotsOf, conArg]; rw [List.getD_eq_getElem?_getD, hk k rfl]; rfl
    rw [hc] at e
    have R1 := R.more (N.length - vs.length)
    rw [hl] at R1
    have st0 : start N vs = vs.map some ++ List.replicate (N.length - ps.length) none := by unfold start; rw [hl]
    show tS K (evSs Φ bf M body) { nx := fun _ H' => Q .non H', rt := Q } (start N vs) H
    rw [st0]
    split at e
    · rename_i dv ρ he
      obtain ⟨h1, h2⟩ := outOf_fst e
      simp only at h1; subst h1
      exact ⟨_, G, _, F0, _, R1, he, fun v σ' F' H' R' s' q => kk v F' H' (R.leave R' s' h2) s' q⟩
    · rename_i ρ he
      obtain ⟨h1, h2⟩ := outOf_fst e
      simp only at h1; subst h1
      exact ⟨_, G, _, F0, _, R1, he, fun σ' F' H' R' s' => kk .non F' H' (R.leave R' s' h2) s' .non⟩
    · cases e
  · cases e
end
end L2.Z

namespace L2.Z
open PySem PySem.Spec PyProof.Rows

theorem lenZ {xs : Xs} (h : Nat.ble xs.len 1000 = true) : xs.len ≤ sizeLine := Nat.le_trans (Nat.le_of_ble_eq_true h) (by decide)
theorem blkX {N : List Str} {sc scope : Scope} {own : List (Str × Nat)} (h : blkC N sc scope own = true) : blkC N sc scope own = true := h
section
variable {X : Cx} {Φ : Fns} {bf : Nat → Option Nat} {M : Nat} {a b : Expr} {x y : L2.Z.X} {pos : Pos}
theorem ce_isN {j : Nat} {pos' : Pos} (ha : CE X Φ bf a x) : CE X Φ bf (.Compare a [.Is] [.Constant .none j pos'] pos) (.op1 pIsN x) :=
  ce1 ok_isN (fun ta h => pe_cmp (t := tIsN ta) (pc_isN h) rfl) ha
theorem ce_notN {j : Nat} {pos' : Pos} (ha : CE X Φ bf a x) : CE X Φ bf (.Compare a [.IsNot] [.Constant .none j pos'] pos) (.op1 pNotN x) :=
  ce1 ok_notN (fun ta h => pe_cmp (t := tNotN ta) (pc_notN h) rfl) ha
theorem ct_isN {j : Nat} {pos' : Pos} (ha : CE X Φ bf a x) : CT X Φ bf (.Compare a [.Is] [.Constant .none j pos'] pos) (.op1 pIsN x) :=
  PT.imp (pt_cmp (t := tIsN _) (pc_isN ha) rfl) fun σ H Q q => red1 ok_isN (redT q)
theorem ct_notN {j : Nat} {pos' : Pos} (ha : CE X Φ bf a x) : CT X Φ bf (.Compare a [.IsNot] [.Constant .none j pos'] pos) (.op1 pNotN x) :=
  PT.imp (pt_cmp (t := tNotN _) (pc_notN ha) rfl) fun σ H Q q => red1 ok_notN (redT q)
theorem iop_mulZ : OpR X (inplaceOp .Mult) (rI MulOk fun i j => .int (i * j)) := opI fun _ _ _ _ _ _ _ hc q => imul_int q hc.ok
theorem fn_zero {P : Program} {w : World} {K : PySem.W.Frag} {mg : Str → Option Value} {base : Heap} {lv : Nat} {f : Addr} {fd : FuncData} {ps : List Str} {k : Option Nat} :
    FnOk P w K mg base CX0 lv f fd ps (spF K k ps.length fun _ => none) :=
  ⟨fun vs H Q E h => h.1, fun _ _ _ _ _ _ _ _ _ _ _ _ _ h => by obtain ⟨_, _, _, _, _, _, _, _, _, e, _⟩ := h; cases e⟩
theorem callBody_len {b : Ss} {np ns : Nat} {k : Option Nat} {ds : List PyData} {r : PyData × PyData} (h : callBody Φ bf M b np ns k ds = some r) : ds.length = np := by
  unfold callBody at h
  split at h
  · assumption
  · cases h
end
/-- the law's promise -/
def spLaw (K : PySem.W.Frag) : Sp := fun vs H Q _ => ∃ (a : Addr) (ns : List Int), vs = [.ref a] ∧ SqL K H a (ns.map V.int) ∧ ns.length ≤ 63 ∧ ∀ H', Q (.bl true) H'
theorem rpa_mapInt {K : PySem.W.Frag} {F : Hp} : ∀ ns : List Int, RpA K F (ns.map V.int) (ns.map PyData.int)
  | [] => .nil
  | i :: r => .cons (.int i) (rpa_mapInt r)
theorem law_ok {P : Program} {w : World} {K : PySem.W.Frag} {mg : Str → Option Value} {base : Heap} {lv : Nat} {f : Addr} {fd : FuncData} {x : Str} {φ : List PyData → Option (PyData × PyData)}
    (Fk : FnOk P w K mg base CX0 lv f fd [x] (spF K none 1 φ)) (h : ∀ ns : List Int, ns.length ≤ 63 → φ [.list (ns.map .int)] = some (.bool true, .none)) : FnOk P w K mg base CX0 lv f fd [x] (spLaw K) := by
  refine Fk.imp fun vs H Q E q => ?_
  obtain ⟨a, ns, rfl, hS, hl, k⟩ := q
  refine ⟨rfl, fun _ => none, H, [.list (ns.map .int)], .none, .bool true, .none, ?_, fun _ z => (by cases z), h ns hl, fun v F' H' R s r => ?_⟩
  · refine ⟨rfl, Same.refl _, fun i s e => ?_, fun i j b mi mj _ _ => ?_, fun i b mi _ => ?_, fun _ _ e => (by cases e), fun i b e => (by cases e)⟩
    · cases i with
      | zero =>
        cases e
        exact ⟨.ref a, rfl, .lst hS (by rw [List.length_map]; exact Nat.le_trans hl (by decide)) (rpa_mapInt ns)⟩
      | succ i => cases e
    all_goals
      obtain ⟨s, e, m⟩ := mi
      cases i with
      | zero => cases e; cases m
      | succ i => cases e
  · cases r
    exact k H'
end L2.Z

namespace L2.Z
open PySem
section
variable {Φ : Fns} {bf : Nat → Option Nat} {M : Nat} {ρ : Ev}
@[simp] theorem z_v {i : Nat} : ev Φ bf (.v i) ρ = (ρ[i]?).bind fun s => s.get.bind fun _ => some (.slot i, ρ) := by simp only [ev]
@[simp] theorem z_k {d : PyData} : ev Φ bf (.k d) ρ = some (.val d, ρ) := by simp only [ev]
@[simp] theorem z_op1 {f} {a : X} : ev Φ bf (.op1 f a) ρ = (ev Φ bf a ρ).bind fun p => (p.1.get p.2).bind fun d => (f d).bind fun q => some (mkR q.1 q.2, p.2) := by simp only [ev]
@[simp] theorem z_op2 {f} {a b : X} : ev Φ bf (.op2 f a b) ρ = (ev Φ bf a ρ).bind fun p => (ev Φ bf b p.2).bind fun p' => (p.1.get p'.2).bind fun d => (p'.1.get p'.2).bind fun d' => (f d d').bind fun q => some (mkR q.1 q.2, p'.2) := by simp only [ev]
@[simp] theorem z_and {a b : X} : ev Φ bf (.and a b) ρ = (truth (ev Φ bf a) ρ).bind fun p => if p.1 = true then (truth (ev Φ bf b) p.2).bind fun q => some (.val (.bool q.1), q.2) else some (.val (.bool false), p.2) := by simp only [ev]
@[simp] theorem z_or {a b : X} : ev Φ bf (.or a b) ρ = (truth (ev Φ bf a) ρ).bind fun p => if p.1 = true then some (.val (.bool true), p.2) else (truth (ev Φ bf b) p.2).bind fun q => some (.val (.bool q.1), q.2) := by simp only [ev]
@[simp] theorem z_ite {c a b : X} : ev Φ bf (.ite c a b) ρ = (truth (ev Φ bf c) ρ).bind fun p => if p.1 = true then ev Φ bf a p.2 else ev Φ bf b p.2 := by simp only [ev]
@[simp] theorem z_chain {f g} {a b c : X} : ev Φ bf (.chain f g a b c) ρ = (ev Φ bf a ρ).bind fun p => (ev Φ bf b p.2).bind fun p' => (p.1.get p'.2).bind fun d => (p'.1.get p'.2).bind fun d' => match f d d' with
    | some (false, .bool true) => (ev Φ bf c p'.2).bind fun p'' => (p'.1.get p''.2).bind fun e => (p''.1.get p''.2).bind fun e' => match g e e' with
      | some (false, .bool z) => some (.val (.bool z), p''.2)
      | _ => none
    | some (false, .bool false) => some (.val (.bool false), p'.2)
    | _ => none := by simp only [ev] <;> rfl
theorem z_chain3 {f g h} {a b c d : X} : ev Φ bf (.chain3 f g h a b c d) ρ = (ev Φ bf a ρ).bind fun p => (ev Φ bf b p.2).bind fun p' => (p.1.get p'.2).bind fun v => (p'.1.get p'.2).bind fun v' => match f v v' with
    | some (false, .bool true) => (ev Φ bf c p'.2).bind fun p'' => (p'.1.get p''.2).bind fun e => (p''.1.get p''.2).bind fun e' => match g e e' with
      | some (false, .bool true) => (ev Φ bf d p''.2).bind fun q => (p''.1.get q.2).bind fun w => (q.1.get q.2).bind fun w' => match h w w' with
        | some (false, .bool z) => some (.val (.bool z), q.2)
        | _ => none
      | some (false, .bool false) => some (.val (.bool false), p''.2)
      | _ => none
    | some (false, .bool false) => some (.val (.bool false), p'.2)
    | _ => none := by simp only [ev] <;> rfl
@[simp] theorem z_call {f : Nat} {as : Xs} : ev Φ bf (.call f as) ρ = (evs Φ bf as ρ).bind fun p => (callArgs p.2 p.1 (bf f)).bind fun q => (Φ f q.1).bind fun z => (callBack q.2 p.1 z.2 (bf f)).bind fun ρ' => some (.val z.1, ρ') := by simp only [ev]
@[simp] theorem z_tup {as : Xs} : ev Φ bf (.tup as) ρ = (evv Φ bf as ρ).bind fun p => some (.val (.tuple p.1), p.2) := by simp only [ev]
@[simp] theorem z_lst {as : Xs} : ev Φ bf (.lst as) ρ = (evv Φ bf as ρ).bind fun p => some (.new (.list p.1), p.2) := by simp only [ev]
@[simp] theorem z_s0 : evs Φ bf .nil ρ = some ([], ρ) := by simp only [evs]
@[simp] theorem z_s1 {x : X} {r : Xs} : evs Φ bf (.cons x r) ρ = (ev Φ bf x ρ).bind fun p => (evs Φ bf r p.2).bind fun q => some (p.1 :: q.1, q.2) := by simp only [evs]
@[simp] theorem z_v0 : evv Φ bf .nil ρ = some ([], ρ) := by simp only [evv]
@[simp] theorem z_v1 {x : X} {r : Xs} : evv Φ bf (.cons x r) ρ = (valof (ev Φ bf x) ρ).bind fun p => (evv Φ bf r p.2).bind fun q => some (p.1 :: q.1, q.2) := by simp only [evv]
@[simp] theorem z_set {i : Nat} {e : X} : evS Φ bf M (.set i e) ρ = (ev Φ bf e ρ).bind fun p => (stored p.2 p.1).bind fun q => (asg i q.1 q.2).bind fun ρ => some (.nx ρ) := by simp only [evS]
@[simp] theorem z_put {t : Tg} {e : X} : evS Φ bf M (.put t e) ρ = (valof (ev Φ bf e) ρ).bind fun p => (t.bind p.1 p.2).bind fun ρ => some (.nx ρ) := by simp only [evS]
@[simp] theorem z_par {is : List Nat} {es : Xs} : evS Φ bf M (.par is es) ρ = (evst Φ bf es ρ).bind fun p => (asgAll is p.1 p.2).bind fun ρ => some (.nx ρ) := by simp only [evS]
@[simp] theorem z_setAt {i : Nat} {k e : X} : evS Φ bf M (.setAt i k e) ρ = (valof (ev Φ bf e) ρ).bind fun p => (conOf p.2 i).bind fun _ => (ev Φ bf k p.2).bind fun q => (q.1.get q.2).bind fun dk => (conOf q.2 i).bind fun c => (setD c dk p.1).bind fun c' => (conSet q.2 i c').bind fun ρ => some (.nx ρ) := by simp only [evS]
@[simp] theorem z_app {i : Nat} {e : X} : evS Φ bf M (.app i e) ρ = (lstAt ρ i).bind fun _ => (valof (ev Φ bf e) ρ).bind fun p => (conOf p.2 i).bind fun c => (appD c [p.1]).bind fun c' => (conSet p.2 i c').bind fun ρ => some (.nx ρ) := by simp only [evS]
@[simp] theorem z_expr {e : X} : evS Φ bf M (.expr e) ρ = (ev Φ bf e ρ).bind fun p => some (.nx p.2) := by simp only [evS]
@[simp] theorem z_if {c : X} {a b : Ss} : evS Φ bf M (.ite c a b) ρ = (truth (ev Φ bf c) ρ).bind fun p => if p.1 = true then evSs Φ bf M a p.2 else evSs Φ bf M b p.2 := by simp only [evS]
@[simp] theorem z_ret {e : X} : evS Φ bf M (.ret e) ρ = (valof (ev Φ bf e) ρ).bind fun p => some (.rt p.1 p.2) := by simp only [evS]
@[simp] theorem z_pass : evS Φ bf M .pass ρ = some (.nx ρ) := by simp only [evS]
@[simp] theorem z_brk : evS Φ bf M .brk ρ = some (.bk ρ) := by simp only [evS]
@[simp] theorem z_cnt : evS Φ bf M .cnt ρ = some (.ct ρ) := by simp only [evS]
@[simp] theorem z_stuck : evS Φ bf M .stuck ρ = none := by simp only [evS]
theorem z_lc {e : X} {t : Tg} {g} {as : Xs} {c : X} {own : List Nat} : ev Φ bf (.lc e t g as c own) ρ = (evs Φ bf as ρ).bind fun p => (getAll p.2 p.1).bind fun ds => (g ds).bind fun items =>
      (wipeE own (lockAll p.1 p.2)).bind fun ρ₁ => (lcLoop own t (truth (ev Φ bf c)) (valof (ev Φ bf e)) items [] ρ₁).bind fun q =>
      (unlockAll p.1 p.2 (backE (lockAll p.1 p.2) own q.2)).bind fun ρ₂ => some (.new (.list q.1), ρ₂) := by simp only [ev]
theorem z_whl {c : X} {b : Ss} : evS Φ bf M (.whl c b) ρ = whLoop (truth (ev Φ bf c)) (evSs Φ bf M b) M ρ := by simp only [evS]
theorem z_frr {t : Tg} {g} {as : Xs} {b : Ss} : evS Φ bf M (.frr t g as b) ρ = (evs Φ bf as ρ).bind fun p => (getAll p.2 p.1).bind fun ds => (g ds).bind fun items =>
      (frLoop t (evSs Φ bf M b) items (lockAll p.1 p.2)).bind fun o => o.mapM (unlockAll p.1 p.2) := by simp only [evS]
@[simp] theorem z_n : evSs Φ bf M .nil ρ = some (.nx ρ) := by simp only [evSs]
@[simp] theorem z_c {s : S} {r : Ss} : evSs Φ bf M (.cons s r) ρ = (evS Φ bf M s ρ).bind fun o => match o with
    | .nx ρ => evSs Φ bf M r ρ
    | o => some o := by simp only [evSs] <;> rfl
end
section
variable {ρ : Ev} {d d' : PyData} {i j : Int} {b : Bool} {x y : Str}
@[simp] theorem g_val : (Res.val d).get ρ = some d := rfl
@[simp] theorem g_new : (Res.new d).get ρ = some d := rfl
@[simp] theorem g_slot {k : Nat} : (Res.slot k).get ρ = (ρ[k]?).bind Slot.get := rfl
@[simp] theorem g_un : Slot.get .un = none := rfl
@[simp] theorem g_dat : Slot.get (.dat d) = some d := rfl
@[simp] theorem g_own : Slot.get (.own d) = some d := rfl
@[simp] theorem g_ref : Slot.get (.ref d) = some d := rfl
@[simp] theorem g_lok : Slot.get (.lok b d) = some d := rfl
@[simp] theorem m_ff : mkR false d = .val d := rfl
@[simp] theorem m_tt : mkR true d = .new d := rfl
@[simp] theorem e_val : esc ρ (.val d) = some (d, ρ) := rfl
@[simp] theorem e_new : esc ρ (.new d) = some (d, ρ) := rfl
theorem e_dat {k : Nat} (h : ρ[k]? = some (.dat d)) : esc ρ (.slot k) = some (d, ρ) := by simp only [esc, h]
theorem e_own {k : Nat} (h : ρ[k]? = some (.own d)) : esc ρ (.slot k) = some (d, ρ.set k (.dat d)) := by simp only [esc, h]
@[simp] theorem st_new : stored ρ (.new d) = some (.own d, ρ) := rfl
@[simp] theorem st_val : stored ρ (.val d) = some (.dat d, ρ) := rfl
@[simp] theorem st_slot {k : Nat} : stored ρ (.slot k) = (esc ρ (.slot k)).bind fun p => some (.dat p.1, p.2) := rfl
@[simp] theorem p_isTup1 {ds} : pIsTup (.tuple ds) = some (false, .bool true) := rfl
@[simp] theorem p_isInt1 : pIsInt (.int i) = some (false, .bool true) := rfl
@[simp] theorem p_isBool1 : pIsBool (.int i) = some (false, .bool false) := rfl
@[simp] theorem p_not : pNot (.bool b) = some (false, .bool (!b)) := rfl
@[simp] theorem p_I2 {f : Int → Int → Int} : pI2 f (.int i) (.int j) = some (false, .int (f i j)) := rfl
@[simp] theorem p_IB {f : Int → Int → Bool} : pIB f (.int i) (.int j) = some (false, .bool (f i j)) := rfl
@[simp] theorem p_I1 {f : Int → Int} : pI1 f (.int i) = some (false, .int (f i)) := rfl
theorem p_IC {C : Int → Int → Prop} [∀ i j, Decidable (C i j)] {f : Int → Int → Int} (h : C i j) : pIC C f (.int i) (.int j) = some (false, .int (f i j)) := by simp only [pIC, if_pos h]
@[simp] theorem p_lenT {ds} : pLen (.tuple ds) = some (false, .int ds.length) := rfl
@[simp] theorem p_lenL {ds} : pLen (.list ds) = some (false, .int ds.length) := rfl
@[simp] theorem p_idxT {ds} : pIdx (.tuple ds) (.int i) = (atI ds i).bind fun d => some (false, d) := rfl
@[simp] theorem p_idxL {ds} : pIdx (.list ds) (.int i) = (atI ds i).bind fun d => some (false, d) := rfl
@[simp] theorem p_int1 : pInt1 (.int i) = some (false, .int i) := rfl
theorem at_nat {α : Type} {xs : List α} {k : Nat} (h : k < xs.length) : atI xs (k : Int) = xs[k]? := by
  unfold atI ixN
  rw [if_pos (by omega), if_pos (by omega)]
  rfl
@[simp] theorem at_0 {α : Type} {a : α} {r : List α} : atI (a :: r) 0 = some a := at_nat (k := 0) (by simp)
@[simp] theorem at_1 {α : Type} {a c : α} {r : List α} : atI (a :: c :: r) 1 = some c := at_nat (k := 1) (by simp)
@[simp] theorem at_2 {α : Type} {a c e : α} {r : List α} : atI (a :: c :: e :: r) 2 = some e := at_nat (k := 2) (by simp)
@[simp] theorem at_3 {α : Type} {a c e f : α} {r : List α} : atI (a :: c :: e :: f :: r) 3 = some f := at_nat (k := 3) (by simp)
@[simp] theorem ou_none : outOf d ρ none = some (d, .none) := rfl
end
theorem callBody_rt {Φ : Fns} {bf : Nat → Option Nat} {M : Nat} {b : Ss} {np ns : Nat} {ds : List PyData} {d : PyData} {ρ : Ev} (hl : ds.length = np)
    (h : evSs Φ bf M b (slotsOf ds (conArg ds none) none ++ List.replicate (ns - np) .un) = some (.rt d ρ)) : callBody Φ bf M b np ns none ds = some (d, .none) := by
  unfold callBody
  rw [if_pos hl, h]
  rfl
theorem z_step {Φ : Fns} {bf : Nat → Option Nat} {M : Nat} {s : S} {r : Ss} {ρ : Ev} (ρ' : Ev) {o : Option Out} (h : evS Φ bf M s ρ = some (.nx ρ')) (k : evSs Φ bf M r ρ' = o) : evSs Φ bf M (.cons s r) ρ = o := by
  rw [z_c, h]; exact k
theorem z_stepE {Φ : Fns} {bf : Nat → Option Nat} {M : Nat} {s : S} {r : Ss} {ρ : Ev} {d : PyData} (ρ' : Ev) (h : evS Φ bf M s ρ = some (.nx ρ')) (k : ∃ σ, evSs Φ bf M r ρ' = some (.rt d σ)) : ∃ σ, evSs Φ bf M (.cons s r) ρ = some (.rt d σ) := by
  obtain ⟨σ, k⟩ := k
  exact ⟨σ, by rw [z_c, h]; exact k⟩
end L2.Z

namespace L2.Z.K56
open PySem L2.Z
/-- is_int -/
def b0 : Ss := .cons (.ret (.and (.op1 pIsInt (.v 0)) (.op1 pNot (.op1 pIsBool (.v 0))))) (.nil)
abbrev f_is_int : Nat := 0
/-- is_from -/
def b1 : Ss := .cons (.ret (.and (.call 0 (.cons (.v 0) (.nil))) (.chain pLe pLe (.v 1) (.v 0) (.v 2)))) (.nil)
abbrev f_is_from : Nat := 1
/-- need_from -/
def b2 : Ss := .cons (.ite (.op1 pNot (.call 1 (.cons (.v 0) (.cons (.v 1) (.cons (.v 2) (.nil)))))) (.cons (.stuck) (.nil)) (.nil)) (.nil)
abbrev f_need_from : Nat := 2
/-- need_rule -/
def b3 : Ss := .cons (.ite (.or (.op1 pNot (.op1 pIsTup (.v 0))) (.op2 pNe (.op1 pLen (.v 0)) (.k (.int 3)))) (.cons (.stuck) (.nil)) (.nil)) (.cons (.ite (.or (.op1 pNot (.call 1 (.cons (.op2 pIdx (.v 0) (.k (.int 0))) (.cons (.op1 pNeg (.k (.int 1000000000000000000000000000000000000000000000000000000000000))) (.cons (.k (.int 1000000000000000000000000000000000000000000000000000000000000)) (.nil)))))) (.op1 pNot (.call 1 (.cons (.op2 pIdx (.v 0) (.k (.int 1))) (.cons (.k (.int 1)) (.cons (.k (.int 20)) (.nil))))))) (.cons (.stuck) (.nil)) (.nil)) (.cons (.ite (.op1 pNot (.call 1 (.cons (.op2 pIdx (.v 0) (.k (.int 2))) (.cons (.op2 pSubI (.k (.int 1)) (.op2 pMulI (.k (.int 2)) (.op2 pIdx (.v 0) (.k (.int 1))))) (.cons (.op2 pSubI (.op2 pMulI (.k (.int 2)) (.op2 pIdx (.v 0) (.k (.int 1)))) (.k (.int 1))) (.nil)))))) (.cons (.stuck) (.nil)) (.nil)) (.nil)))
abbrev f_need_rule : Nat := 3
/-- need_spans -/
def b4 : Ss := .cons (.ite (.or (.op1 pNot (.op1 pIsTup (.v 0))) (.op2 pNe (.op1 pLen (.v 0)) (.k (.int 2)))) (.cons (.stuck) (.nil)) (.nil)) (.cons (.frr (.n 1) gSeq (.cons (.v 0) .nil) (.cons (.ite (.or (.op1 pNot (.op1 pIsTup (.v 1))) (.or (.op2 pNe (.op1 pLen (.v 1)) (.k (.int 2))) (.op1 pNot (.op1 pAll (.lc (.call 1 (.cons (.v 2) (.cons (.k (.int 0)) (.cons (.k (.int 1000000000000000000000000000000000000000000000000000000000000)) (.nil))))) (.n 2) gSeq (.cons (.v 1) .nil) (.k (.bool true)) [2]))))) (.cons (.stuck) (.nil)) (.nil)) (.cons (.ite (.op2 pGt (.op2 pIdx (.v 1) (.k (.int 0))) (.op2 pIdx (.v 1) (.k (.int 1)))) (.cons (.stuck) (.nil)) (.nil)) (.nil)))) (.nil))
abbrev f_need_spans : Nat := 4
/-- worth -/
def b5 : Ss := .cons (.expr (.call 3 (.cons (.v 0) (.nil)))) (.cons (.expr (.call 2 (.cons (.v 1) (.cons (.k (.int 0)) (.cons (.k (.int 1000000000000000000000000000000000000000000000000000000000000)) (.nil)))))) (.cons (.expr (.call 2 (.cons (.v 2) (.cons (.k (.int 0)) (.cons (.k (.int 1000000000000000000000000000000000000000000000000000000000000)) (.nil)))))) (.cons (.ret (.call 6 (.cons (.v 0) (.cons (.v 1) (.cons (.v 2) (.nil)))))) (.nil))))
abbrev f_worth : Nat := 5
/-- worth_of -/
def b6 : Ss := .cons (.put (.t3 (.n 3) (.n 4) (.n 5)) (.v 0)) (.cons (.ret (.op2 pMulI (.v 1) (.op2 pAddI (.op2 pSubI (.v 3) (.op2 pMulI (.v 4) (.v 1))) (.op2 pMulI (.v 5) (.v 2))))) (.nil))
abbrev f_worth_of : Nat := 6
/-- cut_span -/
def b7 : Ss := .cons (.put (.t3 (.n 3) (.n 4) (.n 5)) (.v 0)) (.cons (.set 6 (.op2 pMax2 (.op2 pMulI (.v 5) (.op2 pIdx (.v 2) (.k (.int 0)))) (.op2 pMulI (.v 5) (.op2 pIdx (.v 2) (.k (.int 1)))))) (.cons (.set 7 (.op2 pMin2 (.op2 pMulI (.v 5) (.op2 pIdx (.v 2) (.k (.int 0)))) (.op2 pMulI (.v 5) (.op2 pIdx (.v 2) (.k (.int 1)))))) (.cons (.set 8 (.op2 pDivI (.op2 pAddI (.op2 pAddI (.v 3) (.v 4)) (.v 6)) (.op2 pMulI (.k (.int 2)) (.v 4)))) (.cons (.set 9 (.op1 pNeg (.op2 pDivI (.op1 pNeg (.op2 pAddI (.op2 pSubI (.v 3) (.v 4)) (.v 7))) (.op2 pMulI (.k (.int 2)) (.v 4))))) (.cons (.ret (.tup (.cons (.op2 pMax2 (.op2 pIdx (.v 1) (.k (.int 0))) (.op2 pMin2 (.op2 pIdx (.v 1) (.k (.int 1))) (.v 9))) (.cons (.op2 pMin2 (.op2 pIdx (.v 1) (.k (.int 1))) (.op2 pMax2 (.op2 pIdx (.v 1) (.k (.int 0))) (.v 8))) (.nil))))) (.nil))))))
abbrev f_cut_span : Nat := 7
/-- next_spans -/
def b8 : Ss := .cons (.expr (.call 9 (.cons (.v 0) (.nil)))) (.cons (.expr (.call 4 (.cons (.v 1) (.nil)))) (.cons (.ret (.tup (.cons (.call 7 (.cons (.op2 pIdx (.v 0) (.k (.int 0))) (.cons (.op2 pIdx (.v 1) (.k (.int 0))) (.cons (.op2 pIdx (.v 1) (.k (.int 1))) (.nil))))) (.cons (.call 7 (.cons (.op2 pIdx (.v 0) (.k (.int 1))) (.cons (.op2 pIdx (.v 1) (.k (.int 1))) (.cons (.op2 pIdx (.v 1) (.k (.int 0))) (.nil))))) (.nil))))) (.nil)))
abbrev f_next_spans : Nat := 8
/-- need_rules -/
def b9 : Ss := .cons (.ite (.or (.op1 pNot (.op1 pIsTup (.v 0))) (.op2 pNe (.op1 pLen (.v 0)) (.k (.int 2)))) (.cons (.stuck) (.nil)) (.nil)) (.cons (.frr (.n 1) gSeq (.cons (.v 0) .nil) (.cons (.expr (.call 3 (.cons (.v 1) (.nil)))) (.nil))) (.nil))
abbrev f_need_rules : Nat := 9
/-- walk -/
def b10 : Ss := .cons (.par [2, 3] (.cons (.v 1) (.cons (.k (.int 0)) (.nil)))) (.cons (.whl (.k (.bool true)) (.cons (.set 4 (.tup (.cons (.call 7 (.cons (.op2 pIdx (.v 0) (.k (.int 0))) (.cons (.op2 pIdx (.v 2) (.k (.int 0))) (.cons (.op2 pIdx (.v 2) (.k (.int 1))) (.nil))))) (.cons (.call 7 (.cons (.op2 pIdx (.v 0) (.k (.int 1))) (.cons (.op2 pIdx (.v 2) (.k (.int 1))) (.cons (.op2 pIdx (.v 2) (.k (.int 0))) (.nil))))) (.nil))))) (.cons (.ite (.op2 pEq (.v 4) (.v 2)) (.cons (.ret (.tup (.cons (.v 2) (.cons (.v 3) (.nil))))) (.nil)) (.nil)) (.cons (.par [2, 3] (.cons (.v 4) (.cons (.op2 pAddI (.v 3) (.k (.int 1))) (.nil)))) (.nil))))) (.nil))
abbrev f_walk : Nat := 10
/-- last_spans -/
def b11 : Ss := .cons (.expr (.call 9 (.cons (.v 0) (.nil)))) (.cons (.expr (.call 4 (.cons (.v 1) (.nil)))) (.cons (.ret (.op2 pIdx (.call 10 (.cons (.v 0) (.cons (.v 1) (.nil)))) (.k (.int 0)))) (.nil)))
abbrev f_last_spans : Nat := 11
/-- span_rounds -/
def b12 : Ss := .cons (.expr (.call 9 (.cons (.v 0) (.nil)))) (.cons (.expr (.call 4 (.cons (.v 1) (.nil)))) (.cons (.ret (.op2 pIdx (.call 10 (.cons (.v 0) (.cons (.v 1) (.nil)))) (.k (.int 1)))) (.nil)))
abbrev f_span_rounds : Nat := 12
/-- falls -/
def b13 : Ss := .cons (.expr (.call 9 (.cons (.v 0) (.nil)))) (.cons (.expr (.call 4 (.cons (.v 1) (.nil)))) (.cons (.expr (.call 2 (.cons (.v 2) (.cons (.k (.int 0)) (.cons (.k (.int 1000000000000000000000000000000000000000000000000000000000000)) (.nil)))))) (.cons (.ite (.op1 pNot (.chain pLe pLe (.op2 pIdx (.op2 pIdx (.v 1) (.k (.int 0))) (.k (.int 0))) (.v 2) (.op2 pIdx (.op2 pIdx (.v 1) (.k (.int 0))) (.k (.int 1))))) (.cons (.stuck) (.nil)) (.nil)) (.cons (.set 3 (.call 7 (.cons (.op2 pIdx (.v 0) (.k (.int 0))) (.cons (.op2 pIdx (.v 1) (.k (.int 0))) (.cons (.op2 pIdx (.v 1) (.k (.int 1))) (.nil)))))) (.cons (.ret (.op1 pNot (.chain pLe pLe (.op2 pIdx (.v 3) (.k (.int 0))) (.v 2) (.op2 pIdx (.v 3) (.k (.int 1)))))) (.nil))))))
abbrev f_falls : Nat := 13
/-- answer_span -/
def b14 : Ss := .cons (.expr (.call 3 (.cons (.v 0) (.nil)))) (.cons (.expr (.call 4 (.cons (.tup (.cons (.v 1) (.cons (.tup (.cons (.v 2) (.cons (.v 2) (.nil)))) (.nil)))) (.nil)))) (.cons (.put (.t3 (.n 3) (.n 4) (.n 5)) (.v 0)) (.cons (.set 6 (.op2 pDivI (.op2 pAddI (.op2 pAddI (.v 3) (.v 4)) (.op2 pMulI (.v 5) (.v 2))) (.op2 pMulI (.k (.int 2)) (.v 4)))) (.cons (.set 7 (.op1 pNeg (.op2 pDivI (.op1 pNeg (.op2 pAddI (.op2 pSubI (.v 3) (.v 4)) (.op2 pMulI (.v 5) (.v 2)))) (.op2 pMulI (.k (.int 2)) (.v 4))))) (.cons (.ret (.tup (.cons (.op2 pMax2 (.op2 pIdx (.v 1) (.k (.int 0))) (.op2 pMin2 (.op2 pIdx (.v 1) (.k (.int 1))) (.v 7))) (.cons (.op2 pMin2 (.op2 pIdx (.v 1) (.k (.int 1))) (.op2 pMax2 (.op2 pIdx (.v 1) (.k (.int 0))) (.v 6))) (.nil))))) (.nil))))))
abbrev f_answer_span : Nat := 14
/-- need_guess -/
def b15 : Ss := .cons (.ite (.or (.op1 pNot (.op1 pIsTup (.v 0))) (.or (.op2 pNe (.op1 pLen (.v 0)) (.k (.int 2))) (.op1 pNot (.op1 pAll (.lc (.call 1 (.cons (.v 1) (.cons (.k (.int 1)) (.cons (.k (.int 20)) (.nil))))) (.n 1) gSeq (.cons (.v 0) .nil) (.k (.bool true)) [1]))))) (.cons (.stuck) (.nil)) (.nil)) (.cons (.ite (.op2 pGe (.op2 pIdx (.v 0) (.k (.int 0))) (.op2 pIdx (.v 0) (.k (.int 1)))) (.cons (.stuck) (.nil)) (.nil)) (.nil))
abbrev f_need_guess : Nat := 15
/-- guess_cut -/
def b16 : Ss := .cons (.ret (.op2 pDivI (.op2 pAddI (.op2 pMulI (.op2 pMulI (.k (.int 2)) (.op2 pIdx (.v 0) (.k (.int 0)))) (.v 1)) (.op2 pIdx (.v 0) (.k (.int 1)))) (.op2 pMulI (.k (.int 2)) (.op2 pIdx (.v 0) (.k (.int 1)))))) (.nil)
abbrev f_guess_cut : Nat := 16
/-- guess_last -/
def b17 : Ss := .cons (.expr (.call 15 (.cons (.v 0) (.nil)))) (.cons (.expr (.call 2 (.cons (.v 1) (.cons (.k (.int 0)) (.cons (.k (.int 1000000000000000000000000000000000000000000000000000000000000)) (.nil)))))) (.cons (.set 2 (.v 1)) (.cons (.whl (.op2 pLt (.call 16 (.cons (.v 0) (.cons (.v 2) (.nil)))) (.v 2)) (.cons (.set 2 (.call 16 (.cons (.v 0) (.cons (.v 2) (.nil))))) (.nil))) (.cons (.ret (.v 2)) (.nil)))))
abbrev f_guess_last : Nat := 17
/-- guess_rounds -/
def b18 : Ss := .cons (.expr (.call 15 (.cons (.v 0) (.nil)))) (.cons (.expr (.call 2 (.cons (.v 1) (.cons (.k (.int 0)) (.cons (.k (.int 1000000000000000000000000000000000000000000000000000000000000)) (.nil)))))) (.cons (.par [2, 3] (.cons (.v 1) (.cons (.k (.int 0)) (.nil)))) (.cons (.whl (.op2 pLt (.call 16 (.cons (.v 0) (.cons (.v 2) (.nil)))) (.v 2)) (.cons (.par [2, 3] (.cons (.call 16 (.cons (.v 0) (.cons (.v 2) (.nil)))) (.cons (.op2 pAddI (.v 3) (.k (.int 1))) (.nil)))) (.nil))) (.cons (.ret (.v 3)) (.nil)))))
abbrev f_guess_rounds : Nat := 18
/-- guess_round_of -/
def b19 : Ss := .cons (.expr (.call 15 (.cons (.v 0) (.nil)))) (.cons (.expr (.call 2 (.cons (.v 1) (.cons (.k (.int 0)) (.cons (.k (.int 1000000000000000000000000000000000000000000000000000000000000)) (.nil)))))) (.cons (.expr (.call 2 (.cons (.v 2) (.cons (.k (.int 0)) (.cons (.v 1) (.nil)))))) (.cons (.par [3, 4] (.cons (.v 1) (.cons (.k (.int 0)) (.nil)))) (.cons (.whl (.op2 pLt (.call 16 (.cons (.v 0) (.cons (.v 3) (.nil)))) (.v 3)) (.cons (.par [3, 4] (.cons (.call 16 (.cons (.v 0) (.cons (.v 3) (.nil)))) (.cons (.op2 pAddI (.v 4) (.k (.int 1))) (.nil)))) (.cons (.ite (.op2 pGt (.v 2) (.v 3)) (.cons (.ret (.v 4)) (.nil)) (.nil)) (.nil)))) (.cons (.ret (.k .none)) (.nil))))))
abbrev f_guess_round_of : Nat := 19
/-- _law_taken -/
def b20 : Ss := .cons (.ite (.op2 pGt (.op2 pIdx (.v 0) (.k (.int 3))) (.k (.int 0))) (.cons (.set 2 (.op2 pModI (.op1 pInt1 (.op2 pIdx (.v 0) (.k (.int 3)))) (.v 1))) (.cons (.setAt 0 (.k (.int 3)) (.op2 pDivI (.op2 pIdx (.v 0) (.k (.int 3))) (.v 1))) (.cons (.ret (.v 2)) (.nil)))) (.nil)) (.cons (.setAt 0 (.k (.int 1)) (.op2 pAddI (.op2 pIdx (.v 0) (.k (.int 1))) (.k (.int 1)))) (.cons (.ite (.op2 pGt (.op2 pIdx (.v 0) (.k (.int 1))) (.op1 pLen (.op2 pIdx (.v 0) (.k (.int 0))))) (.cons (.setAt 0 (.k (.int 2)) (.op2 pModI (.op1 pInt1 (.op2 pAddI (.op2 pMulI (.op2 pIdx (.v 0) (.k (.int 2))) (.k (.int 48271))) (.k (.int 11)))) (.k (.int 2147483647)))) (.cons (.ret (.op2 pModI (.op1 pInt1 (.op2 pDivI (.op2 pIdx (.v 0) (.k (.int 2))) (.k (.int 7)))) (.v 1))) (.nil))) (.nil)) (.cons (.set 3 (.op2 pIdx (.op2 pIdx (.v 0) (.k (.int 0))) (.op2 pSubI (.op2 pIdx (.v 0) (.k (.int 1))) (.k (.int 1))))) (.cons (.setAt 0 (.k (.int 2)) (.op2 pModI (.op1 pInt1 (.op2 pAddI (.op2 pAddI (.op2 pMulI (.op2 pIdx (.v 0) (.k (.int 2))) (.k (.int 48271))) (.v 3)) (.k (.int 11)))) (.k (.int 2147483647)))) (.cons (.ite (.op2 pGe (.v 3) (.op2 pPowI (.k (.int 10)) (.k (.int 18)))) (.cons (.setAt 0 (.k (.int 3)) (.op2 pDivI (.v 3) (.v 1))) (.nil)) (.nil)) (.cons (.ret (.op2 pModI (.op1 pInt1 (.v 3)) (.v 1))) (.nil)))))))
abbrev f__law_taken : Nat := 20
/-- law -/
def b21 : Ss := .cons (.set 1 (.lst (.cons (.v 0) (.cons (.k (.int 0)) (.cons (.k (.int 5256)) (.cons (.k (.int 0)) (.nil))))))) (.cons (.par [2, 3] (.cons (.op2 pAddI (.op2 pPowI (.k (.int 10)) (.k (.int 50))) (.call 20 (.cons (.v 1) (.cons (.op2 pPowI (.k (.int 10)) (.k (.int 6))) (.nil))))) (.cons (.op2 pAddI (.k (.int 1)) (.call 20 (.cons (.v 1) (.cons (.k (.int 20)) (.nil))))) (.nil)))) (.cons (.par [4, 5] (.cons (.tup (.cons (.v 2) (.cons (.v 3) (.cons (.k (.int 0)) (.nil))))) (.cons (.tup (.cons (.tup (.cons (.k (.int 0)) (.cons (.op2 pPowI (.k (.int 10)) (.k (.int 60))) (.nil)))) (.cons (.tup (.cons (.k (.int 0)) (.cons (.op2 pPowI (.k (.int 10)) (.k (.int 60))) (.nil)))) (.nil)))) (.nil)))) (.cons (.set 6 (.call 14 (.cons (.v 4) (.cons (.op2 pIdx (.v 5) (.k (.int 0))) (.cons (.k (.int 5)) (.nil)))))) (.cons (.ite (.or (.op2 pNe (.call 11 (.cons (.tup (.cons (.v 4) (.cons (.v 4) (.nil)))) (.cons (.v 5) (.nil)))) (.tup (.cons (.v 6) (.cons (.v 6) (.nil))))) (.op2 pNe (.call 12 (.cons (.tup (.cons (.v 4) (.cons (.v 4) (.nil)))) (.cons (.v 5) (.nil)))) (.k (.int 1)))) (.cons (.ret (.k (.bool false))) (.nil)) (.nil)) (.cons (.ite (.or (.op1 pNot (.chain pLe pLe (.op2 pSubI (.op2 pMulI (.op2 pMulI (.k (.int 2)) (.v 3)) (.op2 pIdx (.v 6) (.k (.int 0)))) (.v 3)) (.v 2) (.op2 pAddI (.op2 pMulI (.op2 pMulI (.k (.int 2)) (.v 3)) (.op2 pIdx (.v 6) (.k (.int 1)))) (.v 3)))) (.op2 pGt (.op2 pSubI (.op2 pIdx (.v 6) (.k (.int 1))) (.op2 pIdx (.v 6) (.k (.int 0)))) (.k (.int 1)))) (.cons (.ret (.k (.bool false))) (.nil)) (.nil)) (.cons (.ite (.op2 pNe (.call 5 (.cons (.v 4) (.cons (.op2 pIdx (.v 6) (.k (.int 0))) (.cons (.k (.int 0)) (.nil))))) (.call 5 (.cons (.v 4) (.cons (.op2 pIdx (.v 6) (.k (.int 1))) (.cons (.k (.int 0)) (.nil)))))) (.cons (.ret (.k (.bool false))) (.nil)) (.nil)) (.cons (.ite (.op2 pLt (.call 5 (.cons (.v 4) (.cons (.op2 pIdx (.v 6) (.k (.int 0))) (.cons (.k (.int 0)) (.nil))))) (.call 5 (.cons (.v 4) (.cons (.op2 pAddI (.op2 pIdx (.v 6) (.k (.int 0))) (.k (.int 7))) (.cons (.k (.int 0)) (.nil)))))) (.cons (.ret (.k (.bool false))) (.nil)) (.nil)) (.cons (.set 7 (.tup (.cons (.tup (.cons (.v 2) (.cons (.k (.int 1)) (.cons (.op1 pNeg (.k (.int 1))) (.nil))))) (.cons (.tup (.cons (.v 2) (.cons (.k (.int 1)) (.cons (.op1 pNeg (.k (.int 1))) (.nil))))) (.nil))))) (.cons (.set 8 (.call 11 (.cons (.v 7) (.cons (.v 5) (.nil))))) (.cons (.frr (.t (.n 9) (.n 10)) gSeq (.cons (.v 8) .nil) (.cons (.ite (.or (.op2 pGt (.op2 pSubI (.v 10) (.v 9)) (.k (.int 3))) (.op1 pNot (.chain pLe pLe (.op2 pSubI (.op2 pMulI (.k (.int 3)) (.v 9)) (.k (.int 6))) (.v 2) (.op2 pAddI (.op2 pMulI (.k (.int 3)) (.v 10)) (.k (.int 6)))))) (.cons (.ret (.k (.bool false))) (.nil)) (.nil)) (.nil))) (.cons (.ite (.or (.op2 pLt (.call 12 (.cons (.v 7) (.cons (.v 5) (.nil)))) (.k (.int 100))) (.op2 pNe (.call 8 (.cons (.v 7) (.cons (.v 8) (.nil)))) (.v 8))) (.cons (.ret (.k (.bool false))) (.nil)) (.nil)) (.cons (.set 11 (.tup (.cons (.tup (.cons (.v 2) (.cons (.k (.int 1)) (.cons (.k (.int 1)) (.nil))))) (.cons (.tup (.cons (.v 2) (.cons (.k (.int 1)) (.cons (.k (.int 1)) (.nil))))) (.nil))))) (.cons (.frr (.t (.n 9) (.n 10)) gSeq (.cons (.call 11 (.cons (.v 11) (.cons (.v 5) (.nil)))) .nil) (.cons (.ite (.or (.op2 pGt (.op2 pSubI (.v 10) (.v 9)) (.k (.int 3))) (.op1 pNot (.chain pLe pLe (.op2 pSubI (.v 9) (.k (.int 3))) (.v 2) (.op2 pAddI (.v 10) (.k (.int 3)))))) (.cons (.ret (.k (.bool false))) (.nil)) (.nil)) (.nil))) (.cons (.ite (.or (.op1 pNot (.call 13 (.cons (.v 7) (.cons (.v 5) (.cons (.op2 pPowI (.k (.int 10)) (.k (.int 60))) (.nil)))))) (.or (.call 13 (.cons (.v 7) (.cons (.v 8) (.cons (.op2 pIdx (.op2 pIdx (.v 8) (.k (.int 0))) (.k (.int 0))) (.nil))))) (.op1 pNot (.call 13 (.cons (.v 11) (.cons (.v 5) (.cons (.k (.int 0)) (.nil)))))))) (.cons (.ret (.k (.bool false))) (.nil)) (.nil)) (.cons (.ite (.or (.op2 pNe (.call 14 (.cons (.tup (.cons (.op2 pSubI (.k (.int 0)) (.v 2)) (.cons (.k (.int 1)) (.cons (.k (.int 1)) (.nil))))) (.cons (.tup (.cons (.k (.int 3)) (.cons (.v 2) (.nil)))) (.cons (.k (.int 9)) (.nil))))) (.tup (.cons (.k (.int 3)) (.cons (.k (.int 3)) (.nil))))) (.op2 pNe (.call 14 (.cons (.tup (.cons (.v 2) (.cons (.k (.int 1)) (.cons (.k (.int 1)) (.nil))))) (.cons (.tup (.cons (.k (.int 3)) (.cons (.k (.int 8)) (.nil)))) (.cons (.k (.int 9)) (.nil))))) (.tup (.cons (.k (.int 8)) (.cons (.k (.int 8)) (.nil)))))) (.cons (.ret (.k (.bool false))) (.nil)) (.nil)) (.cons (.set 9 (.op2 pAddI (.k (.int 2)) (.call 20 (.cons (.v 1) (.cons (.k (.int 19)) (.nil)))))) (.cons (.set 12 (.tup (.cons (.op2 pAddI (.k (.int 1)) (.call 20 (.cons (.v 1) (.cons (.op2 pSubI (.v 9) (.k (.int 1))) (.nil))))) (.cons (.v 9) (.nil))))) (.cons (.par [13, 14] (.cons (.call 17 (.cons (.v 12) (.cons (.v 2) (.nil)))) (.cons (.call 18 (.cons (.v 12) (.cons (.v 2) (.nil)))) (.nil)))) (.cons (.ite (.or (.op2 pNe (.call 17 (.cons (.v 12) (.cons (.v 13) (.nil)))) (.v 13)) (.or (.op2 pNe (.call 18 (.cons (.v 12) (.cons (.v 13) (.nil)))) (.k (.int 0))) (.op2 pLt (.call 17 (.cons (.v 12) (.cons (.op2 pAddI (.v 2) (.k (.int 1))) (.nil)))) (.v 13)))) (.cons (.ret (.k (.bool false))) (.nil)) (.nil)) (.cons (.ite (.or (.and (.op2 pLt (.op2 pMulI (.k (.int 2)) (.op2 pIdx (.v 12) (.k (.int 0)))) (.v 9)) (.op2 pNe (.v 13) (.k (.int 0)))) (.or (.and (.op2 pEq (.op2 pMulI (.k (.int 2)) (.op2 pIdx (.v 12) (.k (.int 0)))) (.v 9)) (.op2 pNe (.v 13) (.k (.int 1)))) (.op2 pGt (.op2 pMulI (.op2 pMulI (.v 13) (.k (.int 2))) (.op2 pSubI (.v 9) (.op2 pIdx (.v 12) (.k (.int 0))))) (.v 9)))) (.cons (.ret (.k (.bool false))) (.nil)) (.nil)) (.cons (.ite (.or (.op2 pNe (.call 19 (.cons (.v 12) (.cons (.v 2) (.cons (.v 2) (.nil))))) (.k (.int 1))) (.op1 pNotN (.call 19 (.cons (.v 12) (.cons (.v 2) (.cons (.v 13) (.nil))))))) (.cons (.ret (.k (.bool false))) (.nil)) (.nil)) (.cons (.ite (.op2 pNe (.call 19 (.cons (.v 12) (.cons (.v 2) (.cons (.op2 pAddI (.v 13) (.k (.int 1))) (.nil))))) (.v 14)) (.cons (.ret (.k (.bool false))) (.nil)) (.nil)) (.cons (.set 15 (.op2 pAddI (.op2 pAddI (.v 13) (.k (.int 1))) (.call 20 (.cons (.v 1) (.cons (.op2 pPowI (.k (.int 10)) (.k (.int 6))) (.nil)))))) (.cons (.ret (.chain3 pLe pLe pLe (.k (.int 1)) (.call 19 (.cons (.v 12) (.cons (.v 2) (.cons (.op2 pAddI (.v 15) (.k (.int 1))) (.nil))))) (.call 19 (.cons (.v 12) (.cons (.v 2) (.cons (.v 15) (.nil))))) (.v 14))) (.nil)))))))))))))))))))))))))
abbrev f_law : Nat := 21
def bf : Nat → Option Nat
  | 20 => some 0
  | _ => none
def MM : Nat := 10 ^ 200
def run : Nat → Fns
  | 0 => fun _ _ => none
  | n + 1 => fun f ds => match f with
    | 0 => callBody (run n) bf MM b0 1 1 none ds
    | 1 => callBody (run n) bf MM b1 3 3 none ds
    | 2 => callBody (run n) bf MM b2 3 3 none ds
    | 3 => callBody (run n) bf MM b3 1 1 none ds
    | 4 => callBody (run n) bf MM b4 1 3 none ds
    | 5 => callBody (run n) bf MM b5 3 3 none ds
    | 6 => callBody (run n) bf MM b6 3 6 none ds
    | 7 => callBody (run n) bf MM b7 3 10 none ds
    | 8 => callBody (run n) bf MM b8 2 2 none ds
    | 9 => callBody (run n) bf MM b9 1 2 none ds
    | 10 => callBody (run n) bf MM b10 2 5 none ds
    | 11 => callBody (run n) bf MM b11 2 2 none ds
    | 12 => callBody (run n) bf MM b12 2 2 none ds
    | 13 => callBody (run n) bf MM b13 3 4 none ds
    | 14 => callBody (run n) bf MM b14 3 8 none ds
    | 15 => callBody (run n) bf MM b15 1 2 none ds
    | 16 => callBody (run n) bf MM b16 2 2 none ds
    | 17 => callBody (run n) bf MM b17 2 3 none ds
    | 18 => callBody (run n) bf MM b18 2 4 none ds
    | 19 => callBody (run n) bf MM b19 3 5 none ds
    | 20 => callBody (run n) bf MM b20 2 4 (some 0) ds
    | 21 => callBody (run n) bf MM b21 1 16 none ds
    | _ => none
theorem run_is_int (n : Nat) (ds : List PyData) : run (n + 1) 0 ds = callBody (run n) bf MM b0 1 1 none ds := rfl
theorem run_is_from (n : Nat) (ds : List PyData) : run (n + 1) 1 ds = callBody (run n) bf MM b1 3 3 none ds := rfl
theorem run_need_from (n : Nat) (ds : List PyData) : run (n + 1) 2 ds = callBody (run n) bf MM b2 3 3 none ds := rfl
theorem run_need_rule (n : Nat) (ds : List PyData) : run (n + 1) 3 ds = callBody (run n) bf MM b3 1 1 none ds := rfl
theorem run_need_spans (n : Nat) (ds : List PyData) : run (n + 1) 4 ds = callBody (run n) bf MM b4 1 3 none ds := rfl
theorem run_worth (n : Nat) (ds : List PyData) : run (n + 1) 5 ds = callBody (run n) bf MM b5 3 3 none ds := rfl
theorem run_worth_of (n : Nat) (ds : List PyData) : run (n + 1) 6 ds = callBody (run n) bf MM b6 3 6 none ds := rfl
theorem run_cut_span (n : Nat) (ds : List PyData) : run (n + 1) 7 ds = callBody (run n) bf MM b7 3 10 none ds := rfl
theorem run_next_spans (n : Nat) (ds : List PyData) : run (n + 1) 8 ds = callBody (run n) bf MM b8 2 2 none ds := rfl
theorem run_need_rules (n : Nat) (ds : List PyData) : run (n + 1) 9 ds = callBody (run n) bf MM b9 1 2 none ds := rfl
theorem run_walk (n : Nat) (ds : List PyData) : run (n + 1) 10 ds = callBody (run n) bf MM b10 2 5 none ds := rfl
theorem run_last_spans (n : Nat) (ds : List PyData) : run (n + 1) 11 ds = callBody (run n) bf MM b11 2 2 none ds := rfl
theorem run_span_rounds (n : Nat) (ds : List PyData) : run (n + 1) 12 ds = callBody (run n) bf MM b12 2 2 none ds := rfl
theorem run_falls (n : Nat) (ds : List PyData) : run (n + 1) 13 ds = callBody (run n) bf MM b13 3 4 none ds := rfl
theorem run_answer_span (n : Nat) (ds : List PyData) : run (n + 1) 14 ds = callBody (run n) bf MM b14 3 8 none ds := rfl
theorem run_need_guess (n : Nat) (ds : List PyData) : run (n + 1) 15 ds = callBody (run n) bf MM b15 1 2 none ds := rfl
theorem run_guess_cut (n : Nat) (ds : List PyData) : run (n + 1) 16 ds = callBody (run n) bf MM b16 2 2 none ds := rfl
theorem run_guess_last (n : Nat) (ds : List PyData) : run (n + 1) 17 ds = callBody (run n) bf MM b17 2 3 none ds := rfl
theorem run_guess_rounds (n : Nat) (ds : List PyData) : run (n + 1) 18 ds = callBody (run n) bf MM b18 2 4 none ds := rfl
theorem run_guess_round_of (n : Nat) (ds : List PyData) : run (n + 1) 19 ds = callBody (run n) bf MM b19 3 5 none ds := rfl
theorem run__law_taken (n : Nat) (ds : List PyData) : run (n + 1) 20 ds = callBody (run n) bf MM b20 2 4 (some 0) ds := rfl
theorem run_law (n : Nat) (ds : List PyData) : run (n + 1) 21 ds = callBody (run n) bf MM b21 1 16 none ds := rfl
end L2.Z.K56

namespace L2.Z.K56
open PySem L2.Z
abbrev sp (a b : Int) : PyData := .tuple [.int a, .int b]
abbrev ru (t s k : Int) : PyData := .tuple [.int t, .int s, .int k]
theorem mulOk {i j : Int} (hi : i.natAbs < 10 ^ 200) (hj : j.natAbs < 10 ^ 200) : MulOk i j := .inr ⟨Nat.lt_trans hi (by decide +kernel), Nat.lt_trans hj (by decide +kernel)⟩
theorem r_is_int (n : Nat) (i : Int) : run (n + 1) 0 [.int i] = some (.bool true, .none) := by
  simp [run_is_int, callBody, b0, slotsOf, conArg, truth, valof, esc, callArgs, callBack, escAll, asg, asgAll, evst, Tg.bind, getAll, Option.bind]
theorem r_is_from (n : Nat) (i a b : Int) (h : a ≤ i ∧ i ≤ b) : run (n + 2) 1 [.int i, .int a, .int b] = some (.bool true, .none) := by
  simp [run_is_from, callBody, b1, slotsOf, conArg, truth, valof, esc, callArgs, callBack, escAll, asg, asgAll, evst, Tg.bind, getAll, Option.bind, r_is_int, bf, h.1, h.2]
theorem r_need_from (n : Nat) (i a b : Int) (h : a ≤ i ∧ i ≤ b) : run (n + 3) 2 [.int i, .int a, .int b] = some (.none, .none) := by
  simp [run_need_from, callBody, b2, slotsOf, conArg, truth, valof, esc, callArgs, callBack, escAll, asg, asgAll, evst, Tg.bind, getAll, Option.bind, r_is_from _ _ _ _ h, bf]
theorem r_need_rule (n : Nat) (t s k : Int) (ht : -1000000000000000000000000000000000000000000000000000000000000 ≤ t ∧ t ≤ 1000000000000000000000000000000000000000000000000000000000000) (hs : 1 ≤ s ∧ s ≤ 20) (hk : 1 - 2 * s ≤ k ∧ k ≤ 2 * s - 1) : run (n + 3) 3 [ru t s k] = some (.none, .none) := by
  have h1 : MulOk 2 s := mulOk (by omega) (by omega)
  simp [run_need_rule, callBody, b3, slotsOf, conArg, truth, valof, esc, callArgs, callBack, escAll, asg, asgAll, evst, Tg.bind, getAll, Option.bind, r_is_from _ _ _ _ ht, r_is_from _ _ _ _ hs, r_is_from _ _ _ _ hk, bf, p_IC h1, pNe, okEq, PyData.plain, PyData.depth, PyData.eqv]
theorem r_need_spans (n : Nat) (a b c d : Int) (h1 : 0 ≤ a ∧ a ≤ b ∧ b ≤ 1000000000000000000000000000000000000000000000000000000000000) (h2 : 0 ≤ c ∧ c ≤ d ∧ d ≤ 1000000000000000000000000000000000000000000000000000000000000) : run (n + 3) 4 [.tuple [sp a b, sp c d]] = some (.none, .none) := by
  have ha := r_is_from n a 0 1000000000000000000000000000000000000000000000000000000000000 ⟨by omega, by omega⟩
  have hb := r_is_from n b 0 1000000000000000000000000000000000000000000000000000000000000 ⟨by omega, by omega⟩
  have hc := r_is_from n c 0 1000000000000000000000000000000000000000000000000000000000000 ⟨by omega, by omega⟩
  have hd := r_is_from n d 0 1000000000000000000000000000000000000000000000000000000000000 ⟨by omega, by omega⟩
  have e1 : ¬ b < a := by omega
  have e2 : ¬ d < c := by omega
  simp [run_need_spans, callBody, b4, slotsOf, conArg, truth, valof, esc, callArgs, callBack, escAll, asg, asgAll, evst, Tg.bind, getAll, Option.bind, z_frr, z_lc, gSeq, frLoop, lcLoop, wipeE, backE, lockAll, unlockAll, lockR, unlockR, Out.mapM, pAll, boolsOf, ha, hb, hc, hd, e1, e2, bf, pNe, okEq, PyData.plain, PyData.depth, PyData.eqv]
def mx (i j : Int) : Int := if j > i then j else i
def mn (i j : Int) : Int := if j < i then j else i
def most (t s k c d : Int) : Int := (t + s + mx (k * c) (k * d)) / (2 * s)
def least (t s k c d : Int) : Int := -((-(t - s + mn (k * c) (k * d))) / (2 * s))
def lo' (a b l : Int) : Int := mx a (mn b l)
def hi' (a b m : Int) : Int := mn b (mx a m)
def cutD (t s k a b c d : Int) : PyData := sp (lo' a b (least t s k c d)) (hi' a b (most t s k c d))
structure RuOk (t s k : Int) : Prop where
  t1 : -1000000000000000000000000000000000000000000000000000000000000 ≤ t
  t2 : t ≤ 1000000000000000000000000000000000000000000000000000000000000
  s1 : 1 ≤ s
  s2 : s ≤ 20
  k1 : 1 - 2 * s ≤ k
  k2 : k ≤ 2 * s - 1
theorem r_cutspan (n : Nat) (t s k a b c d : Int) (h : RuOk t s k) (hc : 0 ≤ c ∧ c ≤ 1000000000000000000000000000000000000000000000000000000000000) (hd : 0 ≤ d ∧ d ≤ 1000000000000000000000000000000000000000000000000000000000000) : run (n + 1) 7 [ru t s k, sp a b, sp c d] = some (cutD t s k a b c d, .none) := by
  obtain ⟨h1, h2, h3, h4, h5, h6⟩ := h
  have m1 : MulOk k c := mulOk (by omega) (by omega)
  have m2 : MulOk k d := mulOk (by omega) (by omega)
  have m3 : MulOk 2 s := mulOk (by omega) (by omega)
  have m4 : ∀ i, CDiv i (2 * s) := fun i => ⟨by omega, by omega⟩
  simp [run_cut_span, callBody, b7, slotsOf, conArg, truth, valof, esc, callArgs, callBack, escAll, asg, asgAll, evst, Tg.bind, getAll, Option.bind, p_IC m1, p_IC m2, p_IC m3, p_IC (m4 _), cutD, most, least, mx, mn, lo', hi']
  rfl
theorem r_need_rules (n : Nat) (t s k t' s' k' : Int) (h : RuOk t s k) (h' : RuOk t' s' k') : run (n + 4) 9 [.tuple [ru t s k, ru t' s' k']] = some (.none, .none) := by
  have e1 := r_need_rule n t s k ⟨h.1, h.2⟩ ⟨h.3, h.4⟩ ⟨h.5, h.6⟩
  have e2 := r_need_rule n t' s' k' ⟨h'.1, h'.2⟩ ⟨h'.3, h'.4⟩ ⟨h'.5, h'.6⟩
  simp [run_need_rules, callBody, b9, slotsOf, conArg, truth, valof, esc, callArgs, callBack, escAll, asg, asgAll, evst, Tg.bind, getAll, Option.bind, z_frr, z_lc, gSeq, frLoop, lcLoop, wipeE, backE, lockAll, unlockAll, lockR, unlockR, Out.mapM, pAll, boolsOf, e1, e2, bf, pNe, okEq, PyData.plain, PyData.depth, PyData.eqv]
structure SpOk (a b : Int) : Prop where
  h0 : 0 ≤ a
  h1 : a ≤ b
  h2 : b ≤ 1000000000000000000000000000000000000000000000000000000000000
theorem r_next (n : Nat) (t s k t' s' k' a b c d : Int) (h : RuOk t s k) (h' : RuOk t' s' k') (g : SpOk a b) (g' : SpOk c d) :
    run (n + 5) 8 [.tuple [ru t s k, ru t' s' k'], .tuple [sp a b, sp c d]] = some (.tuple [cutD t s k a b c d, cutD t' s' k' c d a b], .none) := by
  obtain ⟨g1, g2, g3⟩ := g
  obtain ⟨g4, g5, g6⟩ := g'
  have e1 := r_need_rules n t s k t' s' k' h h'
  have e2 := r_need_spans (n + 1) a b c d ⟨g1, g2, g3⟩ ⟨g4, g5, g6⟩
  have e3 := r_cutspan (n + 3) t s k a b c d h ⟨by omega, by omega⟩ ⟨by omega, by omega⟩
  have e4 := r_cutspan (n + 3) t' s' k' c d a b h' ⟨by omega, by omega⟩ ⟨by omega, by omega⟩
  simp [run_next_spans, callBody, b8, slotsOf, conArg, truth, valof, esc, callArgs, callBack, escAll, asg, asgAll, evst, Tg.bind, getAll, Option.bind, e1, e2, e3, e4, bf]
theorem r_worth_of (n : Nat) (t s k x y : Int) (h : RuOk t s k) (hx : 0 ≤ x ∧ x ≤ 1000000000000000000000000000000000000000000000000000000000000) (hy : 0 ≤ y ∧ y ≤ 1000000000000000000000000000000000000000000000000000000000000) : run (n + 1) 6 [ru t s k, .int x, .int y] = some (.int (x * (t - s * x + k * y)), .none) := by
  obtain ⟨h1, h2, h3, h4, h5, h6⟩ := h
  have m1 : MulOk s x := mulOk (by omega) (by omega)
  have m2 : MulOk k y := mulOk (by omega) (by omega)
  have b1 : (s * x).natAbs ≤ 20 * 1000000000000000000000000000000000000000000000000000000000000 := by rw [Int.natAbs_mul]; exact Nat.mul_le_mul (by omega) (by omega)
  have b2 : (k * y).natAbs ≤ 39 * 1000000000000000000000000000000000000000000000000000000000000 := by rw [Int.natAbs_mul]; exact Nat.mul_le_mul (by omega) (by omega)
  have m3 : MulOk x (t - s * x + k * y) := mulOk (by omega) (by omega)
  simp [run_worth_of, callBody, b6, slotsOf, conArg, truth, valof, esc, callArgs, callBack, escAll, asg, asgAll, evst, Tg.bind, getAll, Option.bind, p_IC m1, p_IC m2, p_IC m3]
theorem r_worth (n : Nat) (t s k x y : Int) (h : RuOk t s k) (hx : 0 ≤ x ∧ x ≤ 1000000000000000000000000000000000000000000000000000000000000) (hy : 0 ≤ y ∧ y ≤ 1000000000000000000000000000000000000000000000000000000000000) : run (n + 4) 5 [ru t s k, .int x, .int y] = some (.int (x * (t - s * x + k * y)), .none) := by
  have e1 := r_need_rule n t s k ⟨h.1, h.2⟩ ⟨h.3, h.4⟩ ⟨h.5, h.6⟩
  simp [run_worth, callBody, b5, slotsOf, conArg, truth, valof, esc, callArgs, callBack, escAll, asg, asgAll, evst, Tg.bind, getAll, Option.bind, bf, e1, r_need_from _ _ _ _ hx, r_need_from _ _ _ _ hy, r_worth_of _ _ _ _ _ _ h hx hy]
theorem r_falls (n : Nat) (t s k t' s' k' a b c d x : Int) (h : RuOk t s k) (h' : RuOk t' s' k') (g : SpOk a b) (g' : SpOk c d) (hx : a ≤ x ∧ x ≤ b) :
    run (n + 5) 13 [.tuple [ru t s k, ru t' s' k'], .tuple [sp a b, sp c d], .int x] = some (.bool (!(decide (lo' a b (least t s k c d) ≤ x) && decide (x ≤ hi' a b (most t s k c d)))), .none) := by
  obtain ⟨g1, g2, g3⟩ := g
  obtain ⟨g4, g5, g6⟩ := g'
  have e1 := r_need_rules n t s k t' s' k' h h'
  have e2 := r_need_spans (n + 1) a b c d ⟨g1, g2, g3⟩ ⟨g4, g5, g6⟩
  have e3 := r_cutspan (n + 3) t s k a b c d h ⟨by omega, by omega⟩ ⟨by omega, by omega⟩
  have e4 := r_need_from (n + 1) x 0 1000000000000000000000000000000000000000000000000000000000000 ⟨by omega, by omega⟩
  by_cases z : lo' a b (least t s k c d) ≤ x
  · simp [run_falls, callBody, b13, slotsOf, conArg, truth, valof, esc, callArgs, callBack, escAll, asg, asgAll, evst, Tg.bind, getAll, Option.bind, e1, e2, e3, e4, bf, hx.1, hx.2, cutD, z]
  · simp [run_falls, callBody, b13, slotsOf, conArg, truth, valof, esc, callArgs, callBack, escAll, asg, asgAll, evst, Tg.bind, getAll, Option.bind, e1, e2, e3, e4, bf, hx.1, hx.2, cutD, z]
theorem r_answer (n : Nat) (t s k a b y : Int) (h : RuOk t s k) (g : SpOk a b) (hy : 0 ≤ y ∧ y ≤ 1000000000000000000000000000000000000000000000000000000000000) :
    run (n + 5) 14 [ru t s k, sp a b, .int y] = some (sp (lo' a b (-((-(t - s + k * y)) / (2 * s)))) (hi' a b ((t + s + k * y) / (2 * s))), .none) := by
  obtain ⟨g1, g2, g3⟩ := g
  have e1 := r_need_rule (n + 1) t s k ⟨h.1, h.2⟩ ⟨h.3, h.4⟩ ⟨h.5, h.6⟩
  have e2 := r_need_spans (n + 1) a b y y ⟨g1, g2, g3⟩ ⟨hy.1, by omega, hy.2⟩
  obtain ⟨h1, h2, h3, h4, h5, h6⟩ := h
  have m2 : MulOk k y := mulOk (by omega) (by omega)
  have m3 : MulOk 2 s := mulOk (by omega) (by omega)
  have m4 : ∀ i, CDiv i (2 * s) := fun i => ⟨by omega, by omega⟩
  simp [run_answer_span, callBody, b14, slotsOf, conArg, truth, valof, esc, callArgs, callBack, escAll, asg, asgAll, evst, Tg.bind, getAll, Option.bind, e1, e2, bf, p_IC m2, p_IC m3, p_IC (m4 _), lo', hi', mx, mn]

abbrev two (a b : Int) : PyData := .tuple [sp a b, sp a b]
def sL (t s k a b : Int) : Int := lo' a b (least t s k a b)
def sH (t s k a b : Int) : Int := hi' a b (most t s k a b)
inductive Wk (t s k : Int) : Int → Int → Int → Int → Nat → Prop
  | stop {a b : Int} : SpOk a b → sL t s k a b = a → sH t s k a b = b → Wk t s k a b a b 0
  | step {a b a' b' : Int} {T : Nat} : SpOk a b → ¬(sL t s k a b = a ∧ sH t s k a b = b) → Wk t s k (sL t s k a b) (sH t s k a b) a' b' T → Wk t s k a b a' b' (T + 1)
def wb : Ss := .cons (.set 4 (.tup (.cons (.call 7 (.cons (.op2 pIdx (.v 0) (.k (.int 0))) (.cons (.op2 pIdx (.v 2) (.k (.int 0))) (.cons (.op2 pIdx (.v 2) (.k (.int 1))) (.nil))))) (.cons (.call 7 (.cons (.op2 pIdx (.v 0) (.k (.int 1))) (.cons (.op2 pIdx (.v 2) (.k (.int 1))) (.cons (.op2 pIdx (.v 2) (.k (.int 0))) (.nil))))) (.nil))))) (.cons (.ite (.op2 pEq (.v 4) (.v 2)) (.cons (.ret (.tup (.cons (.v 2) (.cons (.v 3) (.nil))))) (.nil)) (.nil)) (.cons (.par [2, 3] (.cons (.v 4) (.cons (.op2 pAddI (.v 3) (.k (.int 1))) (.nil)))) (.nil)))
def Fr (x : Slot) : Prop := x = .un ∨ ∃ d, x = .dat d
theorem eq_sp {a b c d : Int} : pEq (sp a b) (sp c d) = some (false, .bool (decide (a = c ∧ b = d))) := by
  simp [pEq, okEq, PyData.plain, PyData.depth, PyData.eqv, PyData.plainAll, PyData.depthAll, PyData.eqvAll]
  by_cases h1 : a = c <;> by_cases h2 : b = d <;> simp [h1, h2]
theorem eq_two {a b c d : Int} : pEq (two a b) (two c d) = some (false, .bool (decide (a = c ∧ b = d))) := by
  simp [pEq, okEq, PyData.plain, PyData.depth, PyData.eqv, PyData.plainAll, PyData.depthAll, PyData.eqvAll]
  by_cases h1 : a = c <;> by_cases h2 : b = d <;> simp [h1, h2]
theorem ne_sp {a b c d : Int} : pNe (sp a b) (sp c d) = some (false, .bool (!decide (a = c ∧ b = d))) := by
  simp [pNe, okEq, PyData.plain, PyData.depth, PyData.eqv, PyData.plainAll, PyData.depthAll, PyData.eqvAll]
  by_cases h1 : a = c <;> by_cases h2 : b = d <;> simp [h1, h2]
theorem ne_two {a b c d : Int} : pNe (two a b) (two c d) = some (false, .bool (!decide (a = c ∧ b = d))) := by
  simp [pNe, okEq, PyData.plain, PyData.depth, PyData.eqv, PyData.plainAll, PyData.depthAll, PyData.eqvAll]
  by_cases h1 : a = c <;> by_cases h2 : b = d <;> simp [h1, h2]
theorem wb_run (n : Nat) {t s k a b r : Int} {S : PyData} {x : Slot} (h : RuOk t s k) (g : SpOk a b) (hx : Fr x) :
    evSs (run (n + 1)) bf MM wb [.dat (.tuple [ru t s k, ru t s k]), .dat S, .dat (two a b), .dat (.int r), x] =
      if sL t s k a b = a ∧ sH t s k a b = b then some (.rt (.tuple [two a b, .int r]) [.dat (.tuple [ru t s k, ru t s k]), .dat S, .dat (two a b), .dat (.int r), .dat (two (sL t s k a b) (sH t s k a b))])
      else some (.nx [.dat (.tuple [ru t s k, ru t s k]), .dat S, .dat (two (sL t s k a b) (sH t s k a b)), .dat (.int (r + 1)), .dat (two (sL t s k a b) (sH t s k a b))]) := by
  obtain ⟨g1, g2, g3⟩ := g
  have e3 := r_cutspan n t s k a b a b h ⟨by omega, by omega⟩ ⟨by omega, by omega⟩
  have e4 : cutD t s k a b a b = sp (sL t s k a b) (sH t s k a b) := rfl
  rw [e4] at e3
  have key : ∀ y, y = x → Fr x → evSs (run (n + 1)) bf MM wb [.dat (.tuple [ru t s k, ru t s k]), .dat S, .dat (two a b), .dat (.int r), y] =
      if sL t s k a b = a ∧ sH t s k a b = b then some (.rt (.tuple [two a b, .int r]) [.dat (.tuple [ru t s k, ru t s k]), .dat S, .dat (two a b), .dat (.int r), .dat (two (sL t s k a b) (sH t s k a b))])
      else some (.nx [.dat (.tuple [ru t s k, ru t s k]), .dat S, .dat (two (sL t s k a b) (sH t s k a b)), .dat (.int (r + 1)), .dat (two (sL t s k a b) (sH t s k a b))]) := by
    intro y hy hf
    by_cases z : sL t s k a b = a ∧ sH t s k a b = b
    · rw [if_pos z]
      rcases hf with rfl | ⟨d, rfl⟩ <;> subst hy <;> simp [wb, slotsOf, conArg, truth, valof, esc, callArgs, callBack, escAll, asg, asgAll, evst, Tg.bind, getAll, Option.bind, e3, bf, eq_two, z]
    · rw [if_neg z]
      rcases hf with rfl | ⟨d, rfl⟩ <;> subst hy <;> simp [wb, slotsOf, conArg, truth, valof, esc, callArgs, callBack, escAll, asg, asgAll, evst, Tg.bind, getAll, Option.bind, e3, bf, eq_two, z]
  exact key x rfl hx
theorem wk_loop (n : Nat) {t s k : Int} {S : PyData} (h : RuOk t s k) : ∀ {T : Nat} {a b a' b' : Int}, Wk t s k a b a' b' T → ∀ (f : Nat) (r : Int) (x : Slot), T < f → Fr x →
    ∃ ρ, whLoop (truth (ev (run (n + 1)) bf (.k (.bool true)))) (evSs (run (n + 1)) bf MM wb) f [.dat (.tuple [ru t s k, ru t s k]), .dat S, .dat (two a b), .dat (.int r), x] = some (.rt (.tuple [two a' b', .int (r + T)]) ρ) := by
  intro T a b a' b' w
  induction w with
  | @stop a b g h1 h2 =>
    intro f r x hf hx
    obtain ⟨f, rfl⟩ : ∃ m, f = m + 1 := ⟨f - 1, by omega⟩
    refine ⟨[.dat (.tuple [ru t s k, ru t s k]), .dat S, .dat (two a b), .dat (.int r), .dat (two (sL t s k a b) (sH t s k a b))], ?_⟩
    simp only [whLoop, truth, z_k, Option.bind, Res.get, if_true]
    rw [wb_run n h g hx, if_pos ⟨h1, h2⟩]
    simp
  | step g hn w ih =>
    intro f r x hf hx
    obtain ⟨f, rfl⟩ : ∃ m, f = m + 1 := ⟨f - 1, by omega⟩
    obtain ⟨ρ, e⟩ := ih f (r + 1) (.dat (two (sL t s k _ _) (sH t s k _ _))) (by omega) (.inr ⟨_, rfl⟩)
    refine ⟨ρ, ?_⟩
    rw [whLoop]
    simp only [truth, z_k, Option.bind, Res.get, if_true]
    rw [wb_run n h g hx, if_neg hn]
    simp only []
    refine Eq.trans e ?_
    congr 5
    simp only [PyData.int.injEq]
    omega
theorem r_walk (n : Nat) {t s k a b a' b' : Int} {T : Nat} (h : RuOk t s k) (w : Wk t s k a b a' b' T) (hT : T < MM) :
    run (n + 2) 10 [.tuple [ru t s k, ru t s k], two a b] = some (.tuple [two a' b', .int T], .none) := by
  obtain ⟨ρ, e⟩ := wk_loop (S := two a b) n h w MM 0 .un hT (.inl rfl)
  have e' : evS (run (n + 1)) bf MM (.whl (.k (.bool true)) wb) [.dat (.tuple [ru t s k, ru t s k]), .dat (two a b), .dat (two a b), .dat (.int 0), .un] = some (.rt (.tuple [two a' b', .int T]) ρ) := by
    rw [z_whl, e]; simp
  rw [run_walk, show b10 = .cons (.par [2, 3] (.cons (.v 1) (.cons (.k (.int 0)) (.nil)))) (.cons (.whl (.k (.bool true)) wb) .nil) from rfl]
  simp [callBody, slotsOf, conArg, truth, valof, esc, callArgs, callBack, escAll, asg, asgAll, evst, Tg.bind, getAll, Option.bind, e']
theorem Wk.first {t s k a b a' b' : Int} {T : Nat} (w : Wk t s k a b a' b' T) : SpOk a b := by cases w <;> assumption
theorem Wk.last {t s k a b a' b' : Int} {T : Nat} (w : Wk t s k a b a' b' T) : SpOk a' b' ∧ sL t s k a' b' = a' ∧ sH t s k a' b' = b' := by
  induction w with
  | stop g h1 h2 => exact ⟨g, h1, h2⟩
  | step _ _ _ ih => exact ih
theorem r_last (n : Nat) {t s k a b a' b' : Int} {T : Nat} (h : RuOk t s k) (w : Wk t s k a b a' b' T) (hT : T < MM) :
    run (n + 5) 11 [.tuple [ru t s k, ru t s k], two a b] = some (two a' b', .none) := by
  have e1 := r_need_rules n t s k t s k h h
  have e2 := r_need_spans (n + 1) a b a b ⟨w.first.h0, w.first.h1, w.first.h2⟩ ⟨w.first.h0, w.first.h1, w.first.h2⟩
  simp [run_last_spans, callBody, b11, slotsOf, conArg, truth, valof, esc, callArgs, callBack, escAll, asg, asgAll, evst, Tg.bind, getAll, Option.bind, e1, e2, bf, r_walk (n + 2) h w hT]
theorem r_rounds (n : Nat) {t s k a b a' b' : Int} {T : Nat} (h : RuOk t s k) (w : Wk t s k a b a' b' T) (hT : T < MM) :
    run (n + 5) 12 [.tuple [ru t s k, ru t s k], two a b] = some (.int T, .none) := by
  have e1 := r_need_rules n t s k t s k h h
  have e2 := r_need_spans (n + 1) a b a b ⟨w.first.h0, w.first.h1, w.first.h2⟩ ⟨w.first.h0, w.first.h1, w.first.h2⟩
  simp [run_span_rounds, callBody, b12, slotsOf, conArg, truth, valof, esc, callArgs, callBack, escAll, asg, asgAll, evst, Tg.bind, getAll, Option.bind, e1, e2, bf, r_walk (n + 2) h w hT]
theorem sL_dn {t a b : Int} (h : a ≤ b) : sL t 1 (-1) a b = lo' a b (-((-(t - 1 - b)) / 2)) := by
  have e : mn (-1 * a) (-1 * b) = -b := by unfold mn; split <;> omega
  unfold sL least
  rw [e]
  rfl
theorem sH_dn {t a b : Int} (h : a ≤ b) : sH t 1 (-1) a b = hi' a b ((t + 1 - a) / 2) := by
  have e : mx (-1 * a) (-1 * b) = -a := by unfold mx; split <;> omega
  unfold sH most
  rw [e]
  rfl
theorem sL_up {t a b : Int} (h : a ≤ b) : sL t 1 1 a b = lo' a b (-((-(t - 1 + a)) / 2)) := by
  have e : mn (1 * a) (1 * b) = a := by unfold mn; split <;> omega
  unfold sL least
  rw [e]
  rfl
theorem sH_up {t a b : Int} (h : a ≤ b) : sH t 1 1 a b = hi' a b ((t + 1 + b) / 2) := by
  have e : mx (1 * a) (1 * b) = b := by unfold mx; split <;> omega
  unfold sH most
  rw [e]
  rfl
def Dn (t a b : Int) : Prop := SpOk a b ∧ 3 * a ≤ t + 3 ∧ t - 3 ≤ 3 * b
def Up (t a b : Int) : Prop := SpOk a b ∧ a ≤ t + 1 ∧ t - 1 ≤ b
theorem clamp {a b l m : Int} (h : a ≤ b) (hl : l ≤ m) : a ≤ lo' a b l ∧ lo' a b l ≤ hi' a b m ∧ hi' a b m ≤ b := by
  unfold lo' hi' mx mn
  refine ⟨?_, ?_, ?_⟩ <;> (repeat' split) <;> omega
theorem lo_le {a b l : Int} : lo' a b l ≤ a ∨ lo' a b l ≤ l := by
  unfold lo' mx mn
  (repeat' split) <;> omega
theorem le_hi {a b m : Int} : b ≤ hi' a b m ∨ m ≤ hi' a b m := by
  unfold hi' mx mn
  (repeat' split) <;> omega
theorem dn_step {t a b : Int} (h : Dn t a b) : Dn t (sL t 1 (-1) a b) (sH t 1 (-1) a b) ∧ a ≤ sL t 1 (-1) a b ∧ sH t 1 (-1) a b ≤ b := by
  obtain ⟨⟨h0, h1, h2⟩, h3, h4⟩ := h
  rw [sL_dn h1, sH_dn h1]
  have c := clamp (l := -((-(t - 1 - b)) / 2)) (m := (t + 1 - a) / 2) h1 (by omega)
  have l := lo_le (a := a) (b := b) (l := -((-(t - 1 - b)) / 2))
  have m := le_hi (a := a) (b := b) (m := (t + 1 - a) / 2)
  exact ⟨⟨⟨by omega, by omega, by omega⟩, by omega, by omega⟩, by omega, by omega⟩
theorem up_step {t a b : Int} (h : Up t a b) : Up t (sL t 1 1 a b) (sH t 1 1 a b) ∧ a ≤ sL t 1 1 a b ∧ sH t 1 1 a b ≤ b := by
  obtain ⟨⟨h0, h1, h2⟩, h3, h4⟩ := h
  rw [sL_up h1, sH_up h1]
  have c := clamp (l := -((-(t - 1 + a)) / 2)) (m := (t + 1 + b) / 2) h1 (by omega)
  have l := lo_le (a := a) (b := b) (l := -((-(t - 1 + a)) / 2))
  have m := le_hi (a := a) (b := b) (m := (t + 1 + b) / 2)
  exact ⟨⟨⟨by omega, by omega, by omega⟩, by omega, by omega⟩, by omega, by omega⟩
theorem wk_ex {t s k : Int} (I : Int → Int → Prop) (hI : ∀ a b, I a b → SpOk a b ∧ I (sL t s k a b) (sH t s k a b) ∧ a ≤ sL t s k a b ∧ sH t s k a b ≤ b) :
    ∀ (m : Nat) (a b : Int), I a b → b - a ≤ m → ∃ a' b' T, Wk t s k a b a' b' T ∧ T ≤ m ∧ I a' b'
  | m, a, b, i, hm => by
    obtain ⟨g, i', h1, h2⟩ := hI a b i
    by_cases z : sL t s k a b = a ∧ sH t s k a b = b
    · exact ⟨a, b, 0, .stop g z.1 z.2, by omega, i⟩
    · have g' := (hI _ _ i').1
      have g0 := g.h1; have g0' := g'.h1
      cases m with
      | zero => exfalso; apply z; omega
      | succ m =>
        have : sH t s k a b - sL t s k a b ≤ m := by
          rcases Classical.not_and_iff_not_or_not.mp z with y | y <;> omega
        obtain ⟨a', b', T, w, hT, iT⟩ := wk_ex I hI m _ _ i' this
        exact ⟨a', b', T + 1, .step g z w, by omega, iT⟩
def Jn (t a b : Int) : Prop := SpOk a b ∧ (t + 1 - a) / 2 ≤ b ∧ a ≤ -((-(t - 1 - b)) / 2)
theorem clamp2 {a b l m : Int} (h : a ≤ b) (hl : a ≤ l) (hm : m ≤ b) (h2 : l ≤ b) (h3 : a ≤ m) : lo' a b l = l ∧ hi' a b m = m := by
  unfold lo' hi' mx mn
  refine ⟨?_, ?_⟩ <;> (repeat' split) <;> omega
theorem wk_pot {t : Int} : ∀ (j : Nat) {a b a' b' : Int} {T : Nat}, Wk t 1 (-1) a b a' b' T → Jn t a b → 3 * 2 ^ j ≤ b - a → j ≤ T := by
  intro j
  induction j with
  | zero => intros; omega
  | succ j ih =>
    intro a b a' b' T w hJ hj
    have p : (0 : Int) < 2 ^ j := Int.pow_pos (by decide)
    have pe : (2 : Int) ^ (j + 1) = 2 * 2 ^ j := by rw [Int.pow_succ]; omega
    rw [pe] at hj
    obtain ⟨g, j1, j2⟩ := hJ
    have g1 := g.h1
    have ek : sL t 1 (-1) a b = -((-(t - 1 - b)) / 2) ∧ sH t 1 (-1) a b = (t + 1 - a) / 2 := by
      rw [sL_dn g1, sH_dn g1]
      exact clamp2 g1 j2 j1 (by omega) (by omega)
    cases w with
    | stop _ h1 h2 => omega
    | step _ hn w =>
      have g0 := g.h0; have g2 := g.h2
      have : j ≤ _ := ih w (by rw [ek.1, ek.2]; exact ⟨⟨by omega, by omega, by omega⟩, by omega, by omega⟩) (by rw [ek.1, ek.2]; omega)
      omega
theorem dn_main {t : Int} (ht : 100000000000000000000000000000000000000000000000000 ≤ t ∧ t ≤ 100000000000000000000000000000000000000000001000000) : ∃ a b T, Wk t 1 (-1) 0 1000000000000000000000000000000000000000000000000000000000000 a b T ∧ T < MM ∧ 100 ≤ T ∧ b - a ≤ 3 ∧ 3 * a - 6 ≤ t ∧ t ≤ 3 * b + 6 := by
  have i0 : Dn t 0 1000000000000000000000000000000000000000000000000000000000000 := ⟨⟨by omega, by omega, by omega⟩, by omega, by omega⟩
  obtain ⟨a, b, T, w, hT, i⟩ := wk_ex (Dn t) (fun a b i => ⟨i.1, dn_step i⟩) (10 ^ 60) 0 1000000000000000000000000000000000000000000000000000000000000 i0 (by omega)
  refine ⟨a, b, T, w, Nat.lt_of_le_of_lt hT (by decide +kernel), ?_, ?_⟩
  · have e1 : sL t 1 (-1) 0 1000000000000000000000000000000000000000000000000000000000000 = 0 := by
      rw [sL_dn (by omega)]; unfold lo' mx mn; (repeat' split) <;> omega
    have e2 : sH t 1 (-1) 0 1000000000000000000000000000000000000000000000000000000000000 = (t + 1) / 2 := by
      rw [sH_dn (by omega)]; unfold hi' mx mn; (repeat' split) <;> omega
    cases w with
    | stop g h1 h2 => omega
    | step g hn w =>
      rw [e1, e2] at w
      have := wk_pot 100 w ⟨⟨by omega, by omega, by omega⟩, by omega, by omega⟩ (by omega)
      omega
  · obtain ⟨g, h1, h2⟩ := w.last
    obtain ⟨⟨i0, i1, i2⟩, i3, i4⟩ := i
    rw [sL_dn i1] at h1
    rw [sH_dn i1] at h2
    unfold lo' mx mn at h1
    unfold hi' mx mn at h2
    refine ⟨?_, by omega, by omega⟩
    split at h1 <;> split at h2 <;> (try split at h1) <;> (try split at h2) <;> omega
theorem up_main {t : Int} (ht : 100000000000000000000000000000000000000000000000000 ≤ t ∧ t ≤ 100000000000000000000000000000000000000000001000000) : ∃ a b T, Wk t 1 1 0 1000000000000000000000000000000000000000000000000000000000000 a b T ∧ T < MM ∧ b - a ≤ 3 ∧ a - 3 ≤ t ∧ t ≤ b + 3 := by
  have i0 : Up t 0 1000000000000000000000000000000000000000000000000000000000000 := ⟨⟨by omega, by omega, by omega⟩, by omega, by omega⟩
  obtain ⟨a, b, T, w, hT, i⟩ := wk_ex (Up t) (fun a b i => ⟨i.1, up_step i⟩) (10 ^ 60) 0 1000000000000000000000000000000000000000000000000000000000000 i0 (by omega)
  refine ⟨a, b, T, w, Nat.lt_of_le_of_lt hT (by decide +kernel), ?_⟩
  obtain ⟨g, h1, h2⟩ := w.last
  obtain ⟨⟨i0, i1, i2⟩, i3, i4⟩ := i
  rw [sL_up i1] at h1
  rw [sH_up i1] at h2
  unfold lo' mx mn at h1
  unfold hi' mx mn at h2
  refine ⟨?_, by omega, by omega⟩
  split at h1 <;> split at h2 <;> (try split at h1) <;> (try split at h2) <;> omega
theorem flat_main {t s : Int} (ht : 100000000000000000000000000000000000000000000000000 ≤ t ∧ t ≤ 100000000000000000000000000000000000000000001000000) (hs : 1 ≤ s ∧ s ≤ 20) : ∃ l m : Int, l = -((-(t - s)) / (2 * s)) ∧ m = (t + s) / (2 * s) ∧ t - s ≤ 2 * (s * l) ∧ 2 * (s * l) < t + s ∧ 2 * (s * m) ≤ t + s ∧ t - s < 2 * (s * m) ∧ (m = l ∨ m = l + 1) ∧ 0 < l ∧ m + 8 ≤ 1000000000000000000000000000000000000000000000000000000000000 := by
  refine ⟨_, _, rfl, rfl, ?_⟩
  obtain ⟨h1, h2⟩ := hs
  have : s = 1 ∨ s = 2 ∨ s = 3 ∨ s = 4 ∨ s = 5 ∨ s = 6 ∨ s = 7 ∨ s = 8 ∨ s = 9 ∨ s = 10 ∨ s = 11 ∨ s = 12 ∨ s = 13 ∨ s = 14 ∨ s = 15 ∨ s = 16 ∨ s = 17 ∨ s = 18 ∨ s = 19 ∨ s = 20 := by omega
  rcases this with rfl | rfl | rfl | rfl | rfl | rfl | rfl | rfl | rfl | rfl | rfl | rfl | rfl | rfl | rfl | rfl | rfl | rfl | rfl | rfl <;> omega
theorem flat_wk {t s l m : Int} (hl : l = -((-(t - s)) / (2 * s))) (hm : m = (t + s) / (2 * s)) (h : m = l ∨ m = l + 1) (h0 : 0 < l) (h8 : m + 8 ≤ 1000000000000000000000000000000000000000000000000000000000000) : Wk t s 0 0 1000000000000000000000000000000000000000000000000000000000000 l m 1 := by
  have eL : ∀ a b, sL t s 0 a b = lo' a b l := fun a b => by
    unfold sL least mn
    rw [hl]
    simp
  have eH : ∀ a b, sH t s 0 a b = hi' a b m := fun a b => by
    unfold sH most mx
    rw [hm]
    simp
  have a1 : sL t s 0 0 1000000000000000000000000000000000000000000000000000000000000 = l := by rw [eL]; unfold lo' mx mn; (repeat' split) <;> omega
  have a2 : sH t s 0 0 1000000000000000000000000000000000000000000000000000000000000 = m := by rw [eH]; unfold hi' mx mn; (repeat' split) <;> omega
  have a3 : sL t s 0 l m = l := by rw [eL]; unfold lo' mx mn; (repeat' split) <;> omega
  have a4 : sH t s 0 l m = m := by rw [eH]; unfold hi' mx mn; (repeat' split) <;> omega
  refine .step ⟨by omega, by omega, by omega⟩ (by omega) ?_
  rw [a1, a2]
  exact .stop ⟨by omega, by omega, by omega⟩ a3 a4
theorem flat_eq {t s l m : Int} (h1 : 2 * (s * l) < t + s) (h2 : t - s < 2 * (s * m)) (h3 : 2 * (s * m) ≤ t + s) (h4 : t - s ≤ 2 * (s * l)) (h : m = l ∨ m = l + 1) : l * (t - s * l + 0 * 0) = m * (t - s * m + 0 * 0) := by
  rcases h with rfl | rfl
  · rfl
  · have e1 : s * (l + 1) = s * l + s := by rw [Int.mul_add, Int.mul_one]
    have e2 : t = 2 * (s * l) + s := by omega
    subst e2
    grind
theorem flat_ge {t s l : Int} (h4 : t - s ≤ 2 * (s * l)) (hs : 0 < s) : (l + 7) * (t - s * (l + 7) + 0 * 0) ≤ l * (t - s * l + 0 * 0) := by
  have e : (l + 7) * (t - s * (l + 7) + 0 * 0) = l * (t - s * l + 0 * 0) + (7 * t - 14 * (s * l) - 49 * s) := by grind
  omega
structure Pq (p q : Int) : Prop where
  p0 : 0 < p
  pq : p < q
  q20 : q ≤ 20
def gc (p q m : Int) : Int := (2 * p * m + q) / (2 * q)
theorem r_gc (n : Nat) {p q m : Int} (h : Pq p q) (hm : 0 ≤ m ∧ m ≤ 1000000000000000000000000000000000000000000000000000000000000) : run (n + 1) 16 [sp p q, .int m] = some (.int (gc p q m), .none) := by
  obtain ⟨h1, h2, h3⟩ := h
  have c1 : MulOk 2 p := mulOk (by omega) (by omega)
  have c2 : MulOk (2 * p) m := mulOk (by omega) (by omega)
  have c3 : MulOk 2 q := mulOk (by omega) (by omega)
  have c4 : CDiv (2 * p * m + q) (2 * q) := ⟨by omega, by omega⟩
  simp [run_guess_cut, callBody, b16, slotsOf, conArg, truth, valof, esc, callArgs, callBack, escAll, asg, asgAll, evst, Tg.bind, getAll, Option.bind, p_IC c1, p_IC c2, p_IC c3, p_IC c4, gc]
theorem r_need_guess (n : Nat) {p q : Int} (h : Pq p q) : run (n + 3) 15 [sp p q] = some (.none, .none) := by
  obtain ⟨h1, h2, h3⟩ := h
  have ha := r_is_from n p 1 20 ⟨by omega, by omega⟩
  have hb := r_is_from n q 1 20 ⟨by omega, by omega⟩
  have e1 : ¬ q ≤ p := by omega
  simp [run_need_guess, callBody, b15, slotsOf, conArg, truth, valof, esc, callArgs, callBack, escAll, asg, asgAll, evst, Tg.bind, getAll, Option.bind, z_frr, z_lc, gSeq, frLoop, lcLoop, wipeE, backE, lockAll, unlockAll, lockR, unlockR, Out.mapM, pAll, boolsOf, ha, hb, e1, bf, pNe, okEq, PyData.plain, PyData.depth, PyData.eqv]
inductive Gs (p q : Int) : Int → Int → Nat → Prop
  | stop {x : Int} : 0 ≤ x ∧ x ≤ 1000000000000000000000000000000000000000000000000000000000000 → ¬ gc p q x < x → Gs p q x x 0
  | step {x e : Int} {T : Nat} : 0 ≤ x ∧ x ≤ 1000000000000000000000000000000000000000000000000000000000000 → gc p q x < x → Gs p q (gc p q x) e T → Gs p q x e (T + 1)
theorem gc_nn {p q x : Int} (h : Pq p q) (hx : 0 ≤ x) : 0 ≤ gc p q x := by
  obtain ⟨h1, h2, h3⟩ := h
  have := Int.mul_nonneg (Int.mul_nonneg (by decide : (0 : Int) ≤ 2) (Int.le_of_lt h1)) hx
  exact Int.ediv_nonneg (by omega) (by omega)
theorem gc_mono {p q x y : Int} (h : Pq p q) (hx : x ≤ y) : gc p q x ≤ gc p q y := by
  obtain ⟨h1, h2, h3⟩ := h
  have := Int.mul_le_mul_of_nonneg_left hx (by omega : 0 ≤ 2 * p)
  exact Int.ediv_le_ediv (by omega) (by omega)
theorem gs_ex {p q : Int} (h : Pq p q) : ∀ (m : Nat) (x : Int), 0 ≤ x ∧ x ≤ 1000000000000000000000000000000000000000000000000000000000000 → x ≤ m → ∃ e T, Gs p q x e T ∧ T ≤ m
  | m, x, hx, hm => by
    by_cases z : gc p q x < x
    · have g0 := gc_nn h hx.1
      cases m with
      | zero => omega
      | succ m =>
        obtain ⟨e, T, g, hT⟩ := gs_ex h m (gc p q x) ⟨g0, by omega⟩ (by omega)
        exact ⟨e, T + 1, .step hx z g, by omega⟩
    · exact ⟨x, 0, .stop hx z, by omega⟩
theorem Gs.le {p q x e : Int} {T : Nat} (g : Gs p q x e T) : e ≤ x ∧ 0 ≤ e ∧ e ≤ 1000000000000000000000000000000000000000000000000000000000000 ∧ e ≤ gc p q e := by
  induction g with
  | stop hx z => omega
  | step hx z _ ih => omega
theorem Gs.ge {p q x e c : Int} {T : Nat} (h : Pq p q) (g : Gs p q x e T) (hc : c ≤ gc p q c) : c ≤ x → c ≤ e := by
  induction g with
  | stop hx z => intro y; exact y
  | step hx z _ ih =>
    intro y
    have := gc_mono h y
    exact ih (by omega)
theorem Gs.T1 {p q x e : Int} {T : Nat} (g : Gs p q x e T) (h : gc p q x < x) : ∃ T', T = T' + 1 ∧ Gs p q (gc p q x) e T' := by
  cases g with
  | stop _ z => exact absurd h z
  | step _ _ g => exact ⟨_, rfl, g⟩
theorem gc_fix {p q e : Int} (h : Pq p q) (he : e ≤ gc p q e) : 2 * ((q - p) * e) ≤ q := by
  obtain ⟨h1, h2, h3⟩ := h
  have a : gc p q e * (2 * q) ≤ 2 * p * e + q := Int.ediv_mul_le _ (by omega)
  have b : e * (2 * q) ≤ gc p q e * (2 * q) := Int.mul_le_mul_of_nonneg_right he (by omega)
  have c : 2 * ((q - p) * e) = e * (2 * q) - 2 * p * e := by grind
  omega
theorem fix_small {p q e : Int} (h : Pq p q) (h0 : 0 ≤ e) (he : 2 * ((q - p) * e) ≤ q) : e ≤ 10 := by
  obtain ⟨h1, h2, h3⟩ := h
  have : 1 * e ≤ (q - p) * e := Int.mul_le_mul_of_nonneg_right (by omega) h0
  omega
def gb : Ss := .cons (.set 2 (.call 16 (.cons (.v 0) (.cons (.v 2) (.nil))))) (.nil)
def gt : X := .op2 pLt (.call 16 (.cons (.v 0) (.cons (.v 2) (.nil)))) (.v 2)
theorem gs_last (n : Nat) {p q m : Int} (h : Pq p q) {x e : Int} {T : Nat} (g : Gs p q x e T) : ∀ f : Nat, T < f →
    whLoop (truth (ev (run (n + 1)) bf gt)) (evSs (run (n + 1)) bf MM gb) f [.dat (sp p q), .dat (.int m), .dat (.int x)] = some (.nx [.dat (sp p q), .dat (.int m), .dat (.int e)]) := by
  induction g with
  | stop hx z =>
    intro f hf
    obtain ⟨f, rfl⟩ : ∃ m, f = m + 1 := ⟨f - 1, by omega⟩
    simp [whLoop, gt, slotsOf, conArg, truth, valof, esc, callArgs, callBack, escAll, asg, asgAll, evst, Tg.bind, getAll, Option.bind, r_gc n h hx, bf, z]
  | step hx z g ih =>
    intro f hf
    obtain ⟨f, rfl⟩ : ∃ m, f = m + 1 := ⟨f - 1, by omega⟩
    rw [whLoop]
    simp [gt, gb, slotsOf, conArg, truth, valof, esc, callArgs, callBack, escAll, asg, asgAll, evst, Tg.bind, getAll, Option.bind, r_gc n h hx, bf, z]
    exact ih f (by omega)
theorem r_guess_last (n : Nat) {p q x e : Int} {T : Nat} (h : Pq p q) (g : Gs p q x e T) (hT : T < MM) (hx : 0 ≤ x ∧ x ≤ 1000000000000000000000000000000000000000000000000000000000000) : run (n + 4) 17 [sp p q, .int x] = some (.int e, .none) := by
  have e1 : evS (run (n + 3)) bf MM (.whl gt gb) [.dat (sp p q), .dat (.int x), .dat (.int x)] = some (.nx [.dat (sp p q), .dat (.int x), .dat (.int e)]) := by
    rw [z_whl, gs_last (n + 2) h g MM hT]
  rw [run_guess_last, show b17 = .cons (.expr (.call 15 (.cons (.v 0) (.nil)))) (.cons (.expr (.call 2 (.cons (.v 1) (.cons (.k (.int 0)) (.cons (.k (.int 1000000000000000000000000000000000000000000000000000000000000)) (.nil)))))) (.cons (.set 2 (.v 1)) (.cons (.whl gt gb) (.cons (.ret (.v 2)) (.nil))))) from rfl]
  simp [callBody, slotsOf, conArg, truth, valof, esc, callArgs, callBack, escAll, asg, asgAll, evst, Tg.bind, getAll, Option.bind, r_need_guess n h, r_need_from n x 0 _ hx, bf, e1]
def hb : Ss := .cons (.par [2, 3] (.cons (.call 16 (.cons (.v 0) (.cons (.v 2) (.nil)))) (.cons (.op2 pAddI (.v 3) (.k (.int 1))) (.nil)))) (.nil)
theorem gs_rounds (n : Nat) {p q m : Int} (h : Pq p q) {x e : Int} {T : Nat} (g : Gs p q x e T) : ∀ (f : Nat) (r : Int), T < f →
    whLoop (truth (ev (run (n + 1)) bf gt)) (evSs (run (n + 1)) bf MM hb) f [.dat (sp p q), .dat (.int m), .dat (.int x), .dat (.int r)] = some (.nx [.dat (sp p q), .dat (.int m), .dat (.int e), .dat (.int (r + T))]) := by
  induction g with
  | stop hx z =>
    intro f r hf
    obtain ⟨f, rfl⟩ : ∃ m, f = m + 1 := ⟨f - 1, by omega⟩
    simp [whLoop, gt, slotsOf, conArg, truth, valof, esc, callArgs, callBack, escAll, asg, asgAll, evst, Tg.bind, getAll, Option.bind, r_gc n h hx, bf, z]
  | step hx z g ih =>
    intro f r hf
    obtain ⟨f, rfl⟩ : ∃ m, f = m + 1 := ⟨f - 1, by omega⟩
    rw [whLoop]
    simp [gt, hb, slotsOf, conArg, truth, valof, esc, callArgs, callBack, escAll, asg, asgAll, evst, Tg.bind, getAll, Option.bind, r_gc n h hx, bf, z]
    have := ih f (r + 1) (by omega)
    simp [gt, hb] at this
    rw [this]
    simp
    omega
theorem r_guess_rounds (n : Nat) {p q x e : Int} {T : Nat} (h : Pq p q) (g : Gs p q x e T) (hT : T < MM) (hx : 0 ≤ x ∧ x ≤ 1000000000000000000000000000000000000000000000000000000000000) : run (n + 4) 18 [sp p q, .int x] = some (.int T, .none) := by
  have e1 : evS (run (n + 3)) bf MM (.whl gt hb) [.dat (sp p q), .dat (.int x), .dat (.int x), .dat (.int 0)] = some (.nx [.dat (sp p q), .dat (.int x), .dat (.int e), .dat (.int (0 + T))]) := by
    rw [z_whl, gs_rounds (n + 2) h g MM 0 hT]
  rw [run_guess_rounds, show b18 = .cons (.expr (.call 15 (.cons (.v 0) (.nil)))) (.cons (.expr (.call 2 (.cons (.v 1) (.cons (.k (.int 0)) (.cons (.k (.int 1000000000000000000000000000000000000000000000000000000000000)) (.nil)))))) (.cons (.par [2, 3] (.cons (.v 1) (.cons (.k (.int 0)) (.nil)))) (.cons (.whl gt hb) (.cons (.ret (.v 3)) (.nil))))) from rfl]
  simp [callBody, slotsOf, conArg, truth, valof, esc, callArgs, callBack, escAll, asg, asgAll, evst, Tg.bind, getAll, Option.bind, r_need_guess n h, r_need_from n x 0 _ hx, bf, e1]
def ro (p q line : Int) : Nat → Int → Int → Option Int
  | 0, _, _ => none
  | T + 1, x, r => if gc p q x < line then some (r + 1) else ro p q line T (gc p q x) (r + 1)
def ob : Ss := .cons (.par [3, 4] (.cons (.call 16 (.cons (.v 0) (.cons (.v 3) (.nil)))) (.cons (.op2 pAddI (.v 4) (.k (.int 1))) (.nil)))) (.cons (.ite (.op2 pGt (.v 2) (.v 3)) (.cons (.ret (.v 4)) (.nil)) (.nil)) (.nil))
def ot : X := .op2 pLt (.call 16 (.cons (.v 0) (.cons (.v 3) (.nil)))) (.v 3)
theorem gs_of (n : Nat) {p q m line : Int} (h : Pq p q) {x e : Int} {T : Nat} (g : Gs p q x e T) : ∀ (f : Nat) (r : Int), T < f →
    ∃ ρ, whLoop (truth (ev (run (n + 1)) bf ot)) (evSs (run (n + 1)) bf MM ob) f [.dat (sp p q), .dat (.int m), .dat (.int line), .dat (.int x), .dat (.int r)] = match ro p q line T x r with
      | some v => some (.rt (.int v) ρ)
      | none => some (.nx ρ) := by
  induction g with
  | @stop x hx z =>
    intro f r hf
    obtain ⟨f, rfl⟩ : ∃ m, f = m + 1 := ⟨f - 1, by omega⟩
    refine ⟨[.dat (sp p q), .dat (.int m), .dat (.int line), .dat (.int x), .dat (.int r)], ?_⟩
    simp [whLoop, ot, slotsOf, conArg, truth, valof, esc, callArgs, callBack, escAll, asg, asgAll, evst, Tg.bind, getAll, Option.bind, r_gc n h hx, bf, z, ro]
  | @step x e T hx z g ih =>
    intro f r hf
    obtain ⟨f, rfl⟩ : ∃ m, f = m + 1 := ⟨f - 1, by omega⟩
    rw [ro]
    by_cases y : gc p q x < line
    · refine ⟨[.dat (sp p q), .dat (.int m), .dat (.int line), .dat (.int (gc p q x)), .dat (.int (r + 1))], ?_⟩
      rw [if_pos y, whLoop]
      simp [ot, ob, slotsOf, conArg, truth, valof, esc, callArgs, callBack, escAll, asg, asgAll, evst, Tg.bind, getAll, Option.bind, r_gc n h hx, bf, z, y]
    · obtain ⟨ρ, e1⟩ := ih f (r + 1) (by omega)
      refine ⟨ρ, ?_⟩
      rw [if_neg y, whLoop]
      simp [ot, ob, slotsOf, conArg, truth, valof, esc, callArgs, callBack, escAll, asg, asgAll, evst, Tg.bind, getAll, Option.bind, r_gc n h hx, bf, z, y]
      simp [ot, ob] at e1
      exact e1
theorem r_guess_of (n : Nat) {p q x e line : Int} {T : Nat} (h : Pq p q) (g : Gs p q x e T) (hT : T < MM) (hx : 0 ≤ x ∧ x ≤ 1000000000000000000000000000000000000000000000000000000000000) (hl : 0 ≤ line ∧ line ≤ x) : run (n + 4) 19 [sp p q, .int x, .int line] = some (match ro p q line T x 0 with | some v => .int v | none => .none, .none) := by
  obtain ⟨ρ, e0⟩ := gs_of (m := x) (line := line) (n + 2) h g MM 0 hT
  have e1 : evS (run (n + 3)) bf MM (.whl ot ob) [.dat (sp p q), .dat (.int x), .dat (.int line), .dat (.int x), .dat (.int 0)] = match ro p q line T x 0 with
      | some v => some (.rt (.int v) ρ)
      | none => some (.nx ρ) := by
    rw [z_whl, e0]
  rw [run_guess_round_of, show b19 = .cons (.expr (.call 15 (.cons (.v 0) (.nil)))) (.cons (.expr (.call 2 (.cons (.v 1) (.cons (.k (.int 0)) (.cons (.k (.int 1000000000000000000000000000000000000000000000000000000000000)) (.nil)))))) (.cons (.expr (.call 2 (.cons (.v 2) (.cons (.k (.int 0)) (.cons (.v 1) (.nil)))))) (.cons (.par [3, 4] (.cons (.v 1) (.cons (.k (.int 0)) (.nil)))) (.cons (.whl ot ob) (.cons (.ret (.k .none)) (.nil)))))) from rfl]
  cases z : ro p q line T x 0 with
  | some v =>
    rw [z] at e1
    simp [callBody, slotsOf, conArg, truth, valof, esc, callArgs, callBack, escAll, asg, asgAll, evst, Tg.bind, getAll, Option.bind, r_need_guess n h, r_need_from n x 0 _ hx, r_need_from n line 0 _ hl, bf, e1]
  | none =>
    rw [z] at e1
    simp [callBody, slotsOf, conArg, truth, valof, esc, callArgs, callBack, escAll, asg, asgAll, evst, Tg.bind, getAll, Option.bind, r_need_guess n h, r_need_from n x 0 _ hx, r_need_from n line 0 _ hl, bf, e1]
theorem ro_none {p q line : Int} {x e : Int} {T : Nat} (g : Gs p q x e T) : ∀ r, line ≤ e → ro p q line T x r = none := by
  induction g with
  | stop _ _ => intro r _; rfl
  | step hx z g ih =>
    intro r hl
    have := g.le
    rw [ro, if_neg (by omega)]
    exact ih _ hl
theorem ro_some {p q line : Int} {x e : Int} {T : Nat} (g : Gs p q x e (T + 1)) (r : Int) (hl : e < line) : ∃ v, ro p q line (T + 1) x r = some v ∧ r + 1 ≤ v ∧ v ≤ r + (T + 1) := by
  induction T generalizing x r with
  | zero =>
    cases g with
    | step hx z g => cases g with
      | stop _ _ => exact ⟨r + 1, by rw [ro, if_pos hl], by omega, by omega⟩
  | succ T ih =>
    cases g with
    | step hx z g =>
      by_cases y : gc p q x < line
      · exact ⟨r + 1, by rw [ro, if_pos y], by omega, by omega⟩
      · obtain ⟨v, h1, h2, h3⟩ := ih g (r + 1)
        exact ⟨v, by rw [ro, if_neg y]; exact h1, by omega, by omega⟩
theorem ro_anti {p q l1 l2 : Int} (hl : l1 ≤ l2) : ∀ (T : Nat) (x r v w : Int), ro p q l1 T x r = some v → ro p q l2 T x r = some w → w ≤ v
  | 0, x, r, v, w, h1, h2 => by cases h1
  | T + 1, x, r, v, w, h1, h2 => by
    rw [ro] at h1 h2
    by_cases y : gc p q x < l1
    · rw [if_pos y] at h1; rw [if_pos (by omega)] at h2
      cases h1; cases h2; omega
    · rw [if_neg y] at h1
      by_cases y2 : gc p q x < l2
      · rw [if_pos y2] at h2
        cases h2
        have : ∀ (T : Nat) (x r v : Int), ro p q l1 T x r = some v → r + 1 ≤ v := by
          intro T
          induction T with
          | zero => intro x r v h; cases h
          | succ T ih =>
            intro x r v h
            rw [ro] at h
            split at h
            · cases h; omega
            · have := ih _ _ _ h; omega
        have := this _ _ _ _ h1
        omega
      · rw [if_neg y2] at h2
        exact ro_anti hl T _ _ _ _ h1 h2
theorem ro_end {p q : Int} {x e : Int} {T : Nat} (g : Gs p q x e (T + 1)) (r : Int) : ro p q (e + 1) (T + 1) x r = some (r + (T + 1)) := by
  induction T generalizing x r with
  | zero =>
    cases g with
    | step hx z g => cases g with
      | stop _ _ => rw [ro, if_pos (by omega)]; rfl
  | succ T ih =>
    cases g with
    | step hx z g =>
      have : e < gc p q x := by
        cases g with
        | step h1 h2 g2 => have := g2.le; omega
      rw [ro, if_neg (by omega), ih g]
      simp
      omega

abbrev rowD (ns : List Int) (i a b : Int) : PyData := .list [.list (ns.map .int), .int i, .int a, .int b]
theorem r_taken (n : Nat) (ns : List Int) (i a b m : Int) (hi : 0 ≤ i) (hm : 0 < m ∧ m ≤ 1000000) : ∃ x i' a' b' : Int, 0 ≤ i' ∧ 0 ≤ x ∧ x < m ∧ run (n + 1) 20 [rowD ns i a b, .int m] = some (.int x, rowD ns i' a' b') := by
  have c1 : ∀ u, CDiv u m := fun u => ⟨by omega, by omega⟩
  have c2 : 0 < m := hm.1
  have c3 : MulOk a 48271 := .inl (.inr (by omega))
  have c4 : CPow 10 18 := ⟨by omega, by omega, by decide⟩
  have c5 : ∀ u, CDiv u 7 := fun u => ⟨by omega, by omega⟩
  have m1 : ∀ u : Int, 0 ≤ u % m ∧ u % m < m := fun u => ⟨Int.emod_nonneg _ (by omega), Int.emod_lt_of_pos _ c2⟩
  have c6 : (0 : Int) < 2147483647 := by decide
  by_cases z : 0 < b
  · refine ⟨b % m, i, a, b / m, hi, (m1 b).1, (m1 b).2, ?_⟩
    simp [run__law_taken, callBody, b20, slotsOf, conArg, truth, valof, esc, callArgs, callBack, escAll, asg, asgAll, evst, Tg.bind, getAll, Option.bind, outOf, conOf, conSet, setD, p_IC (c1 _), p_IC (C := fun _ j => 0 < j) c2, z, ixN]
  · by_cases y : (ns.length : Int) < i + 1
    · refine ⟨((a * 48271 + 11) % 2147483647 / 7) % m, i + 1, (a * 48271 + 11) % 2147483647, b, by omega, (m1 _).1, (m1 _).2, ?_⟩
      simp [run__law_taken, callBody, b20, slotsOf, conArg, truth, valof, esc, callArgs, callBack, escAll, asg, asgAll, evst, Tg.bind, getAll, Option.bind, outOf, conOf, conSet, setD, p_IC c3, p_IC (c5 _), p_IC (C := fun _ j => 0 < j) c2, p_IC (C := fun _ j => 0 < j) c6, z, y, ixN]
    · obtain ⟨k, hk⟩ : ∃ k : Nat, i = k := ⟨i.toNat, by omega⟩
      subst hk
      have hk : k < ns.length := by omega
      have e1 : atI (ns.map PyData.int) (k : Int) = some (.int ns[k]) := by
        rw [at_nat (by rw [List.length_map]; exact hk), List.getElem?_map, List.getElem?_eq_getElem hk]
        rfl
      by_cases w : 1000000000000000000 ≤ ns[k]
      · refine ⟨ns[k] % m, k + 1, (a * 48271 + ns[k] + 11) % 2147483647, ns[k] / m, by omega, (m1 _).1, (m1 _).2, ?_⟩
        simp [run__law_taken, callBody, b20, slotsOf, conArg, truth, valof, esc, callArgs, callBack, escAll, asg, asgAll, evst, Tg.bind, getAll, Option.bind, outOf, conOf, conSet, setD, p_IC c3, p_IC c4, p_IC (c1 _), p_IC (C := fun _ j => 0 < j) c2, p_IC (C := fun _ j => 0 < j) c6, z, y, w, e1, ixN]
      · refine ⟨ns[k] % m, k + 1, (a * 48271 + ns[k] + 11) % 2147483647, b, by omega, (m1 _).1, (m1 _).2, ?_⟩
        simp [run__law_taken, callBody, b20, slotsOf, conArg, truth, valof, esc, callArgs, callBack, escAll, asg, asgAll, evst, Tg.bind, getAll, Option.bind, outOf, conOf, conSet, setD, p_IC c3, p_IC c4, p_IC (c1 _), p_IC (C := fun _ j => 0 < j) c2, p_IC (C := fun _ j => 0 < j) c6, z, y, w, e1, ixN]

def LV : Nat := 20
theorem pne_i {i j : Int} : pNe (.int i) (.int j) = some (false, .bool (!decide (i = j))) := by
  simp [pNe, okEq, PyData.plain, PyData.depth, PyData.eqv]
  by_cases h : i = j <;> simp [h]
theorem peq_i {i j : Int} : pEq (.int i) (.int j) = some (false, .bool (decide (i = j))) := by
  simp [pEq, okEq, PyData.plain, PyData.depth, PyData.eqv]
  by_cases h : i = j <;> simp [h]
theorem partA {t s : Int} (ht : 100000000000000000000000000000000000000000000000000 ≤ t ∧ t ≤ 100000000000000000000000000000000000000000001000000) (hs : 1 ≤ s ∧ s ≤ 20) : ∃ l m W V : Int, run 19 14 [ru t s 0, sp 0 1000000000000000000000000000000000000000000000000000000000000, .int 5] = some (sp l m, .none) ∧ run 19 11 [.tuple [ru t s 0, ru t s 0], two 0 1000000000000000000000000000000000000000000000000000000000000] = some (two l m, .none) ∧
    run 19 12 [.tuple [ru t s 0, ru t s 0], two 0 1000000000000000000000000000000000000000000000000000000000000] = some (.int 1, .none) ∧ MulOk 2 s ∧ MulOk (2 * s) l ∧ MulOk (2 * s) m ∧ 2 * s * l - s ≤ t ∧ t ≤ 2 * s * m + s ∧ ¬ 1 < m - l ∧
    run 19 5 [ru t s 0, .int l, .int 0] = some (.int W, .none) ∧ run 19 5 [ru t s 0, .int m, .int 0] = some (.int W, .none) ∧ run 19 5 [ru t s 0, .int (l + 7), .int 0] = some (.int V, .none) ∧ ¬ W < V := by
  have R0 : RuOk t s 0 := ⟨by omega, by omega, by omega, by omega, by omega, by omega⟩
  obtain ⟨l, m, hl, hm, f1, f2, f3, f4, f5, f6, f7⟩ := flat_main ht hs
  have w0 := flat_wk hl hm f5 f6 f7
  have wA : run 19 14 [ru t s 0, sp 0 1000000000000000000000000000000000000000000000000000000000000, .int 5] = some (sp l m, .none) := by
    have h := r_answer 14 t s 0 0 1000000000000000000000000000000000000000000000000000000000000 5 R0 ⟨by omega, by omega, by omega⟩ (by omega)
    have e1 : -((-(t - s + 0 * 5)) / (2 * s)) = l := by rw [hl]; simp
    have e2 : (t + s + 0 * 5) / (2 * s) = m := by rw [hm]; simp
    rw [e1, e2] at h
    have e3 : lo' 0 1000000000000000000000000000000000000000000000000000000000000 l = l := by unfold lo' mx mn; (repeat' split) <;> omega
    have e4 : hi' 0 1000000000000000000000000000000000000000000000000000000000000 m = m := by unfold hi' mx mn; (repeat' split) <;> omega
    rw [e3, e4] at h
    exact h
  have wl : run 19 11 [.tuple [ru t s 0, ru t s 0], two 0 1000000000000000000000000000000000000000000000000000000000000] = some (two l m, .none) := r_last 14 R0 w0 (by decide)
  have wr : run 19 12 [.tuple [ru t s 0, ru t s 0], two 0 1000000000000000000000000000000000000000000000000000000000000] = some (.int 1, .none) := r_rounds 14 R0 w0 (by decide)
  have c1 : MulOk 2 s := mulOk (by omega) (by omega)
  have c2 : MulOk (2 * s) l := mulOk (by omega) (by omega)
  have c3 : MulOk (2 * s) m := mulOk (by omega) (by omega)
  have g1 : 2 * s * l - s ≤ t := by rw [Int.mul_assoc]; omega
  have g2 : t ≤ 2 * s * m + s := by rw [Int.mul_assoc]; omega
  have g3 : ¬ 1 < m - l := by omega
  have v1 : run 19 5 [ru t s 0, .int l, .int 0] = some (.int (l * (t - s * l + 0 * 0)), .none) := r_worth 15 t s 0 l 0 R0 (by omega) (by omega)
  have v2 : run 19 5 [ru t s 0, .int m, .int 0] = some (.int (l * (t - s * l + 0 * 0)), .none) := by
    rw [flat_eq f2 f4 f3 f1 f5]
    exact r_worth 15 t s 0 m 0 R0 (by omega) (by omega)
  have v3 : run 19 5 [ru t s 0, .int (l + 7), .int 0] = some (.int ((l + 7) * (t - s * (l + 7) + 0 * 0)), .none) := r_worth 15 t s 0 (l + 7) 0 R0 (by omega) (by omega)
  have v4 := flat_ge f1 (by omega : 0 < s)
  generalize l * (t - s * l + 0 * 0) = W at v1 v2 v4
  generalize (l + 7) * (t - s * (l + 7) + 0 * 0) = V at v3 v4
  have v4 : ¬ W < V := by omega
  exact ⟨l, m, W, V, wA, wl, wr, c1, c2, c3, g1, g2, g3, v1, v2, v3, v4⟩
theorem partB {t : Int} (ht : 100000000000000000000000000000000000000000000000000 ≤ t ∧ t ≤ 100000000000000000000000000000000000000000001000000) : ∃ (a b : Int) (T : Nat), run 19 11 [.tuple [ru t 1 (-1), ru t 1 (-1)], two 0 1000000000000000000000000000000000000000000000000000000000000] = some (two a b, .none) ∧ run 19 12 [.tuple [ru t 1 (-1), ru t 1 (-1)], two 0 1000000000000000000000000000000000000000000000000000000000000] = some (.int T, .none) ∧
    run 19 8 [.tuple [ru t 1 (-1), ru t 1 (-1)], two a b] = some (two a b, .none) ∧ ¬ 3 < b - a ∧ 3 * a - 6 ≤ t ∧ t ≤ 3 * b + 6 ∧ ¬ (T : Int) < 100 ∧ MulOk 3 a ∧ MulOk 3 b ∧
    run 19 13 [.tuple [ru t 1 (-1), ru t 1 (-1)], two 0 1000000000000000000000000000000000000000000000000000000000000, .int 1000000000000000000000000000000000000000000000000000000000000] = some (.bool true, .none) ∧ run 19 13 [.tuple [ru t 1 (-1), ru t 1 (-1)], two a b, .int a] = some (.bool false, .none) := by
  have Rd : RuOk t 1 (-1) := ⟨by omega, by omega, by omega, by omega, by omega, by omega⟩
  obtain ⟨a, b, T, wd, hT, hT1, q1, q2, q3⟩ := dn_main ht
  have wd1 : run 19 11 [.tuple [ru t 1 (-1), ru t 1 (-1)], two 0 1000000000000000000000000000000000000000000000000000000000000] = some (two a b, .none) := r_last 14 Rd wd hT
  have wd2 : run 19 12 [.tuple [ru t 1 (-1), ru t 1 (-1)], two 0 1000000000000000000000000000000000000000000000000000000000000] = some (.int T, .none) := r_rounds 14 Rd wd hT
  obtain ⟨gd, gd1, gd2⟩ := wd.last
  have wd3 : run 19 8 [.tuple [ru t 1 (-1), ru t 1 (-1)], two a b] = some (two a b, .none) := by
    have h := r_next 14 t 1 (-1) t 1 (-1) a b a b Rd Rd gd gd
    have e : cutD t 1 (-1) a b a b = sp a b := by
      show sp (sL t 1 (-1) a b) (sH t 1 (-1) a b) = _
      rw [gd1, gd2]
    rw [e] at h
    exact h
  have q4 : ¬ 3 < b - a := by omega
  have q5 : ¬ (T : Int) < 100 := by omega
  have fl1 : run 19 13 [.tuple [ru t 1 (-1), ru t 1 (-1)], two 0 1000000000000000000000000000000000000000000000000000000000000, .int 1000000000000000000000000000000000000000000000000000000000000] = some (.bool true, .none) := by
    have h := r_falls 14 t 1 (-1) t 1 (-1) 0 1000000000000000000000000000000000000000000000000000000000000 0 1000000000000000000000000000000000000000000000000000000000000 1000000000000000000000000000000000000000000000000000000000000 Rd Rd ⟨by omega, by omega, by omega⟩ ⟨by omega, by omega, by omega⟩ (by omega)
    have e : ¬ 1000000000000000000000000000000000000000000000000000000000000 ≤ hi' 0 1000000000000000000000000000000000000000000000000000000000000 (most t 1 (-1) 0 1000000000000000000000000000000000000000000000000000000000000) := by
      have := sH_dn (t := t) (a := 0) (b := 1000000000000000000000000000000000000000000000000000000000000) (by omega)
      unfold sH at this
      rw [this]
      unfold hi' mx mn; (repeat' split) <;> omega
    rw [decide_eq_false e, Bool.and_false] at h
    exact h
  have fl2 : run 19 13 [.tuple [ru t 1 (-1), ru t 1 (-1)], two a b, .int a] = some (.bool false, .none) := by
    have h := r_falls 14 t 1 (-1) t 1 (-1) a b a b a Rd Rd gd gd ⟨by omega, gd.h1⟩
    have e1 : lo' a b (least t 1 (-1) a b) = a := gd1
    have e2 : hi' a b (most t 1 (-1) a b) = b := gd2
    have := gd.h1
    rw [e1, e2, decide_eq_true (by omega : a ≤ a), decide_eq_true this] at h
    exact h
  exact ⟨a, b, T, wd1, wd2, wd3, q4, q2, q3, q5, .inl (.inl (by omega)), .inl (.inl (by omega)), fl1, fl2⟩
theorem partC {t : Int} (ht : 100000000000000000000000000000000000000000000000000 ≤ t ∧ t ≤ 100000000000000000000000000000000000000000001000000) : ∃ c d : Int, run 19 11 [.tuple [ru t 1 1, ru t 1 1], two 0 1000000000000000000000000000000000000000000000000000000000000] = some (two c d, .none) ∧ ¬ 3 < d - c ∧ c - 3 ≤ t ∧ t ≤ d + 3 ∧
    run 19 13 [.tuple [ru t 1 1, ru t 1 1], two 0 1000000000000000000000000000000000000000000000000000000000000, .int 0] = some (.bool true, .none) ∧ run 19 14 [ru (0 - t) 1 1, sp 3 t, .int 9] = some (sp 3 3, .none) ∧ run 19 14 [ru t 1 1, sp 3 8, .int 9] = some (sp 8 8, .none) := by
  have Ru : RuOk t 1 1 := ⟨by omega, by omega, by omega, by omega, by omega, by omega⟩
  obtain ⟨c, d, T2, wu, hT2, u1, u2, u3⟩ := up_main ht
  have wu1 : run 19 11 [.tuple [ru t 1 1, ru t 1 1], two 0 1000000000000000000000000000000000000000000000000000000000000] = some (two c d, .none) := r_last 14 Ru wu hT2
  have u4 : ¬ 3 < d - c := by omega
  have fl3 : run 19 13 [.tuple [ru t 1 1, ru t 1 1], two 0 1000000000000000000000000000000000000000000000000000000000000, .int 0] = some (.bool true, .none) := by
    have h := r_falls 14 t 1 1 t 1 1 0 1000000000000000000000000000000000000000000000000000000000000 0 1000000000000000000000000000000000000000000000000000000000000 0 Ru Ru ⟨by omega, by omega, by omega⟩ ⟨by omega, by omega, by omega⟩ (by omega)
    have e : ¬ lo' 0 1000000000000000000000000000000000000000000000000000000000000 (least t 1 1 0 1000000000000000000000000000000000000000000000000000000000000) ≤ 0 := by
      have := sL_up (t := t) (a := 0) (b := 1000000000000000000000000000000000000000000000000000000000000) (by omega)
      unfold sL at this
      rw [this]
      unfold lo' mx mn; (repeat' split) <;> omega
    rw [decide_eq_false e, Bool.false_and] at h
    exact h
  have an1 : run 19 14 [ru (0 - t) 1 1, sp 3 t, .int 9] = some (sp 3 3, .none) := by
    have h := r_answer 14 (0 - t) 1 1 3 t 9 ⟨by omega, by omega, by omega, by omega, by omega, by omega⟩ ⟨by omega, by omega, by omega⟩ (by omega)
    have e3 : lo' 3 t (-((-(0 - t - 1 + 1 * 9)) / (2 * 1))) = 3 := by unfold lo' mx mn; (repeat' split) <;> omega
    have e4 : hi' 3 t ((0 - t + 1 + 1 * 9) / (2 * 1)) = 3 := by unfold hi' mx mn; (repeat' split) <;> omega
    rw [e3, e4] at h
    exact h
  have an2 : run 19 14 [ru t 1 1, sp 3 8, .int 9] = some (sp 8 8, .none) := by
    have h := r_answer 14 t 1 1 3 8 9 Ru ⟨by omega, by omega, by omega⟩ (by omega)
    have e3 : lo' 3 8 (-((-(t - 1 + 1 * 9)) / (2 * 1))) = 8 := by unfold lo' mx mn; (repeat' split) <;> omega
    have e4 : hi' 3 8 ((t + 1 + 1 * 9) / (2 * 1)) = 8 := by unfold hi' mx mn; (repeat' split) <;> omega
    rw [e3, e4] at h
    exact h
  exact ⟨c, d, wu1, u4, u2, u3, fl3, an1, an2⟩
theorem not_more {p q e : Int} (gf : 2 * ((q - p) * e) ≤ q) : ¬ q < e * 2 * (q - p) := by
  have : e * 2 * (q - p) = 2 * ((q - p) * e) := by grind
  omega
theorem fix_zero {p q e : Int} (G : Pq p q) (h0 : 0 ≤ e) (gf : 2 * ((q - p) * e) ≤ q) (z : 2 * p < q) : e = 0 := by
  obtain ⟨G1, G2, G3⟩ := G
  apply Classical.byContradiction
  intro y
  have : (q - p) * 1 ≤ (q - p) * e := Int.mul_le_mul_of_nonneg_left (by omega) (by omega)
  omega
theorem fix_one {p q e x : Int} {T : Nat} (G : Pq p q) (g : Gs p q x e T) (hx : 1 ≤ x) (gf : 2 * ((q - p) * e) ≤ q) (z : 2 * p = q) : e = 1 := by
  have a1 : (1 : Int) ≤ gc p q 1 := by
    unfold gc
    have := G.p0
    rw [show 2 * p * 1 + q = 2 * q by omega, Int.ediv_self (by omega)]
    decide
  have a2 := g.ge G a1 hx
  obtain ⟨G1, G2, G3⟩ := G
  have a3 : q - p = p := by omega
  rw [a3] at gf
  have a4 : ¬ 2 ≤ e := by
    intro y
    have := Int.mul_le_mul_of_nonneg_left y (by omega : 0 ≤ p)
    omega
  omega
theorem partD {t p q x5 : Int} (ht : 100000000000000000000000000000000000000000000000000 ≤ t ∧ t ≤ 100000000000000000000000000000000000000000001000000) (G : Pq p q) (hx5 : 0 ≤ x5) (hy5 : x5 < 1000000) : ∃ (e e2 L y1 z1 : Int) (T4 : Nat), L = e + 1 + x5 ∧ run 19 17 [sp p q, .int t] = some (.int e, .none) ∧ run 19 18 [sp p q, .int t] = some (.int (T4 + 1 : Nat), .none) ∧
    run 19 17 [sp p q, .int e] = some (.int e, .none) ∧ run 19 18 [sp p q, .int e] = some (.int 0, .none) ∧ run 19 17 [sp p q, .int (t + 1)] = some (.int e2, .none) ∧ e ≤ e2 ∧ run 19 19 [sp p q, .int t, .int t] = some (.int 1, .none) ∧
    run 19 19 [sp p q, .int t, .int e] = some (.none, .none) ∧ run 19 19 [sp p q, .int t, .int (e + 1)] = some (.int (T4 + 1 : Nat), .none) ∧ run 19 19 [sp p q, .int t, .int L] = some (.int y1, .none) ∧ run 19 19 [sp p q, .int t, .int (L + 1)] = some (.int z1, .none) ∧
    1 ≤ z1 ∧ z1 ≤ y1 ∧ y1 ≤ (T4 + 1 : Nat) ∧ MulOk 2 p ∧ MulOk e 2 ∧ MulOk (e * 2) (q - p) ∧ ¬ q < e * 2 * (q - p) ∧ (2 * p < q → e = 0) ∧ (2 * p = q → e = 1) := by
  obtain ⟨G1, G2, G3⟩ := id G
  have tB : 0 ≤ t ∧ t ≤ 1000000000000000000000000000000000000000000000000000000000000 := by omega
  have tB1 : 0 ≤ t + 1 ∧ t + 1 ≤ 1000000000000000000000000000000000000000000000000000000000000 := by omega
  obtain ⟨e, T3, g, hT3⟩ := gs_ex G (10 ^ 60) t tB (by omega)
  have hT3 : T3 < MM := Nat.lt_of_le_of_lt hT3 (by decide +kernel)
  obtain ⟨ge1, ge2, ge3, ge4⟩ := g.le
  have gf := gc_fix G ge4
  have gs := fix_small G ge2 gf
  have gt1 : gc p q t < t := by
    apply Classical.byContradiction
    intro z
    have := fix_small G (by omega) (gc_fix G (by omega : t ≤ gc p q t))
    omega
  obtain ⟨T4, hT4, g'⟩ := g.T1 gt1
  subst hT4
  obtain ⟨e2, T5, g2, hT5⟩ := gs_ex G (10 ^ 60) (t + 1) tB1 (by omega)
  have hT5 : T5 < MM := Nat.lt_of_le_of_lt hT5 (by decide +kernel)
  have ee : e ≤ e2 := g2.ge G ge4 (by omega)
  have k1 : run 19 17 [sp p q, .int t] = some (.int e, .none) := r_guess_last 15 G g hT3 tB
  have k2 : run 19 18 [sp p q, .int t] = some (.int (T4 + 1 : Nat), .none) := r_guess_rounds 15 G g hT3 tB
  have ge : Gs p q e e 0 := .stop ⟨ge2, ge3⟩ (by omega)
  have k3 : run 19 17 [sp p q, .int e] = some (.int e, .none) := r_guess_last 15 G ge (by decide) ⟨ge2, ge3⟩
  have k4 : run 19 18 [sp p q, .int e] = some (.int 0, .none) := r_guess_rounds 15 G ge (by decide) ⟨ge2, ge3⟩
  have k5 : run 19 17 [sp p q, .int (t + 1)] = some (.int e2, .none) := r_guess_last 15 G g2 hT5 tB1
  have k6 : run 19 19 [sp p q, .int t, .int t] = some (.int 1, .none) := by
    have h := r_guess_of 15 G g hT3 tB (line := t) (by omega)
    rw [ro, if_pos gt1] at h
    exact h
  have k7 : run 19 19 [sp p q, .int t, .int e] = some (.none, .none) := by
    have h := r_guess_of 15 G g hT3 tB (line := e) (by omega)
    rw [ro_none g _ (by omega)] at h
    exact h
  have k8 : run 19 19 [sp p q, .int t, .int (e + 1)] = some (.int (T4 + 1 : Nat), .none) := by
    have h := r_guess_of 15 G g hT3 tB (line := e + 1) (by omega)
    rw [ro_end g, show (0 : Int) + ((T4 : Int) + 1) = ((T4 + 1 : Nat) : Int) by omega] at h
    exact h
  obtain ⟨L, hL⟩ : ∃ L, L = e + 1 + x5 := ⟨_, rfl⟩
  obtain ⟨y1, y2, y3, y4⟩ := ro_some (line := L) g 0 (by omega)
  obtain ⟨z1, z2, z3, z4⟩ := ro_some (line := L + 1) g 0 (by omega)
  have yz : z1 ≤ y1 := ro_anti (by omega) _ _ _ _ _ y2 z2
  have k9 : run 19 19 [sp p q, .int t, .int L] = some (.int y1, .none) := by
    have h := r_guess_of 15 G g hT3 tB (line := L) (by omega)
    rw [y2] at h
    exact h
  have k10 : run 19 19 [sp p q, .int t, .int (L + 1)] = some (.int z1, .none) := by
    have h := r_guess_of 15 G g hT3 tB (line := L + 1) (by omega)
    rw [z2] at h
    exact h
  have c4 : MulOk 2 p := mulOk (by omega) (by omega)
  have c5 : MulOk e 2 := mulOk (by omega) (by omega)
  have c6 : MulOk (e * 2) (q - p) := mulOk (by omega) (by omega)
  have n1 := not_more gf
  have n2 := fix_zero G ge2 gf
  have n3 := fix_one G g (by omega) gf
  exact ⟨e, e2, L, y1, z1, T4, hL, k1, k2, k3, k4, k5, ee, k6, k7, k8, k9, k10, by omega, yz, by omega, c4, c5, c6, n1, n2, n3⟩
end L2.Z.K56

namespace L2.Z.K56
open PySem L2.Z
set_option maxHeartbeats 8000000 in
theorem law_body (ns : List Int) : ∃ ρ, evSs (run 19) bf MM b21 [.dat (.list (ns.map .int)), .un, .un, .un, .un, .un, .un, .un, .un, .un, .un, .un, .un, .un, .un, .un] = some (.rt (.bool true) ρ) := by
  obtain ⟨x1, i1, a1, b1, hi1, hx1, hy1, d1⟩ := r_taken 18 ns 0 5256 0 1000000 (by decide) (by decide)
  obtain ⟨x2, i2, a2, b2, hi2, hx2, hy2, d2⟩ := r_taken 18 ns i1 a1 b1 20 hi1 (by decide)
  have d1 : run 19 20 [rowD ns 0 5256 0, .int 1000000] = some (.int x1, rowD ns i1 a1 b1) := d1
  have d2 : run 19 20 [rowD ns i1 a1 b1, .int 20] = some (.int x2, rowD ns i2 a2 b2) := d2
  obtain ⟨t, ht0⟩ : ∃ t, t = 100000000000000000000000000000000000000000000000000 + x1 := ⟨_, rfl⟩
  obtain ⟨s, hs0⟩ : ∃ s, s = 1 + x2 := ⟨_, rfl⟩
  have ht : 100000000000000000000000000000000000000000000000000 ≤ t ∧ t ≤ 100000000000000000000000000000000000000000001000000 := by omega
  have hs : 1 ≤ s ∧ s ≤ 20 := by omega
  have P50 : CPow 10 50 := ⟨by omega, by omega, by decide⟩
  have P60 : CPow 10 60 := ⟨by omega, by omega, by decide⟩
  have P6 : CPow 10 6 := ⟨by omega, by omega, by decide⟩
  obtain ⟨l, m, W, V, wA, wl, wr, c1, c2, c3, g1, g2, g3, v1, v2, v3, v4⟩ := partA ht hs
  obtain ⟨a, b, T, wd1, wd2, wd3, q4, q2, q3, q5, ma, mb, fl1, fl2⟩ := partB ht
  obtain ⟨c, d, wu1, u4, u2, u3, fl3, an1, an2⟩ := partC ht
  obtain ⟨x3, i3, a3, b3, hi3, hx3, hy3, d3⟩ := r_taken 18 ns i2 a2 b2 19 hi2 (by decide)
  have d3 : run 19 20 [rowD ns i2 a2 b2, .int 19] = some (.int x3, rowD ns i3 a3 b3) := d3
  obtain ⟨q, hq0⟩ : ∃ q, q = 2 + x3 := ⟨_, rfl⟩
  obtain ⟨x4, i4, a4, b4, hi4, hx4, hy4, d4⟩ := r_taken 18 ns i3 a3 b3 (q - 1) hi3 (by omega)
  have d4 : run 19 20 [rowD ns i3 a3 b3, .int (q - 1)] = some (.int x4, rowD ns i4 a4 b4) := d4
  obtain ⟨x5, i5, a5, b5, hi5, hx5, hy5, d5⟩ := r_taken 18 ns i4 a4 b4 1000000 hi4 (by decide)
  have d5 : run 19 20 [rowD ns i4 a4 b4, .int 1000000] = some (.int x5, rowD ns i5 a5 b5) := d5
  obtain ⟨p, hp0⟩ : ∃ p, p = 1 + x4 := ⟨_, rfl⟩
  have G : Pq p q := by clear d1 d2 d3 d4 d5 wA wl wr v1 v2 v3 wd1 wd2 wd3 fl1 fl2 wu1 fl3 an1 an2; exact ⟨by omega, by omega, by omega⟩
  obtain ⟨e, e2, L, y1, z1, T4, hL, k1, k2, k3, k4, k5, ee, k6, k7, k8, k9, k10, w1, yz, w2, c4, c5, c6, n1, n2, n3⟩ := partD ht G hx5 hy5
  have an0 : run 19 14 [ru (-t) 1 1, sp 3 t, .int 9] = some (sp 3 3, .none) := by rw [← Int.zero_sub]; exact an1
  unfold b21
  refine z_stepE [.dat (.list (ns.map .int)), .own (rowD ns 0 5256 0), .un, .un, .un, .un, .un, .un, .un, .un, .un, .un, .un, .un, .un, .un] (by simp [slotsOf, conArg, truth, valof, esc, callArgs, callBack, escAll, asg, asgAll, evst, Tg.bind, getAll, Option.bind, bf, Res.ix, conOf, conSet, p_IC P50, p_IC P60, p_IC P6]) ?_
  refine z_stepE [.dat (.list (ns.map .int)), .own (rowD ns i2 a2 b2), .dat (.int t), .dat (.int s), .un, .un, .un, .un, .un, .un, .un, .un, .un, .un, .un, .un] (by simp [slotsOf, conArg, truth, valof, esc, callArgs, callBack, escAll, asg, asgAll, evst, Tg.bind, getAll, Option.bind, bf, Res.ix, conOf, conSet, p_IC P50, p_IC P60, p_IC P6, d1, d2, ht0, hs0]) ?_
  refine z_stepE [.dat (.list (ns.map .int)), .own (rowD ns i2 a2 b2), .dat (.int t), .dat (.int s), .dat (ru t s 0), .dat (two 0 1000000000000000000000000000000000000000000000000000000000000), .un, .un, .un, .un, .un, .un, .un, .un, .un, .un] (by simp [slotsOf, conArg, truth, valof, esc, callArgs, callBack, escAll, asg, asgAll, evst, Tg.bind, getAll, Option.bind, bf, Res.ix, conOf, conSet, p_IC P50, p_IC P60, p_IC P6]) ?_
  refine z_stepE [.dat (.list (ns.map .int)), .own (rowD ns i2 a2 b2), .dat (.int t), .dat (.int s), .dat (ru t s 0), .dat (two 0 1000000000000000000000000000000000000000000000000000000000000), .dat (sp l m), .un, .un, .un, .un, .un, .un, .un, .un, .un] (by simp [slotsOf, conArg, truth, valof, esc, callArgs, callBack, escAll, asg, asgAll, evst, Tg.bind, getAll, Option.bind, bf, Res.ix, conOf, conSet, p_IC P50, p_IC P60, p_IC P6, wA]) ?_
  refine z_stepE [.dat (.list (ns.map .int)), .own (rowD ns i2 a2 b2), .dat (.int t), .dat (.int s), .dat (ru t s 0), .dat (two 0 1000000000000000000000000000000000000000000000000000000000000), .dat (sp l m), .un, .un, .un, .un, .un, .un, .un, .un, .un] (by simp [slotsOf, conArg, truth, valof, esc, callArgs, callBack, escAll, asg, asgAll, evst, Tg.bind, getAll, Option.bind, bf, Res.ix, conOf, conSet, p_IC P50, p_IC P60, p_IC P6, wl, wr, ne_two, pne_i]) ?_
  refine z_stepE [.dat (.list (ns.map .int)), .own (rowD ns i2 a2 b2), .dat (.int t), .dat (.int s), .dat (ru t s 0), .dat (two 0 1000000000000000000000000000000000000000000000000000000000000), .dat (sp l m), .un, .un, .un, .un, .un, .un, .un, .un, .un] (by simp [slotsOf, conArg, truth, valof, esc, callArgs, callBack, escAll, asg, asgAll, evst, Tg.bind, getAll, Option.bind, bf, Res.ix, conOf, conSet, p_IC P50, p_IC P60, p_IC P6, p_IC c1, p_IC c2, p_IC c3, g1, g2, g3]) ?_
  refine z_stepE [.dat (.list (ns.map .int)), .own (rowD ns i2 a2 b2), .dat (.int t), .dat (.int s), .dat (ru t s 0), .dat (two 0 1000000000000000000000000000000000000000000000000000000000000), .dat (sp l m), .un, .un, .un, .un, .un, .un, .un, .un, .un] (by simp [slotsOf, conArg, truth, valof, esc, callArgs, callBack, escAll, asg, asgAll, evst, Tg.bind, getAll, Option.bind, bf, Res.ix, conOf, conSet, p_IC P50, p_IC P60, p_IC P6, v1, v2, pne_i]) ?_
  refine z_stepE [.dat (.list (ns.map .int)), .own (rowD ns i2 a2 b2), .dat (.int t), .dat (.int s), .dat (ru t s 0), .dat (two 0 1000000000000000000000000000000000000000000000000000000000000), .dat (sp l m), .un, .un, .un, .un, .un, .un, .un, .un, .un] (by simp [slotsOf, conArg, truth, valof, esc, callArgs, callBack, escAll, asg, asgAll, evst, Tg.bind, getAll, Option.bind, bf, Res.ix, conOf, conSet, p_IC P50, p_IC P60, p_IC P6, v1, v3, v4]) ?_
  refine z_stepE [.dat (.list (ns.map .int)), .own (rowD ns i2 a2 b2), .dat (.int t), .dat (.int s), .dat (ru t s 0), .dat (two 0 1000000000000000000000000000000000000000000000000000000000000), .dat (sp l m), .dat (.tuple [ru t 1 (-1), ru t 1 (-1)]), .un, .un, .un, .un, .un, .un, .un, .un] (by simp [slotsOf, conArg, truth, valof, esc, callArgs, callBack, escAll, asg, asgAll, evst, Tg.bind, getAll, Option.bind, bf, Res.ix, conOf, conSet, p_IC P50, p_IC P60, p_IC P6]) ?_
  refine z_stepE [.dat (.list (ns.map .int)), .own (rowD ns i2 a2 b2), .dat (.int t), .dat (.int s), .dat (ru t s 0), .dat (two 0 1000000000000000000000000000000000000000000000000000000000000), .dat (sp l m), .dat (.tuple [ru t 1 (-1), ru t 1 (-1)]), .dat (two a b), .un, .un, .un, .un, .un, .un, .un] (by simp [slotsOf, conArg, truth, valof, esc, callArgs, callBack, escAll, asg, asgAll, evst, Tg.bind, getAll, Option.bind, bf, Res.ix, conOf, conSet, p_IC P50, p_IC P60, p_IC P6, wd1]) ?_
  refine z_stepE [.dat (.list (ns.map .int)), .own (rowD ns i2 a2 b2), .dat (.int t), .dat (.int s), .dat (ru t s 0), .dat (two 0 1000000000000000000000000000000000000000000000000000000000000), .dat (sp l m), .dat (.tuple [ru t 1 (-1), ru t 1 (-1)]), .dat (two a b), .dat (.int a), .dat (.int b), .un, .un, .un, .un, .un] (by simp [slotsOf, conArg, truth, valof, esc, callArgs, callBack, escAll, asg, asgAll, evst, Tg.bind, getAll, Option.bind, bf, Res.ix, conOf, conSet, p_IC P50, p_IC P60, p_IC P6, z_frr, z_lc, gSeq, frLoop, lcLoop, wipeE, backE, lockAll, unlockAll, lockR, unlockR, Out.mapM, pAll, boolsOf, q2, q3, q4, p_IC ma, p_IC mb]) ?_
  refine z_stepE [.dat (.list (ns.map .int)), .own (rowD ns i2 a2 b2), .dat (.int t), .dat (.int s), .dat (ru t s 0), .dat (two 0 1000000000000000000000000000000000000000000000000000000000000), .dat (sp l m), .dat (.tuple [ru t 1 (-1), ru t 1 (-1)]), .dat (two a b), .dat (.int a), .dat (.int b), .un, .un, .un, .un, .un] (by simp [slotsOf, conArg, truth, valof, esc, callArgs, callBack, escAll, asg, asgAll, evst, Tg.bind, getAll, Option.bind, bf, Res.ix, conOf, conSet, p_IC P50, p_IC P60, p_IC P6, wd2, wd3, q5, ne_two]) ?_
  refine z_stepE [.dat (.list (ns.map .int)), .own (rowD ns i2 a2 b2), .dat (.int t), .dat (.int s), .dat (ru t s 0), .dat (two 0 1000000000000000000000000000000000000000000000000000000000000), .dat (sp l m), .dat (.tuple [ru t 1 (-1), ru t 1 (-1)]), .dat (two a b), .dat (.int a), .dat (.int b), .dat (.tuple [ru t 1 1, ru t 1 1]), .un, .un, .un, .un] (by simp [slotsOf, conArg, truth, valof, esc, callArgs, callBack, escAll, asg, asgAll, evst, Tg.bind, getAll, Option.bind, bf, Res.ix, conOf, conSet, p_IC P50, p_IC P60, p_IC P6]) ?_
  refine z_stepE [.dat (.list (ns.map .int)), .own (rowD ns i2 a2 b2), .dat (.int t), .dat (.int s), .dat (ru t s 0), .dat (two 0 1000000000000000000000000000000000000000000000000000000000000), .dat (sp l m), .dat (.tuple [ru t 1 (-1), ru t 1 (-1)]), .dat (two a b), .dat (.int c), .dat (.int d), .dat (.tuple [ru t 1 1, ru t 1 1]), .un, .un, .un, .un] (by simp [slotsOf, conArg, truth, valof, esc, callArgs, callBack, escAll, asg, asgAll, evst, Tg.bind, getAll, Option.bind, bf, Res.ix, conOf, conSet, p_IC P50, p_IC P60, p_IC P6, z_frr, z_lc, gSeq, frLoop, lcLoop, wipeE, backE, lockAll, unlockAll, lockR, unlockR, Out.mapM, pAll, boolsOf, wu1, u2, u3, u4]) ?_
  refine z_stepE [.dat (.list (ns.map .int)), .own (rowD ns i2 a2 b2), .dat (.int t), .dat (.int s), .dat (ru t s 0), .dat (two 0 1000000000000000000000000000000000000000000000000000000000000), .dat (sp l m), .dat (.tuple [ru t 1 (-1), ru t 1 (-1)]), .dat (two a b), .dat (.int c), .dat (.int d), .dat (.tuple [ru t 1 1, ru t 1 1]), .un, .un, .un, .un] (by simp [slotsOf, conArg, truth, valof, esc, callArgs, callBack, escAll, asg, asgAll, evst, Tg.bind, getAll, Option.bind, bf, Res.ix, conOf, conSet, p_IC P50, p_IC P60, p_IC P6, fl1, fl2, fl3]) ?_
  refine z_stepE [.dat (.list (ns.map .int)), .own (rowD ns i2 a2 b2), .dat (.int t), .dat (.int s), .dat (ru t s 0), .dat (two 0 1000000000000000000000000000000000000000000000000000000000000), .dat (sp l m), .dat (.tuple [ru t 1 (-1), ru t 1 (-1)]), .dat (two a b), .dat (.int c), .dat (.int d), .dat (.tuple [ru t 1 1, ru t 1 1]), .un, .un, .un, .un] (by simp [slotsOf, conArg, truth, valof, esc, callArgs, callBack, escAll, asg, asgAll, evst, Tg.bind, getAll, Option.bind, bf, Res.ix, conOf, conSet, p_IC P50, p_IC P60, p_IC P6, an0, an2, ne_sp]) ?_
  refine z_stepE [.dat (.list (ns.map .int)), .own (rowD ns i3 a3 b3), .dat (.int t), .dat (.int s), .dat (ru t s 0), .dat (two 0 1000000000000000000000000000000000000000000000000000000000000), .dat (sp l m), .dat (.tuple [ru t 1 (-1), ru t 1 (-1)]), .dat (two a b), .dat (.int q), .dat (.int d), .dat (.tuple [ru t 1 1, ru t 1 1]), .un, .un, .un, .un] (by simp [slotsOf, conArg, truth, valof, esc, callArgs, callBack, escAll, asg, asgAll, evst, Tg.bind, getAll, Option.bind, bf, Res.ix, conOf, conSet, p_IC P50, p_IC P60, p_IC P6, d3, hq0]) ?_
  refine z_stepE [.dat (.list (ns.map .int)), .own (rowD ns i4 a4 b4), .dat (.int t), .dat (.int s), .dat (ru t s 0), .dat (two 0 1000000000000000000000000000000000000000000000000000000000000), .dat (sp l m), .dat (.tuple [ru t 1 (-1), ru t 1 (-1)]), .dat (two a b), .dat (.int q), .dat (.int d), .dat (.tuple [ru t 1 1, ru t 1 1]), .dat (sp p q), .un, .un, .un] (by simp [slotsOf, conArg, truth, valof, esc, callArgs, callBack, escAll, asg, asgAll, evst, Tg.bind, getAll, Option.bind, bf, Res.ix, conOf, conSet, p_IC P50, p_IC P60, p_IC P6, d4, hp0]) ?_
  refine z_stepE [.dat (.list (ns.map .int)), .own (rowD ns i4 a4 b4), .dat (.int t), .dat (.int s), .dat (ru t s 0), .dat (two 0 1000000000000000000000000000000000000000000000000000000000000), .dat (sp l m), .dat (.tuple [ru t 1 (-1), ru t 1 (-1)]), .dat (two a b), .dat (.int q), .dat (.int d), .dat (.tuple [ru t 1 1, ru t 1 1]), .dat (sp p q), .dat (.int e), .dat (.int (T4 + 1 : Nat)), .un] (by simp [slotsOf, conArg, truth, valof, esc, callArgs, callBack, escAll, asg, asgAll, evst, Tg.bind, getAll, Option.bind, bf, Res.ix, conOf, conSet, p_IC P50, p_IC P60, p_IC P6, k1, k2]) ?_
  refine z_stepE [.dat (.list (ns.map .int)), .own (rowD ns i4 a4 b4), .dat (.int t), .dat (.int s), .dat (ru t s 0), .dat (two 0 1000000000000000000000000000000000000000000000000000000000000), .dat (sp l m), .dat (.tuple [ru t 1 (-1), ru t 1 (-1)]), .dat (two a b), .dat (.int q), .dat (.int d), .dat (.tuple [ru t 1 1, ru t 1 1]), .dat (sp p q), .dat (.int e), .dat (.int (T4 + 1 : Nat)), .un] (by simp [slotsOf, conArg, truth, valof, esc, callArgs, callBack, escAll, asg, asgAll, evst, Tg.bind, getAll, Option.bind, bf, Res.ix, conOf, conSet, p_IC P50, p_IC P60, p_IC P6, k3, k4, k5, pne_i, Int.not_lt.mpr ee]) ?_
  refine z_stepE [.dat (.list (ns.map .int)), .own (rowD ns i4 a4 b4), .dat (.int t), .dat (.int s), .dat (ru t s 0), .dat (two 0 1000000000000000000000000000000000000000000000000000000000000), .dat (sp l m), .dat (.tuple [ru t 1 (-1), ru t 1 (-1)]), .dat (two a b), .dat (.int q), .dat (.int d), .dat (.tuple [ru t 1 1, ru t 1 1]), .dat (sp p q), .dat (.int e), .dat (.int (T4 + 1 : Nat)), .un] (by
    by_cases h1 : 2 * p < q
    · have this := eq_true (n2 h1); have h2 : ¬ 2 * p = q := by omega
      simp [slotsOf, conArg, truth, valof, esc, callArgs, callBack, escAll, asg, asgAll, evst, Tg.bind, getAll, Option.bind, bf, Res.ix, conOf, conSet, p_IC P50, p_IC P60, p_IC P6, p_IC c4, p_IC c5, p_IC c6, pne_i, peq_i, n1, h1, h2, this]
    · by_cases h2 : 2 * p = q
      · have this := eq_true (n3 h2)
        simp [slotsOf, conArg, truth, valof, esc, callArgs, callBack, escAll, asg, asgAll, evst, Tg.bind, getAll, Option.bind, bf, Res.ix, conOf, conSet, p_IC P50, p_IC P60, p_IC P6, p_IC c4, p_IC c5, p_IC c6, pne_i, peq_i, n1, h1, h2, this]
      · simp [slotsOf, conArg, truth, valof, esc, callArgs, callBack, escAll, asg, asgAll, evst, Tg.bind, getAll, Option.bind, bf, Res.ix, conOf, conSet, p_IC P50, p_IC P60, p_IC P6, p_IC c4, p_IC c5, p_IC c6, pne_i, peq_i, n1, h1, h2]) ?_
  refine z_stepE [.dat (.list (ns.map .int)), .own (rowD ns i4 a4 b4), .dat (.int t), .dat (.int s), .dat (ru t s 0), .dat (two 0 1000000000000000000000000000000000000000000000000000000000000), .dat (sp l m), .dat (.tuple [ru t 1 (-1), ru t 1 (-1)]), .dat (two a b), .dat (.int q), .dat (.int d), .dat (.tuple [ru t 1 1, ru t 1 1]), .dat (sp p q), .dat (.int e), .dat (.int (T4 + 1 : Nat)), .un] (by simp [slotsOf, conArg, truth, valof, esc, callArgs, callBack, escAll, asg, asgAll, evst, Tg.bind, getAll, Option.bind, bf, Res.ix, conOf, conSet, p_IC P50, p_IC P60, p_IC P6, k6, k7, pne_i, pNotN, isNone]) ?_
  refine z_stepE [.dat (.list (ns.map .int)), .own (rowD ns i4 a4 b4), .dat (.int t), .dat (.int s), .dat (ru t s 0), .dat (two 0 1000000000000000000000000000000000000000000000000000000000000), .dat (sp l m), .dat (.tuple [ru t 1 (-1), ru t 1 (-1)]), .dat (two a b), .dat (.int q), .dat (.int d), .dat (.tuple [ru t 1 1, ru t 1 1]), .dat (sp p q), .dat (.int e), .dat (.int (T4 + 1 : Nat)), .un] (by simp [slotsOf, conArg, truth, valof, esc, callArgs, callBack, escAll, asg, asgAll, evst, Tg.bind, getAll, Option.bind, bf, Res.ix, conOf, conSet, p_IC P50, p_IC P60, p_IC P6, k8, pne_i]) ?_
  refine z_stepE [.dat (.list (ns.map .int)), .own (rowD ns i5 a5 b5), .dat (.int t), .dat (.int s), .dat (ru t s 0), .dat (two 0 1000000000000000000000000000000000000000000000000000000000000), .dat (sp l m), .dat (.tuple [ru t 1 (-1), ru t 1 (-1)]), .dat (two a b), .dat (.int q), .dat (.int d), .dat (.tuple [ru t 1 1, ru t 1 1]), .dat (sp p q), .dat (.int e), .dat (.int (T4 + 1 : Nat)), .dat (.int L)] (by simp [slotsOf, conArg, truth, valof, esc, callArgs, callBack, escAll, asg, asgAll, evst, Tg.bind, getAll, Option.bind, bf, Res.ix, conOf, conSet, p_IC P50, p_IC P60, p_IC P6, d5, hL]) ?_
  refine ⟨[.dat (.list (ns.map .int)), .own (rowD ns i5 a5 b5), .dat (.int t), .dat (.int s), .dat (ru t s 0), .dat (two 0 1000000000000000000000000000000000000000000000000000000000000), .dat (sp l m), .dat (.tuple [ru t 1 (-1), ru t 1 (-1)]), .dat (two a b), .dat (.int q), .dat (.int d), .dat (.tuple [ru t 1 1, ru t 1 1]), .dat (sp p q), .dat (.int e), .dat (.int (T4 + 1 : Nat)), .dat (.int L)], ?_⟩
  simp only [Int.natCast_add] at w2 ⊢
  simp [slotsOf, conArg, truth, valof, esc, callArgs, callBack, escAll, asg, asgAll, evst, Tg.bind, getAll, Option.bind, bf, Res.ix, conOf, conSet, p_IC P50, p_IC P60, p_IC P6, z_chain3, k9, k10, w1, yz]
  simpa using w2
theorem law_true : ∀ ns : List Int, ns.length ≤ 63 → run LV 21 [.list (ns.map .int)] = some (.bool true, .none) := by
  intro ns _
  obtain ⟨ρ, h⟩ := law_body ns
  show run (19 + 1) 21 [.list (ns.map .int)] = _
  rw [run_law]
  exact callBody_rt rfl h
end L2.Z.K56

namespace L2.Z.K56
open PySem PySem.Spec PyProof.Rows L2 L2.Z
def topS (i : Nat) : Stmt := PySem.Challenge.pw_struckboards_k56_across_great_spans.main.body.getD i (.Pass ⟨0, 0, 0, 0⟩)
abbrev s0 : Stmt := topS 6
abbrev N0 : List Str := ["value"]
abbrev P0 : List Str := ["value"]
theorem sc0 : FnScope N0 P0 (defScope s0) := ⟨rfl, rfl, rfl, by decide +kernel, rfl, by decide +kernel, by decide +kernel⟩
abbrev s1 : Stmt := topS 7
abbrev N1 : List Str := ["value", "least", "most"]
abbrev P1 : List Str := ["value", "least", "most"]
theorem sc1 : FnScope N1 P1 (defScope s1) := ⟨rfl, rfl, rfl, by decide +kernel, rfl, by decide +kernel, by decide +kernel⟩
abbrev s2 : Stmt := topS 8
abbrev N2 : List Str := ["value", "least", "most"]
abbrev P2 : List Str := ["value", "least", "most"]
theorem sc2 : FnScope N2 P2 (defScope s2) := ⟨rfl, rfl, rfl, by decide +kernel, rfl, by decide +kernel, by decide +kernel⟩
abbrev s3 : Stmt := topS 12
abbrev N3 : List Str := ["value"]
abbrev P3 : List Str := ["value"]
theorem sc3 : FnScope N3 P3 (defScope s3) := ⟨rfl, rfl, rfl, by decide +kernel, rfl, by decide +kernel, by decide +kernel⟩
abbrev s4 : Stmt := topS 13
abbrev N4 : List Str := ["value", "span", "one"]
abbrev P4 : List Str := ["value"]
theorem sc4 : FnScope N4 P4 (defScope s4) := ⟨rfl, rfl, rfl, by decide +kernel, rfl, by decide +kernel, by decide +kernel⟩
abbrev s5 : Stmt := topS 14
abbrev N5 : List Str := ["rule", "own", "other"]
abbrev P5 : List Str := ["rule", "own", "other"]
theorem sc5 : FnScope N5 P5 (defScope s5) := ⟨rfl, rfl, rfl, by decide +kernel, rfl, by decide +kernel, by decide +kernel⟩
abbrev s6 : Stmt := topS 15
abbrev N6 : List Str := ["rule", "own", "other", "top", "steep", "slope"]
abbrev P6 : List Str := ["rule", "own", "other"]
theorem sc6 : FnScope N6 P6 (defScope s6) := ⟨rfl, rfl, rfl, by decide +kernel, rfl, by decide +kernel, by decide +kernel⟩
abbrev s7 : Stmt := topS 16
abbrev N7 : List Str := ["rule", "own", "other", "top", "steep", "slope", "high", "low", "most", "least"]
abbrev P7 : List Str := ["rule", "own", "other"]
theorem sc7 : FnScope N7 P7 (defScope s7) := ⟨rfl, rfl, rfl, by decide +kernel, rfl, by decide +kernel, by decide +kernel⟩
abbrev s8 : Stmt := topS 17
abbrev N8 : List Str := ["rules", "spans"]
abbrev P8 : List Str := ["rules", "spans"]
theorem sc8 : FnScope N8 P8 (defScope s8) := ⟨rfl, rfl, rfl, by decide +kernel, rfl, by decide +kernel, by decide +kernel⟩
abbrev s9 : Stmt := topS 18
abbrev N9 : List Str := ["value", "rule"]
abbrev P9 : List Str := ["value"]
theorem sc9 : FnScope N9 P9 (defScope s9) := ⟨rfl, rfl, rfl, by decide +kernel, rfl, by decide +kernel, by decide +kernel⟩
abbrev s10 : Stmt := topS 19
abbrev N10 : List Str := ["rules", "spans", "now", "rounds", "later"]
abbrev P10 : List Str := ["rules", "spans"]
theorem sc10 : FnScope N10 P10 (defScope s10) := ⟨rfl, rfl, rfl, by decide +kernel, rfl, by decide +kernel, by decide +kernel⟩
abbrev s11 : Stmt := topS 20
abbrev N11 : List Str := ["rules", "spans"]
abbrev P11 : List Str := ["rules", "spans"]
theorem sc11 : FnScope N11 P11 (defScope s11) := ⟨rfl, rfl, rfl, by decide +kernel, rfl, by decide +kernel, by decide +kernel⟩
abbrev s12 : Stmt := topS 21
abbrev N12 : List Str := ["rules", "spans"]
abbrev P12 : List Str := ["rules", "spans"]
theorem sc12 : FnScope N12 P12 (defScope s12) := ⟨rfl, rfl, rfl, by decide +kernel, rfl, by decide +kernel, by decide +kernel⟩
abbrev s13 : Stmt := topS 22
abbrev N13 : List Str := ["rules", "spans", "own", "told"]
abbrev P13 : List Str := ["rules", "spans", "own"]
theorem sc13 : FnScope N13 P13 (defScope s13) := ⟨rfl, rfl, rfl, by decide +kernel, rfl, by decide +kernel, by decide +kernel⟩
abbrev s14 : Stmt := topS 23
abbrev N14 : List Str := ["rule", "span", "other", "top", "steep", "slope", "most", "least"]
abbrev P14 : List Str := ["rule", "span", "other"]
theorem sc14 : FnScope N14 P14 (defScope s14) := ⟨rfl, rfl, rfl, by decide +kernel, rfl, by decide +kernel, by decide +kernel⟩
abbrev s15 : Stmt := topS 24
abbrev N15 : List Str := ["value", "one"]
abbrev P15 : List Str := ["value"]
theorem sc15 : FnScope N15 P15 (defScope s15) := ⟨rfl, rfl, rfl, by decide +kernel, rfl, by decide +kernel, by decide +kernel⟩
abbrev s16 : Stmt := topS 25
abbrev N16 : List Str := ["part", "most"]
abbrev P16 : List Str := ["part", "most"]
theorem sc16 : FnScope N16 P16 (defScope s16) := ⟨rfl, rfl, rfl, by decide +kernel, rfl, by decide +kernel, by decide +kernel⟩
abbrev s17 : Stmt := topS 26
abbrev N17 : List Str := ["part", "most", "now"]
abbrev P17 : List Str := ["part", "most"]
theorem sc17 : FnScope N17 P17 (defScope s17) := ⟨rfl, rfl, rfl, by decide +kernel, rfl, by decide +kernel, by decide +kernel⟩
abbrev s18 : Stmt := topS 27
abbrev N18 : List Str := ["part", "most", "now", "rounds"]
abbrev P18 : List Str := ["part", "most"]
theorem sc18 : FnScope N18 P18 (defScope s18) := ⟨rfl, rfl, rfl, by decide +kernel, rfl, by decide +kernel, by decide +kernel⟩
abbrev s19 : Stmt := topS 28
abbrev N19 : List Str := ["part", "most", "line", "now", "rounds"]
abbrev P19 : List Str := ["part", "most", "line"]
theorem sc19 : FnScope N19 P19 (defScope s19) := ⟨rfl, rfl, rfl, by decide +kernel, rfl, by decide +kernel, by decide +kernel⟩
abbrev s20 : Stmt := topS 30
abbrev N20 : List Str := ["_law_row", "_law_many", "_law_found", "_law_cell"]
abbrev P20 : List Str := ["_law_row", "_law_many"]
theorem sc20 : FnScope N20 P20 (defScope s20) := ⟨rfl, rfl, rfl, by decide +kernel, rfl, by decide +kernel, by decide +kernel⟩
abbrev s21 : Stmt := topS 31
abbrev N21 : List Str := ["_law_script", "_law_row", "_law_far", "_law_steep", "_law_rule", "_law_wide", "_law_best", "_law_pair", "_law_last", "_law_low", "_law_top", "_law_up", "_law_part", "_law_end", "_law_rounds", "_law_line"]
abbrev P21 : List Str := ["_law_script"]
theorem sc21 : FnScope N21 P21 (defScope s21) := ⟨rfl, rfl, rfl, by decide +kernel, rfl, by decide +kernel, by decide +kernel⟩
structure Tops (K : PySem.W.Frag) (mg : Str → Option Value) where
  a0 : Addr
  d0 : FuncData
  F0 : Fun K "is_int" "is_int" s0 a0 d0
  B0 : Binds K d0 P0 []
  G0 : mg "is_int" = some (.ref a0)
  a1 : Addr
  d1 : FuncData
  F1 : Fun K "is_from" "is_from" s1 a1 d1
  B1 : Binds K d1 P1 []
  G1 : mg "is_from" = some (.ref a1)
  a2 : Addr
  d2 : FuncData
  F2 : Fun K "need_from" "need_from" s2 a2 d2
  B2 : Binds K d2 P2 []
  G2 : mg "need_from" = some (.ref a2)
  a3 : Addr
  d3 : FuncData
  F3 : Fun K "need_rule" "need_rule" s3 a3 d3
  B3 : Binds K d3 P3 []
  G3 : mg "need_rule" = some (.ref a3)
  a4 : Addr
  d4 : FuncData
  F4 : Fun K "need_spans" "need_spans" s4 a4 d4
  B4 : Binds K d4 P4 []
  G4 : mg "need_spans" = some (.ref a4)
  a5 : Addr
  d5 : FuncData
  F5 : Fun K "worth" "worth" s5 a5 d5
  B5 : Binds K d5 P5 []
  G5 : mg "worth" = some (.ref a5)
  a6 : Addr
  d6 : FuncData
  F6 : Fun K "worth_of" "worth_of" s6 a6 d6
  B6 : Binds K d6 P6 []
  G6 : mg "worth_of" = some (.ref a6)
  a7 : Addr
  d7 : FuncData
  F7 : Fun K "cut_span" "cut_span" s7 a7 d7
  B7 : Binds K d7 P7 []
  G7 : mg "cut_span" = some (.ref a7)
  a8 : Addr
  d8 : FuncData
  F8 : Fun K "next_spans" "next_spans" s8 a8 d8
  B8 : Binds K d8 P8 []
  G8 : mg "next_spans" = some (.ref a8)
  a9 : Addr
  d9 : FuncData
  F9 : Fun K "need_rules" "need_rules" s9 a9 d9
  B9 : Binds K d9 P9 []
  G9 : mg "need_rules" = some (.ref a9)
  a10 : Addr
  d10 : FuncData
  F10 : Fun K "walk" "walk" s10 a10 d10
  B10 : Binds K d10 P10 []
  G10 : mg "walk" = some (.ref a10)
  a11 : Addr
  d11 : FuncData
  F11 : Fun K "last_spans" "last_spans" s11 a11 d11
  B11 : Binds K d11 P11 []
  G11 : mg "last_spans" = some (.ref a11)
  a12 : Addr
  d12 : FuncData
  F12 : Fun K "span_rounds" "span_rounds" s12 a12 d12
  B12 : Binds K d12 P12 []
  G12 : mg "span_rounds" = some (.ref a12)
  a13 : Addr
  d13 : FuncData
  F13 : Fun K "falls" "falls" s13 a13 d13
  B13 : Binds K d13 P13 []
  G13 : mg "falls" = some (.ref a13)
  a14 : Addr
  d14 : FuncData
  F14 : Fun K "answer_span" "answer_span" s14 a14 d14
  B14 : Binds K d14 P14 []
  G14 : mg "answer_span" = some (.ref a14)
  a15 : Addr
  d15 : FuncData
  F15 : Fun K "need_guess" "need_guess" s15 a15 d15
  B15 : Binds K d15 P15 []
  G15 : mg "need_guess" = some (.ref a15)
  a16 : Addr
  d16 : FuncData
  F16 : Fun K "guess_cut" "guess_cut" s16 a16 d16
  B16 : Binds K d16 P16 []
  G16 : mg "guess_cut" = some (.ref a16)
  a17 : Addr
  d17 : FuncData
  F17 : Fun K "guess_last" "guess_last" s17 a17 d17
  B17 : Binds K d17 P17 []
  G17 : mg "guess_last" = some (.ref a17)
  a18 : Addr
  d18 : FuncData
  F18 : Fun K "guess_rounds" "guess_rounds" s18 a18 d18
  B18 : Binds K d18 P18 []
  G18 : mg "guess_rounds" = some (.ref a18)
  a19 : Addr
  d19 : FuncData
  F19 : Fun K "guess_round_of" "guess_round_of" s19 a19 d19
  B19 : Binds K d19 P19 []
  G19 : mg "guess_round_of" = some (.ref a19)
  a20 : Addr
  d20 : FuncData
  F20 : Fun K "_law_taken" "_law_taken" s20 a20 d20
  B20 : Binds K d20 P20 []
  G20 : mg "_law_taken" = some (.ref a20)
  a21 : Addr
  d21 : FuncData
  F21 : Fun K "law" "law" s21 a21 d21
  B21 : Binds K d21 P21 []
  G21 : mg "law" = some (.ref a21)
  z_all : mg "all" = none
  z_bool : mg "bool" = none
  z_int : mg "int" = none
  z_isinstance : mg "isinstance" = none
  z_len : mg "len" = none
  z_max : mg "max" = none
  z_min : mg "min" = none
  z_tuple : mg "tuple" = none
  t_MOST_SPAN : Tok
  c_MOST_SPAN : mg "MOST_SPAN" = some (.int 1000000000000000000000000000000000000000000000000000000000000 t_MOST_SPAN)
  t_MOST_STEEP : Tok
  c_MOST_STEEP : mg "MOST_STEEP" = some (.int 20 t_MOST_STEEP)
section
variable {P : Program} {w : World} {K : PySem.W.Frag} {mg : Str → Option Value} {base : Heap}
structure Lv (P : Program) (w : World) (K : PySem.W.Frag) (mg : Str → Option Value) (base : Heap) (T : Tops K mg) (n : Nat) : Prop where
  k0 : FnOk P w K mg base CX0 n T.a0 T.d0 P0 (spF K (bf 0) P0.length (run n 0))
  l0 : ∀ ds r, run n 0 ds = some r → ds.length = P0.length
  k1 : FnOk P w K mg base CX0 n T.a1 T.d1 P1 (spF K (bf 1) P1.length (run n 1))
  l1 : ∀ ds r, run n 1 ds = some r → ds.length = P1.length
  k2 : FnOk P w K mg base CX0 n T.a2 T.d2 P2 (spF K (bf 2) P2.length (run n 2))
  l2 : ∀ ds r, run n 2 ds = some r → ds.length = P2.length
  k3 : FnOk P w K mg base CX0 n T.a3 T.d3 P3 (spF K (bf 3) P3.length (run n 3))
  l3 : ∀ ds r, run n 3 ds = some r → ds.length = P3.length
  k4 : FnOk P w K mg base CX0 n T.a4 T.d4 P4 (spF K (bf 4) P4.length (run n 4))
  l4 : ∀ ds r, run n 4 ds = some r → ds.length = P4.length
  k5 : FnOk P w K mg base CX0 n T.a5 T.d5 P5 (spF K (bf 5) P5.length (run n 5))
  l5 : ∀ ds r, run n 5 ds = some r → ds.length = P5.length
  k6 : FnOk P w K mg base CX0 n T.a6 T.d6 P6 (spF K (bf 6) P6.length (run n 6))
  l6 : ∀ ds r, run n 6 ds = some r → ds.length = P6.length
  k7 : FnOk P w K mg base CX0 n T.a7 T.d7 P7 (spF K (bf 7) P7.length (run n 7))
  l7 : ∀ ds r, run n 7 ds = some r → ds.length = P7.length
  k8 : FnOk P w K mg base CX0 n T.a8 T.d8 P8 (spF K (bf 8) P8.length (run n 8))
  l8 : ∀ ds r, run n 8 ds = some r → ds.length = P8.length
  k9 : FnOk P w K mg base CX0 n T.a9 T.d9 P9 (spF K (bf 9) P9.length (run n 9))
  l9 : ∀ ds r, run n 9 ds = some r → ds.length = P9.length
  k10 : FnOk P w K mg base CX0 n T.a10 T.d10 P10 (spF K (bf 10) P10.length (run n 10))
  l10 : ∀ ds r, run n 10 ds = some r → ds.length = P10.length
  k11 : FnOk P w K mg base CX0 n T.a11 T.d11 P11 (spF K (bf 11) P11.length (run n 11))
  l11 : ∀ ds r, run n 11 ds = some r → ds.length = P11.length
  k12 : FnOk P w K mg base CX0 n T.a12 T.d12 P12 (spF K (bf 12) P12.length (run n 12))
  l12 : ∀ ds r, run n 12 ds = some r → ds.length = P12.length
  k13 : FnOk P w K mg base CX0 n T.a13 T.d13 P13 (spF K (bf 13) P13.length (run n 13))
  l13 : ∀ ds r, run n 13 ds = some r → ds.length = P13.length
  k14 : FnOk P w K mg base CX0 n T.a14 T.d14 P14 (spF K (bf 14) P14.length (run n 14))
  l14 : ∀ ds r, run n 14 ds = some r → ds.length = P14.length
  k15 : FnOk P w K mg base CX0 n T.a15 T.d15 P15 (spF K (bf 15) P15.length (run n 15))
  l15 : ∀ ds r, run n 15 ds = some r → ds.length = P15.length
  k16 : FnOk P w K mg base CX0 n T.a16 T.d16 P16 (spF K (bf 16) P16.length (run n 16))
  l16 : ∀ ds r, run n 16 ds = some r → ds.length = P16.length
  k17 : FnOk P w K mg base CX0 n T.a17 T.d17 P17 (spF K (bf 17) P17.length (run n 17))
  l17 : ∀ ds r, run n 17 ds = some r → ds.length = P17.length
  k18 : FnOk P w K mg base CX0 n T.a18 T.d18 P18 (spF K (bf 18) P18.length (run n 18))
  l18 : ∀ ds r, run n 18 ds = some r → ds.length = P18.length
  k19 : FnOk P w K mg base CX0 n T.a19 T.d19 P19 (spF K (bf 19) P19.length (run n 19))
  l19 : ∀ ds r, run n 19 ds = some r → ds.length = P19.length
  k20 : FnOk P w K mg base CX0 n T.a20 T.d20 P20 (spF K (bf 20) P20.length (run n 20))
  l20 : ∀ ds r, run n 20 ds = some r → ds.length = P20.length
  k21 : FnOk P w K mg base CX0 n T.a21 T.d21 P21 (spF K (bf 21) P21.length (run n 21))
  l21 : ∀ ds r, run n 21 ds = some r → ds.length = P21.length
theorem body0 {T : Tops K mg} {n : Nat} (L : Lv P w K mg base T n) {cdv : Value} {A : Around} {outer : List Env} {s : Shared} {H : Hp} {E : XK} (hr : Room n (A.deeper (envOfC "is_int" (defScope s0) s.heap.objs.size T.a0 cdv))) :
    CSs (cxOf CX0 P w K mg base N0 "is_int" (defScope s0) T.a0 cdv A outer s H E).nox (run n) bf MM (defBody s0) b0 :=
  (cs_cons (cs_ret (ce_and (ce_isi ok_isInt (by decide +kernel) (by decide) (by decide) T.z_isinstance T.z_int rfl rfl (ce_v 0 rfl (.inl rfl))) (ce_one (ce_not (ce_isi ok_isBool (by decide +kernel) (by decide) (by decide) T.z_isinstance T.z_bool rfl rfl (ce_v 0 rfl (.inl rfl))))))) cs_nil)
theorem body1 {T : Tops K mg} {n : Nat} (L : Lv P w K mg base T n) {cdv : Value} {A : Around} {outer : List Env} {s : Shared} {H : Hp} {E : XK} (hr : Room n (A.deeper (envOfC "is_from" (defScope s1) s.heap.objs.size T.a1 cdv))) :
    CSs (cxOf CX0 P w K mg base N1 "is_from" (defScope s1) T.a1 cdv A outer s H E).nox (run n) bf MM (defBody s1) b1 :=
  (cs_cons (cs_ret (ce_and (ce_call L.k0 L.l0 hr T.G0 T.F0.kp T.B0 rfl (ca_cons (ce_v 0 rfl (.inl rfl)) ca_nil)) (ce_one (ce_chain ok_IB ok_IB op_le op_le (ce_v 1 rfl (.inl rfl)) (ce_v 0 rfl (.inl rfl)) (ce_v 2 rfl (.inl rfl)))))) cs_nil)
theorem body2 {T : Tops K mg} {n : Nat} (L : Lv P w K mg base T n) {cdv : Value} {A : Around} {outer : List Env} {s : Shared} {H : Hp} {E : XK} (hr : Room n (A.deeper (envOfC "need_from" (defScope s2) s.heap.objs.size T.a2 cdv))) :
    CSs (cxOf CX0 P w K mg base N2 "need_from" (defScope s2) T.a2 cdv A outer s H E).nox (run n) bf MM (defBody s2) b2 :=
  (cs_cons (cs_ite (ct_not (ct_of (fun _ h => pt_val h) (ce_call L.k1 L.l1 hr T.G1 T.F1.kp T.B1 rfl (ca_cons (ce_v 0 rfl (.inl rfl)) (ca_cons (ce_v 1 rfl (.inl rfl)) (ca_cons (ce_v 2 rfl (.inl rfl)) ca_nil)))))) (cs_cons cs_stuck cs_nil) cs_nil) cs_nil)
theorem body3 {T : Tops K mg} {n : Nat} (L : Lv P w K mg base T n) {cdv : Value} {A : Around} {outer : List Env} {s : Shared} {H : Hp} {E : XK} (hr : Room n (A.deeper (envOfC "need_rule" (defScope s3) s.heap.objs.size T.a3 cdv))) :
    CSs (cxOf CX0 P w K mg base N3 "need_rule" (defScope s3) T.a3 cdv A outer s H E).nox (run n) bf MM (defBody s3) b3 :=
  (cs_cons (cs_ite (PW.pt (ct_or (ct_not (ct_of (fun _ h => pt_val h) (ce_isi ok_isTup (by decide +kernel) (by decide) (by decide) T.z_isinstance T.z_tuple rfl rfl (ce_v 0 rfl (.inl rfl))))) (ct_or1 (ct_cmp ok_ne (op_neZ hr.units) (ce_b1 ok_len call_len (by decide +kernel) (by decide) (by decide) T.z_len rfl (ce_v 0 rfl (.inl rfl))) ce_int (nomark _))))) (cs_cons cs_stuck cs_nil) cs_nil) (cs_cons (cs_ite (PW.pt (ct_or (ct_not (ct_of (fun _ h => pt_val h) (ce_call L.k1 L.l1 hr T.G1 T.F1.kp T.B1 rfl (ca_cons (ce_idx (fun _ _ => rfl) (ce_v 0 rfl (.inl rfl)) ce_int) (ca_cons (ce_un ok_I1 un_neg (ce_glob (v := .int 1000000000000000000000000000000000000000000000000000000000000) T.c_MOST_SPAN ⟨_, rfl⟩ (fun _ => .int _) rfl (by decide))) (ca_cons (ce_glob (v := .int 1000000000000000000000000000000000000000000000000000000000000) T.c_MOST_SPAN ⟨_, rfl⟩ (fun _ => .int _) rfl (by decide)) ca_nil)))))) (ct_or1 (ct_not (ct_of (fun _ h => pt_val h) (ce_call L.k1 L.l1 hr T.G1 T.F1.kp T.B1 rfl (ca_cons (ce_idx (fun _ _ => rfl) (ce_v 0 rfl (.inl rfl)) ce_int) (ca_cons ce_int (ca_cons (ce_glob (v := .int 20) T.c_MOST_STEEP ⟨_, rfl⟩ (fun _ => .int _) rfl (by decide)) ca_nil))))))))) (cs_cons cs_stuck cs_nil) cs_nil) (cs_cons (cs_ite (ct_not (ct_of (fun _ h => pt_val h) (ce_call L.k1 L.l1 hr T.G1 T.F1.kp T.B1 rfl (ca_cons (ce_idx (fun _ _ => rfl) (ce_v 0 rfl (.inl rfl)) ce_int) (ca_cons (ce_bin ok_I2 op_sub ce_int (ce_bin ok_IC op_mulZ ce_int (ce_idx (fun _ _ => rfl) (ce_v 0 rfl (.inl rfl)) ce_int))) (ca_cons (ce_bin ok_I2 op_sub (ce_bin ok_IC op_mulZ ce_int (ce_idx (fun _ _ => rfl) (ce_v 0 rfl (.inl rfl)) ce_int)) ce_int) ca_nil)))))) (cs_cons cs_stuck cs_nil) cs_nil) cs_nil)))
theorem body4 {T : Tops K mg} {n : Nat} (L : Lv P w K mg base T n) {cdv : Value} {A : Around} {outer : List Env} {s : Shared} {H : Hp} {E : XK} (hr : Room n (A.deeper (envOfC "need_spans" (defScope s4) s.heap.objs.size T.a4 cdv))) :
    CSs (cxOf CX0 P w K mg base N4 "need_spans" (defScope s4) T.a4 cdv A outer s H E).nox (run n) bf MM (defBody s4) b4 :=
  (cs_cons (cs_ite (PW.pt (ct_or (ct_not (ct_of (fun _ h => pt_val h) (ce_isi ok_isTup (by decide +kernel) (by decide) (by decide) T.z_isinstance T.z_tuple rfl rfl (ce_v 0 rfl (.inl rfl))))) (ct_or1 (ct_cmp ok_ne (op_neZ hr.units) (ce_b1 ok_len call_len (by decide +kernel) (by decide) (by decide) T.z_len rfl (ce_v 0 rfl (.inl rfl))) ce_int (nomark _))))) (cs_cons cs_stuck cs_nil) cs_nil) (cs_cons (cs_for PassesOwn.never rfl (ci_seq (ce_v 0 rfl (.inl rfl))) (cg_n 1 sc4.nd rfl (.inl rfl)) (cs_cons (cs_ite (PW.pt (ct_or (ct_not (ct_of (fun _ h => pt_val h) (ce_isi ok_isTup (by decide +kernel) (by decide) (by decide) T.z_isinstance T.z_tuple rfl rfl (ce_v 1 rfl (.inl rfl))))) (ct_or (ct_cmp ok_ne (op_neZ hr.units) (ce_b1 ok_len call_len (by decide +kernel) (by decide) (by decide) T.z_len rfl (ce_v 1 rfl (.inl rfl))) ce_int (nomark _)) (ct_or1 (ct_not (ct_of (fun _ h => pt_val h) (ce_b1 ok_all (cr_all rfl) (by decide +kernel) (by decide) (by decide) T.z_all rfl (ce_lc (own := [("one", 2)]) (t := .n 2) rfl sc4.nd (fun _ h => h) (ci_seq (ce_v 1 rfl (.inl rfl))) (blkX (N := N4) (sc := (defScope s4)) (by decide +kernel)) (fun _ _ _ _ _ => (cg_n 2 sc4.nd rfl (.inl rfl))) (fun _ _ _ _ _ => pts0) (fun _ _ _ _ _ => (ce_call L.k1 L.l1 hr T.G1 T.F1.kp T.B1 rfl (ca_cons (ce_v 2 rfl (.inl rfl)) (ca_cons ce_int (ca_cons (ce_glob (v := .int 1000000000000000000000000000000000000000000000000000000000000) T.c_MOST_SPAN ⟨_, rfl⟩ (fun _ => .int _) rfl (by decide)) ca_nil))))))))))))) (cs_cons cs_stuck cs_nil) cs_nil) (cs_cons (cs_ite (ct_cmp ok_IB op_gt (ce_idx (fun _ _ => rfl) (ce_v 1 rfl (.inl rfl)) ce_int) (ce_idx (fun _ _ => rfl) (ce_v 1 rfl (.inl rfl)) ce_int) (nomark _)) (cs_cons cs_stuck cs_nil) cs_nil) cs_nil))) cs_nil))
theorem body5 {T : Tops K mg} {n : Nat} (L : Lv P w K mg base T n) {cdv : Value} {A : Around} {outer : List Env} {s : Shared} {H : Hp} {E : XK} (hr : Room n (A.deeper (envOfC "worth" (defScope s5) s.heap.objs.size T.a5 cdv))) :
    CSs (cxOf CX0 P w K mg base N5 "worth" (defScope s5) T.a5 cdv A outer s H E).nox (run n) bf MM (defBody s5) b5 :=
  (cs_cons (cs_expr (ce_call L.k3 L.l3 hr T.G3 T.F3.kp T.B3 rfl (ca_cons (ce_v 0 rfl (.inl rfl)) ca_nil))) (cs_cons (cs_expr (ce_call L.k2 L.l2 hr T.G2 T.F2.kp T.B2 rfl (ca_cons (ce_v 1 rfl (.inl rfl)) (ca_cons ce_int (ca_cons (ce_glob (v := .int 1000000000000000000000000000000000000000000000000000000000000) T.c_MOST_SPAN ⟨_, rfl⟩ (fun _ => .int _) rfl (by decide)) ca_nil))))) (cs_cons (cs_expr (ce_call L.k2 L.l2 hr T.G2 T.F2.kp T.B2 rfl (ca_cons (ce_v 2 rfl (.inl rfl)) (ca_cons ce_int (ca_cons (ce_glob (v := .int 1000000000000000000000000000000000000000000000000000000000000) T.c_MOST_SPAN ⟨_, rfl⟩ (fun _ => .int _) rfl (by decide)) ca_nil))))) (cs_cons (cs_ret (ce_call L.k6 L.l6 hr T.G6 T.F6.kp T.B6 rfl (ca_cons (ce_v 0 rfl (.inl rfl)) (ca_cons (ce_v 1 rfl (.inl rfl)) (ca_cons (ce_v 2 rfl (.inl rfl)) ca_nil))))) cs_nil))))
theorem body6 {T : Tops K mg} {n : Nat} (L : Lv P w K mg base T n) {cdv : Value} {A : Around} {outer : List Env} {s : Shared} {H : Hp} {E : XK} (hr : Room n (A.deeper (envOfC "worth_of" (defScope s6) s.heap.objs.size T.a6 cdv))) :
    CSs (cxOf CX0 P w K mg base N6 "worth_of" (defScope s6) T.a6 cdv A outer s H E).nox (run n) bf MM (defBody s6) b6 :=
  (cs_cons (cs_put (ce_v 0 rfl (.inl rfl)) (cg_t3 rfl (cg_n 3 sc6.nd rfl (.inl rfl)) (cg_n 4 sc6.nd rfl (.inl rfl)) (cg_n 5 sc6.nd rfl (.inl rfl)))) (cs_cons (cs_ret (ce_bin ok_IC op_mulZ (ce_v 1 rfl (.inl rfl)) (ce_bin ok_I2 op_add (ce_bin ok_I2 op_sub (ce_v 3 rfl (.inl rfl)) (ce_bin ok_IC op_mulZ (ce_v 4 rfl (.inl rfl)) (ce_v 1 rfl (.inl rfl)))) (ce_bin ok_IC op_mulZ (ce_v 5 rfl (.inl rfl)) (ce_v 2 rfl (.inl rfl)))))) cs_nil))
theorem body7 {T : Tops K mg} {n : Nat} (L : Lv P w K mg base T n) {cdv : Value} {A : Around} {outer : List Env} {s : Shared} {H : Hp} {E : XK} (hr : Room n (A.deeper (envOfC "cut_span" (defScope s7) s.heap.objs.size T.a7 cdv))) :
    CSs (cxOf CX0 P w K mg base N7 "cut_span" (defScope s7) T.a7 cdv A outer s H E).nox (run n) bf MM (defBody s7) b7 :=
  (cs_cons (cs_put (ce_v 0 rfl (.inl rfl)) (cg_t3 rfl (cg_n 3 sc7.nd rfl (.inl rfl)) (cg_n 4 sc7.nd rfl (.inl rfl)) (cg_n 5 sc7.nd rfl (.inl rfl)))) (cs_cons (cs_set 6 (ce_b2 ok_max2 (call_max2 rfl) (by decide +kernel) (by decide) (by decide) T.z_max rfl (ce_bin ok_IC op_mulZ (ce_v 5 rfl (.inl rfl)) (ce_idx (fun _ _ => rfl) (ce_v 2 rfl (.inl rfl)) ce_int)) (ce_bin ok_IC op_mulZ (ce_v 5 rfl (.inl rfl)) (ce_idx (fun _ _ => rfl) (ce_v 2 rfl (.inl rfl)) ce_int))) sc7.nd rfl (.inl rfl)) (cs_cons (cs_set 7 (ce_b2 ok_min2 (call_min2 rfl) (by decide +kernel) (by decide) (by decide) T.z_min rfl (ce_bin ok_IC op_mulZ (ce_v 5 rfl (.inl rfl)) (ce_idx (fun _ _ => rfl) (ce_v 2 rfl (.inl rfl)) ce_int)) (ce_bin ok_IC op_mulZ (ce_v 5 rfl (.inl rfl)) (ce_idx (fun _ _ => rfl) (ce_v 2 rfl (.inl rfl)) ce_int))) sc7.nd rfl (.inl rfl)) (cs_cons (cs_set 8 (ce_bin ok_IC op_fdiv (ce_bin ok_I2 op_add (ce_bin ok_I2 op_add (ce_v 3 rfl (.inl rfl)) (ce_v 4 rfl (.inl rfl))) (ce_v 6 rfl (.inl rfl))) (ce_bin ok_IC op_mulZ ce_int (ce_v 4 rfl (.inl rfl)))) sc7.nd rfl (.inl rfl)) (cs_cons (cs_set 9 (ce_un ok_I1 un_neg (ce_bin ok_IC op_fdiv (ce_un ok_I1 un_neg (ce_bin ok_I2 op_add (ce_bin ok_I2 op_sub (ce_v 3 rfl (.inl rfl)) (ce_v 4 rfl (.inl rfl))) (ce_v 7 rfl (.inl rfl)))) (ce_bin ok_IC op_mulZ ce_int (ce_v 4 rfl (.inl rfl))))) sc7.nd rfl (.inl rfl)) (cs_cons (cs_ret (ce_tup (cv_cons (ce_b2 ok_max2 (call_max2 rfl) (by decide +kernel) (by decide) (by decide) T.z_max rfl (ce_idx (fun _ _ => rfl) (ce_v 1 rfl (.inl rfl)) ce_int) (ce_b2 ok_min2 (call_min2 rfl) (by decide +kernel) (by decide) (by decide) T.z_min rfl (ce_idx (fun _ _ => rfl) (ce_v 1 rfl (.inl rfl)) ce_int) (ce_v 9 rfl (.inl rfl)))) (cv_cons (ce_b2 ok_min2 (call_min2 rfl) (by decide +kernel) (by decide) (by decide) T.z_min rfl (ce_idx (fun _ _ => rfl) (ce_v 1 rfl (.inl rfl)) ce_int) (ce_b2 ok_max2 (call_max2 rfl) (by decide +kernel) (by decide) (by decide) T.z_max rfl (ce_idx (fun _ _ => rfl) (ce_v 1 rfl (.inl rfl)) ce_int) (ce_v 8 rfl (.inl rfl)))) cv_nil)) (lenZ rfl))) cs_nil))))))
theorem body8 {T : Tops K mg} {n : Nat} (L : Lv P w K mg base T n) {cdv : Value} {A : Around} {outer : List Env} {s : Shared} {H : Hp} {E : XK} (hr : Room n (A.deeper (envOfC "next_spans" (defScope s8) s.heap.objs.size T.a8 cdv))) :
    CSs (cxOf CX0 P w K mg base N8 "next_spans" (defScope s8) T.a8 cdv A outer s H E).nox (run n) bf MM (defBody s8) b8 :=
  (cs_cons (cs_expr (ce_call L.k9 L.l9 hr T.G9 T.F9.kp T.B9 rfl (ca_cons (ce_v 0 rfl (.inl rfl)) ca_nil))) (cs_cons (cs_expr (ce_call L.k4 L.l4 hr T.G4 T.F4.kp T.B4 rfl (ca_cons (ce_v 1 rfl (.inl rfl)) ca_nil))) (cs_cons (cs_ret (ce_tup (cv_cons (ce_call L.k7 L.l7 hr T.G7 T.F7.kp T.B7 rfl (ca_cons (ce_idx (fun _ _ => rfl) (ce_v 0 rfl (.inl rfl)) ce_int) (ca_cons (ce_idx (fun _ _ => rfl) (ce_v 1 rfl (.inl rfl)) ce_int) (ca_cons (ce_idx (fun _ _ => rfl) (ce_v 1 rfl (.inl rfl)) ce_int) ca_nil)))) (cv_cons (ce_call L.k7 L.l7 hr T.G7 T.F7.kp T.B7 rfl (ca_cons (ce_idx (fun _ _ => rfl) (ce_v 0 rfl (.inl rfl)) ce_int) (ca_cons (ce_idx (fun _ _ => rfl) (ce_v 1 rfl (.inl rfl)) ce_int) (ca_cons (ce_idx (fun _ _ => rfl) (ce_v 1 rfl (.inl rfl)) ce_int) ca_nil)))) cv_nil)) (lenZ rfl))) cs_nil)))
theorem body9 {T : Tops K mg} {n : Nat} (L : Lv P w K mg base T n) {cdv : Value} {A : Around} {outer : List Env} {s : Shared} {H : Hp} {E : XK} (hr : Room n (A.deeper (envOfC "need_rules" (defScope s9) s.heap.objs.size T.a9 cdv))) :
    CSs (cxOf CX0 P w K mg base N9 "need_rules" (defScope s9) T.a9 cdv A outer s H E).nox (run n) bf MM (defBody s9) b9 :=
  (cs_cons (cs_ite (PW.pt (ct_or (ct_not (ct_of (fun _ h => pt_val h) (ce_isi ok_isTup (by decide +kernel) (by decide) (by decide) T.z_isinstance T.z_tuple rfl rfl (ce_v 0 rfl (.inl rfl))))) (ct_or1 (ct_cmp ok_ne (op_neZ hr.units) (ce_b1 ok_len call_len (by decide +kernel) (by decide) (by decide) T.z_len rfl (ce_v 0 rfl (.inl rfl))) ce_int (nomark _))))) (cs_cons cs_stuck cs_nil) cs_nil) (cs_cons (cs_for PassesOwn.never rfl (ci_seq (ce_v 0 rfl (.inl rfl))) (cg_n 1 sc9.nd rfl (.inl rfl)) (cs_cons (cs_expr (ce_call L.k3 L.l3 hr T.G3 T.F3.kp T.B3 rfl (ca_cons (ce_v 1 rfl (.inl rfl)) ca_nil))) cs_nil)) cs_nil))
theorem body10 {T : Tops K mg} {n : Nat} (L : Lv P w K mg base T n) {cdv : Value} {A : Around} {outer : List Env} {s : Shared} {H : Hp} {E : XK} (hr : Room n (A.deeper (envOfC "walk" (defScope s10) s.heap.objs.size T.a10 cdv))) :
    CSs (cxOf CX0 P w K mg base N10 "walk" (defScope s10) T.a10 cdv A outer s H E).nox (run n) bf MM (defBody s10) b10 :=
  (cs_cons (cs_par2 (i := 2) (j := 3) rfl sc10.nd rfl rfl (by decide) rfl rfl (cl_cons (ce_v 1 rfl (.inl rfl)) (cl_cons ce_int cl_nil)) rfl) (cs_cons (cs_whl PassesOwn.never (ct_of (fun _ h => pt_val h) ce_bl) (cs_cons (cs_set 4 (ce_tup (cv_cons (ce_call L.k7 L.l7 hr T.G7 T.F7.kp T.B7 rfl (ca_cons (ce_idx (fun _ _ => rfl) (ce_v 0 rfl (.inl rfl)) ce_int) (ca_cons (ce_idx (fun _ _ => rfl) (ce_v 2 rfl (.inl rfl)) ce_int) (ca_cons (ce_idx (fun _ _ => rfl) (ce_v 2 rfl (.inl rfl)) ce_int) ca_nil)))) (cv_cons (ce_call L.k7 L.l7 hr T.G7 T.F7.kp T.B7 rfl (ca_cons (ce_idx (fun _ _ => rfl) (ce_v 0 rfl (.inl rfl)) ce_int) (ca_cons (ce_idx (fun _ _ => rfl) (ce_v 2 rfl (.inl rfl)) ce_int) (ca_cons (ce_idx (fun _ _ => rfl) (ce_v 2 rfl (.inl rfl)) ce_int) ca_nil)))) cv_nil)) (lenZ rfl)) sc10.nd rfl (.inl rfl)) (cs_cons (cs_ite (ct_cmp ok_eq (op_eqZ hr.units) (ce_v 4 rfl (.inl rfl)) (ce_v 2 rfl (.inl rfl)) (nomark _)) (cs_cons (cs_ret (ce_tup (cv_cons (ce_v 2 rfl (.inl rfl)) (cv_cons (ce_v 3 rfl (.inl rfl)) cv_nil)) (lenZ rfl))) cs_nil) cs_nil) (cs_cons (cs_par2 (i := 2) (j := 3) rfl sc10.nd rfl rfl (by decide) rfl rfl (cl_cons (ce_v 4 rfl (.inl rfl)) (cl_cons (ce_bin ok_I2 op_add (ce_v 3 rfl (.inl rfl)) ce_int) cl_nil)) rfl) cs_nil)))) cs_nil))
theorem body11 {T : Tops K mg} {n : Nat} (L : Lv P w K mg base T n) {cdv : Value} {A : Around} {outer : List Env} {s : Shared} {H : Hp} {E : XK} (hr : Room n (A.deeper (envOfC "last_spans" (defScope s11) s.heap.objs.size T.a11 cdv))) :
    CSs (cxOf CX0 P w K mg base N11 "last_spans" (defScope s11) T.a11 cdv A outer s H E).nox (run n) bf MM (defBody s11) b11 :=
  (cs_cons (cs_expr (ce_call L.k9 L.l9 hr T.G9 T.F9.kp T.B9 rfl (ca_cons (ce_v 0 rfl (.inl rfl)) ca_nil))) (cs_cons (cs_expr (ce_call L.k4 L.l4 hr T.G4 T.F4.kp T.B4 rfl (ca_cons (ce_v 1 rfl (.inl rfl)) ca_nil))) (cs_cons (cs_ret (ce_idx (fun _ _ => rfl) (ce_call L.k10 L.l10 hr T.G10 T.F10.kp T.B10 rfl (ca_cons (ce_v 0 rfl (.inl rfl)) (ca_cons (ce_v 1 rfl (.inl rfl)) ca_nil))) ce_int)) cs_nil)))
theorem body12 {T : Tops K mg} {n : Nat} (L : Lv P w K mg base T n) {cdv : Value} {A : Around} {outer : List Env} {s : Shared} {H : Hp} {E : XK} (hr : Room n (A.deeper (envOfC "span_rounds" (defScope s12) s.heap.objs.size T.a12 cdv))) :
    CSs (cxOf CX0 P w K mg base N12 "span_rounds" (defScope s12) T.a12 cdv A outer s H E).nox (run n) bf MM (defBody s12) b12 :=
  (cs_cons (cs_expr (ce_call L.k9 L.l9 hr T.G9 T.F9.kp T.B9 rfl (ca_cons (ce_v 0 rfl (.inl rfl)) ca_nil))) (cs_cons (cs_expr (ce_call L.k4 L.l4 hr T.G4 T.F4.kp T.B4 rfl (ca_cons (ce_v 1 rfl (.inl rfl)) ca_nil))) (cs_cons (cs_ret (ce_idx (fun _ _ => rfl) (ce_call L.k10 L.l10 hr T.G10 T.F10.kp T.B10 rfl (ca_cons (ce_v 0 rfl (.inl rfl)) (ca_cons (ce_v 1 rfl (.inl rfl)) ca_nil))) ce_int)) cs_nil)))
theorem body13 {T : Tops K mg} {n : Nat} (L : Lv P w K mg base T n) {cdv : Value} {A : Around} {outer : List Env} {s : Shared} {H : Hp} {E : XK} (hr : Room n (A.deeper (envOfC "falls" (defScope s13) s.heap.objs.size T.a13 cdv))) :
    CSs (cxOf CX0 P w K mg base N13 "falls" (defScope s13) T.a13 cdv A outer s H E).nox (run n) bf MM (defBody s13) b13 :=
  (cs_cons (cs_expr (ce_call L.k9 L.l9 hr T.G9 T.F9.kp T.B9 rfl (ca_cons (ce_v 0 rfl (.inl rfl)) ca_nil))) (cs_cons (cs_expr (ce_call L.k4 L.l4 hr T.G4 T.F4.kp T.B4 rfl (ca_cons (ce_v 1 rfl (.inl rfl)) ca_nil))) (cs_cons (cs_expr (ce_call L.k2 L.l2 hr T.G2 T.F2.kp T.B2 rfl (ca_cons (ce_v 2 rfl (.inl rfl)) (ca_cons ce_int (ca_cons (ce_glob (v := .int 1000000000000000000000000000000000000000000000000000000000000) T.c_MOST_SPAN ⟨_, rfl⟩ (fun _ => .int _) rfl (by decide)) ca_nil))))) (cs_cons (cs_ite (ct_not (ct_chain ok_IB ok_IB op_le op_le (ce_idx (fun _ _ => rfl) (ce_idx (fun _ _ => rfl) (ce_v 1 rfl (.inl rfl)) ce_int) ce_int) (ce_v 2 rfl (.inl rfl)) (ce_idx (fun _ _ => rfl) (ce_idx (fun _ _ => rfl) (ce_v 1 rfl (.inl rfl)) ce_int) ce_int))) (cs_cons cs_stuck cs_nil) cs_nil) (cs_cons (cs_set 3 (ce_call L.k7 L.l7 hr T.G7 T.F7.kp T.B7 rfl (ca_cons (ce_idx (fun _ _ => rfl) (ce_v 0 rfl (.inl rfl)) ce_int) (ca_cons (ce_idx (fun _ _ => rfl) (ce_v 1 rfl (.inl rfl)) ce_int) (ca_cons (ce_idx (fun _ _ => rfl) (ce_v 1 rfl (.inl rfl)) ce_int) ca_nil)))) sc13.nd rfl (.inl rfl)) (cs_cons (cs_ret (ce_not (ce_chain ok_IB ok_IB op_le op_le (ce_idx (fun _ _ => rfl) (ce_v 3 rfl (.inl rfl)) ce_int) (ce_v 2 rfl (.inl rfl)) (ce_idx (fun _ _ => rfl) (ce_v 3 rfl (.inl rfl)) ce_int)))) cs_nil))))))
theorem body14 {T : Tops K mg} {n : Nat} (L : Lv P w K mg base T n) {cdv : Value} {A : Around} {outer : List Env} {s : Shared} {H : Hp} {E : XK} (hr : Room n (A.deeper (envOfC "answer_span" (defScope s14) s.heap.objs.size T.a14 cdv))) :
    CSs (cxOf CX0 P w K mg base N14 "answer_span" (defScope s14) T.a14 cdv A outer s H E).nox (run n) bf MM (defBody s14) b14 :=
  (cs_cons (cs_expr (ce_call L.k3 L.l3 hr T.G3 T.F3.kp T.B3 rfl (ca_cons (ce_v 0 rfl (.inl rfl)) ca_nil))) (cs_cons (cs_expr (ce_call L.k4 L.l4 hr T.G4 T.F4.kp T.B4 rfl (ca_cons (ce_tup (cv_cons (ce_v 1 rfl (.inl rfl)) (cv_cons (ce_tup (cv_cons (ce_v 2 rfl (.inl rfl)) (cv_cons (ce_v 2 rfl (.inl rfl)) cv_nil)) (lenZ rfl)) cv_nil)) (lenZ rfl)) ca_nil))) (cs_cons (cs_put (ce_v 0 rfl (.inl rfl)) (cg_t3 rfl (cg_n 3 sc14.nd rfl (.inl rfl)) (cg_n 4 sc14.nd rfl (.inl rfl)) (cg_n 5 sc14.nd rfl (.inl rfl)))) (cs_cons (cs_set 6 (ce_bin ok_IC op_fdiv (ce_bin ok_I2 op_add (ce_bin ok_I2 op_add (ce_v 3 rfl (.inl rfl)) (ce_v 4 rfl (.inl rfl))) (ce_bin ok_IC op_mulZ (ce_v 5 rfl (.inl rfl)) (ce_v 2 rfl (.inl rfl)))) (ce_bin ok_IC op_mulZ ce_int (ce_v 4 rfl (.inl rfl)))) sc14.nd rfl (.inl rfl)) (cs_cons (cs_set 7 (ce_un ok_I1 un_neg (ce_bin ok_IC op_fdiv (ce_un ok_I1 un_neg (ce_bin ok_I2 op_add (ce_bin ok_I2 op_sub (ce_v 3 rfl (.inl rfl)) (ce_v 4 rfl (.inl rfl))) (ce_bin ok_IC op_mulZ (ce_v 5 rfl (.inl rfl)) (ce_v 2 rfl (.inl rfl))))) (ce_bin ok_IC op_mulZ ce_int (ce_v 4 rfl (.inl rfl))))) sc14.nd rfl (.inl rfl)) (cs_cons (cs_ret (ce_tup (cv_cons (ce_b2 ok_max2 (call_max2 rfl) (by decide +kernel) (by decide) (by decide) T.z_max rfl (ce_idx (fun _ _ => rfl) (ce_v 1 rfl (.inl rfl)) ce_int) (ce_b2 ok_min2 (call_min2 rfl) (by decide +kernel) (by decide) (by decide) T.z_min rfl (ce_idx (fun _ _ => rfl) (ce_v 1 rfl (.inl rfl)) ce_int) (ce_v 7 rfl (.inl rfl)))) (cv_cons (ce_b2 ok_min2 (call_min2 rfl) (by decide +kernel) (by decide) (by decide) T.z_min rfl (ce_idx (fun _ _ => rfl) (ce_v 1 rfl (.inl rfl)) ce_int) (ce_b2 ok_max2 (call_max2 rfl) (by decide +kernel) (by decide) (by decide) T.z_max rfl (ce_idx (fun _ _ => rfl) (ce_v 1 rfl (.inl rfl)) ce_int) (ce_v 6 rfl (.inl rfl)))) cv_nil)) (lenZ rfl))) cs_nil))))))
theorem body15 {T : Tops K mg} {n : Nat} (L : Lv P w K mg base T n) {cdv : Value} {A : Around} {outer : List Env} {s : Shared} {H : Hp} {E : XK} (hr : Room n (A.deeper (envOfC "need_guess" (defScope s15) s.heap.objs.size T.a15 cdv))) :
    CSs (cxOf CX0 P w K mg base N15 "need_guess" (defScope s15) T.a15 cdv A outer s H E).nox (run n) bf MM (defBody s15) b15 :=
  (cs_cons (cs_ite (PW.pt (ct_or (ct_not (ct_of (fun _ h => pt_val h) (ce_isi ok_isTup (by decide +kernel) (by decide) (by decide) T.z_isinstance T.z_tuple rfl rfl (ce_v 0 rfl (.inl rfl))))) (ct_or (ct_cmp ok_ne (op_neZ hr.units) (ce_b1 ok_len call_len (by decide +kernel) (by decide) (by decide) T.z_len rfl (ce_v 0 rfl (.inl rfl))) ce_int (nomark _)) (ct_or1 (ct_not (ct_of (fun _ h => pt_val h) (ce_b1 ok_all (cr_all rfl) (by decide +kernel) (by decide) (by decide) T.z_all rfl (ce_lc (own := [("one", 1)]) (t := .n 1) rfl sc15.nd (fun _ h => h) (ci_seq (ce_v 0 rfl (.inl rfl))) (blkX (N := N15) (sc := (defScope s15)) (by decide +kernel)) (fun _ _ _ _ _ => (cg_n 1 sc15.nd rfl (.inl rfl))) (fun _ _ _ _ _ => pts0) (fun _ _ _ _ _ => (ce_call L.k1 L.l1 hr T.G1 T.F1.kp T.B1 rfl (ca_cons (ce_v 1 rfl (.inl rfl)) (ca_cons ce_int (ca_cons ce_int ca_nil))))))))))))) (cs_cons cs_stuck cs_nil) cs_nil) (cs_cons (cs_ite (ct_cmp ok_IB op_ge (ce_idx (fun _ _ => rfl) (ce_v 0 rfl (.inl rfl)) ce_int) (ce_idx (fun _ _ => rfl) (ce_v 0 rfl (.inl rfl)) ce_int) (nomark _)) (cs_cons cs_stuck cs_nil) cs_nil) cs_nil))
theorem body16 {T : Tops K mg} {n : Nat} (L : Lv P w K mg base T n) {cdv : Value} {A : Around} {outer : List Env} {s : Shared} {H : Hp} {E : XK} (hr : Room n (A.deeper (envOfC "guess_cut" (defScope s16) s.heap.objs.size T.a16 cdv))) :
    CSs (cxOf CX0 P w K mg base N16 "guess_cut" (defScope s16) T.a16 cdv A outer s H E).nox (run n) bf MM (defBody s16) b16 :=
  (cs_cons (cs_ret (ce_bin ok_IC op_fdiv (ce_bin ok_I2 op_add (ce_bin ok_IC op_mulZ (ce_bin ok_IC op_mulZ ce_int (ce_idx (fun _ _ => rfl) (ce_v 0 rfl (.inl rfl)) ce_int)) (ce_v 1 rfl (.inl rfl))) (ce_idx (fun _ _ => rfl) (ce_v 0 rfl (.inl rfl)) ce_int)) (ce_bin ok_IC op_mulZ ce_int (ce_idx (fun _ _ => rfl) (ce_v 0 rfl (.inl rfl)) ce_int)))) cs_nil)
theorem body17 {T : Tops K mg} {n : Nat} (L : Lv P w K mg base T n) {cdv : Value} {A : Around} {outer : List Env} {s : Shared} {H : Hp} {E : XK} (hr : Room n (A.deeper (envOfC "guess_last" (defScope s17) s.heap.objs.size T.a17 cdv))) :
    CSs (cxOf CX0 P w K mg base N17 "guess_last" (defScope s17) T.a17 cdv A outer s H E).nox (run n) bf MM (defBody s17) b17 :=
  (cs_cons (cs_expr (ce_call L.k15 L.l15 hr T.G15 T.F15.kp T.B15 rfl (ca_cons (ce_v 0 rfl (.inl rfl)) ca_nil))) (cs_cons (cs_expr (ce_call L.k2 L.l2 hr T.G2 T.F2.kp T.B2 rfl (ca_cons (ce_v 1 rfl (.inl rfl)) (ca_cons ce_int (ca_cons (ce_glob (v := .int 1000000000000000000000000000000000000000000000000000000000000) T.c_MOST_SPAN ⟨_, rfl⟩ (fun _ => .int _) rfl (by decide)) ca_nil))))) (cs_cons (cs_set 2 (ce_v 1 rfl (.inl rfl)) sc17.nd rfl (.inl rfl)) (cs_cons (cs_whl PassesOwn.never (ct_cmp ok_IB op_lt (ce_call L.k16 L.l16 hr T.G16 T.F16.kp T.B16 rfl (ca_cons (ce_v 0 rfl (.inl rfl)) (ca_cons (ce_v 2 rfl (.inl rfl)) ca_nil))) (ce_v 2 rfl (.inl rfl)) (nomark _)) (cs_cons (cs_set 2 (ce_call L.k16 L.l16 hr T.G16 T.F16.kp T.B16 rfl (ca_cons (ce_v 0 rfl (.inl rfl)) (ca_cons (ce_v 2 rfl (.inl rfl)) ca_nil))) sc17.nd rfl (.inl rfl)) cs_nil)) (cs_cons (cs_ret (ce_v 2 rfl (.inl rfl))) cs_nil)))))
theorem body18 {T : Tops K mg} {n : Nat} (L : Lv P w K mg base T n) {cdv : Value} {A : Around} {outer : List Env} {s : Shared} {H : Hp} {E : XK} (hr : Room n (A.deeper (envOfC "guess_rounds" (defScope s18) s.heap.objs.size T.a18 cdv))) :
    CSs (cxOf CX0 P w K mg base N18 "guess_rounds" (defScope s18) T.a18 cdv A outer s H E).nox (run n) bf MM (defBody s18) b18 :=
  (cs_cons (cs_expr (ce_call L.k15 L.l15 hr T.G15 T.F15.kp T.B15 rfl (ca_cons (ce_v 0 rfl (.inl rfl)) ca_nil))) (cs_cons (cs_expr (ce_call L.k2 L.l2 hr T.G2 T.F2.kp T.B2 rfl (ca_cons (ce_v 1 rfl (.inl rfl)) (ca_cons ce_int (ca_cons (ce_glob (v := .int 1000000000000000000000000000000000000000000000000000000000000) T.c_MOST_SPAN ⟨_, rfl⟩ (fun _ => .int _) rfl (by decide)) ca_nil))))) (cs_cons (cs_par2 (i := 2) (j := 3) rfl sc18.nd rfl rfl (by decide) rfl rfl (cl_cons (ce_v 1 rfl (.inl rfl)) (cl_cons ce_int cl_nil)) rfl) (cs_cons (cs_whl PassesOwn.never (ct_cmp ok_IB op_lt (ce_call L.k16 L.l16 hr T.G16 T.F16.kp T.B16 rfl (ca_cons (ce_v 0 rfl (.inl rfl)) (ca_cons (ce_v 2 rfl (.inl rfl)) ca_nil))) (ce_v 2 rfl (.inl rfl)) (nomark _)) (cs_cons (cs_par2 (i := 2) (j := 3) rfl sc18.nd rfl rfl (by decide) rfl rfl (cl_cons (ce_call L.k16 L.l16 hr T.G16 T.F16.kp T.B16 rfl (ca_cons (ce_v 0 rfl (.inl rfl)) (ca_cons (ce_v 2 rfl (.inl rfl)) ca_nil))) (cl_cons (ce_bin ok_I2 op_add (ce_v 3 rfl (.inl rfl)) ce_int) cl_nil)) rfl) cs_nil)) (cs_cons (cs_ret (ce_v 3 rfl (.inl rfl))) cs_nil)))))
theorem body19 {T : Tops K mg} {n : Nat} (L : Lv P w K mg base T n) {cdv : Value} {A : Around} {outer : List Env} {s : Shared} {H : Hp} {E : XK} (hr : Room n (A.deeper (envOfC "guess_round_of" (defScope s19) s.heap.objs.size T.a19 cdv))) :
    CSs (cxOf CX0 P w K mg base N19 "guess_round_of" (defScope s19) T.a19 cdv A outer s H E).nox (run n) bf MM (defBody s19) b19 :=
  (cs_cons (cs_expr (ce_call L.k15 L.l15 hr T.G15 T.F15.kp T.B15 rfl (ca_cons (ce_v 0 rfl (.inl rfl)) ca_nil))) (cs_cons (cs_expr (ce_call L.k2 L.l2 hr T.G2 T.F2.kp T.B2 rfl (ca_cons (ce_v 1 rfl (.inl rfl)) (ca_cons ce_int (ca_cons (ce_glob (v := .int 1000000000000000000000000000000000000000000000000000000000000) T.c_MOST_SPAN ⟨_, rfl⟩ (fun _ => .int _) rfl (by decide)) ca_nil))))) (cs_cons (cs_expr (ce_call L.k2 L.l2 hr T.G2 T.F2.kp T.B2 rfl (ca_cons (ce_v 2 rfl (.inl rfl)) (ca_cons ce_int (ca_cons (ce_v 1 rfl (.inl rfl)) ca_nil))))) (cs_cons (cs_par2 (i := 3) (j := 4) rfl sc19.nd rfl rfl (by decide) rfl rfl (cl_cons (ce_v 1 rfl (.inl rfl)) (cl_cons ce_int cl_nil)) rfl) (cs_cons (cs_whl PassesOwn.never (ct_cmp ok_IB op_lt (ce_call L.k16 L.l16 hr T.G16 T.F16.kp T.B16 rfl (ca_cons (ce_v 0 rfl (.inl rfl)) (ca_cons (ce_v 3 rfl (.inl rfl)) ca_nil))) (ce_v 3 rfl (.inl rfl)) (nomark _)) (cs_cons (cs_par2 (i := 3) (j := 4) rfl sc19.nd rfl rfl (by decide) rfl rfl (cl_cons (ce_call L.k16 L.l16 hr T.G16 T.F16.kp T.B16 rfl (ca_cons (ce_v 0 rfl (.inl rfl)) (ca_cons (ce_v 3 rfl (.inl rfl)) ca_nil))) (cl_cons (ce_bin ok_I2 op_add (ce_v 4 rfl (.inl rfl)) ce_int) cl_nil)) rfl) (cs_cons (cs_ite (ct_cmp ok_IB op_gt (ce_v 2 rfl (.inl rfl)) (ce_v 3 rfl (.inl rfl)) (nomark _)) (cs_cons (cs_ret (ce_v 4 rfl (.inl rfl))) cs_nil) cs_nil) cs_nil))) (cs_cons (cs_ret ce_non) cs_nil))))))
theorem body20 {T : Tops K mg} {n : Nat} (L : Lv P w K mg base T n) {cdv : Value} {A : Around} {outer : List Env} {s : Shared} {H : Hp} {E : XK} (hr : Room n (A.deeper (envOfC "_law_taken" (defScope s20) s.heap.objs.size T.a20 cdv))) :
    CSs (cxOf CX0 P w K mg base N20 "_law_taken" (defScope s20) T.a20 cdv A outer s H E).nox (run n) bf MM (defBody s20) b20 :=
  (cs_cons (cs_ite (ct_cmp ok_IB op_gt (ce_idx (fun _ _ => rfl) (ce_v 0 rfl (.inl rfl)) ce_int) ce_int (nomark _)) (cs_cons (cs_set 2 (ce_bin ok_IC op_mod (ce_ty1 ok_int1 call_int1 (by decide +kernel) (by decide) (by decide) T.z_int rfl (ce_idx (fun _ _ => rfl) (ce_v 0 rfl (.inl rfl)) ce_int)) (ce_v 1 rfl (.inl rfl))) sc20.nd rfl (.inl rfl)) (cs_cons (cs_setL 0 rfl (.inl rfl) (by decide) (by decide) ce_int (ce_bin ok_IC op_fdiv (ce_idx (fun _ _ => rfl) (ce_v 0 rfl (.inl rfl)) ce_int) (ce_v 1 rfl (.inl rfl)))) (cs_cons (cs_ret (ce_v 2 rfl (.inl rfl))) cs_nil))) cs_nil) (cs_cons (cs_setL 0 rfl (.inl rfl) (by decide) (by decide) ce_int (ce_bin ok_I2 op_add (ce_idx (fun _ _ => rfl) (ce_v 0 rfl (.inl rfl)) ce_int) ce_int)) (cs_cons (cs_ite (ct_cmp ok_IB op_gt (ce_idx (fun _ _ => rfl) (ce_v 0 rfl (.inl rfl)) ce_int) (ce_b1 ok_len call_len (by decide +kernel) (by decide) (by decide) T.z_len rfl (ce_idx (fun _ _ => rfl) (ce_v 0 rfl (.inl rfl)) ce_int)) (nomark _)) (cs_cons (cs_setL 0 rfl (.inl rfl) (by decide) (by decide) ce_int (ce_bin ok_IC op_mod (ce_ty1 ok_int1 call_int1 (by decide +kernel) (by decide) (by decide) T.z_int rfl (ce_bin ok_I2 op_add (ce_bin ok_IC op_mulZ (ce_idx (fun _ _ => rfl) (ce_v 0 rfl (.inl rfl)) ce_int) ce_int) ce_int)) ce_int)) (cs_cons (cs_ret (ce_bin ok_IC op_mod (ce_ty1 ok_int1 call_int1 (by decide +kernel) (by decide) (by decide) T.z_int rfl (ce_bin ok_IC op_fdiv (ce_idx (fun _ _ => rfl) (ce_v 0 rfl (.inl rfl)) ce_int) ce_int)) (ce_v 1 rfl (.inl rfl)))) cs_nil)) cs_nil) (cs_cons (cs_set 3 (ce_idx (fun _ _ => rfl) (ce_idx (fun _ _ => rfl) (ce_v 0 rfl (.inl rfl)) ce_int) (ce_bin ok_I2 op_sub (ce_idx (fun _ _ => rfl) (ce_v 0 rfl (.inl rfl)) ce_int) ce_int)) sc20.nd rfl (.inl rfl)) (cs_cons (cs_setL 0 rfl (.inl rfl) (by decide) (by decide) ce_int (ce_bin ok_IC op_mod (ce_ty1 ok_int1 call_int1 (by decide +kernel) (by decide) (by decide) T.z_int rfl (ce_bin ok_I2 op_add (ce_bin ok_I2 op_add (ce_bin ok_IC op_mulZ (ce_idx (fun _ _ => rfl) (ce_v 0 rfl (.inl rfl)) ce_int) ce_int) (ce_v 3 rfl (.inl rfl))) ce_int)) ce_int)) (cs_cons (cs_ite (ct_cmp ok_IB op_ge (ce_v 3 rfl (.inl rfl)) (ce_bin ok_IC op_pow ce_int ce_int) (nomark _)) (cs_cons (cs_setL 0 rfl (.inl rfl) (by decide) (by decide) ce_int (ce_bin ok_IC op_fdiv (ce_v 3 rfl (.inl rfl)) (ce_v 1 rfl (.inl rfl)))) cs_nil) cs_nil) (cs_cons (cs_ret (ce_bin ok_IC op_mod (ce_ty1 ok_int1 call_int1 (by decide +kernel) (by decide) (by decide) T.z_int rfl (ce_v 3 rfl (.inl rfl))) (ce_v 1 rfl (.inl rfl)))) cs_nil)))))))
theorem body21 {T : Tops K mg} {n : Nat} (L : Lv P w K mg base T n) {cdv : Value} {A : Around} {outer : List Env} {s : Shared} {H : Hp} {E : XK} (hr : Room n (A.deeper (envOfC "law" (defScope s21) s.heap.objs.size T.a21 cdv))) :
    CSs (cxOf CX0 P w K mg base N21 "law" (defScope s21) T.a21 cdv A outer s H E).nox (run n) bf MM (defBody s21) b21 :=
  (cs_cons (cs_set 1 (ce_lst (cv_cons (ce_v 0 rfl (.inl rfl)) (cv_cons ce_int (cv_cons ce_int (cv_cons ce_int cv_nil)))) (lenZ rfl)) sc21.nd rfl (.inl rfl)) (cs_cons (cs_par2 (i := 2) (j := 3) rfl sc21.nd rfl rfl (by decide) rfl rfl (cl_cons (ce_bin ok_I2 op_add (ce_bin ok_IC op_pow ce_int ce_int) (ce_call L.k20 L.l20 hr T.G20 T.F20.kp T.B20 rfl (ca_cons (ce_v 1 rfl (.inl rfl)) (ca_cons (ce_bin ok_IC op_pow ce_int ce_int) ca_nil)))) (cl_cons (ce_bin ok_I2 op_add ce_int (ce_call L.k20 L.l20 hr T.G20 T.F20.kp T.B20 rfl (ca_cons (ce_v 1 rfl (.inl rfl)) (ca_cons ce_int ca_nil)))) cl_nil)) rfl) (cs_cons (cs_par2 (i := 4) (j := 5) rfl sc21.nd rfl rfl (by decide) rfl rfl (cl_cons (ce_tup (cv_cons (ce_v 2 rfl (.inl rfl)) (cv_cons (ce_v 3 rfl (.inl rfl)) (cv_cons ce_int cv_nil))) (lenZ rfl)) (cl_cons (ce_tup (cv_cons (ce_tup (cv_cons ce_int (cv_cons (ce_bin ok_IC op_pow ce_int ce_int) cv_nil)) (lenZ rfl)) (cv_cons (ce_tup (cv_cons ce_int (cv_cons (ce_bin ok_IC op_pow ce_int ce_int) cv_nil)) (lenZ rfl)) cv_nil)) (lenZ rfl)) cl_nil)) rfl) (cs_cons (cs_set 6 (ce_call L.k14 L.l14 hr T.G14 T.F14.kp T.B14 rfl (ca_cons (ce_v 4 rfl (.inl rfl)) (ca_cons (ce_idx (fun _ _ => rfl) (ce_v 5 rfl (.inl rfl)) ce_int) (ca_cons ce_int ca_nil)))) sc21.nd rfl (.inl rfl)) (cs_cons (cs_ite (PW.pt (ct_or (ct_cmp ok_ne (op_neZ hr.units) (ce_call L.k11 L.l11 hr T.G11 T.F11.kp T.B11 rfl (ca_cons (ce_tup (cv_cons (ce_v 4 rfl (.inl rfl)) (cv_cons (ce_v 4 rfl (.inl rfl)) cv_nil)) (lenZ rfl)) (ca_cons (ce_v 5 rfl (.inl rfl)) ca_nil))) (ce_tup (cv_cons (ce_v 6 rfl (.inl rfl)) (cv_cons (ce_v 6 rfl (.inl rfl)) cv_nil)) (lenZ rfl)) (nomark _)) (ct_or1 (ct_cmp ok_ne (op_neZ hr.units) (ce_call L.k12 L.l12 hr T.G12 T.F12.kp T.B12 rfl (ca_cons (ce_tup (cv_cons (ce_v 4 rfl (.inl rfl)) (cv_cons (ce_v 4 rfl (.inl rfl)) cv_nil)) (lenZ rfl)) (ca_cons (ce_v 5 rfl (.inl rfl)) ca_nil))) ce_int (nomark _))))) (cs_cons (cs_ret ce_bl) cs_nil) cs_nil) (cs_cons (cs_ite (PW.pt (ct_or (ct_not (ct_chain ok_IB ok_IB op_le op_le (ce_bin ok_I2 op_sub (ce_bin ok_IC op_mulZ (ce_bin ok_IC op_mulZ ce_int (ce_v 3 rfl (.inl rfl))) (ce_idx (fun _ _ => rfl) (ce_v 6 rfl (.inl rfl)) ce_int)) (ce_v 3 rfl (.inl rfl))) (ce_v 2 rfl (.inl rfl)) (ce_bin ok_I2 op_add (ce_bin ok_IC op_mulZ (ce_bin ok_IC op_mulZ ce_int (ce_v 3 rfl (.inl rfl))) (ce_idx (fun _ _ => rfl) (ce_v 6 rfl (.inl rfl)) ce_int)) (ce_v 3 rfl (.inl rfl))))) (ct_or1 (ct_cmp ok_IB op_gt (ce_bin ok_I2 op_sub (ce_idx (fun _ _ => rfl) (ce_v 6 rfl (.inl rfl)) ce_int) (ce_idx (fun _ _ => rfl) (ce_v 6 rfl (.inl rfl)) ce_int)) ce_int (nomark _))))) (cs_cons (cs_ret ce_bl) cs_nil) cs_nil) (cs_cons (cs_ite (ct_cmp ok_ne (op_neZ hr.units) (ce_call L.k5 L.l5 hr T.G5 T.F5.kp T.B5 rfl (ca_cons (ce_v 4 rfl (.inl rfl)) (ca_cons (ce_idx (fun _ _ => rfl) (ce_v 6 rfl (.inl rfl)) ce_int) (ca_cons ce_int ca_nil)))) (ce_call L.k5 L.l5 hr T.G5 T.F5.kp T.B5 rfl (ca_cons (ce_v 4 rfl (.inl rfl)) (ca_cons (ce_idx (fun _ _ => rfl) (ce_v 6 rfl (.inl rfl)) ce_int) (ca_cons ce_int ca_nil)))) (nomark _)) (cs_cons (cs_ret ce_bl) cs_nil) cs_nil) (cs_cons (cs_ite (ct_cmp ok_IB op_lt (ce_call L.k5 L.l5 hr T.G5 T.F5.kp T.B5 rfl (ca_cons (ce_v 4 rfl (.inl rfl)) (ca_cons (ce_idx (fun _ _ => rfl) (ce_v 6 rfl (.inl rfl)) ce_int) (ca_cons ce_int ca_nil)))) (ce_call L.k5 L.l5 hr T.G5 T.F5.kp T.B5 rfl (ca_cons (ce_v 4 rfl (.inl rfl)) (ca_cons (ce_bin ok_I2 op_add (ce_idx (fun _ _ => rfl) (ce_v 6 rfl (.inl rfl)) ce_int) ce_int) (ca_cons ce_int ca_nil)))) (nomark _)) (cs_cons (cs_ret ce_bl) cs_nil) cs_nil) (cs_cons (cs_set 7 (ce_tup (cv_cons (ce_tup (cv_cons (ce_v 2 rfl (.inl rfl)) (cv_cons ce_int (cv_cons (ce_un ok_I1 un_neg ce_int) cv_nil))) (lenZ rfl)) (cv_cons (ce_tup (cv_cons (ce_v 2 rfl (.inl rfl)) (cv_cons ce_int (cv_cons (ce_un ok_I1 un_neg ce_int) cv_nil))) (lenZ rfl)) cv_nil)) (lenZ rfl)) sc21.nd rfl (.inl rfl)) (cs_cons (cs_set 8 (ce_call L.k11 L.l11 hr T.G11 T.F11.kp T.B11 rfl (ca_cons (ce_v 7 rfl (.inl rfl)) (ca_cons (ce_v 5 rfl (.inl rfl)) ca_nil))) sc21.nd rfl (.inl rfl)) (cs_cons (cs_for PassesOwn.never rfl (ci_seq (ce_v 8 rfl (.inl rfl))) (cg_t rfl (cg_n 9 sc21.nd rfl (.inl rfl)) (cg_n 10 sc21.nd rfl (.inl rfl))) (cs_cons (cs_ite (PW.pt (ct_or (ct_cmp ok_IB op_gt (ce_bin ok_I2 op_sub (ce_v 10 rfl (.inl rfl)) (ce_v 9 rfl (.inl rfl))) ce_int (nomark _)) (ct_or1 (ct_not (ct_chain ok_IB ok_IB op_le op_le (ce_bin ok_I2 op_sub (ce_bin ok_IC op_mulZ ce_int (ce_v 9 rfl (.inl rfl))) ce_int) (ce_v 2 rfl (.inl rfl)) (ce_bin ok_I2 op_add (ce_bin ok_IC op_mulZ ce_int (ce_v 10 rfl (.inl rfl))) ce_int)))))) (cs_cons (cs_ret ce_bl) cs_nil) cs_nil) cs_nil)) (cs_cons (cs_ite (PW.pt (ct_or (ct_cmp ok_IB op_lt (ce_call L.k12 L.l12 hr T.G12 T.F12.kp T.B12 rfl (ca_cons (ce_v 7 rfl (.inl rfl)) (ca_cons (ce_v 5 rfl (.inl rfl)) ca_nil))) ce_int (nomark _)) (ct_or1 (ct_cmp ok_ne (op_neZ hr.units) (ce_call L.k8 L.l8 hr T.G8 T.F8.kp T.B8 rfl (ca_cons (ce_v 7 rfl (.inl rfl)) (ca_cons (ce_v 8 rfl (.inl rfl)) ca_nil))) (ce_v 8 rfl (.inl rfl)) (nomark _))))) (cs_cons (cs_ret ce_bl) cs_nil) cs_nil) (cs_cons (cs_set 11 (ce_tup (cv_cons (ce_tup (cv_cons (ce_v 2 rfl (.inl rfl)) (cv_cons ce_int (cv_cons ce_int cv_nil))) (lenZ rfl)) (cv_cons (ce_tup (cv_cons (ce_v 2 rfl (.inl rfl)) (cv_cons ce_int (cv_cons ce_int cv_nil))) (lenZ rfl)) cv_nil)) (lenZ rfl)) sc21.nd rfl (.inl rfl)) (cs_cons (cs_for PassesOwn.never rfl (ci_seq (ce_call L.k11 L.l11 hr T.G11 T.F11.kp T.B11 rfl (ca_cons (ce_v 11 rfl (.inl rfl)) (ca_cons (ce_v 5 rfl (.inl rfl)) ca_nil)))) (cg_t rfl (cg_n 9 sc21.nd rfl (.inl rfl)) (cg_n 10 sc21.nd rfl (.inl rfl))) (cs_cons (cs_ite (PW.pt (ct_or (ct_cmp ok_IB op_gt (ce_bin ok_I2 op_sub (ce_v 10 rfl (.inl rfl)) (ce_v 9 rfl (.inl rfl))) ce_int (nomark _)) (ct_or1 (ct_not (ct_chain ok_IB ok_IB op_le op_le (ce_bin ok_I2 op_sub (ce_v 9 rfl (.inl rfl)) ce_int) (ce_v 2 rfl (.inl rfl)) (ce_bin ok_I2 op_add (ce_v 10 rfl (.inl rfl)) ce_int)))))) (cs_cons (cs_ret ce_bl) cs_nil) cs_nil) cs_nil)) (cs_cons (cs_ite (PW.pt (ct_or (ct_not (ct_of (fun _ h => pt_val h) (ce_call L.k13 L.l13 hr T.G13 T.F13.kp T.B13 rfl (ca_cons (ce_v 7 rfl (.inl rfl)) (ca_cons (ce_v 5 rfl (.inl rfl)) (ca_cons (ce_bin ok_IC op_pow ce_int ce_int) ca_nil)))))) (ct_or (ct_of (fun _ h => pt_val h) (ce_call L.k13 L.l13 hr T.G13 T.F13.kp T.B13 rfl (ca_cons (ce_v 7 rfl (.inl rfl)) (ca_cons (ce_v 8 rfl (.inl rfl)) (ca_cons (ce_idx (fun _ _ => rfl) (ce_idx (fun _ _ => rfl) (ce_v 8 rfl (.inl rfl)) ce_int) ce_int) ca_nil))))) (ct_or1 (ct_not (ct_of (fun _ h => pt_val h) (ce_call L.k13 L.l13 hr T.G13 T.F13.kp T.B13 rfl (ca_cons (ce_v 11 rfl (.inl rfl)) (ca_cons (ce_v 5 rfl (.inl rfl)) (ca_cons ce_int ca_nil)))))))))) (cs_cons (cs_ret ce_bl) cs_nil) cs_nil) (cs_cons (cs_ite (PW.pt (ct_or (ct_cmp ok_ne (op_neZ hr.units) (ce_call L.k14 L.l14 hr T.G14 T.F14.kp T.B14 rfl (ca_cons (ce_tup (cv_cons (ce_bin ok_I2 op_sub ce_int (ce_v 2 rfl (.inl rfl))) (cv_cons ce_int (cv_cons ce_int cv_nil))) (lenZ rfl)) (ca_cons (ce_tup (cv_cons ce_int (cv_cons (ce_v 2 rfl (.inl rfl)) cv_nil)) (lenZ rfl)) (ca_cons ce_int ca_nil)))) (ce_tup (cv_cons ce_int (cv_cons ce_int cv_nil)) (lenZ rfl)) (nomark _)) (ct_or1 (ct_cmp ok_ne (op_neZ hr.units) (ce_call L.k14 L.l14 hr T.G14 T.F14.kp T.B14 rfl (ca_cons (ce_tup (cv_cons (ce_v 2 rfl (.inl rfl)) (cv_cons ce_int (cv_cons ce_int cv_nil))) (lenZ rfl)) (ca_cons (ce_tup (cv_cons ce_int (cv_cons ce_int cv_nil)) (lenZ rfl)) (ca_cons ce_int ca_nil)))) (ce_tup (cv_cons ce_int (cv_cons ce_int cv_nil)) (lenZ rfl)) (nomark _))))) (cs_cons (cs_ret ce_bl) cs_nil) cs_nil) (cs_cons (cs_set 9 (ce_bin ok_I2 op_add ce_int (ce_call L.k20 L.l20 hr T.G20 T.F20.kp T.B20 rfl (ca_cons (ce_v 1 rfl (.inl rfl)) (ca_cons ce_int ca_nil)))) sc21.nd rfl (.inl rfl)) (cs_cons (cs_set 12 (ce_tup (cv_cons (ce_bin ok_I2 op_add ce_int (ce_call L.k20 L.l20 hr T.G20 T.F20.kp T.B20 rfl (ca_cons (ce_v 1 rfl (.inl rfl)) (ca_cons (ce_bin ok_I2 op_sub (ce_v 9 rfl (.inl rfl)) ce_int) ca_nil)))) (cv_cons (ce_v 9 rfl (.inl rfl)) cv_nil)) (lenZ rfl)) sc21.nd rfl (.inl rfl)) (cs_cons (cs_par2 (i := 13) (j := 14) rfl sc21.nd rfl rfl (by decide) rfl rfl (cl_cons (ce_call L.k17 L.l17 hr T.G17 T.F17.kp T.B17 rfl (ca_cons (ce_v 12 rfl (.inl rfl)) (ca_cons (ce_v 2 rfl (.inl rfl)) ca_nil))) (cl_cons (ce_call L.k18 L.l18 hr T.G18 T.F18.kp T.B18 rfl (ca_cons (ce_v 12 rfl (.inl rfl)) (ca_cons (ce_v 2 rfl (.inl rfl)) ca_nil))) cl_nil)) rfl) (cs_cons (cs_ite (PW.pt (ct_or (ct_cmp ok_ne (op_neZ hr.units) (ce_call L.k17 L.l17 hr T.G17 T.F17.kp T.B17 rfl (ca_cons (ce_v 12 rfl (.inl rfl)) (ca_cons (ce_v 13 rfl (.inl rfl)) ca_nil))) (ce_v 13 rfl (.inl rfl)) (nomark _)) (ct_or (ct_cmp ok_ne (op_neZ hr.units) (ce_call L.k18 L.l18 hr T.G18 T.F18.kp T.B18 rfl (ca_cons (ce_v 12 rfl (.inl rfl)) (ca_cons (ce_v 13 rfl (.inl rfl)) ca_nil))) ce_int (nomark _)) (ct_or1 (ct_cmp ok_IB op_lt (ce_call L.k17 L.l17 hr T.G17 T.F17.kp T.B17 rfl (ca_cons (ce_v 12 rfl (.inl rfl)) (ca_cons (ce_bin ok_I2 op_add (ce_v 2 rfl (.inl rfl)) ce_int) ca_nil))) (ce_v 13 rfl (.inl rfl)) (nomark _)))))) (cs_cons (cs_ret ce_bl) cs_nil) cs_nil) (cs_cons (cs_ite (PW.pt (ct_or (PW.pt (ct_and (ct_cmp ok_IB op_lt (ce_bin ok_IC op_mulZ ce_int (ce_idx (fun _ _ => rfl) (ce_v 12 rfl (.inl rfl)) ce_int)) (ce_v 9 rfl (.inl rfl)) (nomark _)) (ct_and1 (ct_cmp ok_ne (op_neZ hr.units) (ce_v 13 rfl (.inl rfl)) ce_int (nomark _))))) (ct_or (PW.pt (ct_and (ct_cmp ok_eq (op_eqZ hr.units) (ce_bin ok_IC op_mulZ ce_int (ce_idx (fun _ _ => rfl) (ce_v 12 rfl (.inl rfl)) ce_int)) (ce_v 9 rfl (.inl rfl)) (nomark _)) (ct_and1 (ct_cmp ok_ne (op_neZ hr.units) (ce_v 13 rfl (.inl rfl)) ce_int (nomark _))))) (ct_or1 (ct_cmp ok_IB op_gt (ce_bin ok_IC op_mulZ (ce_bin ok_IC op_mulZ (ce_v 13 rfl (.inl rfl)) ce_int) (ce_bin ok_I2 op_sub (ce_v 9 rfl (.inl rfl)) (ce_idx (fun _ _ => rfl) (ce_v 12 rfl (.inl rfl)) ce_int))) (ce_v 9 rfl (.inl rfl)) (nomark _)))))) (cs_cons (cs_ret ce_bl) cs_nil) cs_nil) (cs_cons (cs_ite (PW.pt (ct_or (ct_cmp ok_ne (op_neZ hr.units) (ce_call L.k19 L.l19 hr T.G19 T.F19.kp T.B19 rfl (ca_cons (ce_v 12 rfl (.inl rfl)) (ca_cons (ce_v 2 rfl (.inl rfl)) (ca_cons (ce_v 2 rfl (.inl rfl)) ca_nil)))) ce_int (nomark _)) (ct_or1 (ct_notN (ce_call L.k19 L.l19 hr T.G19 T.F19.kp T.B19 rfl (ca_cons (ce_v 12 rfl (.inl rfl)) (ca_cons (ce_v 2 rfl (.inl rfl)) (ca_cons (ce_v 13 rfl (.inl rfl)) ca_nil)))))))) (cs_cons (cs_ret ce_bl) cs_nil) cs_nil) (cs_cons (cs_ite (ct_cmp ok_ne (op_neZ hr.units) (ce_call L.k19 L.l19 hr T.G19 T.F19.kp T.B19 rfl (ca_cons (ce_v 12 rfl (.inl rfl)) (ca_cons (ce_v 2 rfl (.inl rfl)) (ca_cons (ce_bin ok_I2 op_add (ce_v 13 rfl (.inl rfl)) ce_int) ca_nil)))) (ce_v 14 rfl (.inl rfl)) (nomark _)) (cs_cons (cs_ret ce_bl) cs_nil) cs_nil) (cs_cons (cs_set 15 (ce_bin ok_I2 op_add (ce_bin ok_I2 op_add (ce_v 13 rfl (.inl rfl)) ce_int) (ce_call L.k20 L.l20 hr T.G20 T.F20.kp T.B20 rfl (ca_cons (ce_v 1 rfl (.inl rfl)) (ca_cons (ce_bin ok_IC op_pow ce_int ce_int) ca_nil)))) sc21.nd rfl (.inl rfl)) (cs_cons (cs_ret (ce_chain3 ok_IB ok_IB ok_IB op_le op_le op_le ce_int (ce_call L.k19 L.l19 hr T.G19 T.F19.kp T.B19 rfl (ca_cons (ce_v 12 rfl (.inl rfl)) (ca_cons (ce_v 2 rfl (.inl rfl)) (ca_cons (ce_bin ok_I2 op_add (ce_v 15 rfl (.inl rfl)) ce_int) ca_nil)))) (ce_call L.k19 L.l19 hr T.G19 T.F19.kp T.B19 rfl (ca_cons (ce_v 12 rfl (.inl rfl)) (ca_cons (ce_v 2 rfl (.inl rfl)) (ca_cons (ce_v 15 rfl (.inl rfl)) ca_nil)))) (ce_v 14 rfl (.inl rfl)))) cs_nil)))))))))))))))))))))))))
theorem lv (T : Tops K mg) : ∀ n, Lv P w K mg base T n
  | 0 => ⟨fn_zero, fun _ _ e => (nomatch e), fn_zero, fun _ _ e => (nomatch e), fn_zero, fun _ _ e => (nomatch e), fn_zero, fun _ _ e => (nomatch e), fn_zero, fun _ _ e => (nomatch e), fn_zero, fun _ _ e => (nomatch e), fn_zero, fun _ _ e => (nomatch e), fn_zero, fun _ _ e => (nomatch e), fn_zero, fun _ _ e => (nomatch e), fn_zero, fun _ _ e => (nomatch e), fn_zero, fun _ _ e => (nomatch e), fn_zero, fun _ _ e => (nomatch e), fn_zero, fun _ _ e => (nomatch e), fn_zero, fun _ _ e => (nomatch e), fn_zero, fun _ _ e => (nomatch e), fn_zero, fun _ _ e => (nomatch e), fn_zero, fun _ _ e => (nomatch e), fn_zero, fun _ _ e => (nomatch e), fn_zero, fun _ _ e => (nomatch e), fn_zero, fun _ _ e => (nomatch e), fn_zero, fun _ _ e => (nomatch e), fn_zero, fun _ _ e => (nomatch e)⟩
  | n + 1 => ⟨fn_ok T.F0 sc0 (fun _ _ _ _ _ _ hr => body0 (lv T n) hr) (fun _ _ e => e), fun _ _ e => callBody_len e,
      fn_ok T.F1 sc1 (fun _ _ _ _ _ _ hr => body1 (lv T n) hr) (fun _ _ e => e), fun _ _ e => callBody_len e,
      fn_ok T.F2 sc2 (fun _ _ _ _ _ _ hr => body2 (lv T n) hr) (fun _ _ e => e), fun _ _ e => callBody_len e,
      fn_ok T.F3 sc3 (fun _ _ _ _ _ _ hr => body3 (lv T n) hr) (fun _ _ e => e), fun _ _ e => callBody_len e,
      fn_ok T.F4 sc4 (fun _ _ _ _ _ _ hr => body4 (lv T n) hr) (fun _ _ e => e), fun _ _ e => callBody_len e,
      fn_ok T.F5 sc5 (fun _ _ _ _ _ _ hr => body5 (lv T n) hr) (fun _ _ e => e), fun _ _ e => callBody_len e,
      fn_ok T.F6 sc6 (fun _ _ _ _ _ _ hr => body6 (lv T n) hr) (fun _ _ e => e), fun _ _ e => callBody_len e,
      fn_ok T.F7 sc7 (fun _ _ _ _ _ _ hr => body7 (lv T n) hr) (fun _ _ e => e), fun _ _ e => callBody_len e,
      fn_ok T.F8 sc8 (fun _ _ _ _ _ _ hr => body8 (lv T n) hr) (fun _ _ e => e), fun _ _ e => callBody_len e,
      fn_ok T.F9 sc9 (fun _ _ _ _ _ _ hr => body9 (lv T n) hr) (fun _ _ e => e), fun _ _ e => callBody_len e,
      fn_ok T.F10 sc10 (fun _ _ _ _ _ _ hr => body10 (lv T n) hr) (fun _ _ e => e), fun _ _ e => callBody_len e,
      fn_ok T.F11 sc11 (fun _ _ _ _ _ _ hr => body11 (lv T n) hr) (fun _ _ e => e), fun _ _ e => callBody_len e,
      fn_ok T.F12 sc12 (fun _ _ _ _ _ _ hr => body12 (lv T n) hr) (fun _ _ e => e), fun _ _ e => callBody_len e,
      fn_ok T.F13 sc13 (fun _ _ _ _ _ _ hr => body13 (lv T n) hr) (fun _ _ e => e), fun _ _ e => callBody_len e,
      fn_ok T.F14 sc14 (fun _ _ _ _ _ _ hr => body14 (lv T n) hr) (fun _ _ e => e), fun _ _ e => callBody_len e,
      fn_ok T.F15 sc15 (fun _ _ _ _ _ _ hr => body15 (lv T n) hr) (fun _ _ e => e), fun _ _ e => callBody_len e,
      fn_ok T.F16 sc16 (fun _ _ _ _ _ _ hr => body16 (lv T n) hr) (fun _ _ e => e), fun _ _ e => callBody_len e,
      fn_ok T.F17 sc17 (fun _ _ _ _ _ _ hr => body17 (lv T n) hr) (fun _ _ e => e), fun _ _ e => callBody_len e,
      fn_ok T.F18 sc18 (fun _ _ _ _ _ _ hr => body18 (lv T n) hr) (fun _ _ e => e), fun _ _ e => callBody_len e,
      fn_ok T.F19 sc19 (fun _ _ _ _ _ _ hr => body19 (lv T n) hr) (fun _ _ e => e), fun _ _ e => callBody_len e,
      fn_ok T.F20 sc20 (fun _ _ _ _ _ _ hr => body20 (lv T n) hr) (fun _ _ e => e), fun _ _ e => callBody_len e,
      fn_ok T.F21 sc21 (fun _ _ _ _ _ _ hr => body21 (lv T n) hr) (fun _ _ e => e), fun _ _ e => callBody_len e⟩
end
end L2.Z.K56

namespace L2.Z.K56
open PySem PySem.Spec PyProof.Rows L2 L2.Z
theorem all_mk {l : PySem.W.OpenLaw} {w : World} {K : PySem.W.Frag} {h : Heap} {mg : Str → Option Value} {fa : Addr} (X : K.In h) (G : h.Ns mainGlobals mg) (hfa : mg "law" = some (.ref fa))
    {od0 an0 : Option Addr} {sl0 : Array (Option Value)} {oc0 kV0 dc0 pm0 cd0 ct0 : Value} {f0 : Addr}
    (a0 : PySem.W.nsIn K mainGlobals "is_int" = some (some (.ref f0))) (l0 : K.lookup f0 = some ⟨oc0, od0, .func (PySem.W.fnOf "is_int" "is_int" (defArgs s0) (defBody s0) (defScope s0) .none kV0 dc0 pm0 an0 cd0 ct0), sl0⟩) (c0 : PySem.W.codeIn K cd0 "is_int" = true) (k0 : PySem.W.keepIn K (.ref f0) = true)
    {od1 an1 : Option Addr} {sl1 : Array (Option Value)} {oc1 kV1 dc1 pm1 cd1 ct1 : Value} {f1 : Addr}
    (a1 : PySem.W.nsIn K mainGlobals "is_from" = some (some (.ref f1))) (l1 : K.lookup f1 = some ⟨oc1, od1, .func (PySem.W.fnOf "is_from" "is_from" (defArgs s1) (defBody s1) (defScope s1) .none kV1 dc1 pm1 an1 cd1 ct1), sl1⟩) (c1 : PySem.W.codeIn K cd1 "is_from" = true) (k1 : PySem.W.keepIn K (.ref f1) = true)
    {od2 an2 : Option Addr} {sl2 : Array (Option Value)} {oc2 kV2 dc2 pm2 cd2 ct2 : Value} {f2 : Addr}
    (a2 : PySem.W.nsIn K mainGlobals "need_from" = some (some (.ref f2))) (l2 : K.lookup f2 = some ⟨oc2, od2, .func (PySem.W.fnOf "need_from" "need_from" (defArgs s2) (defBody s2) (defScope s2) .none kV2 dc2 pm2 an2 cd2 ct2), sl2⟩) (c2 : PySem.W.codeIn K cd2 "need_from" = true) (k2 : PySem.W.keepIn K (.ref f2) = true)
    {od3 an3 : Option Addr} {sl3 : Array (Option Value)} {oc3 kV3 dc3 pm3 cd3 ct3 : Value} {f3 : Addr}
    (a3 : PySem.W.nsIn K mainGlobals "need_rule" = some (some (.ref f3))) (l3 : K.lookup f3 = some ⟨oc3, od3, .func (PySem.W.fnOf "need_rule" "need_rule" (defArgs s3) (defBody s3) (defScope s3) .none kV3 dc3 pm3 an3 cd3 ct3), sl3⟩) (c3 : PySem.W.codeIn K cd3 "need_rule" = true) (k3 : PySem.W.keepIn K (.ref f3) = true)
    {od4 an4 : Option Addr} {sl4 : Array (Option Value)} {oc4 kV4 dc4 pm4 cd4 ct4 : Value} {f4 : Addr}
    (a4 : PySem.W.nsIn K mainGlobals "need_spans" = some (some (.ref f4))) (l4 : K.lookup f4 = some ⟨oc4, od4, .func (PySem.W.fnOf "need_spans" "need_spans" (defArgs s4) (defBody s4) (defScope s4) .none kV4 dc4 pm4 an4 cd4 ct4), sl4⟩) (c4 : PySem.W.codeIn K cd4 "need_spans" = true) (k4 : PySem.W.keepIn K (.ref f4) = true)
    {od5 an5 : Option Addr} {sl5 : Array (Option Value)} {oc5 kV5 dc5 pm5 cd5 ct5 : Value} {f5 : Addr}
    (a5 : PySem.W.nsIn K mainGlobals "worth" = some (some (.ref f5))) (l5 : K.lookup f5 = some ⟨oc5, od5, .func (PySem.W.fnOf "worth" "worth" (defArgs s5) (defBody s5) (defScope s5) .none kV5 dc5 pm5 an5 cd5 ct5), sl5⟩) (c5 : PySem.W.codeIn K cd5 "worth" = true) (k5 : PySem.W.keepIn K (.ref f5) = true)
    {od6 an6 : Option Addr} {sl6 : Array (Option Value)} {oc6 kV6 dc6 pm6 cd6 ct6 : Value} {f6 : Addr}
    (a6 : PySem.W.nsIn K mainGlobals "worth_of" = some (some (.ref f6))) (l6 : K.lookup f6 = some ⟨oc6, od6, .func (PySem.W.fnOf "worth_of" "worth_of" (defArgs s6) (defBody s6) (defScope s6) .none kV6 dc6 pm6 an6 cd6 ct6), sl6⟩) (c6 : PySem.W.codeIn K cd6 "worth_of" = true) (k6 : PySem.W.keepIn K (.ref f6) = true)
    {od7 an7 : Option Addr} {sl7 : Array (Option Value)} {oc7 kV7 dc7 pm7 cd7 ct7 : Value} {f7 : Addr}
    (a7 : PySem.W.nsIn K mainGlobals "cut_span" = some (some (.ref f7))) (l7 : K.lookup f7 = some ⟨oc7, od7, .func (PySem.W.fnOf "cut_span" "cut_span" (defArgs s7) (defBody s7) (defScope s7) .none kV7 dc7 pm7 an7 cd7 ct7), sl7⟩) (c7 : PySem.W.codeIn K cd7 "cut_span" = true) (k7 : PySem.W.keepIn K (.ref f7) = true)
    {od8 an8 : Option Addr} {sl8 : Array (Option Value)} {oc8 kV8 dc8 pm8 cd8 ct8 : Value} {f8 : Addr}
    (a8 : PySem.W.nsIn K mainGlobals "next_spans" = some (some (.ref f8))) (l8 : K.lookup f8 = some ⟨oc8, od8, .func (PySem.W.fnOf "next_spans" "next_spans" (defArgs s8) (defBody s8) (defScope s8) .none kV8 dc8 pm8 an8 cd8 ct8), sl8⟩) (c8 : PySem.W.codeIn K cd8 "next_spans" = true) (k8 : PySem.W.keepIn K (.ref f8) = true)
    {od9 an9 : Option Addr} {sl9 : Array (Option Value)} {oc9 kV9 dc9 pm9 cd9 ct9 : Value} {f9 : Addr}
    (a9 : PySem.W.nsIn K mainGlobals "need_rules" = some (some (.ref f9))) (l9 : K.lookup f9 = some ⟨oc9, od9, .func (PySem.W.fnOf "need_rules" "need_rules" (defArgs s9) (defBody s9) (defScope s9) .none kV9 dc9 pm9 an9 cd9 ct9), sl9⟩) (c9 : PySem.W.codeIn K cd9 "need_rules" = true) (k9 : PySem.W.keepIn K (.ref f9) = true)
    {od10 an10 : Option Addr} {sl10 : Array (Option Value)} {oc10 kV10 dc10 pm10 cd10 ct10 : Value} {f10 : Addr}
    (a10 : PySem.W.nsIn K mainGlobals "walk" = some (some (.ref f10))) (l10 : K.lookup f10 = some ⟨oc10, od10, .func (PySem.W.fnOf "walk" "walk" (defArgs s10) (defBody s10) (defScope s10) .none kV10 dc10 pm10 an10 cd10 ct10), sl10⟩) (c10 : PySem.W.codeIn K cd10 "walk" = true) (k10 : PySem.W.keepIn K (.ref f10) = true)
    {od11 an11 : Option Addr} {sl11 : Array (Option Value)} {oc11 kV11 dc11 pm11 cd11 ct11 : Value} {f11 : Addr}
    (a11 : PySem.W.nsIn K mainGlobals "last_spans" = some (some (.ref f11))) (l11 : K.lookup f11 = some ⟨oc11, od11, .func (PySem.W.fnOf "last_spans" "last_spans" (defArgs s11) (defBody s11) (defScope s11) .none kV11 dc11 pm11 an11 cd11 ct11), sl11⟩) (c11 : PySem.W.codeIn K cd11 "last_spans" = true) (k11 : PySem.W.keepIn K (.ref f11) = true)
    {od12 an12 : Option Addr} {sl12 : Array (Option Value)} {oc12 kV12 dc12 pm12 cd12 ct12 : Value} {f12 : Addr}
    (a12 : PySem.W.nsIn K mainGlobals "span_rounds" = some (some (.ref f12))) (l12 : K.lookup f12 = some ⟨oc12, od12, .func (PySem.W.fnOf "span_rounds" "span_rounds" (defArgs s12) (defBody s12) (defScope s12) .none kV12 dc12 pm12 an12 cd12 ct12), sl12⟩) (c12 : PySem.W.codeIn K cd12 "span_rounds" = true) (k12 : PySem.W.keepIn K (.ref f12) = true)
    {od13 an13 : Option Addr} {sl13 : Array (Option Value)} {oc13 kV13 dc13 pm13 cd13 ct13 : Value} {f13 : Addr}
    (a13 : PySem.W.nsIn K mainGlobals "falls" = some (some (.ref f13))) (l13 : K.lookup f13 = some ⟨oc13, od13, .func (PySem.W.fnOf "falls" "falls" (defArgs s13) (defBody s13) (defScope s13) .none kV13 dc13 pm13 an13 cd13 ct13), sl13⟩) (c13 : PySem.W.codeIn K cd13 "falls" = true) (k13 : PySem.W.keepIn K (.ref f13) = true)
    {od14 an14 : Option Addr} {sl14 : Array (Option Value)} {oc14 kV14 dc14 pm14 cd14 ct14 : Value} {f14 : Addr}
    (a14 : PySem.W.nsIn K mainGlobals "answer_span" = some (some (.ref f14))) (l14 : K.lookup f14 = some ⟨oc14, od14, .func (PySem.W.fnOf "answer_span" "answer_span" (defArgs s14) (defBody s14) (defScope s14) .none kV14 dc14 pm14 an14 cd14 ct14), sl14⟩) (c14 : PySem.W.codeIn K cd14 "answer_span" = true) (k14 : PySem.W.keepIn K (.ref f14) = true)
    {od15 an15 : Option Addr} {sl15 : Array (Option Value)} {oc15 kV15 dc15 pm15 cd15 ct15 : Value} {f15 : Addr}
    (a15 : PySem.W.nsIn K mainGlobals "need_guess" = some (some (.ref f15))) (l15 : K.lookup f15 = some ⟨oc15, od15, .func (PySem.W.fnOf "need_guess" "need_guess" (defArgs s15) (defBody s15) (defScope s15) .none kV15 dc15 pm15 an15 cd15 ct15), sl15⟩) (c15 : PySem.W.codeIn K cd15 "need_guess" = true) (k15 : PySem.W.keepIn K (.ref f15) = true)
    {od16 an16 : Option Addr} {sl16 : Array (Option Value)} {oc16 kV16 dc16 pm16 cd16 ct16 : Value} {f16 : Addr}
    (a16 : PySem.W.nsIn K mainGlobals "guess_cut" = some (some (.ref f16))) (l16 : K.lookup f16 = some ⟨oc16, od16, .func (PySem.W.fnOf "guess_cut" "guess_cut" (defArgs s16) (defBody s16) (defScope s16) .none kV16 dc16 pm16 an16 cd16 ct16), sl16⟩) (c16 : PySem.W.codeIn K cd16 "guess_cut" = true) (k16 : PySem.W.keepIn K (.ref f16) = true)
    {od17 an17 : Option Addr} {sl17 : Array (Option Value)} {oc17 kV17 dc17 pm17 cd17 ct17 : Value} {f17 : Addr}
    (a17 : PySem.W.nsIn K mainGlobals "guess_last" = some (some (.ref f17))) (l17 : K.lookup f17 = some ⟨oc17, od17, .func (PySem.W.fnOf "guess_last" "guess_last" (defArgs s17) (defBody s17) (defScope s17) .none kV17 dc17 pm17 an17 cd17 ct17), sl17⟩) (c17 : PySem.W.codeIn K cd17 "guess_last" = true) (k17 : PySem.W.keepIn K (.ref f17) = true)
    {od18 an18 : Option Addr} {sl18 : Array (Option Value)} {oc18 kV18 dc18 pm18 cd18 ct18 : Value} {f18 : Addr}
    (a18 : PySem.W.nsIn K mainGlobals "guess_rounds" = some (some (.ref f18))) (l18 : K.lookup f18 = some ⟨oc18, od18, .func (PySem.W.fnOf "guess_rounds" "guess_rounds" (defArgs s18) (defBody s18) (defScope s18) .none kV18 dc18 pm18 an18 cd18 ct18), sl18⟩) (c18 : PySem.W.codeIn K cd18 "guess_rounds" = true) (k18 : PySem.W.keepIn K (.ref f18) = true)
    {od19 an19 : Option Addr} {sl19 : Array (Option Value)} {oc19 kV19 dc19 pm19 cd19 ct19 : Value} {f19 : Addr}
    (a19 : PySem.W.nsIn K mainGlobals "guess_round_of" = some (some (.ref f19))) (l19 : K.lookup f19 = some ⟨oc19, od19, .func (PySem.W.fnOf "guess_round_of" "guess_round_of" (defArgs s19) (defBody s19) (defScope s19) .none kV19 dc19 pm19 an19 cd19 ct19), sl19⟩) (c19 : PySem.W.codeIn K cd19 "guess_round_of" = true) (k19 : PySem.W.keepIn K (.ref f19) = true)
    {od20 an20 : Option Addr} {sl20 : Array (Option Value)} {oc20 kV20 dc20 pm20 cd20 ct20 : Value} {f20 : Addr}
    (a20 : PySem.W.nsIn K mainGlobals "_law_taken" = some (some (.ref f20))) (l20 : K.lookup f20 = some ⟨oc20, od20, .func (PySem.W.fnOf "_law_taken" "_law_taken" (defArgs s20) (defBody s20) (defScope s20) .none kV20 dc20 pm20 an20 cd20 ct20), sl20⟩) (c20 : PySem.W.codeIn K cd20 "_law_taken" = true) (k20 : PySem.W.keepIn K (.ref f20) = true)
    {od21 an21 : Option Addr} {sl21 : Array (Option Value)} {oc21 kV21 dc21 pm21 cd21 ct21 : Value} {f21 : Addr}
    (a21 : PySem.W.nsIn K mainGlobals "law" = some (some (.ref f21))) (l21 : K.lookup f21 = some ⟨oc21, od21, .func (PySem.W.fnOf "law" "law" (defArgs s21) (defBody s21) (defScope s21) .none kV21 dc21 pm21 an21 cd21 ct21), sl21⟩) (c21 : PySem.W.codeIn K cd21 "law" = true) (k21 : PySem.W.keepIn K (.ref f21) = true)
    (z_all : PySem.W.nsIn K mainGlobals "all" = some none)
    (z_bool : PySem.W.nsIn K mainGlobals "bool" = some none)
    (z_int : PySem.W.nsIn K mainGlobals "int" = some none)
    (z_isinstance : PySem.W.nsIn K mainGlobals "isinstance" = some none)
    (z_len : PySem.W.nsIn K mainGlobals "len" = some none)
    (z_max : PySem.W.nsIn K mainGlobals "max" = some none)
    (z_min : PySem.W.nsIn K mainGlobals "min" = some none)
    (z_tuple : PySem.W.nsIn K mainGlobals "tuple" = some none)
    {t_MOST_SPAN : Tok} (y_MOST_SPAN : PySem.W.nsIn K mainGlobals "MOST_SPAN" = some (some (.int 1000000000000000000000000000000000000000000000000000000000000 t_MOST_SPAN)))
    {t_MOST_STEEP : Tok} (y_MOST_STEEP : PySem.W.nsIn K mainGlobals "MOST_STEEP" = some (some (.int 20 t_MOST_STEEP))) :
    ∃ fd : FuncData, (∀ (s : Shared) (v : Value), BindsTo s fd ⟨[v], []⟩ [("_law_script", v)]) ∧ ∀ base : Heap, K.In base → base.Ns mainGlobals mg → FnOk l.prog w K mg base CX0 LV fa fd ["_law_script"] (spLaw K) := by
  have e := hfa.symm.trans (PySem.W.mg_of X G a21)
  cases e
  refine ⟨PySem.W.fnOf "law" "law" (defArgs s21) (defBody s21) (defScope s21) .none kV21 dc21 pm21 an21 cd21 ct21, fun s v => .of_eq rfl, fun base _ _ => ?_⟩
  exact law_ok (lv (⟨f0, _, fun_mk (st := s0) l0 c0 k0, (fun_mk (st := s0) l0 c0 k0).binds (ps := P0) (fun _ _ _ _ _ _ us hl => match us, hl with | [_], _ => rfl), PySem.W.mg_of X G a0,
    f1, _, fun_mk (st := s1) l1 c1 k1, (fun_mk (st := s1) l1 c1 k1).binds (ps := P1) (fun _ _ _ _ _ _ us hl => match us, hl with | [_, _, _], _ => rfl), PySem.W.mg_of X G a1,
    f2, _, fun_mk (st := s2) l2 c2 k2, (fun_mk (st := s2) l2 c2 k2).binds (ps := P2) (fun _ _ _ _ _ _ us hl => match us, hl with | [_, _, _], _ => rfl), PySem.W.mg_of X G a2,
    f3, _, fun_mk (st := s3) l3 c3 k3, (fun_mk (st := s3) l3 c3 k3).binds (ps := P3) (fun _ _ _ _ _ _ us hl => match us, hl with | [_], _ => rfl), PySem.W.mg_of X G a3,
    f4, _, fun_mk (st := s4) l4 c4 k4, (fun_mk (st := s4) l4 c4 k4).binds (ps := P4) (fun _ _ _ _ _ _ us hl => match us, hl with | [_], _ => rfl), PySem.W.mg_of X G a4,
    f5, _, fun_mk (st := s5) l5 c5 k5, (fun_mk (st := s5) l5 c5 k5).binds (ps := P5) (fun _ _ _ _ _ _ us hl => match us, hl with | [_, _, _], _ => rfl), PySem.W.mg_of X G a5,
    f6, _, fun_mk (st := s6) l6 c6 k6, (fun_mk (st := s6) l6 c6 k6).binds (ps := P6) (fun _ _ _ _ _ _ us hl => match us, hl with | [_, _, _], _ => rfl), PySem.W.mg_of X G a6,
    f7, _, fun_mk (st := s7) l7 c7 k7, (fun_mk (st := s7) l7 c7 k7).binds (ps := P7) (fun _ _ _ _ _ _ us hl => match us, hl with | [_, _, _], _ => rfl), PySem.W.mg_of X G a7,
    f8, _, fun_mk (st := s8) l8 c8 k8, (fun_mk (st := s8) l8 c8 k8).binds (ps := P8) (fun _ _ _ _ _ _ us hl => match us, hl with | [_, _], _ => rfl), PySem.W.mg_of X G a8,
    f9, _, fun_mk (st := s9) l9 c9 k9, (fun_mk (st := s9) l9 c9 k9).binds (ps := P9) (fun _ _ _ _ _ _ us hl => match us, hl with | [_], _ => rfl), PySem.W.mg_of X G a9,
    f10, _, fun_mk (st := s10) l10 c10 k10, (fun_mk (st := s10) l10 c10 k10).binds (ps := P10) (fun _ _ _ _ _ _ us hl => match us, hl with | [_, _], _ => rfl), PySem.W.mg_of X G a10,
    f11, _, fun_mk (st := s11) l11 c11 k11, (fun_mk (st := s11) l11 c11 k11).binds (ps := P11) (fun _ _ _ _ _ _ us hl => match us, hl with | [_, _], _ => rfl), PySem.W.mg_of X G a11,
    f12, _, fun_mk (st := s12) l12 c12 k12, (fun_mk (st := s12) l12 c12 k12).binds (ps := P12) (fun _ _ _ _ _ _ us hl => match us, hl with | [_, _], _ => rfl), PySem.W.mg_of X G a12,
    f13, _, fun_mk (st := s13) l13 c13 k13, (fun_mk (st := s13) l13 c13 k13).binds (ps := P13) (fun _ _ _ _ _ _ us hl => match us, hl with | [_, _, _], _ => rfl), PySem.W.mg_of X G a13,
    f14, _, fun_mk (st := s14) l14 c14 k14, (fun_mk (st := s14) l14 c14 k14).binds (ps := P14) (fun _ _ _ _ _ _ us hl => match us, hl with | [_, _, _], _ => rfl), PySem.W.mg_of X G a14,
    f15, _, fun_mk (st := s15) l15 c15 k15, (fun_mk (st := s15) l15 c15 k15).binds (ps := P15) (fun _ _ _ _ _ _ us hl => match us, hl with | [_], _ => rfl), PySem.W.mg_of X G a15,
    f16, _, fun_mk (st := s16) l16 c16 k16, (fun_mk (st := s16) l16 c16 k16).binds (ps := P16) (fun _ _ _ _ _ _ us hl => match us, hl with | [_, _], _ => rfl), PySem.W.mg_of X G a16,
    f17, _, fun_mk (st := s17) l17 c17 k17, (fun_mk (st := s17) l17 c17 k17).binds (ps := P17) (fun _ _ _ _ _ _ us hl => match us, hl with | [_, _], _ => rfl), PySem.W.mg_of X G a17,
    f18, _, fun_mk (st := s18) l18 c18 k18, (fun_mk (st := s18) l18 c18 k18).binds (ps := P18) (fun _ _ _ _ _ _ us hl => match us, hl with | [_, _], _ => rfl), PySem.W.mg_of X G a18,
    f19, _, fun_mk (st := s19) l19 c19 k19, (fun_mk (st := s19) l19 c19 k19).binds (ps := P19) (fun _ _ _ _ _ _ us hl => match us, hl with | [_, _, _], _ => rfl), PySem.W.mg_of X G a19,
    f20, _, fun_mk (st := s20) l20 c20 k20, (fun_mk (st := s20) l20 c20 k20).binds (ps := P20) (fun _ _ _ _ _ _ us hl => match us, hl with | [_, _], _ => rfl), PySem.W.mg_of X G a20,
    fa, _, fun_mk (st := s21) l21 c21 k21, (fun_mk (st := s21) l21 c21 k21).binds (ps := P21) (fun _ _ _ _ _ _ us hl => match us, hl with | [_], _ => rfl), PySem.W.mg_of X G a21,
    PySem.W.mg_none_of X G z_all,
    PySem.W.mg_none_of X G z_bool,
    PySem.W.mg_none_of X G z_int,
    PySem.W.mg_none_of X G z_isinstance,
    PySem.W.mg_none_of X G z_len,
    PySem.W.mg_none_of X G z_max,
    PySem.W.mg_none_of X G z_min,
    PySem.W.mg_none_of X G z_tuple,
    t_MOST_SPAN, PySem.W.mg_of X G y_MOST_SPAN,
    t_MOST_STEEP, PySem.W.mg_of X G y_MOST_STEEP⟩ : Tops K mg) LV).k21 law_true
end L2.Z.K56
open PySem PySem.W PyProof.Rows
set_option maxHeartbeats 0 in
theorem PySem.Challenge.cw_struckboards_k56_across_great_spans_holds : PySem.Challenge.rw_struckboards_k56_across_great_spans.Holds := by
  w_on; o_law; k_head; (case hw => w_witness2)
  k_fill
  refine L2.walk_of (l := PySem.Challenge.rw_struckboards_k56_across_great_spans) (n := 63) (k := L2.Z.K56.LV) (x := "_law_script") (CX := fun _ => L2.CX0) (sp := fun w => L2.Z.spLaw _) rfl (by decide) rfl ⟨rfl, by decide, by decide⟩ (fun w h Y => PySem.W.kIn_of Y) ?F (fun _ _ a ns hl _ hS => ⟨a, ns, rfl, hS, hl, fun _ => rfl⟩) (fun _ _ _ _ _ h => h)
  case F =>
    intro w mg fa h KX G hmg
    refine' L2.Z.K56.all_mk KX G hmg ?a0 ?l0 ?c0 ?k0 ?a1 ?l1 ?c1 ?k1 ?a2 ?l2 ?c2 ?k2 ?a3 ?l3 ?c3 ?k3 ?a4 ?l4 ?c4 ?k4 ?a5 ?l5 ?c5 ?k5 ?a6 ?l6 ?c6 ?k6 ?a7 ?l7 ?c7 ?k7 ?a8 ?l8 ?c8 ?k8 ?a9 ?l9 ?c9 ?k9 ?a10 ?l10 ?c10 ?k10 ?a11 ?l11 ?c11 ?k11 ?a12 ?l12 ?c12 ?k12 ?a13 ?l13 ?c13 ?k13 ?a14 ?l14 ?c14 ?k14 ?a15 ?l15 ?c15 ?k15 ?a16 ?l16 ?c16 ?k16 ?a17 ?l17 ?c17 ?k17 ?a18 ?l18 ?c18 ?k18 ?a19 ?l19 ?c19 ?k19 ?a20 ?l20 ?c20 ?k20 ?a21 ?l21 ?c21 ?k21 ?z_all ?z_bool ?z_int ?z_isinstance ?z_len ?z_max ?z_min ?z_tuple ?y_MOST_SPAN ?y_MOST_STEEP
    (case a0 => k_is); (case l0 => k_is); (case c0 => k_is); (case k0 => k_is); (case a1 => k_is); (case l1 => k_is); (case c1 => k_is); (case k1 => k_is); (case a2 => k_is); (case l2 => k_is); (case c2 => k_is); (case k2 => k_is); (case a3 => k_is); (case l3 => k_is); (case c3 => k_is); (case k3 => k_is); (case a4 => k_is); (case l4 => k_is); (case c4 => k_is); (case k4 => k_is); (case a5 => k_is); (case l5 => k_is); (case c5 => k_is); (case k5 => k_is); (case a6 => k_is); (case l6 => k_is); (case c6 => k_is); (case k6 => k_is); (case a7 => k_is); (case l7 => k_is); (case c7 => k_is); (case k7 => k_is); (case a8 => k_is); (case l8 => k_is); (case c8 => k_is); (case k8 => k_is); (case a9 => k_is); (case l9 => k_is); (case c9 => k_is); (case k9 => k_is); (case a10 => k_is); (case l10 => k_is); (case c10 => k_is); (case k10 => k_is); (case a11 => k_is); (case l11 => k_is); (case c11 => k_is); (case k11 => k_is); (case a12 => k_is); (case l12 => k_is); (case c12 => k_is); (case k12 => k_is); (case a13 => k_is); (case l13 => k_is); (case c13 => k_is); (case k13 => k_is); (case a14 => k_is); (case l14 => k_is); (case c14 => k_is); (case k14 => k_is); (case a15 => k_is); (case l15 => k_is); (case c15 => k_is); (case k15 => k_is); (case a16 => k_is); (case l16 => k_is); (case c16 => k_is); (case k16 => k_is); (case a17 => k_is); (case l17 => k_is); (case c17 => k_is); (case k17 => k_is); (case a18 => k_is); (case l18 => k_is); (case c18 => k_is); (case k18 => k_is); (case a19 => k_is); (case l19 => k_is); (case c19 => k_is); (case k19 => k_is); (case a20 => k_is); (case l20 => k_is); (case c20 => k_is); (case k20 => k_is); (case a21 => k_is); (case l21 => k_is); (case c21 => k_is); (case k21 => k_is); (case z_all => k_is); (case z_bool => k_is); (case z_int => k_is); (case z_isinstance => k_is); (case z_len => k_is); (case z_max => k_is); (case z_min => k_is); (case z_tuple => k_is); (case y_MOST_SPAN => k_is); (case y_MOST_STEEP => k_is)

