import PyProof.Rows.All
import Wide.All
import OpenK.AllK
import Wide.FinOn
import HandS.ForMost
import KE.DataEq
import KE.DataFind
import KE.DataAny
import KE.DataIsa
import KE.DataMinMax
import KE.SortData
import KE.SortKeyHeap
import HandS.DictTup
import HandS.List
import HandS.Star
import HandS.IsInst
import HandS.Wide
import HandS.Style
import HandS.Zip
import HandS.Rev
import KE.GoesEnum
import HandS.TupAny
import HandS.Conv
import KE.KTupSum
import HandS.TupMul
import KE.KDictSum
import PyProof.ListMulAny
import HandS.SetFor
import HandS.Strs
import PyProof.Rows.SetFrom
import KE.KDictList
import HandS.More
import HandS.TupLe
import PySem.Challenge.RW_struckboards_k01_whole_coming
set_option Elab.async false
set_option linter.all false
set_option maxRecDepth 100000
set_option maxHeartbeats 4000000
namespace L2.Z
open PySem PySem.Spec PyProof.Rows

def kD : Key → PyData
  | .inl i => .int i
  | .inr s => .str s

mutual
inductive Rp (K : PySem.W.Frag) (F : Hp) : V → PyData → Prop
  | non : Rp K F .non .none
  | bl (b : Bool) : Rp K F (.bl b) (.bool b)
  | int (i : Int) : Rp K F (.int i) (.int i)
  | str (x : Str) : Rp K F (.str x) (.str x)
  | lst {a : Addr} {xs : List V} {ds : List PyData} : SqL K F a xs → xs.length ≤ sizeLine → RpA K F xs ds → Rp K F (.ref a) (.list ds)
  | tup {a : Addr} {xs : List V} {ds : List PyData} : F a = some (.tup xs) → xs.length ≤ sizeLine → RpA K F xs ds → Rp K F (.ref a) (.tuple ds)
  | dk {a : Addr} {ps : List (Key × V)} {kvs : List (PyData × PyData)} : F a = some (.dK ps) → ps.length ≤ sizeLine → kvs.map Prod.fst = ps.map (fun p => kD p.1) →
      RpA K F (ps.map Prod.snd) (kvs.map Prod.snd) → Rp K F (.ref a) (.dict kvs)
  | dt {a : Addr} {ps : List (List Key × V)} {kvs : List (PyData × PyData)} : F a = some (.dT ps) → ps.length ≤ sizeLine → kvs.map Prod.fst = ps.map (fun p => .tuple (p.1.map kD)) →
      RpA K F (ps.map Prod.snd) (kvs.map Prod.snd) → Rp K F (.ref a) (.dict kvs)
inductive RpA (K : PySem.W.Frag) (F : Hp) : List V → List PyData → Prop
  | nil : RpA K F [] []
  | cons {v : V} {vs : List V} {d : PyData} {ds : List PyData} : Rp K F v d → RpA K F vs ds → RpA K F (v :: vs) (d :: ds)
end

theorem Same.sqT {K : PySem.W.Frag} {H H' : Hp} {a : Addr} {xs : List V} (e : Same H H') (h : SqT K H a xs) : SqT K H' a xs := by
  rcases h with (h | ⟨o, h⟩) | h
  · exact .inl (.inl (e _ _ h))
  · exact .inl (.inr ⟨o, e _ _ h⟩)
  · exact .inr h

theorem Same.rd {H H' : Hp} {a : Addr} {u : HO} (e : Same H H') (h : Rd H a u) : Rd H' a u := by
  rcases h with h | ⟨o, h⟩
  · exact .inl (e _ _ h)
  · exact .inr ⟨o, e _ _ h⟩
section
variable {K : PySem.W.Frag} {F F' : Hp}
theorem Rp.mono (s : Same F F') {v : V} {d : PyData} (h : Rp K F v d) : Rp K F' v d :=
  Rp.rec (motive_1 := fun v d _ => Rp K F' v d) (motive_2 := fun vs ds _ => RpA K F' vs ds)
    .non (fun b => .bl b) (fun i => .int i) (fun x => .str x)
    (fun q z _ ih => .lst (s.seq q) z ih) (fun q z _ ih => .tup (s _ _ q) z ih) (fun q z e _ ih => .dk (s _ _ q) z e ih) (fun q z e _ ih => .dt (s _ _ q) z e ih)
    .nil (fun _ _ a b => .cons a b) h
theorem RpA.mono (s : Same F F') : ∀ {vs : List V} {ds : List PyData}, RpA K F vs ds → RpA K F' vs ds
  | _, _, .nil => .nil
  | _, _, .cons a b => .cons (a.mono s) (RpA.mono s b)
theorem RpA.length : ∀ {vs : List V} {ds : List PyData}, RpA K F vs ds → vs.length = ds.length
  | _, _, .nil => rfl
  | _, _, .cons _ b => by simp [RpA.length b]
theorem RpA.get : ∀ {vs : List V} {ds : List PyData} {i : Nat} {d : PyData}, RpA K F vs ds → ds[i]? = some d → ∃ v, vs[i]? = some v ∧ Rp K F v d
  | _, _, _, _, .nil, e => by simp at e
  | _, _, 0, _, .cons a _, e => by simp at e; subst e; exact ⟨_, rfl, a⟩
  | _, _, i + 1, d, .cons _ b, e => by
    obtain ⟨v, h1, h2⟩ := RpA.get (i := i) (d := d) b (by simpa using e)
    exact ⟨v, by simpa using h1, h2⟩
theorem RpA.getV : ∀ {vs : List V} {ds : List PyData} {i : Nat} {v : V}, RpA K F vs ds → vs[i]? = some v → ∃ d, ds[i]? = some d ∧ Rp K F v d
  | _, _, _, _, .nil, e => by simp at e
  | _, _, 0, _, .cons a _, e => by simp at e; subst e; exact ⟨_, rfl, a⟩
  | _, _, i + 1, v, .cons _ b, e => by
    obtain ⟨d, h1, h2⟩ := RpA.getV (i := i) (v := v) b (by simpa using e)
    exact ⟨d, by simpa using h1, h2⟩
theorem RpA.append : ∀ {vs ws : List V} {ds es : List PyData}, RpA K F vs ds → RpA K F ws es → RpA K F (vs ++ ws) (ds ++ es)
  | _, _, _, _, .nil, s => s
  | _, _, _, _, .cons r t, s => .cons r (RpA.append t s)
theorem RpA.take : ∀ {vs : List V} {ds : List PyData} (n : Nat), RpA K F vs ds → RpA K F (vs.take n) (ds.take n)
  | _, _, 0, _ => .nil
  | _, _, _ + 1, .nil => .nil
  | _, _, n + 1, .cons r t => .cons r (RpA.take n t)
theorem RpA.drop : ∀ {vs : List V} {ds : List PyData} (n : Nat), RpA K F vs ds → RpA K F (vs.drop n) (ds.drop n)
  | _, _, 0, r => r
  | _, _, _ + 1, .nil => .nil
  | _, _, n + 1, .cons _ t => RpA.drop n t
theorem RpA.set {v : V} {d : PyData} (r : Rp K F v d) : ∀ {vs : List V} {ds : List PyData} (i : Nat), RpA K F vs ds → RpA K F (vs.set i v) (ds.set i d)
  | _, _, _, .nil => .nil
  | _, _, 0, .cons _ t => .cons r t
  | _, _, i + 1, .cons q t => .cons q (RpA.set r i t)
/-- without dicts it is the layer's own reading -/
theorem Rp.dp {v : V} {d : PyData} (h : Rp K F v d) : d.plain = true → Dp K F v d :=
  Rp.rec (motive_1 := fun v d _ => d.plain = true → Dp K F v d) (motive_2 := fun vs ds _ => PyData.plainAll ds = true → DpAll K F vs ds)
    (fun _ => .non) (fun b _ => .bl b) (fun i _ => .int i) (fun x _ => .str x)
    (fun q _ _ ih e => .lst q (ih (by simpa [PyData.plain] using e))) (fun q _ _ ih e => .tup (SqT.of q) (ih (by simpa [PyData.plain] using e)))
    (fun _ _ _ _ _ e => by simp [PyData.plain] at e) (fun _ _ _ _ _ e => by simp [PyData.plain] at e)
    (fun _ => .nil) (fun _ _ a b e => by
      simp only [PyData.plainAll, Bool.and_eq_true] at e
      exact .cons (a e.1) (b e.2)) h
theorem RpA.dp : ∀ {vs : List V} {ds : List PyData}, RpA K F vs ds → PyData.plainAll ds = true → DpAll K F vs ds
  | _, _, .nil, _ => .nil
  | _, _, .cons a b, e => by
    simp only [PyData.plainAll, Bool.and_eq_true] at e
    exact .cons (a.dp e.1) (b.dp e.2)
end

inductive Slot where
  | un
  /-- frozen data -/
  | dat (d : PyData)
  /-- a container that this slot alone holds -/
  | own (d : PyData)
  /-- a container handed in by reference -/
  | ref (d : PyData)
  /-- a container that is being walked: read, not changed -/
  | lok (r : Bool) (d : PyData)
abbrev Ev := List Slot
def Slot.isMut : Slot → Bool
  | .own _ | .ref _ => true
  | _ => false
def Slot.isRf : Slot → Bool
  | .ref _ | .lok _ _ => true
  | _ => false
def Slot.get : Slot → Option PyData
  | .un => none
  | .dat d | .own d | .ref d | .lok _ d => some d

/-- the container at a, its items frozen -/
def MutAt (K : PySem.W.Frag) (F H : Hp) (a : Addr) : PyData → Prop
  | .list ds => ∃ vs, H a = some (.lst vs) ∧ vs.length ≤ sizeLine ∧ RpA K F vs ds
  | .dict kvs => (∃ ps : List (Key × V), H a = some (.dK ps) ∧ ps.length ≤ sizeLine ∧ kvs.map Prod.fst = ps.map (fun p => kD p.1) ∧ RpA K F (ps.map Prod.snd) (kvs.map Prod.snd)) ∨
      (∃ ps : List (List Key × V), H a = some (.dT ps) ∧ ps.length ≤ sizeLine ∧ kvs.map Prod.fst = ps.map (fun p => .tuple (p.1.map kD)) ∧ RpA K F (ps.map Prod.snd) (kvs.map Prod.snd))
  | _ => False

def SlotOk (K : PySem.W.Frag) (Rf : Nat → Option Addr) (G F H : Hp) (i : Nat) (v : Option (Option V)) : Slot → Prop
  | .un => True
  | .dat d => ∃ x, v = some (some x) ∧ Rp K F x d
  | .own d => ∃ a, v = some (some (.ref a)) ∧ F a = none ∧ MutAt K F H a d
  | .ref d => ∃ a, v = some (some (.ref a)) ∧ F a = none ∧ MutAt K F H a d ∧ Rf i = some a
  | .lok _ d => ∃ a o, v = some (some (.ref a)) ∧ Rf i = some a ∧ G a = some o ∧ MutAt K F H a d

def MutI (ρ : Ev) (i : Nat) : Prop := ∃ s, ρ[i]? = some s ∧ s.isMut = true

structure SR (K : PySem.W.Frag) (Rf : Nat → Option Addr) (G : Hp) (ρ : Ev) (F : Hp) (σ : St) (H : Hp) : Prop where
  len : ρ.length = σ.length
  fz : Same F H
  sl : ∀ i s, ρ[i]? = some s → SlotOk K Rf G F H i σ[i]? s
  dis : ∀ i j a, MutI ρ i → MutI ρ j → σ[i]? = some (some (.ref a)) → σ[j]? = some (some (.ref a)) → i = j
  gm : ∀ i a, MutI ρ i → σ[i]? = some (some (.ref a)) → G a = none
  gs : ∀ a o, G a = some o → H a = some o ∧ F a = none
  rf : ∀ i a, Rf i = some a → σ[i]? = some (some (.ref a)) ∧ ∃ s, ρ[i]? = some s ∧ s.isRf = true
  gt : ∀ a xs, G a ≠ some (.tup xs)

section
variable {K : PySem.W.Frag} {Rf : Nat → Option Addr} {G F F' H H' : Hp} {ρ : Ev} {σ : St} {a : Addr} {d : PyData}

theorem MutAt.mono (hH : H' a = H a) (hF : Same F F') (m : MutAt K F H a d) : MutAt K F' H' a d := by
  cases d with
  | list ds => obtain ⟨vs, e, z, r⟩ := m; exact ⟨vs, hH.trans e, z, r.mono hF⟩
  | dict kvs =>
    rcases m with ⟨ps, e, z, k, r⟩ | ⟨ps, e, z, k, r⟩
    · exact .inl ⟨ps, hH.trans e, z, k, r.mono hF⟩
    · exact .inr ⟨ps, hH.trans e, z, k, r.mono hF⟩
  | _ => exact m.elim
theorem MutAt.there (m : MutAt K F H a d) : ∃ o, H a = some o := by
  cases d with
  | list ds => obtain ⟨vs, e, r⟩ := m; exact ⟨_, e⟩
  | dict kvs =>
    rcases m with ⟨ps, e, _⟩ | ⟨ps, e, _⟩
    · exact ⟨_, e⟩
    · exact ⟨_, e⟩
  | _ => exact m.elim
theorem MutAt.noTup {o : HO} (m : MutAt K F H a d) (e : H a = some o) : ∀ xs, o ≠ .tup xs := by
  intro xs z
  subst z
  cases d with
  | list ds => obtain ⟨vs, e', _⟩ := m; rw [e] at e'; cases e'
  | dict kvs =>
    rcases m with ⟨ps, e', _⟩ | ⟨ps, e', _⟩ <;> (rw [e] at e'; cases e')
  | _ => exact m.elim
theorem gt_upd {o : HO} (g : ∀ a xs, G a ≠ some (.tup xs)) (n : ∀ xs, o ≠ .tup xs) : ∀ b xs, upd G a o b ≠ some (.tup xs) := fun b xs e => by
  by_cases h : b = a
  · subst h; rw [upd_same] at e; exact n xs (Option.some.inj e)
  · rw [upd_ne h] at e; exact g b xs e
/-- read at once -/
theorem MutAt.rp (m : MutAt K F H a d) (s : Same F H) : Rp K H (.ref a) d := by
  cases d with
  | list ds => obtain ⟨vs, e, z, r⟩ := m; exact .lst (SqL.of e) z (r.mono s)
  | dict kvs =>
    rcases m with ⟨ps, e, z, k, r⟩ | ⟨ps, e, z, k, r⟩
    · exact .dk e z k (r.mono s)
    · exact .dt e z k (r.mono s)
  | _ => exact m.elim

theorem upd_Same {o : HO} (h : H a = none) : Same H (upd H a o) := fun b x e => by
  rw [upd_ne (ne_of_none e h)]
  exact e

theorem SlotOk.mono {i : Nat} {v : Option (Option V)} {s : Slot} (hF : Same F F') (hn : ∀ b, s.isMut = true → v = some (some (.ref b)) → F' b = none ∧ H' b = H b) (hG : ∀ b o, G b = some o → H' b = H b) (h : SlotOk K Rf G F H i v s) : SlotOk K Rf G F' H' i v s := by
  cases s with
  | un => trivial
  | dat d => obtain ⟨x, e, r⟩ := h; exact ⟨x, e, r.mono hF⟩
  | own d => obtain ⟨a, e, n, m⟩ := h; exact ⟨a, e, (hn a rfl e).1, m.mono (hn a rfl e).2 hF⟩
  | ref d => obtain ⟨a, e, n, m, q⟩ := h; exact ⟨a, e, (hn a rfl e).1, m.mono (hn a rfl e).2 hF, q⟩
  | lok r d => obtain ⟨a, o, e, q, g, m⟩ := h; exact ⟨a, o, e, q, g, m.mono (hG a o g) hF⟩
theorem SR.mutNone (R : SR K Rf G ρ F σ H) {i : Nat} {a : Addr} (m : MutI ρ i) (e : σ[i]? = some (some (.ref a))) : F a = none ∧ ∃ o, H a = some o := by
  obtain ⟨s, e1, e2⟩ := m
  have q := R.sl i s e1
  cases s with
  | un => cases e2
  | dat d => cases e2
  | own d => obtain ⟨b, eb, n, m⟩ := q; rw [eb] at e; cases e; exact ⟨n, m.there⟩
  | ref d => obtain ⟨b, eb, n, m, _⟩ := q; rw [eb] at e; cases e; exact ⟨n, m.there⟩
  | lok r d => cases e2

/-- the heap grows -/
theorem SR.grow (R : SR K Rf G ρ F σ H) (s : Same H H') : SR K Rf G ρ F σ H' where
  len := R.len
  fz := R.fz.trans s
  sl := fun i t e => (R.sl i t e).mono (Same.refl _) (fun b m ev => by
    obtain ⟨n, o, eo⟩ := R.mutNone ⟨t, e, m⟩ ev
    exact ⟨n, (s b o eo).trans eo.symm⟩) fun b o g => (s b o (R.gs b o g).1).trans (R.gs b o g).1.symm
  dis := R.dis
  gm := R.gm
  gs := fun b o e => ⟨s b o (R.gs b o e).1, (R.gs b o e).2⟩
  rf := R.rf
  gt := R.gt
/-- .. by a new object -/
theorem SR.laid {p : Addr} {o : HO} (R : SR K Rf G ρ F σ H) (h : H p = none) : SR K Rf G ρ F σ (L2.upd H p o) := R.grow (upd_Same h)
/-- p is nobody's -/
def Loose (G : Hp) (ρ : Ev) (F : Hp) (σ : St) (p : Addr) : Prop := F p = none ∧ G p = none ∧ ∀ i, MutI ρ i → σ[i]? ≠ some (some (.ref p))
theorem SR.loose_new (R : SR K Rf G ρ F σ H) {p : Addr} (h : H p = none) : Loose G ρ F σ p := by
  refine ⟨R.fz.free h, ?_, fun i m e => ?_⟩
  · cases q : G p with
    | none => rfl
    | some o => rw [(R.gs p o q).1] at h; cases h
  · obtain ⟨_, o, e'⟩ := R.mutNone m e
    rw [e'] at h; cases h
/-- an object that is nobody's is frozen -/
theorem SR.freeze (R : SR K Rf G ρ F σ H) {p : Addr} {o : HO} (h : H p = some o) (l : Loose G ρ F σ p) : SR K Rf G ρ (upd F p o) σ H ∧ Same F (upd F p o) := by
  obtain ⟨l1, l2, l3⟩ := l
  have s := upd_Same (o := o) l1
  refine ⟨⟨R.len, fun b x e => ?_, fun i t e => (R.sl i t e).mono s (fun b m ev => ⟨?_, rfl⟩) fun _ _ _ => rfl, R.dis, R.gm, fun b x e => ⟨(R.gs b x e).1, ?_⟩, R.rf, R.gt⟩, s⟩
  · by_cases hb : b = p
    · subst hb; rw [upd_same] at e; cases e; exact h
    · rw [upd_ne hb] at e; exact R.fz b x e
  · have hb : b ≠ p := fun z => l3 i ⟨t, e, m⟩ (z ▸ ev)
    rw [upd_ne hb]
    exact (R.mutNone ⟨t, e, m⟩ ev).1
  · have hb : b ≠ p := fun z => by rw [z, l2] at e; cases e
    rw [upd_ne hb]
    exact (R.gs b x e).2
/-- a container that is nobody's becomes data -/
theorem SR.freezeM (R : SR K Rf G ρ F σ H) {p : Addr} (m : MutAt K F H p d) (l : Loose G ρ F σ p) : ∃ F', SR K Rf G ρ F' σ H ∧ Same F F' ∧ Rp K F' (.ref p) d := by
  obtain ⟨o, eo⟩ := m.there
  obtain ⟨R', s⟩ := R.freeze eo l
  refine ⟨_, R', s, ?_⟩
  cases d with
  | list ds =>
    obtain ⟨vs, e, z, r⟩ := m
    rw [e] at eo; cases eo
    exact .lst (SqL.of upd_same) z (r.mono s)
  | dict kvs =>
    rcases m with ⟨ps, e, z, k, r⟩ | ⟨ps, e, z, k, r⟩
    · rw [e] at eo; cases eo; exact .dk upd_same z k (r.mono s)
    · rw [e] at eo; cases eo; exact .dt upd_same z k (r.mono s)
  | _ => exact m.elim
end
end L2.Z

namespace L2.Z
open PySem PySem.Spec PyProof.Rows

def kOf : PyData → Option Key
  | .int i => some (.inl i)
  | .str x => some (.inr x)
  | _ => none
def ksOf : List PyData → Option (List Key)
  | [] => some []
  | d :: ds => (kOf d).bind fun k => (ksOf ds).bind fun ks => some (k :: ks)
def kEq : PyData → PyData → Bool
  | .int i, .int j => decide (i = j)
  | .str x, .str y => decide (x = y)
  | _, _ => false
def ksEq : List PyData → List PyData → Bool
  | [], [] => true
  | a :: as, b :: bs => kEq a b && ksEq as bs
  | _, _ => false
def keyEq : PyData → PyData → Bool
  | .tuple as, .tuple bs => ksEq as bs
  | a, b => kEq a b
def isK (d : PyData) : Bool := (kOf d).isSome
def isT : PyData → Bool
  | .tuple ds => (ksOf ds).isSome
  | _ => false
def keyOk : List (PyData × PyData) → PyData → Bool
  | [], d => isK d || isT d
  | p :: _, d => (isK d && isK p.1) || (isT d && isT p.1)
def dFind (kvs : List (PyData × PyData)) (d : PyData) : Option PyData := (kvs.find? fun p => keyEq p.1 d).map (·.2)
def dPut (kvs : List (PyData × PyData)) (d e : PyData) : List (PyData × PyData) :=
  if kvs.any (fun p => keyEq p.1 d) then kvs.map (fun p => if keyEq p.1 d then (p.1, e) else p) else kvs ++ [(d, e)]

theorem kOf_kD {d : PyData} {k : Key} (h : kOf d = some k) : d = kD k := by
  cases d <;> simp only [kOf] at h <;> cases h <;> rfl
theorem kOf_kD' (k : Key) : kOf (kD k) = some k := by cases k <;> rfl
theorem ksOf_kD : ∀ {ds : List PyData} {ks : List Key}, ksOf ds = some ks → ds = ks.map kD
  | [], ks, h => by cases h; rfl
  | d :: ds, ks, h => by
    simp only [ksOf, Option.bind_eq_some_iff] at h
    obtain ⟨k, h1, ks', h2, h3⟩ := h
    cases h3
    rw [List.map_cons, ← kOf_kD h1, ← ksOf_kD h2]
theorem kEq_kD (k j : Key) : kEq (kD k) (kD j) = decide (k = j) := by
  cases k <;> cases j <;> simp [kD, kEq]
theorem ksEq_kD : ∀ ks js : List Key, ksEq (ks.map kD) (js.map kD) = decide (ks = js)
  | [], [] => by simp [ksEq]
  | [], _ :: _ => by simp [ksEq]
  | _ :: _, [] => by simp [ksEq]
  | k :: ks, j :: js => by
    simp only [List.map_cons, ksEq, kEq_kD, ksEq_kD ks js]
    by_cases h : k = j <;> by_cases h2 : ks = js <;> simp [h, h2]
theorem keyEq_K (k j : Key) : keyEq (kD k) (kD j) = decide (k = j) := by
  rw [← kEq_kD]
  cases k <;> cases j <;> rfl
theorem keyEq_T (ks js : List Key) : keyEq (.tuple (ks.map kD)) (.tuple (js.map kD)) = decide (ks = js) := ksEq_kD ks js
theorem isK_T (ks : List Key) : isK (.tuple (ks.map kD)) = false := rfl
theorem isT_K (k : Key) : isT (kD k) = false := by cases k <;> rfl
section
variable {K : PySem.W.Frag} {F H : Hp}
theorem rpa_keys : ∀ {xs : List V} {ks : List Key}, RpA K F xs (ks.map kD) → xs = ks.map kV
  | [], [], _ => rfl
  | [], _ :: _, h => by cases h
  | _ :: _, [], h => by cases h
  | x :: xs, k :: ks, .cons a b => by
    rw [List.map_cons, ← rpa_keys b]
    congr 1
    cases k <;> cases a <;> rfl
def ORel (K : PySem.W.Frag) (F : Hp) (o : Option V) (e : Option PyData) : Prop := match o, e with
  | some v, some d => Rp K F v d
  | none, none => True
  | _, _ => False
theorem find_rel {κ : Type} [DecidableEq κ] (en : κ → PyData) (he : ∀ k j, keyEq (en k) (en j) = decide (k = j)) (k : κ) : ∀ {ps : List (κ × V)} {kvs : List (PyData × PyData)}, kvs.map Prod.fst = ps.map (fun p => en p.1) → RpA K F (ps.map Prod.snd) (kvs.map Prod.snd) →
    ORel K F (valV ps k) (dFind kvs (en k))
  | [], [], _, _ => trivial
  | [], _ :: _, h, _ => by simp at h
  | _ :: _, [], h, _ => by simp at h
  | p :: ps, q :: kvs, h, r => by
    simp only [List.map_cons, List.cons.injEq] at h
    cases r with
    | cons a b =>
      by_cases e : p.1 = k
      · rw [valV_pos e]
        have : dFind (q :: kvs) (en k) = some q.2 := by simp [dFind, List.find?_cons, h.1, he, e]
        rw [this]; exact a
      · rw [valV_neg e]
        have : dFind (q :: kvs) (en k) = dFind kvs (en k) := by simp [dFind, List.find?_cons, h.1, he, e]
        rw [this]; exact find_rel en he k h.2 b
theorem any_rel {κ : Type} [DecidableEq κ] (en : κ → PyData) (he : ∀ k j, keyEq (en k) (en j) = decide (k = j)) (k : κ) : ∀ {ps : List (κ × V)} {kvs : List (PyData × PyData)}, kvs.map Prod.fst = ps.map (fun p => en p.1) → kvs.any (fun p => keyEq p.1 (en k)) = ps.any fun p => decide (p.1 = k)
  | [], [], _ => rfl
  | [], _ :: _, h => by simp at h
  | _ :: _, [], h => by simp at h
  | p :: ps, q :: kvs, h => by
    simp only [List.map_cons, List.cons.injEq] at h
    simp only [List.any_cons, h.1, he, any_rel en he k h.2]
theorem put_rel {κ : Type} [DecidableEq κ] (en : κ → PyData) (he : ∀ k j, keyEq (en k) (en j) = decide (k = j)) (k : κ) {v : V} {e : PyData} (rv : Rp K F v e) {ps : List (κ × V)} {kvs : List (PyData × PyData)} (h : kvs.map Prod.fst = ps.map (fun p => en p.1)) (r : RpA K F (ps.map Prod.snd) (kvs.map Prod.snd)) :
    (dPut kvs (en k) e).map Prod.fst = (putK ps k v).map (fun p => en p.1) ∧ RpA K F ((putK ps k v).map Prod.snd) ((dPut kvs (en k) e).map Prod.snd) := by
  have rep : ∀ {ps : List (κ × V)} {kvs : List (PyData × PyData)}, kvs.map Prod.fst = ps.map (fun p => en p.1) → RpA K F (ps.map Prod.snd) (kvs.map Prod.snd) →
      (kvs.map (fun p => if keyEq p.1 (en k) then (p.1, e) else p)).map Prod.fst = (ps.map fun kv => if kv.1 = k then (kv.1, v) else kv).map (fun p => en p.1) ∧ RpA K F ((ps.map fun kv => if kv.1 = k then (kv.1, v) else kv).map Prod.snd) ((kvs.map (fun p => if keyEq p.1 (en k) then (p.1, e) else p)).map Prod.snd) := fun {ps} => by
    induction ps with
    | nil =>
      intro kvs h r
      cases kvs with
      | nil => exact ⟨rfl, .nil⟩
      | cons _ _ => simp at h
    | cons p ps ih =>
      intro kvs h r
      cases kvs with
      | nil => simp at h
      | cons q kvs =>
        simp only [List.map_cons, List.cons.injEq] at h
        cases r with
        | cons a b =>
          obtain ⟨i1, i2⟩ := ih h.2 b
          simp only [List.map_cons]
          rw [h.1, he]
          by_cases z : p.1 = k
          · simp only [z, decide_true, if_true]
            exact ⟨by rw [i1], .cons rv i2⟩
          · simp only [z, decide_false, Bool.false_eq_true, if_false]
            exact ⟨by rw [i1, h.1], .cons a i2⟩
  unfold dPut putK
  rw [any_rel en he k h]
  by_cases z : (ps.any fun p => decide (p.1 = k)) = true
  · rw [if_pos z, if_pos z]
    exact rep h r
  · rw [if_neg z, if_neg z]
    simp only [List.map_append, List.map_cons, List.map_nil, h]
    exact ⟨trivial, r.append (.cons rv .nil)⟩
end
section
variable {X : Cx} {pins : List (Addr × Obj)} {σ : St} {H : Hp} {s : Shared} {a : Addr}
/-- the empty dict is of either kind -/
theorem retagT (I : Inv X pins σ H s) (e : H a = some (.dK [])) : Inv X pins σ (upd H a (.dT [])) s := by
  obtain ⟨z, hd, vs, rel, o, es, ep, ho, hc, hd2, hk, hp, hn⟩ := dk_of I.hok e
  cases rel
  have he : es.toList = [] := List.eq_nil_of_length_eq_zero hp.length
  exact d_write (t' := s.toks) (h' := s.heap) I (by rw [e]; trivial) ⟨rfl, fun _ _ => rfl⟩ ⟨o, ho⟩ ⟨Nat.zero_le _, hd, [], .nil, o, es, ep, ho, hc, hd2, he, List.nodup_nil⟩
theorem retagK (I : Inv X pins σ H s) (e : H a = some (.dT [])) : Inv X pins σ (upd H a (.dK [])) s := by
  obtain ⟨z, hd, xs, rel, o, es, ep, ho, hc, hd2, he, hn⟩ := I.hok a _ e
  cases rel
  have hes : es = #[] := Array.toList_inj.mp he
  subst hes
  refine d_write (t' := s.toks) (h' := s.heap) I (by rw [e]; trivial) ⟨rfl, fun _ _ => rfl⟩ ⟨o, ho⟩ ⟨Nat.zero_le _, hd, [], .nil, o, #[], ep, ho, hc, hd2, ?_, ?_, List.nodup_nil⟩
  · intro x hx; simp at hx
  · exact .nil
theorem upd_back {o u : HO} (e : H a = some o) : upd (upd H a u) a o = H := by
  rw [upd_upd]
  funext b
  by_cases h : b = a
  · subst h; rw [upd_same, e]
  · rw [upd_ne h]
/-- a dict's entry; the empty dict has none -/
def DGetZ (H : Hp) (a : Addr) (y : V) (o : Option V) : Prop := DGet H a y o ∨ (o = none ∧ ((H a = some (.dK []) ∧ ∃ (b : Addr) (ks : List Key), y = .ref b ∧ b ≠ a ∧ H b = some (.tup (ks.map kV))) ∨ (H a = some (.dT []) ∧ ∃ k, y = kV k)))
theorem DGetZ.at (I : Inv X pins σ H s) {y : V} {o : Option V} (g : DGetZ H a y o) : ∃ H', Inv X pins σ H' s ∧ DGet H' a y o ∧ ∀ s', Inv X pins σ H' s' → Inv X pins σ H s' := by
  rcases g with g | ⟨rfl, ⟨e, b, ks, rfl, hb, eb⟩ | ⟨e, k, rfl⟩⟩
  · exact ⟨H, I, g, fun _ h => h⟩
  · refine ⟨_, retagT I e, .inr ⟨[], ks, b, .inl upd_same, rfl, by rw [upd_ne hb]; exact eb, rfl⟩, fun s' J => ?_⟩
    have := retagK J upd_same
    rwa [upd_back e] at this
  · refine ⟨_, retagK I e, .inl ⟨[], k, .inl upd_same, rfl, rfl⟩, fun s' J => ?_⟩
    have := retagT J upd_same
    rwa [upd_back e] at this
/-- the heap behind a[y] = v; the empty dict takes either kind of key -/
def DPutZ (H : Hp) (a : Addr) (y v : V) (H' : Hp) : Prop := DPut H a y v H' ∨ (∃ (b : Addr) (k : List Key), H a = some (.dK []) ∧ y = .ref b ∧ b ≠ a ∧ H b = some (.tup (k.map kV)) ∧ H' = upd H a (.dT (putK [] k v))) ∨
  (∃ k : Key, H a = some (.dT []) ∧ y = kV k ∧ H' = upd H a (.dK (putK [] k v)))
theorem DPutZ.at (I : Inv X pins σ H s) {y v : V} {H' : Hp} (g : DPutZ H a y v H') : ∃ H0, Inv X pins σ H0 s ∧ DPut H0 a y v H' := by
  have h0 : (0 : Nat) < sizeLine := by rw [sizeLine_eq]; decide
  rcases g with g | ⟨b, k, e, rfl, hb, eb, rfl⟩ | ⟨k, e, rfl, rfl⟩
  · exact ⟨H, I, g⟩
  · exact ⟨_, retagT I e, .inr ⟨[], k, b, upd_same, rfl, by rw [upd_ne hb]; exact eb, h0, by rw [upd_upd]⟩⟩
  · exact ⟨_, retagK I e, .inl ⟨[], k, upd_same, rfl, h0, by rw [upd_upd]⟩⟩
end
section
variable {X : Cx}
def rIxDZ : R2 := fun x y H Q => ∃ a v, x = .ref a ∧ DGetZ H a y (some v) ∧ Q v H
theorem isDict_of {pins : List (Addr × Obj)} {σ : St} {H : Hp} {s : Shared} {a : Addr} {y : V} {o : Option V} (I : Inv X pins σ H s) (g : DGetZ H a y o) : s.TypeIs (.ref a) "dict" := by
  obtain ⟨H', I', g', _⟩ := g.at I
  exact dict_typeIs I' g'
theorem ix_dict (hu : X.A.units + 64 < cLine) : IxR X rIxDZ := by
  intro value slice pins s σ H x y v u Q I rx ry h hs
  obtain ⟨a, w, rfl, g, q⟩ := h
  obtain rfl : v = Value.ref a := rx
  have ht := isDict_of I g
  obtain ⟨H', I', g', back⟩ := g.at I
  exact tail_any ht PySem.F.slot_dict_getitem.lookup (d_getItem (by omega) I' g' ry fun w' s3 I3 rw' => ⟨w, H, back _ I3, rw', q⟩) hs
def rInDZ (neg : Bool) : R2 := fun y x H Q => ∃ a o, x = .ref a ∧ DGetZ H a y o ∧ Q (.bl (if neg then !o.isSome else o.isSome)) H
theorem op_inDZ (hu : X.A.units + 64 < cLine) : OpR X (compareOp .In) (rInDZ false) := by
  intro pins s σ H y x u v Q I ry rx h
  obtain ⟨a, o, rfl, g, q⟩ := h
  obtain rfl : v = Value.ref a := rx
  obtain ⟨H', I', g', back⟩ := g.at I
  exact d_in (by omega) I' g' ry fun s3 I3 => ⟨.bl o.isSome, H, back _ I3, rfl, q⟩
theorem op_notInDZ (hu : X.A.units + 64 < cLine) : OpR X (compareOp .NotIn) (rInDZ true) := by
  intro pins s σ H y x u v Q I ry rx h
  obtain ⟨a, o, rfl, g, q⟩ := h
  obtain rfl : v = Value.ref a := rx
  obtain ⟨H', I', g', back⟩ := g.at I
  exact d_notIn (by omega) I' g' ry fun s3 I3 => ⟨.bl (!o.isSome), H, back _ I3, rfl, q⟩
def rGetDZ : V → List V → Hp → VK → Prop := fun x xs H Q => ∃ a y o, x = .ref a ∧ DGetZ H a y o ∧ ((xs = [y] ∧ Q (o.getD .non) H) ∨ ∃ d, xs = [y, d] ∧ Q (o.getD d) H)
theorem mt_getDZ (hu : X.A.units + 64 < cLine) : MtR X "dict.get" rGetDZ := by
  intro pins s σ H x xs v us Q I rx rxs h
  obtain ⟨a, y, o, rfl, g, h⟩ := h
  obtain rfl : v = Value.ref a := rx
  obtain ⟨H', I', g', back⟩ := g.at I
  rcases h with ⟨rfl, q⟩ | ⟨d, rfl, q⟩
  · obtain ⟨u, rfl, ru⟩ := rxs.one
    exact d_get1 (by omega) I' g' ru fun w' s3 I3 r => ⟨_, H, back _ I3, r, q⟩
  · cases rxs with
    | cons ru rs =>
      obtain ⟨u2, rfl, ru2⟩ := Vals.one rs
      exact d_get2 (by omega) I' g' ru ru2 fun w' s3 I3 r => ⟨_, H, back _ I3, r, q⟩
def rSetDZ : V → V → V → Hp → (Hp → Prop) → Prop := fun o i v H Q => ∃ a H', o = .ref a ∧ DPutZ H a i v H' ∧ Q H'
theorem set_dict (hu : X.A.units + 64 < cLine) : PSet X rSetDZ := by
  intro pins s σ H o i v ov iv u Q I ro ri rv h
  obtain ⟨a, H', rfl, g, q⟩ := h
  cases ro
  obtain ⟨H0, I0, g0⟩ := g.at I
  exact d_setItem (by omega) I0 g0 ri rv fun s' I' => ⟨H', I', q⟩
theorem PSet.or {r r' : V → V → V → Hp → (Hp → Prop) → Prop} (h : PSet X r) (h' : PSet X r') : PSet X (fun o i v H Q => r o i v H Q ∨ r' o i v H Q) := by
  intro pins s σ H o i v ov iv u Q I ro ri rv q
  rcases q with q | q
  · exact h pins s σ H o i v ov iv u Q I ro ri rv q
  · exact h' pins s σ H o i v ov iv u Q I ro ri rv q
end
section
variable {K : PySem.W.Frag} {F H : Hp}
def dGetP (kvs : List (PyData × PyData)) (d : PyData) : Option (Option PyData) := if keyOk kvs d = true then some (dFind kvs d) else none
def dPutP (kvs : List (PyData × PyData)) (d e : PyData) : Option (List (PyData × PyData)) := if keyOk kvs d = true ∧ kvs.length < sizeLine then some (dPut kvs d e) else none
theorem isK_some {d : PyData} (h : isK d = true) : ∃ k, d = kD k := by
  obtain ⟨k, e⟩ := Option.isSome_iff_exists.mp h
  exact ⟨k, kOf_kD e⟩
theorem isT_some {d : PyData} (h : isT d = true) : ∃ ks : List Key, d = .tuple (ks.map kD) := by
  cases d with
  | tuple ds =>
    obtain ⟨ks, e⟩ := Option.isSome_iff_exists.mp (show (ksOf ds).isSome = true from h)
    exact ⟨ks, by rw [ksOf_kD e]⟩
  | _ => cases h
/-- a key as a value -/
def KeyV (F : Hp) (y : V) (d : PyData) : Prop := (∃ k, d = kD k ∧ y = kV k) ∨ ∃ (ks : List Key) (b : Addr), d = .tuple (ks.map kD) ∧ y = .ref b ∧ F b = some (.tup (ks.map kV))
theorem rp_keyV {y : V} {d : PyData} (r : Rp K F y d) (h : isK d = true ∨ isT d = true) : KeyV F y d := by
  rcases h with h | h
  · obtain ⟨k, rfl⟩ := isK_some h
    refine .inl ⟨k, rfl, ?_⟩
    cases k <;> cases r <;> rfl
  · obtain ⟨ks, rfl⟩ := isT_some h
    cases r with
    | tup q z e => exact .inr ⟨ks, _, rfl, rfl, by rw [rpa_keys e] at q; exact q⟩
theorem keyOk_kinds {kvs : List (PyData × PyData)} {d : PyData} (h : keyOk kvs d = true) : isK d = true ∨ isT d = true := by
  cases kvs with
  | nil => simpa [keyOk] using h
  | cons p ps =>
    simp only [keyOk, Bool.or_eq_true, Bool.and_eq_true] at h
    rcases h with ⟨h, _⟩ | ⟨h, _⟩
    · exact .inl h
    · exact .inr h
theorem keyOk_K {k : Key} {kvs : List (PyData × PyData)} {ps : List (List Key × V)} (h : keyOk kvs (kD k) = true) (e : kvs.map Prod.fst = ps.map (fun p => .tuple (p.1.map kD))) : ps = [] := by
  cases kvs with
  | nil => cases ps with
    | nil => rfl
    | cons _ _ => simp at e
  | cons q kvs => cases ps with
    | nil => rfl
    | cons p ps =>
      simp only [List.map_cons, List.cons.injEq] at e
      simp [keyOk, e.1, isK_T, isT_K] at h
theorem keyOk_T {ks : List Key} {kvs : List (PyData × PyData)} {ps : List (Key × V)} (h : keyOk kvs (.tuple (ks.map kD)) = true) (e : kvs.map Prod.fst = ps.map (fun p => kD p.1)) : ps = [] := by
  cases kvs with
  | nil => cases ps with
    | nil => rfl
    | cons _ _ => simp at e
  | cons q kvs => cases ps with
    | nil => rfl
    | cons p ps =>
      simp only [List.map_cons, List.cons.injEq] at e
      simp [keyOk, e.1, isK_T, isT_K] at h
theorem map_nil_of {α β γ : Type} {l : List α} {f : α → γ} {g : β → γ} (e : l.map f = ([] : List β).map g) : l = [] := by
  cases l with
  | nil => rfl
  | cons _ _ => simp at e
theorem dget_ok (fz : Same F H) {a : Addr} {kvs : List (PyData × PyData)} (m : MutAt K F H a (.dict kvs)) {y : V} {d : PyData} (q : KeyV F y d) {e : Option PyData} (h : dGetP kvs d = some e) : ∃ o, DGetZ H a y o ∧ ORel K F o e := by
  unfold dGetP at h
  split at h
  · rename_i hk
    cases h
    rcases m with ⟨ps, ha, z, ek, r⟩ | ⟨ps, ha, z, ek, r⟩
    · rcases q with ⟨k, rfl, rfl⟩ | ⟨ks, b, rfl, rfl, hb⟩
      · exact ⟨valV ps k, .inl (.k ha), find_rel kD keyEq_K k ek r⟩
      · have := keyOk_T hk ek
        subst this
        have := map_nil_of ek
        subst this
        refine ⟨none, .inr ⟨rfl, .inl ⟨ha, b, ks, rfl, fun hz => ?_, fz _ _ hb⟩⟩, trivial⟩
        rw [hz] at hb
        have := fz _ _ hb
        rw [ha] at this
        cases this
    · rcases q with ⟨k, rfl, rfl⟩ | ⟨ks, b, rfl, rfl, hb⟩
      · have := keyOk_K hk ek
        subst this
        have := map_nil_of ek
        subst this
        exact ⟨none, .inr ⟨rfl, .inr ⟨ha, k, rfl⟩⟩, trivial⟩
      · exact ⟨valV ps ks, .inl (.t ha (fz _ _ hb)), find_rel (fun ks => .tuple (ks.map kD)) keyEq_T ks ek r⟩
  · cases h
/-- the dict at a takes an item -/
theorem dput_ok (fz : Same F H) {a : Addr} (na : F a = none) {kvs kvs' : List (PyData × PyData)} (m : MutAt K F H a (.dict kvs)) {y v : V} {d e : PyData} (q : KeyV F y d) (rv : Rp K F v e) (h : dPutP kvs d e = some kvs') :
    ∃ u, DPutZ H a y v (upd H a u) ∧ MutAt K F (upd H a u) a (.dict kvs') := by
  unfold dPutP at h
  split at h
  · rename_i hk
    obtain ⟨hk, hl⟩ := hk
    cases h
    rcases m with ⟨ps, ha, z, ek, r⟩ | ⟨ps, ha, z, ek, r⟩
    · have hlen : ps.length = kvs.length := by
        have := congrArg List.length ek
        simpa using this.symm
      rcases q with ⟨k, rfl, rfl⟩ | ⟨ks, b, rfl, rfl, hb⟩
      · obtain ⟨e1, e2⟩ := put_rel kD keyEq_K k rv ek r
        exact ⟨.dK (putK ps k v), .inl (.k ha (by omega)), .inl ⟨_, upd_same, by have := length_putK ps k v; omega, e1, e2⟩⟩
      · have := keyOk_T hk ek
        subst this
        have := map_nil_of ek
        subst this
        obtain ⟨e1, e2⟩ := put_rel (ps := ([] : List (List Key × V))) (kvs := []) (fun ks => .tuple (ks.map kD)) keyEq_T ks rv rfl .nil
        have hz : b ≠ a := fun hz => by rw [hz, na] at hb; cases hb
        exact ⟨.dT (putK [] ks v), .inr (.inl ⟨b, ks, ha, rfl, hz, fz _ _ hb, rfl⟩), .inr ⟨_, upd_same, by have := length_putK ([] : List (List Key × V)) ks v; simp at this hl; omega, e1, e2⟩⟩
    · have hlen : ps.length = kvs.length := by
        have := congrArg List.length ek
        simpa using this.symm
      rcases q with ⟨k, rfl, rfl⟩ | ⟨ks, b, rfl, rfl, hb⟩
      · have := keyOk_K hk ek
        subst this
        have := map_nil_of ek
        subst this
        obtain ⟨e1, e2⟩ := put_rel (ps := ([] : List (Key × V))) (kvs := []) kD keyEq_K k rv rfl .nil
        exact ⟨.dK (putK [] k v), .inr (.inr ⟨k, ha, rfl, rfl⟩), .inl ⟨_, upd_same, by have := length_putK ([] : List (Key × V)) k v; simp at this hl; omega, e1, e2⟩⟩
      · obtain ⟨e1, e2⟩ := put_rel (fun ks => .tuple (ks.map kD)) keyEq_T ks rv ek r
        exact ⟨.dT (putK ps ks v), .inl (.t ha (fz _ _ hb) (by omega)), .inr ⟨_, upd_same, by have := length_putK ps ks v; omega, e1, e2⟩⟩
  · cases h
end
end L2.Z

namespace L2.Z
open PySem PySem.Spec PyProof.Rows

/-- a result: data, a container just made, what stands in a slot -/
inductive Res where
  | val (d : PyData) | new (d : PyData) | slot (i : Nat)
def Res.get (ρ : Ev) : Res → Option PyData
  | .val d | .new d => some d
  | .slot i => (ρ[i]?).bind Slot.get
/-- as a value that may go anywhere: a slot's own container is frozen -/
def esc (ρ : Ev) : Res → Option (PyData × Ev)
  | .val d | .new d => some (d, ρ)
  | .slot i => match ρ[i]? with
    | some (.dat d) => some (d, ρ)
    | some (.own d) => some (d, ρ.set i (.dat d))
    | _ => none
def mkR (n : Bool) (d : PyData) : Res := if n then .new d else .val d
def asg (i : Nat) (s : Slot) (ρ : Ev) : Option Ev := match ρ[i]? with
  | some .un | some (.dat _) | some (.own _) => some (ρ.set i s)
  | _ => none
def getAll (ρ : Ev) : List Res → Option (List PyData)
  | [] => some []
  | r :: rs => (r.get ρ).bind fun d => (getAll ρ rs).bind fun ds => some (d :: ds)

inductive Tg where
  | n (i : Nat) | t (a b : Tg) | t3 (a b c : Tg) | t4 (a b c d : Tg)
def Tg.ixs : Tg → List Nat
  | .n i => [i]
  | .t a b => a.ixs ++ b.ixs
  | .t3 a b c => a.ixs ++ b.ixs ++ c.ixs
  | .t4 a b c d => a.ixs ++ b.ixs ++ c.ixs ++ d.ixs
def Tg.bind : Tg → PyData → Ev → Option Ev
  | .n i, d, ρ => asg i (.dat d) ρ
  | .t a b, d, ρ => match d with
    | .tuple [x, y] => (a.bind x ρ).bind fun ρ => b.bind y ρ
    | _ => none
  | .t3 a b c, d, ρ => match d with
    | .tuple [x, y, z] => (a.bind x ρ).bind fun ρ => (b.bind y ρ).bind fun ρ => c.bind z ρ
    | _ => none
  | .t4 a b c e, d, ρ => match d with
    | .tuple [x, y, z, u] => (a.bind x ρ).bind fun ρ => (b.bind y ρ).bind fun ρ => (c.bind z ρ).bind fun ρ => e.bind u ρ
    | _ => none

def lockR (ρ : Ev) : Res → Ev
  | .slot i => match ρ[i]? with
    | some (.own d) => ρ.set i (.lok false d)
    | some (.ref d) => ρ.set i (.lok true d)
    | _ => ρ
  | _ => ρ
/-- back to what it was in ρ₀ -/
def unlockR (ρ₀ : Ev) (r : Res) (ρ : Ev) : Option Ev := match r with
  | .slot i => match ρ₀[i]? with
    | some (.own _) => (match ρ[i]? with
      | some (.lok _ d) => some (ρ.set i (.own d))
      | _ => none)
    | some (.ref _) => (match ρ[i]? with
      | some (.lok _ d) => some (ρ.set i (.ref d))
      | _ => none)
    | _ => some ρ
  | _ => some ρ
def lockAll : List Res → Ev → Ev
  | [], ρ => ρ
  | r :: rs, ρ => lockAll rs (lockR ρ r)
def unlockAll : List Res → Ev → Ev → Option Ev
  | [], _, ρ => some ρ
  | r :: rs, ρ₀, ρ => (unlockAll rs (lockR ρ₀ r) ρ).bind (unlockR ρ₀ r)
/-- slot i's container is no longer changed from here on -/
def frzE (i : Nat) (ρ : Ev) : Ev := match ρ[i]? with
  | some (.own d) => ρ.set i (.dat d)
  | _ => ρ
/-- a comprehension's own slots: nothing that may be changed stands there -/
def wipeE : List Nat → Ev → Option Ev
  | [], ρ => some ρ
  | i :: is, ρ => (wipeE is ρ).bind fun ρ => match ρ[i]? with
    | some .un | some (.dat _) => some (ρ.set i .un)
    | _ => none
def backE (ρ₀ : Ev) : List Nat → Ev → Ev
  | [], ρ => ρ
  | i :: is, ρ => match ρ₀[i]? with
    | some s => (backE ρ₀ is ρ).set i s
    | none => backE ρ₀ is ρ

mutual
inductive X where
  | v (i : Nat)
  | k (d : PyData)
  | op1 (f : PyData → Option (Bool × PyData)) (a : X)
  | op2 (f : PyData → PyData → Option (Bool × PyData)) (a b : X)
  | opn (f : List PyData → Option (Bool × PyData)) (as : Xs)
  | and (a b : X) | or (a b : X) | ite (c a b : X)
  | chain (f g : PyData → PyData → Option (Bool × PyData)) (a b c : X)
  | chain3 (f g h : PyData → PyData → Option (Bool × PyData)) (a b c d : X)
  | call (f : Nat) (as : Xs)
  | tup (as : Xs) | lst (as : Xs) | tups (as : Xs) | lsts (as : Xs)
  | lc (e : X) (t : Tg) (g : List PyData → Option (List PyData)) (as : Xs) (c : X) (own : List Nat)
  | pop (i : Nat)
  | dnew
  | meth (chk : PyData → Bool) (f : PyData → List PyData → Option (Bool × PyData)) (a : X) (as : Xs)
  | frz (i : Nat) (x : X)
inductive Xs where
  | nil | cons (x : X) (r : Xs) | star (x : X) (r : Xs)
end

/-- what a def does: its arguments as data (one may be a container by reference), its value, and what that container is then -/
abbrev Fns := Nat → List PyData → Option (PyData × PyData)

/-- a comprehension's turns -/
def lcLoop (own : List Nat) (t : Tg) (c : Ev → Option (Bool × Ev)) (e : Ev → Option (PyData × Ev)) : List PyData → List PyData → Ev → Option (List PyData × Ev)
  | [], acc, ρ => some (acc, ρ)
  | d :: ds, acc, ρ => (t.bind d ρ).bind fun ρ => (c ρ).bind fun p => match p.1 with
    | true => (e p.2).bind fun q => (wipeE own q.2).bind fun ρ => lcLoop own t c e ds (acc ++ [q.1]) ρ
    | false => (wipeE own p.2).bind fun ρ => lcLoop own t c e ds acc ρ
def truth (f : Ev → Option (Res × Ev)) (ρ : Ev) : Option (Bool × Ev) := (f ρ).bind fun p => match p.1.get p.2 with
  | some (.bool b) => some (b, p.2)
  | _ => none
def valof (f : Ev → Option (Res × Ev)) (ρ : Ev) : Option (PyData × Ev) := (f ρ).bind fun p => esc p.2 p.1
def escAll (ρ : Ev) : List Res → Option (List PyData × Ev)
  | [] => some ([], ρ)
  | r :: rs => (esc ρ r).bind fun p => (escAll p.2 rs).bind fun q => some (p.1 :: q.1, q.2)
/-- what a slot's own container is -/
def conOf (ρ : Ev) (j : Nat) : Option PyData := match ρ[j]? with
  | some (.own d) | some (.ref d) => some d
  | _ => none
def conSet (ρ : Ev) (j : Nat) (c : PyData) : Option Ev := match ρ[j]? with
  | some (.own _) => some (ρ.set j (.own c))
  | some (.ref _) => some (ρ.set j (.ref c))
  | _ => none
def Res.ix : Res → Option Nat
  | .slot j => some j
  | _ => none
/-- the arguments of a def that is called; the one at k goes by reference -/
def callArgs (ρ : Ev) (rs : List Res) : Option Nat → Option (List PyData × Ev)
  | none => escAll ρ rs
  | some k => (escAll ρ (rs.take k)).bind fun p => (escAll p.2 (rs.drop (k + 1))).bind fun q => (rs[k]?).bind fun r => r.ix.bind fun j => (conOf q.2 j).bind fun d => some (p.1 ++ d :: q.1, q.2)
def callBack (ρ : Ev) (rs : List Res) (c : PyData) : Option Nat → Option Ev
  | none => some ρ
  | some k => (rs[k]?).bind fun r => r.ix.bind fun j => conSet ρ j c
/-- a def's first slots -/
def slotsOf (ds : List PyData) (c : PyData) : Option Nat → List Slot
  | none => ds.map .dat
  | some k => (ds.map Slot.dat).set k (.ref c)

section
variable (Φ : Fns) (by_ : Nat → Option Nat)
mutual
def ev : X → Ev → Option (Res × Ev)
  | .v i, ρ => (ρ[i]?).bind fun s => s.get.bind fun _ => some (.slot i, ρ)
  | .k d, ρ => some (.val d, ρ)
  | .frz i x, ρ => ev x (frzE i ρ)
  | .op1 f a, ρ => (ev a ρ).bind fun p => (p.1.get p.2).bind fun d => (f d).bind fun q => some (mkR q.1 q.2, p.2)
  | .op2 f a b, ρ => (ev a ρ).bind fun p => (ev b p.2).bind fun p' => (p.1.get p'.2).bind fun d => (p'.1.get p'.2).bind fun d' => (f d d').bind fun q => some (mkR q.1 q.2, p'.2)
  | .opn f as, ρ => (evs as ρ).bind fun p => (getAll p.2 p.1).bind fun ds => (f ds).bind fun q => some (mkR q.1 q.2, p.2)
  | .and a b, ρ => (truth (ev a) ρ).bind fun p => if p.1 = true then (truth (ev b) p.2).bind fun q => some (.val (.bool q.1), q.2) else some (.val (.bool false), p.2)
  | .or a b, ρ => (truth (ev a) ρ).bind fun p => if p.1 = true then some (.val (.bool true), p.2) else (truth (ev b) p.2).bind fun q => some (.val (.bool q.1), q.2)
  | .ite c a b, ρ => (truth (ev c) ρ).bind fun p => if p.1 = true then ev a p.2 else ev b p.2
  | .chain f g a b c, ρ => (ev a ρ).bind fun p => (ev b p.2).bind fun p' => (p.1.get p'.2).bind fun d => (p'.1.get p'.2).bind fun d' => match f d d' with
    | some (false, .bool true) => (ev c p'.2).bind fun p'' => (p'.1.get p''.2).bind fun e => (p''.1.get p''.2).bind fun e' => match g e e' with
      | some (false, .bool z) => some (.val (.bool z), p''.2)
      | _ => none
    | some (false, .bool false) => some (.val (.bool false), p'.2)
    | _ => none
  | .chain3 f g h a b c d, ρ => (ev a ρ).bind fun p => (ev b p.2).bind fun p' => (p.1.get p'.2).bind fun v => (p'.1.get p'.2).bind fun v' => match f v v' with
    | some (false, .bool true) => (ev c p'.2).bind fun p'' => (p'.1.get p''.2).bind fun e => (p''.1.get p''.2).bind fun e' => match g e e' with
      | some (false, .bool true) => (ev d p''.2).bind fun q => (p''.1.get q.2).bind fun w => (q.1.get q.2).bind fun w' => match h w w' with
        | some (false, .bool z) => some (.val (.bool z), q.2)
        | _ => none
      | some (false, .bool false) => some (.val (.bool false), p''.2)
      | _ => none
    | some (false, .bool false) => some (.val (.bool false), p'.2)
    | _ => none
  | .call f as, ρ => (evs as ρ).bind fun p => (callArgs p.2 p.1 (by_ f)).bind fun q => (Φ f q.1).bind fun z => (callBack q.2 p.1 z.2 (by_ f)).bind fun ρ' => some (.val z.1, ρ')
  | .tup as, ρ => (evv as ρ).bind fun p => some (.val (.tuple p.1), p.2)
  | .lst as, ρ => (evv as ρ).bind fun p => some (.new (.list p.1), p.2)
  | .tups as, ρ => (evv as ρ).bind fun p => if p.1.length ≤ sizeLine then some (.val (.tuple p.1), p.2) else none
  | .lsts as, ρ => (evv as ρ).bind fun p => if p.1.length ≤ sizeLine then some (.new (.list p.1), p.2) else none
  | .lc e t g as c own, ρ => (evs as ρ).bind fun p => (getAll p.2 p.1).bind fun ds => (g ds).bind fun items =>
      (wipeE own (lockAll p.1 p.2)).bind fun ρ₁ => (lcLoop own t (truth (ev c)) (valof (ev e)) items [] ρ₁).bind fun q =>
      (unlockAll p.1 p.2 (backE (lockAll p.1 p.2) own q.2)).bind fun ρ₂ => some (.new (.list q.1), ρ₂)
  | .pop i, ρ => (conOf ρ i).bind fun c => match c with
    | .list ds => (ds[ds.length - 1]?).bind fun d => (conSet ρ i (.list ds.dropLast)).bind fun ρ => some (.val d, ρ)
    | _ => none
  | .dnew, ρ => some (.new (.dict []), ρ)
  | .meth chk f a as, ρ => (ev a ρ).bind fun p => (p.1.get p.2).bind fun d0 => if chk d0 = true then (evs as p.2).bind fun q => (p.1.get q.2).bind fun d => (getAll q.2 q.1).bind fun ds => (f d ds).bind fun z => some (mkR z.1 z.2, q.2) else none
/-- operands, arguments: no star -/
def evs : Xs → Ev → Option (List Res × Ev)
  | .nil, ρ => some ([], ρ)
  | .cons x r, ρ => (ev x ρ).bind fun p => (evs r p.2).bind fun q => some (p.1 :: q.1, q.2)
  | .star _ _, _ => none
/-- a display's items, with stars -/
def evv : Xs → Ev → Option (List PyData × Ev)
  | .nil, ρ => some ([], ρ)
  | .cons x r, ρ => (valof (ev x) ρ).bind fun p => (evv r p.2).bind fun q => some (p.1 :: q.1, q.2)
  | .star x r, ρ => (ev x ρ).bind fun p => match p.1.get p.2 with
    | some (.list ds) | some (.tuple ds) => (evv r p.2).bind fun q => some (ds ++ q.1, q.2)
    | _ => none
end
end

mutual
inductive S where
  | set (i : Nat) (e : X)
  | put (t : Tg) (e : X)
  | par (is : List Nat) (es : Xs)
  | aug (i : Nat) (f : PyData → PyData → Option (Bool × PyData)) (e : X)
  | setAt (i : Nat) (k e : X)
  | app (i : Nat) (e : X)
  | ext (i : Nat) (e : X)
  | expr (e : X)
  | ite (c : X) (a b : Ss)
  | whl (c : X) (b : Ss)
  | frr (t : Tg) (g : List PyData → Option (List PyData)) (as : Xs) (b : Ss)
  | ret (e : X)
  | pass | brk | cnt | stuck
inductive Ss where
  | nil | cons (s : S) (r : Ss)
end
inductive Out where
  | nx (ρ : Ev) | rt (d : PyData) (ρ : Ev) | bk (ρ : Ev) | ct (ρ : Ev)

/-- what is stored by name = e -/
def stored (ρ : Ev) : Res → Option (Slot × Ev)
  | .new d => some (.own d, ρ)
  | r => (esc ρ r).bind fun p => some (.dat p.1, p.2)
def asgAll : List Nat → List Slot → Ev → Option Ev
  | [], [], ρ => some ρ
  | i :: is, s :: ss, ρ => (asgAll is ss ρ).bind (asg i s)
  | _, _, _ => none
/-- several values, each as it will be stored -/
def evst (Φ : Fns) (by_ : Nat → Option Nat) : Xs → Ev → Option (List Slot × Ev)
  | .nil, ρ => some ([], ρ)
  | .cons x r, ρ => (ev Φ by_ x ρ).bind fun p => (stored p.2 p.1).bind fun q => (evst Φ by_ r q.2).bind fun z => some (q.1 :: z.1, z.2)
  | .star _ _, _ => none
def whLoop (c : Ev → Option (Bool × Ev)) (b : Ev → Option Out) : Nat → Ev → Option Out
  | 0, _ => none
  | n + 1, ρ => (c ρ).bind fun p => if p.1 = true then (b p.2).bind fun o => match o with
      | .nx ρ | .ct ρ => whLoop c b n ρ
      | .bk ρ => some (.nx ρ)
      | .rt d ρ => some (.rt d ρ)
    else some (.nx p.2)
def frLoop (t : Tg) (b : Ev → Option Out) : List PyData → Ev → Option Out
  | [], ρ => some (.nx ρ)
  | d :: ds, ρ => (t.bind d ρ).bind fun ρ => (b ρ).bind fun o => match o with
      | .nx ρ | .ct ρ => frLoop t b ds ρ
      | .bk ρ => some (.nx ρ)
      | .rt d ρ => some (.rt d ρ)
def Out.mapM (f : Ev → Option Ev) : Out → Option Out
  | .nx ρ => (f ρ).bind fun ρ => some (.nx ρ)
  | .rt d ρ => (f ρ).bind fun ρ => some (.rt d ρ)
  | .bk ρ => (f ρ).bind fun ρ => some (.bk ρ)
  | .ct ρ => (f ρ).bind fun ρ => some (.ct ρ)
/-- c[k] = v, the container as data -/
def setD (c k v : PyData) : Option PyData := match c with
  | .list ds => match k with
    | .int i => (ixN ds.length i).bind fun j => some (.list (ds.set j v))
    | _ => none
  | .dict kvs => (dPutP kvs k v).bind fun kvs' => some (.dict kvs')
  | _ => none
/-- slot i's own list -/
def lstAt (ρ : Ev) (i : Nat) : Option (List PyData) := (conOf ρ i).bind fun c => match c with
  | .list ds => some ds
  | _ => none
def appD (c : PyData) (es : List PyData) : Option PyData := match c with
  | .list ds => if ds.length + es.length ≤ sizeLine then some (.list (ds ++ es)) else none
  | _ => none
/-- a list that is no part of anything yet -/
def extSrc (ρ : Ev) : Res → Option (List PyData)
  | .new (.list es) => some es
  | .slot j => lstAt ρ j
  | _ => none

section
variable (Φ : Fns) (by_ : Nat → Option Nat) (M : Nat)
mutual
def evS : S → Ev → Option Out
  | .set i e, ρ => (ev Φ by_ e ρ).bind fun p => (stored p.2 p.1).bind fun q => (asg i q.1 q.2).bind fun ρ => some (.nx ρ)
  | .put t e, ρ => (valof (ev Φ by_ e) ρ).bind fun p => (t.bind p.1 p.2).bind fun ρ => some (.nx ρ)
  | .par is es, ρ => (evst Φ by_ es ρ).bind fun p => (asgAll is p.1 p.2).bind fun ρ => some (.nx ρ)
  | .aug i f e, ρ => match ρ[i]? with
    | some (.dat d) => (ev Φ by_ e ρ).bind fun p => (p.1.get p.2).bind fun d' => (f d d').bind fun q => match q.1 with
      | false => (asg i (.dat q.2) p.2).bind fun ρ => some (.nx ρ)
      | true => none
    | _ => none
  | .setAt i k e, ρ => (valof (ev Φ by_ e) ρ).bind fun p => (conOf p.2 i).bind fun _ => (ev Φ by_ k p.2).bind fun q => (q.1.get q.2).bind fun dk => (conOf q.2 i).bind fun c => (setD c dk p.1).bind fun c' => (conSet q.2 i c').bind fun ρ => some (.nx ρ)
  | .app i e, ρ => (lstAt ρ i).bind fun _ => (valof (ev Φ by_ e) ρ).bind fun p => (conOf p.2 i).bind fun c => (appD c [p.1]).bind fun c' => (conSet p.2 i c').bind fun ρ => some (.nx ρ)
  | .ext i e, ρ => (lstAt ρ i).bind fun _ => (ev Φ by_ e ρ).bind fun p => (extSrc p.2 p.1).bind fun es => (conOf p.2 i).bind fun c => (appD c es).bind fun c' => (conSet p.2 i c').bind fun ρ => some (.nx ρ)
  | .expr e, ρ => (ev Φ by_ e ρ).bind fun p => some (.nx p.2)
  | .ite c a b, ρ => (truth (ev Φ by_ c) ρ).bind fun p => if p.1 = true then evSs a p.2 else evSs b p.2
  | .whl c b, ρ => whLoop (truth (ev Φ by_ c)) (evSs b) M ρ
  | .frr t g as b, ρ => (evs Φ by_ as ρ).bind fun p => (getAll p.2 p.1).bind fun ds => (g ds).bind fun items =>
      (frLoop t (evSs b) items (lockAll p.1 p.2)).bind fun o => o.mapM (unlockAll p.1 p.2)
  | .ret e, ρ => (valof (ev Φ by_ e) ρ).bind fun p => some (.rt p.1 p.2)
  | .pass, ρ => some (.nx ρ)
  | .brk, ρ => some (.bk ρ)
  | .cnt, ρ => some (.ct ρ)
  | .stuck, _ => none
def evSs : Ss → Ev → Option Out
  | .nil, ρ => some (.nx ρ)
  | .cons s r, ρ => (evS s ρ).bind fun o => match o with
    | .nx ρ => evSs r ρ
    | o => some o
end
end
end L2.Z

namespace L2.Z
open PySem PySem.Spec PyProof.Rows

def OR (K : PySem.W.Frag) (F : Hp) (σ : St) (v : V) : Res → Prop
  | .val d => Rp K F v d
  | .new d => Rp K F v d
  | .slot i => σ[i]? = some (some v)
def RR (K : PySem.W.Frag) (G : Hp) (ρ : Ev) (F : Hp) (σ : St) (H : Hp) (v : V) : Res → Prop
  | .val d => Rp K F v d
  | .new d => ∃ p, v = .ref p ∧ Loose G ρ F σ p ∧ MutAt K F H p d
  | .slot i => σ[i]? = some (some v)
/-- an operand: its items are frozen -/
def Rq (K : PySem.W.Frag) (F H : Hp) (v : V) : PyData → Prop
  | .list ds => ∃ a xs, v = .ref a ∧ SqL K H a xs ∧ xs.length ≤ sizeLine ∧ RpA K F xs ds
  | .tuple ds => ∃ a xs, v = .ref a ∧ F a = some (.tup xs) ∧ xs.length ≤ sizeLine ∧ RpA K F xs ds
  | .dict kvs => ∃ a, v = .ref a ∧ MutAt K F H a (.dict kvs)
  | .none => v = .non
  | .bool b => v = .bl b
  | .int i => v = .int i
  | .str x => v = .str x
inductive RqA (K : PySem.W.Frag) (F H : Hp) : List V → List PyData → Prop
  | nil : RqA K F H [] []
  | cons {v : V} {vs : List V} {d : PyData} {ds : List PyData} : Rq K F H v d → RqA K F H vs ds → RqA K F H (v :: vs) (d :: ds)
inductive ORs (K : PySem.W.Frag) (F : Hp) (σ : St) : List V → List Res → Prop
  | nil : ORs K F σ [] []
  | cons {v : V} {vs : List V} {r : Res} {rs : List Res} : OR K F σ v r → ORs K F σ vs rs → ORs K F σ (v :: vs) (r :: rs)

section
variable {K : PySem.W.Frag} {Rf : Nat → Option Addr} {G F F' H H' : Hp} {ρ ρ' : Ev} {σ : St} {a : Addr} {d : PyData} {v : V} {r : Res}
theorem Rp.rq (s : Same F H) (h : Rp K F v d) : Rq K F H v d := by
  cases h with
  | non => rfl
  | bl b => rfl
  | int i => rfl
  | str x => rfl
  | lst q z e => exact ⟨_, _, rfl, s.seq q, z, e⟩
  | tup q z e => exact ⟨_, _, rfl, q, z, e⟩
  | dk q z e1 e2 => exact ⟨_, rfl, .inl ⟨_, s _ _ q, z, e1, e2⟩⟩
  | dt q z e1 e2 => exact ⟨_, rfl, .inr ⟨_, s _ _ q, z, e1, e2⟩⟩
theorem MutAt.rq (m : MutAt K F H a d) : Rq K F H (.ref a) d := by
  cases d with
  | list ds => obtain ⟨vs, e, z, r⟩ := m; exact ⟨_, _, rfl, SqL.of e, z, r⟩
  | dict kvs => exact ⟨_, rfl, m⟩
  | _ => exact m.elim
theorem Rq.rp (s : Same F H) (h : Rq K F H v d) : Rp K H v d := by
  cases d with
  | none => cases h; exact .non
  | bool b => cases h; exact .bl b
  | int i => cases h; exact .int i
  | str x => cases h; exact .str x
  | list ds => obtain ⟨a, xs, rfl, q, z, e⟩ := h; exact .lst q z (e.mono s)
  | tuple ds => obtain ⟨a, xs, rfl, q, z, e⟩ := h; exact .tup (s _ _ q) z (e.mono s)
  | dict kvs => obtain ⟨a, rfl, m⟩ := h; exact m.rp s
theorem Rq.mono (s : Same F F') (h : Rq K F H v d) : Rq K F' H v d := by
  cases d with
  | none => exact h
  | bool b => exact h
  | int i => exact h
  | str x => exact h
  | list ds => obtain ⟨a, xs, rfl, q, z, e⟩ := h; exact ⟨a, xs, rfl, q, z, e.mono s⟩
  | tuple ds => obtain ⟨a, xs, rfl, q, z, e⟩ := h; exact ⟨a, xs, rfl, s _ _ q, z, e.mono s⟩
  | dict kvs => obtain ⟨a, rfl, m⟩ := h; exact ⟨a, rfl, m.mono rfl s⟩
theorem RqA.rp (s : Same F H) : ∀ {vs : List V} {ds : List PyData}, RqA K F H vs ds → RpA K H vs ds
  | _, _, .nil => .nil
  | _, _, .cons a b => .cons (a.rp s) (RqA.rp s b)
theorem OR.mono (s : Same F F') (h : OR K F σ v r) : OR K F' σ v r := by
  cases r with
  | val d => exact Rp.mono s h
  | new d => exact Rp.mono s h
  | slot i => exact h
theorem ORs.mono (s : Same F F') : ∀ {vs : List V} {rs : List Res}, ORs K F σ vs rs → ORs K F' σ vs rs
  | _, _, .nil => .nil
  | _, _, .cons a b => .cons (a.mono s) (ORs.mono s b)
theorem SlotOk.rq {i : Nat} {s : Slot} (fz : Same F H) (h : SlotOk K Rf G F H i (some (some v)) s) (e : s.get = some d) : Rq K F H v d := by
  cases s with
  | un => cases e
  | dat d' => cases e; obtain ⟨x, e, r⟩ := h; cases e; exact r.rq fz
  | own d' => cases e; obtain ⟨x, e, _, m⟩ := h; cases e; exact m.rq
  | ref d' => cases e; obtain ⟨x, e, _, m, _⟩ := h; cases e; exact m.rq
  | lok b d' => cases e; obtain ⟨x, o, e, _, _, m⟩ := h; cases e; exact m.rq
/-- an operand read now -/
theorem SR.rq (R : SR K Rf G ρ F σ H) (o : OR K F σ v r) (e : r.get ρ = some d) : Rq K F H v d := by
  cases r with
  | val d' => cases e; exact Rp.rq R.fz o
  | new d' => cases e; exact Rp.rq R.fz o
  | slot i =>
    simp only [Res.get, Option.bind_eq_some_iff] at e
    obtain ⟨s, e1, e2⟩ := e
    have q := R.sl i s e1
    rw [show σ[i]? = some (some v) from o] at q
    exact q.rq R.fz e2
theorem SR.rqs (R : SR K Rf G ρ F σ H) : ∀ {vs : List V} {rs : List Res} {ds : List PyData}, ORs K F σ vs rs → getAll ρ rs = some ds → RqA K F H vs ds
  | _, _, _, .nil, e => by cases e; exact .nil
  | _, _, _, .cons a b, e => by
    simp only [getAll, Option.bind_eq_some_iff] at e
    obtain ⟨d, e1, ds, e2, e3⟩ := e
    cases e3
    exact .cons (R.rq a e1) (R.rqs b e2)
/-- a new container as an operand: it is frozen -/
theorem SR.opd (R : SR K Rf G ρ F σ H) (q : RR K G ρ F σ H v r) : ∃ F', SR K Rf G ρ F' σ H ∧ Same F F' ∧ OR K F' σ v r := by
  cases r with
  | val d => exact ⟨F, R, Same.refl _, q⟩
  | slot i => exact ⟨F, R, Same.refl _, q⟩
  | new d =>
    obtain ⟨p, rfl, l, m⟩ := q
    obtain ⟨F', R', s, z⟩ := R.freezeM m l
    exact ⟨F', R', s, z⟩
/-- slot i's container is frozen -/
theorem SR.slotFreeze (R : SR K Rf G ρ F σ H) {i : Nat} (e : ρ[i]? = some (.own d)) : ∃ F' a, SR K Rf G (ρ.set i (.dat d)) F' σ H ∧ Same F F' ∧ σ[i]? = some (some (.ref a)) ∧ Rp K F' (.ref a) d := by
  obtain ⟨a, ea, na, m⟩ := R.sl i _ e
  obtain ⟨o, eo⟩ := m.there
  have mi : MutI ρ i := ⟨_, e, rfl⟩
  have hi : i < ρ.length := (List.getElem?_eq_some_iff.mp e).1
  have s := upd_Same (o := o) na
  have rp : Rp K (upd F a o) (.ref a) d := by
    cases d with
    | list ds =>
      obtain ⟨vs, e, z, r⟩ := m
      rw [e] at eo; cases eo
      exact .lst (SqL.of upd_same) z (r.mono s)
    | dict kvs =>
      rcases m with ⟨ps, e, z, k, r⟩ | ⟨ps, e, z, k, r⟩
      · rw [e] at eo; cases eo; exact .dk upd_same z k (r.mono s)
      · rw [e] at eo; cases eo; exact .dt upd_same z k (r.mono s)
    | _ => exact m.elim
  have mut' : ∀ j, MutI (ρ.set i (.dat d)) j → MutI ρ j ∧ j ≠ i := fun j ⟨t, et, mt⟩ => by
    by_cases hj : j = i
    · subst hj; rw [List.getElem?_set_self hi] at et; cases et; cases mt
    · rw [List.getElem?_set_ne (Ne.symm hj)] at et; exact ⟨⟨t, et, mt⟩, hj⟩
  refine ⟨upd F a o, a, ⟨by rw [List.length_set]; exact R.len, fun b x e => ?_, fun j t et => ?_, fun j k b mj mk => R.dis j k b (mut' j mj).1 (mut' k mk).1, fun j b mj => R.gm j b (mut' j mj).1, fun b x e => ⟨(R.gs b x e).1, ?_⟩, fun j b eb => ?_, R.gt⟩, s, ea, rp⟩
  · by_cases hb : b = a
    · subst hb; rw [upd_same] at e; cases e; exact eo
    · rw [upd_ne hb] at e; exact R.fz b x e
  · by_cases hj : j = i
    · subst hj
      rw [List.getElem?_set_self hi] at et; cases et
      exact ⟨.ref a, ea, rp⟩
    · rw [List.getElem?_set_ne (Ne.symm hj)] at et
      refine (R.sl j t et).mono s (fun b mt ev => ⟨?_, rfl⟩) fun _ _ _ => rfl
      have hb : b ≠ a := fun z => hj (R.dis j i a ⟨t, et, mt⟩ mi (z ▸ ev) ea)
      rw [upd_ne hb]
      exact (R.mutNone ⟨t, et, mt⟩ ev).1
  · have hb : b ≠ a := fun z => by rw [z, R.gm i a mi ea] at e; cases e
    rw [upd_ne hb]
    exact (R.gs b x e).2
  · obtain ⟨z1, t, z2, z3⟩ := R.rf j b eb
    have hj : j ≠ i := fun z => by subst z; rw [e] at z2; cases z2; cases z3
    exact ⟨z1, t, by rw [List.getElem?_set_ne (Ne.symm hj)]; exact z2, z3⟩
theorem SR.esc (R : SR K Rf G ρ F σ H) (o : OR K F σ v r) (e : Z.esc ρ r = some (d, ρ')) : ∃ F', SR K Rf G ρ' F' σ H ∧ Same F F' ∧ Rp K F' v d := by
  cases r with
  | val d' => simp only [Z.esc, Option.some.injEq, Prod.mk.injEq] at e; obtain ⟨rfl, rfl⟩ := e; exact ⟨F, R, Same.refl _, o⟩
  | new d' => simp only [Z.esc, Option.some.injEq, Prod.mk.injEq] at e; obtain ⟨rfl, rfl⟩ := e; exact ⟨F, R, Same.refl _, o⟩
  | slot i =>
    simp only [Z.esc] at e
    split at e
    · rename_i d' h
      simp only [Option.some.injEq, Prod.mk.injEq] at e; obtain ⟨rfl, rfl⟩ := e
      obtain ⟨x, ex, rx⟩ := R.sl i _ h
      rw [show σ[i]? = some (some v) from o] at ex; cases ex
      exact ⟨F, R, Same.refl _, rx⟩
    · rename_i d' h
      simp only [Option.some.injEq, Prod.mk.injEq] at e; obtain ⟨rfl, rfl⟩ := e
      obtain ⟨F', a, R', s, ea, rp⟩ := R.slotFreeze h
      rw [show σ[i]? = some (some v) from o] at ea; cases ea
      exact ⟨F', R', s, rp⟩
    · cases e
end

theorem PE.imp {X : Cx} {e : Expr} {t t' : TE} (h : PE X e t) (hi : ∀ σ H Q, t' σ H Q → t σ H Q) : PE X e t' := ⟨fun pins s σ H Q I q => h.run pins s σ H Q I (hi σ H Q q)⟩
theorem PT.imp {X : Cx} {e : Expr} {t t' : TT} (h : PT X e t) (hi : ∀ σ H Q, t' σ H Q → t σ H Q) : PT X e t' := ⟨fun pins s σ H Q I q => h.run pins s σ H Q I (hi σ H Q q)⟩
theorem PA.imp {X : Cx} {e : List Expr} {t t' : TA} (h : PA X e t) (hi : ∀ σ H Q, t' σ H Q → t σ H Q) : PA X e t' := ⟨fun pos pins s σ H Q I q => h.run pos pins s σ H Q I (hi σ H Q q)⟩
theorem PS.imp {X : Cx} {e : Stmt} {t t' : TS} (h : PS X e t) (hi : ∀ D σ H, t' D σ H → t D σ H) : PS X e t' := ⟨fun pins s σ H D I q => h.run pins s σ H D I (hi D σ H q)⟩
theorem PSs.imp {X : Cx} {e : List Stmt} {t t' : TS} (h : PSs X e t) (hi : ∀ D σ H, t' D σ H → t D σ H) : PSs X e t' := ⟨fun pins s σ H D I q => h.run pins s σ H D I (hi D σ H q)⟩
theorem PG.imp {X : Cx} {e : Expr} {t t' : TG} (h : PG X e t) (hi : ∀ v σ H Q, t' v σ H Q → t v σ H Q) : PG X e t' := ⟨fun pins s σ H v u Q I r q => h.run pins s σ H v u Q I r (hi v σ H Q q)⟩

abbrev Sem1 := Ev → Option (Res × Ev)
def tX (K : PySem.W.Frag) (f : Sem1) : TE := fun σ H Q => ∃ Rf G ρ F r ρ', SR K Rf G ρ F σ H ∧ f ρ = some (r, ρ') ∧ ∀ v F' H', SR K Rf G ρ' F' σ H' → Same F F' → RR K G ρ' F' σ H' v r → Q v H'
def tV (K : PySem.W.Frag) (f : Ev → Option (PyData × Ev)) : TE := fun σ H Q => ∃ Rf G ρ F d ρ', SR K Rf G ρ F σ H ∧ f ρ = some (d, ρ') ∧ ∀ v F' H', SR K Rf G ρ' F' σ H' → Same F F' → Rp K F' v d → Q v H'
def tB1 (K : PySem.W.Frag) (f : Ev → Option (Bool × Ev)) : TT := fun σ H Q => ∃ Rf G ρ F b ρ', SR K Rf G ρ F σ H ∧ f ρ = some (b, ρ') ∧ ∀ F' H', SR K Rf G ρ' F' σ H' → Same F F' → Q b H'
/-- operands from the left -/
def tOs (K : PySem.W.Frag) (f : Ev → Option (List Res × Ev)) : TA := fun σ H Q => ∃ Rf G ρ F rs ρ', SR K Rf G ρ F σ H ∧ f ρ = some (rs, ρ') ∧ ∀ vs F' H', SR K Rf G ρ' F' σ H' → Same F F' → ORs K F' σ vs rs → Q vs H'
/-- values from the left -/
def tVs (K : PySem.W.Frag) (f : Ev → Option (List PyData × Ev)) : TA := fun σ H Q => ∃ Rf G ρ F ds ρ', SR K Rf G ρ F σ H ∧ f ρ = some (ds, ρ') ∧ ∀ vs F' H', SR K Rf G ρ' F' σ H' → Same F F' → RpA K F' vs ds → Q vs H'

/-- an operand's reading out of a value's -/
theorem tX_opd {K : PySem.W.Frag} {f : Sem1} {σ : St} {H : Hp} {Q : VK} {Rf : Nat → Option Addr} {G F : Hp} {ρ ρ' : Ev} {r : Res} (R : SR K Rf G ρ F σ H) (e : f ρ = some (r, ρ'))
    (k : ∀ v F' H', SR K Rf G ρ' F' σ H' → Same F F' → OR K F' σ v r → Q v H') : tX K f σ H Q :=
  ⟨Rf, G, ρ, F, r, ρ', R, e, fun v F1 H1 R1 s1 q => by
    obtain ⟨F2, R2, s2, o⟩ := R1.opd q
    exact k v F2 H1 R2 (s1.trans s2) o⟩
theorem tX_val {K : PySem.W.Frag} {f : Sem1} {σ : St} {H : Hp} {Q : VK} {Rf : Nat → Option Addr} {G F : Hp} {ρ ρ' : Ev} {d : PyData} (R : SR K Rf G ρ F σ H) (e : valof f ρ = some (d, ρ'))
    (k : ∀ v F' H', SR K Rf G ρ' F' σ H' → Same F F' → Rp K F' v d → Q v H') : tX K f σ H Q := by
  simp only [valof, Option.bind_eq_some_iff] at e
  obtain ⟨⟨r, ρ1⟩, e1, e2⟩ := e
  refine tX_opd R e1 fun v F1 H1 R1 s1 o => ?_
  obtain ⟨F2, R2, s2, z⟩ := R1.esc o e2
  exact k v F2 H1 R2 (s1.trans s2) z
theorem tX_bool {K : PySem.W.Frag} {f : Sem1} {σ : St} {H : Hp} {Q : VK} {Rf : Nat → Option Addr} {G F : Hp} {ρ ρ' : Ev} {b : Bool} (R : SR K Rf G ρ F σ H) (e : truth f ρ = some (b, ρ'))
    (k : ∀ F' H', SR K Rf G ρ' F' σ H' → Same F F' → Q (.bl b) H') : tX K f σ H Q := by
  simp only [truth, Option.bind_eq_some_iff] at e
  obtain ⟨⟨r, ρ1⟩, e1, e2⟩ := e
  simp only at e2
  split at e2
  · rename_i b' h
    simp only [Option.some.injEq, Prod.mk.injEq] at e2
    obtain ⟨rfl, rfl⟩ := e2
    refine tX_opd R e1 fun v F1 H1 R1 s1 o => ?_
    obtain rfl : v = .bl b' := R1.rq o h
    exact k F1 H1 R1 s1
  · cases e2

abbrev CE (X : Cx) (Φ : Fns) (bf : Nat → Option Nat) (e : Expr) (x : Z.X) : Prop := PE X e (tX X.K (ev Φ bf x))
abbrev CT (X : Cx) (Φ : Fns) (bf : Nat → Option Nat) (e : Expr) (x : Z.X) : Prop := PT X e (tB1 X.K (truth (ev Φ bf x)))
abbrev CA (X : Cx) (Φ : Fns) (bf : Nat → Option Nat) (es : List Expr) (xs : Xs) : Prop := PA X es (tOs X.K (evs Φ bf xs))
abbrev CV (X : Cx) (Φ : Fns) (bf : Nat → Option Nat) (es : List Expr) (xs : Xs) : Prop := PA X es (tVs X.K (evv Φ bf xs))

/-- what a rule r by values is worth -/
def Ok1 (K : PySem.W.Frag) (r : V → Hp → VK → Prop) (f : PyData → Option (Bool × PyData)) : Prop := ∀ (Rf : Nat → Option Addr) (G : Hp) (ρ : Ev) (F : Hp) (σ : St) (H : Hp) (v : V) (d : PyData) (n : Bool) (d' : PyData) (Q : VK),
  SR K Rf G ρ F σ H → Rq K F H v d → f d = some (n, d') → (∀ v' F' H', SR K Rf G ρ F' σ H' → Same F F' → RR K G ρ F' σ H' v' (mkR n d') → Q v' H') → r v H Q
def Ok2 (K : PySem.W.Frag) (r : R2) (f : PyData → PyData → Option (Bool × PyData)) : Prop := ∀ (Rf : Nat → Option Addr) (G : Hp) (ρ : Ev) (F : Hp) (σ : St) (H : Hp) (v w : V) (d e : PyData) (n : Bool) (d' : PyData) (Q : VK),
  SR K Rf G ρ F σ H → Rq K F H v d → Rq K F H w e → f d e = some (n, d') → (∀ v' F' H', SR K Rf G ρ F' σ H' → Same F F' → RR K G ρ F' σ H' v' (mkR n d') → Q v' H') → r v w H Q
def OkN (K : PySem.W.Frag) (r : List V → Hp → VK → Prop) (f : List PyData → Option (Bool × PyData)) : Prop := ∀ (Rf : Nat → Option Addr) (G : Hp) (ρ : Ev) (F : Hp) (σ : St) (H : Hp) (vs : List V) (ds : List PyData) (n : Bool) (d' : PyData) (Q : VK),
  SR K Rf G ρ F σ H → RqA K F H vs ds → f ds = some (n, d') → (∀ v' F' H', SR K Rf G ρ F' σ H' → Same F F' → RR K G ρ F' σ H' v' (mkR n d') → Q v' H') → r vs H Q

section
variable {X : Cx} {Φ : Fns} {bf : Nat → Option Nat} {e a b c : Expr} {x y z : Z.X}
theorem red1 {K : PySem.W.Frag} {r : V → Hp → VK → Prop} {f : PyData → Option (Bool × PyData)} (ok : Ok1 K r f) {σ : St} {H : Hp} {Q : VK} (h : tX K (ev Φ bf (.op1 f x)) σ H Q) : tX K (ev Φ bf x) σ H fun v H1 => r v H1 Q := by
  obtain ⟨Rf, G, ρ, F, res, ρ', R, e, k⟩ := h
  simp only [ev, Option.bind_eq_some_iff] at e
  obtain ⟨⟨ra, ρ1⟩, ea, d, ed, ⟨n, d'⟩, ef, e⟩ := e
  simp only [Option.some.injEq, Prod.mk.injEq] at e
  obtain ⟨rfl, rfl⟩ := e
  refine tX_opd R ea fun v F1 H1 R1 s1 o => ?_
  exact ok _ _ _ _ _ _ _ _ _ _ _ R1 (R1.rq o ed) ef fun v' F' H' R' s' q => k v' F' H' R' (s1.trans s') q
theorem red2 {K : PySem.W.Frag} {r : R2} {f : PyData → PyData → Option (Bool × PyData)} (ok : Ok2 K r f) {σ : St} {H : Hp} {Q : VK} (h : tX K (ev Φ bf (.op2 f x y)) σ H Q) : tX K (ev Φ bf x) σ H fun v H1 => tX K (ev Φ bf y) σ H1 fun w H2 => r v w H2 Q := by
  obtain ⟨Rf, G, ρ, F, res, ρ', R, e, k⟩ := h
  simp only [ev, Option.bind_eq_some_iff] at e
  obtain ⟨⟨ra, ρ1⟩, ea, ⟨rb, ρ2⟩, eb, d, ed, d2, ed2, ⟨n, d'⟩, ef, e⟩ := e
  simp only [Option.some.injEq, Prod.mk.injEq] at e
  obtain ⟨rfl, rfl⟩ := e
  refine tX_opd R ea fun v F1 H1 R1 s1 o => ?_
  refine tX_opd R1 eb fun w F2 H2 R2 s2 o2 => ?_
  exact ok _ _ _ _ _ _ _ _ _ _ _ _ _ R2 (R2.rq (o.mono s2) ed) (R2.rq o2 ed2) ef fun v' F' H' R' s' q => k v' F' H' R' (s1.trans (s2.trans s')) q
theorem redN {K : PySem.W.Frag} {r : List V → Hp → VK → Prop} {f : List PyData → Option (Bool × PyData)} {xs : Xs} (ok : OkN K r f) {σ : St} {H : Hp} {Q : VK} (h : tX K (ev Φ bf (.opn f xs)) σ H Q) : tOs K (evs Φ bf xs) σ H fun vs H1 => r vs H1 Q := by
  obtain ⟨Rf, G, ρ, F, res, ρ', R, e, k⟩ := h
  simp only [ev, Option.bind_eq_some_iff] at e
  obtain ⟨⟨rs, ρ1⟩, ea, ds, ed, ⟨n, d'⟩, ef, e⟩ := e
  simp only [Option.some.injEq, Prod.mk.injEq] at e
  obtain ⟨rfl, rfl⟩ := e
  refine ⟨Rf, G, ρ, F, rs, ρ1, R, ea, fun vs F1 H1 R1 s1 o => ?_⟩
  exact ok _ _ _ _ _ _ _ _ _ _ _ R1 (R1.rqs o ed) ef fun v' F' H' R' s' q => k v' F' H' R' (s1.trans s') q
/-- a test out of a reading -/
theorem redT {K : PySem.W.Frag} {f : Sem1} {σ : St} {H : Hp} {Q : Bool → Hp → Prop} (h : tB1 K (truth f) σ H Q) : tX K f σ H fun x H1 => ∃ k, x = .bl k ∧ Q k H1 := by
  obtain ⟨Rf, G, ρ, F, b, ρ', R, e, k⟩ := h
  exact tX_bool R e fun F' H' R' s' => ⟨b, rfl, k F' H' R' s'⟩

/-- forms with one, two operands -/
theorem ce1 {r : V → Hp → VK → Prop} {f : PyData → Option (Bool × PyData)} (ok : Ok1 X.K r f) (hp : ∀ ta, PE X a ta → PE X e (fun σ H Q => ta σ H fun x H1 => r x H1 Q)) (ha : CE X Φ bf a x) : CE X Φ bf e (.op1 f x) :=
  PE.imp (hp _ ha) fun σ H Q h => red1 ok h
theorem ce2 {r : R2} {f : PyData → PyData → Option (Bool × PyData)} (ok : Ok2 X.K r f) (hp : ∀ ta tb, PE X a ta → PE X b tb → PE X e (tOp r ta tb)) (ha : CE X Φ bf a x) (hb : CE X Φ bf b y) : CE X Φ bf e (.op2 f x y) :=
  PE.imp (hp _ _ ha hb) fun σ H Q h => red2 ok h
theorem ceN {r : List V → Hp → VK → Prop} {f : List PyData → Option (Bool × PyData)} {es : List Expr} {xs : Xs} (ok : OkN X.K r f) (hp : ∀ t, PA X es t → PE X e (tCB r t)) (ha : CA X Φ bf es xs) : CE X Φ bf e (.opn f xs) :=
  PE.imp (hp _ ha) fun σ H Q h => redN ok h
theorem ct_of (h : ∀ t, PE X e t → PT X e (tTest t)) (he : CE X Φ bf e x) : CT X Φ bf e x := PT.imp (h _ he) fun σ H Q q => redT q
theorem ct2 {r : R2} {f : PyData → PyData → Option (Bool × PyData)} (ok : Ok2 X.K r f) (hp : ∀ ta tb, PE X a ta → PE X b tb → PT X e (tTest (tOp r ta tb))) (ha : CE X Φ bf a x) (hb : CE X Φ bf b y) : CT X Φ bf e (.op2 f x y) :=
  PT.imp (hp _ _ ha hb) fun σ H Q h => red2 ok (redT h)

/-- names, constants -/
theorem SR.there {K : PySem.W.Frag} {Rf : Nat → Option Addr} {G F H : Hp} {ρ : Ev} {σ : St} {i : Nat} {s : Slot} {d : PyData} (R : SR K Rf G ρ F σ H) (e : ρ[i]? = some s) (g : s.get = some d) : ∃ v, σ[i]? = some (some v) := by
  have q := R.sl i s e
  cases s with
  | un => cases g
  | dat d' => obtain ⟨x, e, _⟩ := q; exact ⟨x, e⟩
  | own d' => obtain ⟨x, e, _⟩ := q; exact ⟨_, e⟩
  | ref d' => obtain ⟨x, e, _⟩ := q; exact ⟨_, e⟩
  | lok b d' => obtain ⟨x, o, e, _⟩ := q; exact ⟨_, e⟩
theorem ce_v (i : Nat) {n : Str} {pos : Pos} (hN : X.N[i]? = some n) (hv : Vis X.env.scope n) (hd : (n == ("__debug__" : Str)) = false := by decide) (hcd : (n == ("__classdict__" : Str)) = false := by decide) : CE X Φ bf (.Name n pos) (.v i) := by
  refine PE.imp (pe_var hN hv hd hcd) fun σ H Q h => ?_
  obtain ⟨Rf, G, ρ, F, r, ρ', R, e, k⟩ := h
  simp only [ev, Option.bind_eq_some_iff] at e
  obtain ⟨s, e1, d, e2, e⟩ := e
  simp only [Option.some.injEq, Prod.mk.injEq] at e
  obtain ⟨rfl, rfl⟩ := e
  obtain ⟨v, hv⟩ := R.there e1 e2
  exact ⟨v, hv, k v F H R (Same.refl _) hv⟩
/-- a reading of one known value -/
theorem ce_k {v : V} {d : PyData} (h : PE X e (tC v)) (hd : ∀ F, Rp X.K F v d) : CE X Φ bf e (.k d) := by
  refine PE.imp h fun σ H Q h => ?_
  obtain ⟨Rf, G, ρ, F, r, ρ', R, e, k⟩ := h
  simp only [ev, Option.some.injEq, Prod.mk.injEq] at e
  obtain ⟨rfl, rfl⟩ := e
  exact k v F H R (Same.refl _) (hd F)
theorem ce_int {i : Int} {j pos} : CE X Φ bf (.Constant (.int i) j pos) (.k (.int i)) := ce_k pe_int fun _ => .int i
theorem ce_bl {b : Bool} {j pos} : CE X Φ bf (.Constant (.bool b) j pos) (.k (.bool b)) := ce_k pe_bl fun _ => .bl b
theorem ce_non {j pos} : CE X Φ bf (.Constant .none j pos) (.k .none) := ce_k pe_non fun _ => .non
theorem ce_str {s : Str} {j pos} : CE X Φ bf (.Constant (.str s) j pos) (.k (.str s)) := ce_k pe_str fun _ => .str s

theorem ce_one {op} {pos} (h : CE X Φ bf a x) : CE X Φ bf (.BoolOp op [a] pos) x := pe_one h
theorem ce_and {rest : List Expr} {pos} (ha : CE X Φ bf a x) (hb : CE X Φ bf (.BoolOp .And (b :: rest) pos) y) : CE X Φ bf (.BoolOp .And (a :: b :: rest) pos) (.and x y) := by
  refine PE.imp (pe_and ha hb) fun σ H Q h => ?_
  obtain ⟨Rf, G, ρ, F, r, ρ', R, e, k⟩ := h
  simp only [ev, Option.bind_eq_some_iff] at e
  obtain ⟨⟨p, ρ1⟩, ea, e⟩ := e
  refine tX_bool R ea fun F1 H1 R1 s1 => ⟨p, rfl, ?_⟩
  cases p with
  | true =>
    simp only [if_true, Option.bind_eq_some_iff] at e ⊢
    obtain ⟨⟨q, ρ2⟩, eb, e⟩ := e
    simp only [Option.some.injEq, Prod.mk.injEq] at e
    obtain ⟨rfl, rfl⟩ := e
    exact tX_bool R1 eb fun F2 H2 R2 s2 => k _ F2 H2 R2 (s1.trans s2) (.bl q)
  | false =>
    simp only [Bool.false_eq_true, if_false, Option.some.injEq, Prod.mk.injEq] at e ⊢
    obtain ⟨rfl, rfl⟩ := e
    exact k _ F1 H1 R1 s1 (.bl false)
theorem ce_or {rest : List Expr} {pos} (ha : CE X Φ bf a x) (hb : CE X Φ bf (.BoolOp .Or (b :: rest) pos) y) : CE X Φ bf (.BoolOp .Or (a :: b :: rest) pos) (.or x y) := by
  refine PE.imp (pe_or ha hb) fun σ H Q h => ?_
  obtain ⟨Rf, G, ρ, F, r, ρ', R, e, k⟩ := h
  simp only [ev, Option.bind_eq_some_iff] at e
  obtain ⟨⟨p, ρ1⟩, ea, e⟩ := e
  refine tX_bool R ea fun F1 H1 R1 s1 => ⟨p, rfl, ?_⟩
  cases p with
  | false =>
    simp only [Bool.false_eq_true, if_false, Option.bind_eq_some_iff] at e ⊢
    obtain ⟨⟨q, ρ2⟩, eb, e⟩ := e
    simp only [Option.some.injEq, Prod.mk.injEq] at e
    obtain ⟨rfl, rfl⟩ := e
    exact tX_bool R1 eb fun F2 H2 R2 s2 => k _ F2 H2 R2 (s1.trans s2) (.bl q)
  | true =>
    simp only [if_true, Option.some.injEq, Prod.mk.injEq] at e ⊢
    obtain ⟨rfl, rfl⟩ := e
    exact k _ F1 H1 R1 s1 (.bl true)
def pNot : PyData → Option (Bool × PyData)
  | .bool b => some (false, .bool (!b))
  | _ => none
theorem ok_not {K : PySem.W.Frag} : Ok1 K (fun x H Q => ∃ c, x = .bl c ∧ Q (.bl (!c)) H) pNot := by
  intro Rf G ρ F σ H v d n d' Q R q e k
  cases d with
  | bool b =>
    cases e
    cases q
    exact ⟨b, rfl, k _ F H R (Same.refl _) (.bl _)⟩
  | _ => cases e
theorem ce_not {pos} (ha : CE X Φ bf a x) : CE X Φ bf (.UnaryOp .Not a pos) (.op1 pNot x) := ce1 ok_not (fun _ h => pe_not h) ha
abbrev CW (X : Cx) (Φ : Fns) (bf : Nat → Option Nat) (e : Expr) (x : Z.X) : Prop := PW X e (tB1 X.K (truth (ev Φ bf x)))
theorem PW.imp {X : Cx} {e : Expr} {t t' : TT} (h : PW X e t) (hi : ∀ σ H Q, t' σ H Q → t σ H Q) : PW X e t' := ⟨fun wh pins s σ H Q I q => h.run wh pins s σ H Q I (hi σ H Q q)⟩
theorem ct_and1 {pos} (ha : CT X Φ bf a x) : CW X Φ bf (.BoolOp .And [a] pos) x := pw_and1 ha
theorem ct_or1 {pos} (ha : CT X Φ bf a x) : CW X Φ bf (.BoolOp .Or [a] pos) x := pw_or1 ha
theorem ct_and {rest : List Expr} {pos} (ha : CT X Φ bf a x) (hb : CW X Φ bf (.BoolOp .And (b :: rest) pos) y) : CW X Φ bf (.BoolOp .And (a :: b :: rest) pos) (.and x y) := by
  refine PW.imp (pw_and ha hb) fun σ H Q h => ?_
  obtain ⟨Rf, G, ρ, F, r, ρ', R, e, k⟩ := h
  simp only [truth, ev, Option.bind_eq_some_iff] at e
  obtain ⟨⟨r0, ρ0⟩, ⟨⟨p, ρ1⟩, ea, e⟩, e0⟩ := e
  refine ⟨Rf, G, ρ, F, p, ρ1, R, by simp only [truth, Option.bind_eq_some_iff]; exact ea, fun F1 H1 R1 s1 => ?_⟩
  cases p with
  | true =>
    simp only [if_true, Option.bind_eq_some_iff] at e ⊢
    obtain ⟨⟨q, ρ2⟩, eb, e⟩ := e
    simp only [Option.some.injEq, Prod.mk.injEq] at e
    obtain ⟨rfl, rfl⟩ := e
    simp only [Res.get, Option.some.injEq, Prod.mk.injEq] at e0
    obtain ⟨rfl, rfl⟩ := e0
    exact ⟨Rf, G, ρ1, F1, q, _, R1, by simp only [truth, Option.bind_eq_some_iff]; exact eb, fun F2 H2 R2 s2 => k F2 H2 R2 (s1.trans s2)⟩
  | false =>
    simp only [Bool.false_eq_true, if_false, Option.some.injEq, Prod.mk.injEq] at e ⊢
    obtain ⟨rfl, rfl⟩ := e
    simp only [Res.get, Option.some.injEq, Prod.mk.injEq] at e0
    obtain ⟨rfl, rfl⟩ := e0
    exact k F1 H1 R1 s1
theorem ct_or {rest : List Expr} {pos} (ha : CT X Φ bf a x) (hb : CW X Φ bf (.BoolOp .Or (b :: rest) pos) y) : CW X Φ bf (.BoolOp .Or (a :: b :: rest) pos) (.or x y) := by
  refine PW.imp (pw_or ha hb) fun σ H Q h => ?_
  obtain ⟨Rf, G, ρ, F, r, ρ', R, e, k⟩ := h
  simp only [truth, ev, Option.bind_eq_some_iff] at e
  obtain ⟨⟨r0, ρ0⟩, ⟨⟨p, ρ1⟩, ea, e⟩, e0⟩ := e
  refine ⟨Rf, G, ρ, F, p, ρ1, R, by simp only [truth, Option.bind_eq_some_iff]; exact ea, fun F1 H1 R1 s1 => ?_⟩
  cases p with
  | false =>
    simp only [Bool.false_eq_true, if_false, Option.bind_eq_some_iff] at e ⊢
    obtain ⟨⟨q, ρ2⟩, eb, e⟩ := e
    simp only [Option.some.injEq, Prod.mk.injEq] at e
    obtain ⟨rfl, rfl⟩ := e
    simp only [Res.get, Option.some.injEq, Prod.mk.injEq] at e0
    obtain ⟨rfl, rfl⟩ := e0
    exact ⟨Rf, G, ρ1, F1, q, _, R1, by simp only [truth, Option.bind_eq_some_iff]; exact eb, fun F2 H2 R2 s2 => k F2 H2 R2 (s1.trans s2)⟩
  | true =>
    simp only [if_true, Option.some.injEq, Prod.mk.injEq] at e ⊢
    obtain ⟨rfl, rfl⟩ := e
    simp only [Res.get, Option.some.injEq, Prod.mk.injEq] at e0
    obtain ⟨rfl, rfl⟩ := e0
    exact k F1 H1 R1 s1
theorem ct_not {pos} (ha : CT X Φ bf a x) : CT X Φ bf (.UnaryOp .Not a pos) (.op1 pNot x) := by
  refine PT.imp (pt_not ha) fun σ H Q h => ?_
  obtain ⟨Rf, G, ρ, F, b, ρ', R, e, k⟩ := h
  simp only [truth, ev, Option.bind_eq_some_iff] at e
  obtain ⟨⟨r0, ρ0⟩, ⟨⟨r1, ρ1⟩, ea, d, ed, ⟨n, d'⟩, ef, e⟩, e0⟩ := e
  cases d with
  | bool b1 =>
    cases ef
    simp only [Option.some.injEq, Prod.mk.injEq] at e
    obtain ⟨rfl, rfl⟩ := e
    simp only [mkR, Bool.false_eq_true, if_false, Res.get, Option.some.injEq, Prod.mk.injEq] at e0
    obtain ⟨rfl, rfl⟩ := e0
    refine ⟨Rf, G, ρ, F, b1, _, R, ?_, fun F1 H1 R1 s1 => k F1 H1 R1 s1⟩
    simp only [truth, Option.bind_eq_some_iff]
    exact ⟨(r1, ρ1), ea, by simp only [ed]⟩
  | _ => cases ef
theorem ce_ite {pos} (hc : CT X Φ bf c z) (ha : CE X Φ bf a x) (hb : CE X Φ bf b y) : CE X Φ bf (.IfExp c a b pos) (.ite z x y) := by
  refine PE.imp (pe_ifExp hc ha hb) fun σ H Q h => ?_
  obtain ⟨Rf, G, ρ, F, r, ρ', R, e, k⟩ := h
  simp only [ev, Option.bind_eq_some_iff] at e
  obtain ⟨⟨p, ρ1⟩, ec, e⟩ := e
  refine ⟨Rf, G, ρ, F, p, ρ1, R, ec, fun F1 H1 R1 s1 => ?_⟩
  cases p with
  | true =>
    simp only [if_true] at e ⊢
    exact ⟨Rf, G, ρ1, F1, r, ρ', R1, e, fun v F2 H2 R2 s2 q => k v F2 H2 R2 (s1.trans s2) q⟩
  | false =>
    simp only [Bool.false_eq_true, if_false] at e ⊢
    exact ⟨Rf, G, ρ1, F1, r, ρ', R1, e, fun v F2 H2 R2 s2 q => k v F2 H2 R2 (s1.trans s2) q⟩
theorem redC {K : PySem.W.Frag} {r r' : R2} {f g : PyData → PyData → Option (Bool × PyData)} (ok : Ok2 K r f) (ok' : Ok2 K r' g) {σ : St} {H : Hp} {Q : VK} (h : tX K (ev Φ bf (.chain f g x y z)) σ H Q) : tChain r r' (tX K (ev Φ bf x)) (tX K (ev Φ bf y)) (tX K (ev Φ bf z)) σ H Q := by
  obtain ⟨Rf, G, ρ, F, res, ρ', R, e, k⟩ := h
  simp only [ev, Option.bind_eq_some_iff] at e
  obtain ⟨⟨ra, ρ1⟩, ea, ⟨rb, ρ2⟩, eb, d, ed, d2, ed2, e⟩ := e
  refine tX_opd R ea fun v F1 H1 R1 s1 o => ?_
  refine tX_opd R1 eb fun w F2 H2 R2 s2 o2 => ?_
  split at e
  · rename_i ef
    simp only [Option.bind_eq_some_iff] at e
    obtain ⟨⟨rc, ρ3⟩, ec, d3, ed3, d4, ed4, e⟩ := e
    split at e
    · rename_i zb eg
      simp only [Option.some.injEq, Prod.mk.injEq] at e
      obtain ⟨rfl, rfl⟩ := e
      refine ok _ _ _ _ _ _ _ _ _ _ _ _ _ R2 (R2.rq (o.mono s2) ed) (R2.rq o2 ed2) ef fun v' F' H' R' s' q => ?_
      obtain rfl : v' = .bl true := Rp.rq R'.fz q
      refine ⟨true, rfl, ?_⟩
      rw [if_pos rfl]
      refine tX_opd R' ec fun u F3 H3 R3 s3 o3 => ?_
      refine ok' _ _ _ _ _ _ _ _ _ _ _ _ _ R3 (R3.rq ((o2.mono s').mono s3) ed3) (R3.rq o3 ed4) eg fun v' F' H' R' s'' q => ?_
      exact k v' F' H' R' (s1.trans (s2.trans (s'.trans (s3.trans s'')))) q
    · cases e
  · rename_i ef
    simp only [Option.some.injEq, Prod.mk.injEq] at e
    obtain ⟨rfl, rfl⟩ := e
    refine ok _ _ _ _ _ _ _ _ _ _ _ _ _ R2 (R2.rq (o.mono s2) ed) (R2.rq o2 ed2) ef fun v' F' H' R' s' q => ?_
    obtain rfl : v' = .bl false := Rp.rq R'.fz q
    refine ⟨false, rfl, ?_⟩
    rw [if_neg Bool.false_ne_true]
    exact k _ F' H' R' (s1.trans (s2.trans s')) (.bl false)
  · cases e
/-- a op1 b op2 c op3 d -/
def tChain3 (r r' r'' : R2) (ta tb tc td : TE) : TE := fun σ H Q => ta σ H fun x H1 => tb σ H1 fun y H2 => r x y H2 fun z H3 => ∃ k, z = .bl k ∧
  (if k = true then tc σ H3 fun w H4 => r' y w H4 fun z' H5 => ∃ k', z' = .bl k' ∧ (if k' = true then td σ H5 fun u H6 => r'' w u H6 Q else Q (.bl false) H5) else Q (.bl false) H3)
theorem pe_chain3 {X : Cx} {a b c d : Expr} {ta tb tc td : TE} {pos : Pos} {op op' op'' : CmpOp} {r r' r'' : R2} (ho : OpR X (compareOp op) r) (ho' : OpR X (compareOp op') r') (ho'' : OpR X (compareOp op'') r'') (ha : PE X a ta) (hb : PE X b tb) (hc : PE X c tc) (hd : PE X d td)
    (hm : lastMarks [op, op', op''] [b, c, d] = false := by with_unfolding_all rfl) : PE X (.Compare a [op, op', op''] [b, c, d] pos) (tChain3 r r' r'' ta tb tc td) := by
  refine ⟨fun pins s σ H Q I h => ?_⟩
  refine Compare_chain (thn (ha.run pins s σ H _ I h) fun v s1 ⟨x, H1, I1, r1, q1⟩ => chain_link (thn (hb.run pins s1 σ H1 _ I1 q1) fun u s2 ⟨y, H2, I2, r2, q2⟩ =>
    thn (ho pins s2 σ H2 x y v u _ I2 r1 r2 q2) fun d s3 ⟨z, H3, I3, r3, k, e, q3⟩ => ?_)) hm
  subst e
  cases r3
  refine wpAny_truthy_bool ?_
  cases k with
  | false => exact ite_ff ⟨.bl false, H3, I3, rfl, q3⟩
  | true =>
    refine ite_tt (chain_link (thn (hc.run pins s3 σ H3 _ I3 q3) fun w' s4 ⟨z', H4, I4, r4, q4⟩ => thn (ho' pins s4 σ H4 y z' u w' _ I4 r2 r4 q4) fun d s5 ⟨z, H5, I5, r5, k, e, q5⟩ => ?_))
    subst e
    cases r5
    refine wpAny_truthy_bool ?_
    cases k with
    | false => exact ite_ff ⟨.bl false, H5, I5, rfl, q5⟩
    | true => exact ite_tt (chain_last (thn (hd.run pins s5 σ H5 _ I5 q5) fun t' s6 ⟨z6, H6, I6, r6, q6⟩ => ho'' pins s6 σ H6 z' z6 w' t' Q I6 r4 r6 q6))
theorem pt_chain3 {X : Cx} {a b c d : Expr} {ta tb tc td : TE} {pos : Pos} {op op' op'' : CmpOp} {r r' r'' : R2} (ho : OpR X (compareOp op) r) (ho' : OpR X (compareOp op') r') (ho'' : OpR X (compareOp op'') r'') (ha : PE X a ta) (hb : PE X b tb) (hc : PE X c tc) (hd : PE X d td)
    (hm : lastMarks [op, op', op''] [b, c, d] = false := by with_unfolding_all rfl) : PT X (.Compare a [op, op', op''] [b, c, d] pos) (tTest (tChain3 r r' r'' ta tb tc td)) := by
  refine ⟨fun pins s σ H Q I h => ?_⟩
  refine isTrue_chain (thn (ha.run pins s σ H _ I h) fun v s1 ⟨x, H1, I1, r1, q1⟩ => test_link (thn (hb.run pins s1 σ H1 _ I1 q1) fun u s2 ⟨y, H2, I2, r2, q2⟩ =>
    thn (ho pins s2 σ H2 x y v u _ I2 r1 r2 q2) fun d s3 ⟨z, H3, I3, r3, k, e, q3⟩ => ?_)) hm
  subst e
  cases r3
  refine wpAny_truthy_bool ?_
  cases k with
  | false =>
    obtain ⟨k', e', q'⟩ := q3
    cases e'
    exact ite_ff ⟨H3, I3, q'⟩
  | true =>
    refine ite_tt (test_link (thn (hc.run pins s3 σ H3 _ I3 q3) fun w' s4 ⟨z', H4, I4, r4, q4⟩ => thn (ho' pins s4 σ H4 y z' u w' _ I4 r2 r4 q4) fun d s5 ⟨z, H5, I5, r5, k, e, q5⟩ => ?_))
    subst e
    cases r5
    refine wpAny_truthy_bool ?_
    cases k with
    | false =>
      obtain ⟨k', e', q'⟩ := q5
      cases e'
      exact ite_ff ⟨H5, I5, q'⟩
    | true =>
      refine ite_tt (test_last (thn (hd.run pins s5 σ H5 _ I5 q5) fun t' s6 ⟨z6, H6, I6, r6, q6⟩ => thn (ho'' pins s6 σ H6 z' z6 w' t' _ I6 r4 r6 q6) fun c s7 ⟨z7, H7, I7, r7, k7, e7, q7⟩ => ?_))
      subst e7
      cases r7
      exact wpAny_truthy_bool ⟨H7, I7, q7⟩
theorem redC3 {K : PySem.W.Frag} {r r' r'' : R2} {f g h : PyData → PyData → Option (Bool × PyData)} (ok : Ok2 K r f) (ok' : Ok2 K r' g) (ok'' : Ok2 K r'' h) {t : L2.Z.X} {σ : St} {H : Hp} {Q : VK} (q : tX K (ev Φ bf (.chain3 f g h x y z t)) σ H Q) : tChain3 r r' r'' (tX K (ev Φ bf x)) (tX K (ev Φ bf y)) (tX K (ev Φ bf z)) (tX K (ev Φ bf t)) σ H Q := by
  obtain ⟨Rf, G, ρ, F, res, ρ', R, e, k⟩ := q
  simp only [ev, Option.bind_eq_some_iff] at e
  obtain ⟨⟨ra, ρ1⟩, ea, ⟨rb, ρ2⟩, eb, d, ed, d2, ed2, e⟩ := e
  refine tX_opd R ea fun v F1 H1 R1 s1 o => ?_
  refine tX_opd R1 eb fun w F2 H2 R2 s2 o2 => ?_
  split at e
  · rename_i ef
    simp only [Option.bind_eq_some_iff] at e
    obtain ⟨⟨rc, ρ3⟩, ec, d3, ed3, d4, ed4, e⟩ := e
    refine ok _ _ _ _ _ _ _ _ _ _ _ _ _ R2 (R2.rq (o.mono s2) ed) (R2.rq o2 ed2) ef fun v' F' H' R' s' q => ?_
    obtain rfl : v' = .bl true := Rp.rq R'.fz q
    refine ⟨true, rfl, ?_⟩
    rw [if_pos rfl]
    refine tX_opd R' ec fun u F3 H3 R3 s3 o3 => ?_
    split at e
    · rename_i eg
      simp only [Option.bind_eq_some_iff] at e
      obtain ⟨⟨rd, ρ4⟩, ed', d5, ed5, d6, ed6, e⟩ := e
      refine ok' _ _ _ _ _ _ _ _ _ _ _ _ _ R3 (R3.rq ((o2.mono s').mono s3) ed3) (R3.rq o3 ed4) eg fun v' F5 H5 R5 s5 q => ?_
      obtain rfl : v' = .bl true := Rp.rq R5.fz q
      refine ⟨true, rfl, ?_⟩
      rw [if_pos rfl]
      refine tX_opd R5 ed' fun u' F6 H6 R6 s6 o6 => ?_
      split at e
      · rename_i zb eh
        simp only [Option.some.injEq, Prod.mk.injEq] at e
        obtain ⟨rfl, rfl⟩ := e
        refine ok'' _ _ _ _ _ _ _ _ _ _ _ _ _ R6 (R6.rq ((o3.mono s5).mono s6) ed5) (R6.rq o6 ed6) eh fun v' F' H' R' s'' q => ?_
        exact k v' F' H' R' (s1.trans (s2.trans (s'.trans (s3.trans (s5.trans (s6.trans s'')))))) q
      · cases e
    · rename_i eg
      simp only [Option.some.injEq, Prod.mk.injEq] at e
      obtain ⟨rfl, rfl⟩ := e
      refine ok' _ _ _ _ _ _ _ _ _ _ _ _ _ R3 (R3.rq ((o2.mono s').mono s3) ed3) (R3.rq o3 ed4) eg fun v' F5 H5 R5 s5 q => ?_
      obtain rfl : v' = .bl false := Rp.rq R5.fz q
      refine ⟨false, rfl, ?_⟩
      rw [if_neg Bool.false_ne_true]
      exact k _ F5 H5 R5 (s1.trans (s2.trans (s'.trans (s3.trans s5)))) (.bl false)
    · cases e
  · rename_i ef
    simp only [Option.some.injEq, Prod.mk.injEq] at e
    obtain ⟨rfl, rfl⟩ := e
    refine ok _ _ _ _ _ _ _ _ _ _ _ _ _ R2 (R2.rq (o.mono s2) ed) (R2.rq o2 ed2) ef fun v' F' H' R' s' q => ?_
    obtain rfl : v' = .bl false := Rp.rq R'.fz q
    refine ⟨false, rfl, ?_⟩
    rw [if_neg Bool.false_ne_true]
    exact k _ F' H' R' (s1.trans (s2.trans s')) (.bl false)
  · cases e
theorem ce_chain3 {op op' op'' : CmpOp} {r r' r'' : R2} {f g h : PyData → PyData → Option (Bool × PyData)} {d : Expr} {t : L2.Z.X} {pos} (ok : Ok2 X.K r f) (ok' : Ok2 X.K r' g) (ok'' : Ok2 X.K r'' h) (ho : OpR X (compareOp op) r) (ho' : OpR X (compareOp op') r') (ho'' : OpR X (compareOp op'') r'') (ha : CE X Φ bf a x) (hb : CE X Φ bf b y) (hc : CE X Φ bf c z) (hd : CE X Φ bf d t)
    (hm : lastMarks [op, op', op''] [b, c, d] = false := by with_unfolding_all rfl) : CE X Φ bf (.Compare a [op, op', op''] [b, c, d] pos) (.chain3 f g h x y z t) :=
  PE.imp (pe_chain3 ho ho' ho'' ha hb hc hd hm) fun σ H Q h => redC3 ok ok' ok'' h
theorem ct_chain3 {op op' op'' : CmpOp} {r r' r'' : R2} {f g h : PyData → PyData → Option (Bool × PyData)} {d : Expr} {t : L2.Z.X} {pos} (ok : Ok2 X.K r f) (ok' : Ok2 X.K r' g) (ok'' : Ok2 X.K r'' h) (ho : OpR X (compareOp op) r) (ho' : OpR X (compareOp op') r') (ho'' : OpR X (compareOp op'') r'') (ha : CE X Φ bf a x) (hb : CE X Φ bf b y) (hc : CE X Φ bf c z) (hd : CE X Φ bf d t)
    (hm : lastMarks [op, op', op''] [b, c, d] = false := by with_unfolding_all rfl) : CT X Φ bf (.Compare a [op, op', op''] [b, c, d] pos) (.chain3 f g h x y z t) :=
  PT.imp (pt_chain3 ho ho' ho'' ha hb hc hd hm) fun σ H Q h => redC3 ok ok' ok'' (redT h)
theorem ce_chain {op op' : CmpOp} {r r' : R2} {f g : PyData → PyData → Option (Bool × PyData)} {pos} (ok : Ok2 X.K r f) (ok' : Ok2 X.K r' g) (ho : OpR X (compareOp op) r) (ho' : OpR X (compareOp op') r') (ha : CE X Φ bf a x) (hb : CE X Φ bf b y) (hc : CE X Φ bf c z)
    (hm : lastMarks [op, op'] [b, c] = false := by with_unfolding_all rfl) : CE X Φ bf (.Compare a [op, op'] [b, c] pos) (.chain f g x y z) :=
  PE.imp (pe_chain ho ho' ha hb hc hm) fun σ H Q h => redC ok ok' h
theorem ct_chain {op op' : CmpOp} {r r' : R2} {f g : PyData → PyData → Option (Bool × PyData)} {pos} (ok : Ok2 X.K r f) (ok' : Ok2 X.K r' g) (ho : OpR X (compareOp op) r) (ho' : OpR X (compareOp op') r') (ha : CE X Φ bf a x) (hb : CE X Φ bf b y) (hc : CE X Φ bf c z)
    (hm : lastMarks [op, op'] [b, c] = false := by with_unfolding_all rfl) : CT X Φ bf (.Compare a [op, op'] [b, c] pos) (.chain f g x y z) :=
  PT.imp (pt_chain ho ho' ha hb hc hm) fun σ H Q h => redC ok ok' (redT h)
theorem ce_cmp {op : CmpOp} {r : R2} {f : PyData → PyData → Option (Bool × PyData)} {pos} (ok : Ok2 X.K r f) (ho : OpR X (compareOp op) r) (ha : CE X Φ bf a x) (hb : CE X Φ bf b y) (hm : behindInMarks op b = false) : CE X Φ bf (.Compare a [op] [b] pos) (.op2 f x y) :=
  ce2 ok (fun _ _ h1 h2 => pe_cmpR ho h1 h2 hm) ha hb
theorem ct_cmp {op : CmpOp} {r : R2} {f : PyData → PyData → Option (Bool × PyData)} {pos} (ok : Ok2 X.K r f) (ho : OpR X (compareOp op) r) (ha : CE X Φ bf a x) (hb : CE X Φ bf b y) (hm : behindInMarks op b = false) : CT X Φ bf (.Compare a [op] [b] pos) (.op2 f x y) :=
  ct2 ok (fun _ _ h1 h2 => pt_cmpR ho h1 h2 hm) ha hb
theorem ce_bin {op : Operator} {r : R2} {f : PyData → PyData → Option (Bool × PyData)} {pos} (ok : Ok2 X.K r f) (ho : OpR X (binaryOp op) r) (ha : CE X Φ bf a x) (hb : CE X Φ bf b y) : CE X Φ bf (.BinOp a op b pos) (.op2 f x y) :=
  ce2 ok (fun _ _ h1 h2 => pe_op ho h1 h2) ha hb
theorem ce_un {op : UnaryOp} {r : V → Hp → VK → Prop} {f : PyData → Option (Bool × PyData)} {pos} (ok : Ok1 X.K r f) (ho : UnR X (unaryOp op) r) (ha : CE X Φ bf a x) : CE X Φ bf (.UnaryOp op a pos) (.op1 f x) :=
  ce1 ok (fun _ h => pe_un ho h) ha

theorem ca_nil : CA X Φ bf [] .nil := by
  refine PA.imp pa_nil fun σ H Q h => ?_
  obtain ⟨Rf, G, ρ, F, r, ρ', R, e, k⟩ := h
  simp only [evs, Option.some.injEq, Prod.mk.injEq] at e
  obtain ⟨rfl, rfl⟩ := e
  exact k [] F H R (Same.refl _) .nil
theorem ca_cons {es : List Expr} {xs : Xs} (ha : CE X Φ bf a x) (hr : CA X Φ bf es xs) (hs : starEach (a :: es) X.env = (false, eval a X.env) :: starEach es X.env := by rfl) : CA X Φ bf (a :: es) (.cons x xs) := by
  refine PA.imp (pa_cons ha hr hs) fun σ H Q h => ?_
  obtain ⟨Rf, G, ρ, F, r, ρ', R, e, k⟩ := h
  simp only [evs, Option.bind_eq_some_iff] at e
  obtain ⟨⟨r1, ρ1⟩, e1, ⟨rs, ρ2⟩, e2, e⟩ := e
  simp only [Option.some.injEq, Prod.mk.injEq] at e
  obtain ⟨rfl, rfl⟩ := e
  refine tX_opd R e1 fun v F1 H1 R1 s1 o => ?_
  exact ⟨Rf, G, ρ1, F1, rs, ρ2, R1, e2, fun vs F2 H2 R2 s2 os => k (v :: vs) F2 H2 R2 (s1.trans s2) (.cons (o.mono s2) os)⟩
theorem cv_nil : CV X Φ bf [] .nil := by
  refine PA.imp pa_nil fun σ H Q h => ?_
  obtain ⟨Rf, G, ρ, F, r, ρ', R, e, k⟩ := h
  simp only [evv, Option.some.injEq, Prod.mk.injEq] at e
  obtain ⟨rfl, rfl⟩ := e
  exact k [] F H R (Same.refl _) .nil
theorem cv_cons {es : List Expr} {xs : Xs} (ha : CE X Φ bf a x) (hr : CV X Φ bf es xs) (hs : starEach (a :: es) X.env = (false, eval a X.env) :: starEach es X.env := by rfl) : CV X Φ bf (a :: es) (.cons x xs) := by
  refine PA.imp (pa_cons ha hr hs) fun σ H Q h => ?_
  obtain ⟨Rf, G, ρ, F, r, ρ', R, e, k⟩ := h
  simp only [evv, Option.bind_eq_some_iff] at e
  obtain ⟨⟨d1, ρ1⟩, e1, ⟨ds, ρ2⟩, e2, e⟩ := e
  simp only [Option.some.injEq, Prod.mk.injEq] at e
  obtain ⟨rfl, rfl⟩ := e
  refine tX_val R e1 fun v F1 H1 R1 s1 o => ?_
  exact ⟨Rf, G, ρ1, F1, ds, ρ2, R1, e2, fun vs F2 H2 R2 s2 os => k (v :: vs) F2 H2 R2 (s1.trans s2) (.cons (o.mono s2) os)⟩
theorem cv_star {es : List Expr} {xs : Xs} {p : Pos} (ha : CE X Φ bf a x) (hr : CV X Φ bf es xs) (hs : starEach (.Starred a p :: es) X.env = (true, eval a X.env) :: starEach es X.env := by rfl) : CV X Φ bf (.Starred a p :: es) (.star x xs) := by
  refine PA.imp (StX.pa_star ha hr hs) fun σ H Q h => ?_
  obtain ⟨Rf, G, ρ, F, r, ρ', R, e, k⟩ := h
  simp only [evv, Option.bind_eq_some_iff] at e
  obtain ⟨⟨r1, ρ1⟩, e1, e⟩ := e
  refine tX_opd R e1 fun v F1 H1 R1 s1 o => ?_
  simp only at e
  split at e
  · rename_i ds hg
    simp only [Option.bind_eq_some_iff] at e
    obtain ⟨⟨es', ρ2⟩, e2, e⟩ := e
    simp only [Option.some.injEq, Prod.mk.injEq] at e
    obtain ⟨rfl, rfl⟩ := e
    obtain ⟨p, vs, rfl, q, _, ra⟩ := R1.rq o hg
    refine ⟨p, vs, rfl, .inr q, Rf, G, ρ1, F1, es', ρ2, R1, e2, fun ws F2 H2 R2 s2 os => k (vs ++ ws) F2 H2 R2 (s1.trans s2) ((ra.mono s2).append os)⟩
  · rename_i ds hg
    simp only [Option.bind_eq_some_iff] at e
    obtain ⟨⟨es', ρ2⟩, e2, e⟩ := e
    simp only [Option.some.injEq, Prod.mk.injEq] at e
    obtain ⟨rfl, rfl⟩ := e
    obtain ⟨p, vs, rfl, q, _, ra⟩ := R1.rq o hg
    refine ⟨p, vs, rfl, .inl (SqT.of (R1.fz _ _ q)), Rf, G, ρ1, F1, es', ρ2, R1, e2, fun ws F2 H2 R2 s2 os => k (vs ++ ws) F2 H2 R2 (s1.trans s2) ((ra.mono s2).append os)⟩
  · cases e
/-- a new tuple is data at once -/
theorem SR.newTup {K : PySem.W.Frag} {Rf : Nat → Option Addr} {G F H : Hp} {ρ : Ev} {σ : St} {p : Addr} {vs : List V} {ds : List PyData} (R : SR K Rf G ρ F σ H) (h : H p = none) (hl : vs.length ≤ sizeLine) (ra : RpA K F vs ds) :
    ∃ F', SR K Rf G ρ F' σ (upd H p (.tup vs)) ∧ Same F F' ∧ Rp K F' (.ref p) (.tuple ds) := by
  have R1 := R.laid (o := .tup vs) h
  have l := R1.loose_new (p := p)
  have l' : Loose G ρ F σ p := R.loose_new h
  obtain ⟨R2, s⟩ := R1.freeze upd_same l'
  exact ⟨_, R2, s, .tup upd_same hl (ra.mono s)⟩
/-- a new list -/
theorem SR.newLst {K : PySem.W.Frag} {Rf : Nat → Option Addr} {G F H : Hp} {ρ : Ev} {σ : St} {p : Addr} {vs : List V} {ds : List PyData} (R : SR K Rf G ρ F σ H) (h : H p = none) (hl : vs.length ≤ sizeLine) (ra : RpA K F vs ds) :
    SR K Rf G ρ F σ (upd H p (.lst vs)) ∧ RR K G ρ F σ (upd H p (.lst vs)) (.ref p) (.new (.list ds)) :=
  ⟨R.laid h, p, rfl, R.loose_new h, vs, upd_same, hl, ra⟩
def Xs.len : Xs → Nat
  | .nil => 0
  | .cons _ r => r.len + 1
  | .star _ _ => sizeLine + 1
theorem evv_len : ∀ {xs : Xs} {ρ ρ' : Ev} {ds : List PyData}, xs.len ≤ sizeLine → evv Φ bf xs ρ = some (ds, ρ') → ds.length = xs.len
  | .nil, _, _, _, _, e => by simp only [evv, Option.some.injEq, Prod.mk.injEq] at e; obtain ⟨rfl, rfl⟩ := e; rfl
  | .cons x r, _, _, _, h, e => by
    simp only [evv, Option.bind_eq_some_iff] at e
    obtain ⟨⟨d1, ρ1⟩, e1, ⟨ds, ρ2⟩, e2, e⟩ := e
    simp only [Option.some.injEq, Prod.mk.injEq] at e
    obtain ⟨rfl, rfl⟩ := e
    have := evv_len (xs := r) (by simp only [Xs.len] at h; omega) e2
    simp only [List.length_cons, Xs.len, this]
  | .star x r, _, _, _, h, _ => by simp only [Xs.len] at h; omega
theorem ce_tup {es : List Expr} {xs : Xs} {n pos} (h : CV X Φ bf es xs) (hl : xs.len ≤ sizeLine) : CE X Φ bf (.Tuple es n pos) (.tup xs) := by
  refine PE.imp (pe_tup h) fun σ H Q h => ?_
  obtain ⟨Rf, G, ρ, F, r, ρ', R, e, k⟩ := h
  simp only [ev, Option.bind_eq_some_iff] at e
  obtain ⟨⟨ds, ρ1⟩, e1, e⟩ := e
  simp only [Option.some.injEq, Prod.mk.injEq] at e
  obtain ⟨rfl, rfl⟩ := e
  refine ⟨Rf, G, ρ, F, ds, ρ1, R, e1, fun vs F1 H1 R1 s1 ra => ?_⟩
  have hz : vs.length ≤ sizeLine := by rw [ra.length, evv_len hl e1]; exact hl
  refine ⟨hz, fun p hp => ?_⟩
  obtain ⟨F2, R2, s2, q⟩ := R1.newTup hp hz ra
  exact k _ F2 _ R2 (s1.trans s2) q
theorem ce_tups {es : List Expr} {xs : Xs} {n pos} (h : CV X Φ bf es xs) : CE X Φ bf (.Tuple es n pos) (.tups xs) := by
  refine PE.imp (pe_tup h) fun σ H Q h => ?_
  obtain ⟨Rf, G, ρ, F, r, ρ', R, e, k⟩ := h
  simp only [ev, Option.bind_eq_some_iff] at e
  obtain ⟨⟨ds, ρ1⟩, e1, e⟩ := e
  split at e
  · rename_i hz
    simp only [Option.some.injEq, Prod.mk.injEq] at e
    obtain ⟨rfl, rfl⟩ := e
    refine ⟨Rf, G, ρ, F, ds, ρ1, R, e1, fun vs F1 H1 R1 s1 ra => ?_⟩
    have hz : vs.length ≤ sizeLine := by rw [ra.length]; exact hz
    refine ⟨hz, fun p hp => ?_⟩
    obtain ⟨F2, R2, s2, q⟩ := R1.newTup hp hz ra
    exact k _ F2 _ R2 (s1.trans s2) q
  · cases e
theorem ce_lst {es : List Expr} {xs : Xs} {pos} (h : CV X Φ bf es xs) (hl : xs.len ≤ sizeLine) : CE X Φ bf (.List es pos) (.lst xs) := by
  refine PE.imp (pe_lst h) fun σ H Q h => ?_
  obtain ⟨Rf, G, ρ, F, r, ρ', R, e, k⟩ := h
  simp only [ev, Option.bind_eq_some_iff] at e
  obtain ⟨⟨ds, ρ1⟩, e1, e⟩ := e
  simp only [Option.some.injEq, Prod.mk.injEq] at e
  obtain ⟨rfl, rfl⟩ := e
  refine ⟨Rf, G, ρ, F, ds, ρ1, R, e1, fun vs F1 H1 R1 s1 ra => ?_⟩
  have hz : vs.length ≤ sizeLine := by rw [ra.length, evv_len hl e1]; exact hl
  refine ⟨hz, fun p hp => ?_⟩
  obtain ⟨R2, q⟩ := R1.newLst hp hz ra
  exact k _ F1 _ R2 s1 q
theorem ce_lsts {es : List Expr} {xs : Xs} {pos} (h : CV X Φ bf es xs) : CE X Φ bf (.List es pos) (.lsts xs) := by
  refine PE.imp (pe_lst h) fun σ H Q h => ?_
  obtain ⟨Rf, G, ρ, F, r, ρ', R, e, k⟩ := h
  simp only [ev, Option.bind_eq_some_iff] at e
  obtain ⟨⟨ds, ρ1⟩, e1, e⟩ := e
  split at e
  · rename_i hz
    simp only [Option.some.injEq, Prod.mk.injEq] at e
    obtain ⟨rfl, rfl⟩ := e
    refine ⟨Rf, G, ρ, F, ds, ρ1, R, e1, fun vs F1 H1 R1 s1 ra => ?_⟩
    have hz : vs.length ≤ sizeLine := by rw [ra.length]; exact hz
    refine ⟨hz, fun p hp => ?_⟩
    obtain ⟨R2, q⟩ := R1.newLst hp hz ra
    exact k _ F1 _ R2 s1 q
  · cases e
end
end L2.Z

namespace L2.Z
open PySem PySem.Spec PyProof.Rows

section
variable {K : PySem.W.Frag} {Rf Rf' : Nat → Option Addr} {G F F' H H' : Hp} {ρ ρ' ρc : Ev} {σ σc : St} {a : Addr} {d c : PyData} {v : V} {r : Res} {j : Nat}
theorem getSet {ρ : Ev} {j i : Nat} {s : Slot} (hj : j < ρ.length) : (ρ.set j s)[i]? = if i = j then some s else ρ[i]? := by
  by_cases h : i = j
  · subst h; rw [List.getElem?_set_self hj, if_pos rfl]
  · rw [List.getElem?_set_ne (Ne.symm h), if_neg h]
/-- the slot j's own container -/
theorem conOf_some (R : SR K Rf G ρ F σ H) (e : conOf ρ j = some c) : ∃ a, σ[j]? = some (some (.ref a)) ∧ F a = none ∧ MutAt K F H a c ∧ MutI ρ j ∧ (∀ d, ρ[j]? = some (.ref d) → Rf j = some a) := by
  unfold conOf at e
  split at e
  · rename_i d h
    cases e
    obtain ⟨a, ea, na, m⟩ := R.sl j _ h
    exact ⟨a, ea, na, m, ⟨_, h, rfl⟩, fun d' h' => by rw [h] at h'; cases h'⟩
  · rename_i d h
    cases e
    obtain ⟨a, ea, na, m, q⟩ := R.sl j _ h
    exact ⟨a, ea, na, m, ⟨_, h, rfl⟩, fun d' h' => q⟩
  · cases e
theorem conSet_some (e : conSet ρ j c = some ρ') : (∃ d, ρ[j]? = some (.own d) ∧ ρ' = ρ.set j (.own c)) ∨ (∃ d, ρ[j]? = some (.ref d) ∧ ρ' = ρ.set j (.ref c)) := by
  unfold conSet at e
  split at e
  · rename_i d h; cases e; exact .inl ⟨d, h, rfl⟩
  · rename_i d h; cases e; exact .inr ⟨d, h, rfl⟩
  · cases e
/-- other facts of the slots, as they are behind a change of slot j's container -/
theorem SR.reset (R : SR K Rf G ρ F σ H) (e : conSet ρ j c = some ρ') (ea : σ[j]? = some (some (.ref a))) (s : Same F F') (fz : Same F' H') (na : F' a = none) (m : MutAt K F' H' a c)
    (hm : ∀ i b, i ≠ j → MutI ρ i → σ[i]? = some (some (.ref b)) → F' b = none ∧ H' b = H b) (hG : ∀ b o, G b = some o → H' b = some o ∧ F' b = none) : SR K Rf G ρ' F' σ H' := by
  have key : ∃ s' s0, ρ[j]? = some s0 ∧ s0.isMut = true ∧ ρ' = ρ.set j s' ∧ s'.isMut = true ∧ SlotOk K Rf G F' H' j (σ[j]?) s' ∧ s'.isRf = s0.isRf := by
    rcases conSet_some e with ⟨d, h, rfl⟩ | ⟨d, h, rfl⟩
    · exact ⟨_, _, h, rfl, rfl, rfl, ⟨a, ea, na, m⟩, rfl⟩
    · obtain ⟨b, eb, _, _, q⟩ := R.sl j _ h
      rw [ea] at eb; cases eb
      exact ⟨_, _, h, rfl, rfl, rfl, ⟨a, ea, na, m, q⟩, rfl⟩
  obtain ⟨s', s0, h0, m0, rfl, m', ok, rr⟩ := key
  have hj : j < ρ.length := (List.getElem?_eq_some_iff.mp h0).1
  have mut' : ∀ i, MutI (ρ.set j s') i → MutI ρ i := fun i ⟨t, et, mt⟩ => by
    rw [getSet hj] at et
    split at et
    · rename_i h; subst h; exact ⟨s0, h0, m0⟩
    · exact ⟨t, et, mt⟩
  refine ⟨by rw [List.length_set]; exact R.len, fz, fun i t et => ?_, fun i k b mi mk => R.dis i k b (mut' i mi) (mut' k mk), fun i b mi => R.gm i b (mut' i mi), hG, fun i b eb => ?_, R.gt⟩
  · rw [getSet hj] at et
    split at et
    · rename_i h; subst h; cases et; exact ok
    · rename_i h
      exact (R.sl i t et).mono s (fun b mt ev => hm i b h ⟨t, et, mt⟩ ev) fun b o g => (hG b o g).1.trans (R.gs b o g).1.symm
  · obtain ⟨z1, t, z2, z3⟩ := R.rf i b eb
    refine ⟨z1, ?_⟩
    rw [getSet hj]
    split
    · rename_i h; subst h; rw [h0] at z2; cases z2; exact ⟨s', rfl, rr.trans z3⟩
    · exact ⟨t, z2, z3⟩
/-- slot j's container is written -/
theorem SR.write (R : SR K Rf G ρ F σ H) (e : conSet ρ j c = some ρ') (ea : σ[j]? = some (some (.ref a))) (na : F a = none) {o : HO} (mj : MutI ρ j) (m : MutAt K F (upd H a o) a c) : SR K Rf G ρ' F σ (upd H a o) := by
  have ne : ∀ b, b ≠ a → upd H a o b = H b := fun b hb => upd_ne hb
  refine R.reset e ea (Same.refl _) (fun b x q => ?_) na m (fun i b hi mi eb => ?_) (fun b x g => ?_)
  · have hb : b ≠ a := fun z => by rw [z, na] at q; cases q
    rw [ne b hb]; exact R.fz b x q
  · have hb : b ≠ a := fun z => hi (R.dis i j a mi mj (z ▸ eb) ea)
    exact ⟨(R.mutNone mi eb).1, ne b hb⟩
  · have hb : b ≠ a := fun z => by rw [z, R.gm j a mj ea] at g; cases g
    rw [ne b hb]; exact R.gs b x g

theorem SR.escs : ∀ {vs : List V} {rs : List Res} {ds : List PyData} {ρ ρ' : Ev} {F : Hp}, SR K Rf G ρ F σ H → ORs K F σ vs rs → escAll ρ rs = some (ds, ρ') → ∃ F', SR K Rf G ρ' F' σ H ∧ Same F F' ∧ RpA K F' vs ds
  | _, _, _, _, _, _, R, .nil, e => by
    simp only [escAll, Option.some.injEq, Prod.mk.injEq] at e; obtain ⟨rfl, rfl⟩ := e
    exact ⟨_, R, Same.refl _, .nil⟩
  | _, _, _, _, _, _, R, .cons o os, e => by
    simp only [escAll, Option.bind_eq_some_iff] at e
    obtain ⟨⟨d, ρ1⟩, e1, ⟨ds, ρ2⟩, e2, e⟩ := e
    simp only [Option.some.injEq, Prod.mk.injEq] at e
    obtain ⟨rfl, rfl⟩ := e
    obtain ⟨F1, R1, s1, q⟩ := R.esc o e1
    obtain ⟨F2, R2, s2, qs⟩ := SR.escs R1 (os.mono s1) e2
    exact ⟨F2, R2, s1.trans s2, .cons (q.mono s2) qs⟩
theorem ORs.take : ∀ {vs : List V} {rs : List Res} (n : Nat), ORs K F σ vs rs → ORs K F σ (vs.take n) (rs.take n)
  | _, _, 0, _ => .nil
  | _, _, _ + 1, .nil => .nil
  | _, _, n + 1, .cons r t => .cons r (ORs.take n t)
theorem ORs.drop : ∀ {vs : List V} {rs : List Res} (n : Nat), ORs K F σ vs rs → ORs K F σ (vs.drop n) (rs.drop n)
  | _, _, 0, r => r
  | _, _, _ + 1, .nil => .nil
  | _, _, n + 1, .cons _ t => ORs.drop n t
theorem ORs.get : ∀ {vs : List V} {rs : List Res} {i : Nat} {r : Res}, ORs K F σ vs rs → rs[i]? = some r → ∃ v, vs[i]? = some v ∧ OR K F σ v r
  | _, _, _, _, .nil, e => by simp at e
  | _, _, 0, _, .cons a _, e => by simp at e; subst e; exact ⟨_, rfl, a⟩
  | _, _, i + 1, r, .cons _ b, e => by
    obtain ⟨v, h1, h2⟩ := ORs.get (i := i) (r := r) b (by simpa using e)
    exact ⟨v, by simpa using h1, h2⟩
theorem ORs.length : ∀ {vs : List V} {rs : List Res}, ORs K F σ vs rs → vs.length = rs.length
  | _, _, .nil => rfl
  | _, _, .cons _ b => by simp [ORs.length b]

/-- the parameter that goes by reference: its address -/
def rfOf (k : Option Nat) (vs : List V) : Nat → Option Addr := fun i => if k = some i then (match vs[i]? with | some (.ref a) => some a | _ => none) else none
/-- a def's promise: what φ says of data -/
def spF (K : PySem.W.Frag) (k : Option Nat) (np : Nat) (φ : List PyData → Option (PyData × PyData)) : Sp := fun vs H Q _ => vs.length = np ∧ ∃ (G F : Hp) (ds : List PyData) (c d c' : PyData),
  SR K (rfOf k vs) G (slotsOf ds c k) F (vs.map some) H ∧ (∀ i, k = some i → ds[i]? = some c) ∧ φ ds = some (d, c') ∧
  ∀ v F' H', SR K (rfOf k vs) G (slotsOf ds c' k) F' (vs.map some) H' → Same F F' → Rp K F' v d → Q v H'
open Classical in
/-- all that the caller's slots hold (but slot j) is out of the callee's reach -/
noncomputable def prot (G : Hp) (ρ : Ev) (σ : St) (H : Hp) (j : Option Nat) : Hp := fun b => if ∃ i, some i ≠ j ∧ MutI ρ i ∧ σ[i]? = some (some (.ref b)) then H b else G b
theorem prot_gs (R : SR K Rf G ρ F σ H) {j : Option Nat} {b : Addr} {o : HO} (e : prot G ρ σ H j b = some o) : H b = some o ∧ F b = none := by
  unfold prot at e
  split at e
  · rename_i h
    obtain ⟨i, _, mi, ei⟩ := h
    exact ⟨e, (R.mutNone mi ei).1⟩
  · exact R.gs b o e
theorem SR.mutAt (R : SR K Rf G ρ F σ H) {i : Nat} {a : Addr} (m : MutI ρ i) (e : σ[i]? = some (some (.ref a))) : ∃ d, MutAt K F H a d := by
  obtain ⟨s, e1, e2⟩ := m
  have q := R.sl i s e1
  cases s with
  | un => cases e2
  | dat d => cases e2
  | own d => obtain ⟨b, eb, n, m⟩ := q; rw [eb] at e; cases e; exact ⟨_, m⟩
  | ref d => obtain ⟨b, eb, n, m, _⟩ := q; rw [eb] at e; cases e; exact ⟨_, m⟩
  | lok r d => cases e2
theorem prot_gt (R : SR K Rf G ρ F σ H) {j : Option Nat} : ∀ b xs, prot G ρ σ H j b ≠ some (.tup xs) := fun b xs e => by
  unfold prot at e
  split at e
  · rename_i h
    obtain ⟨i, _, mi, ei⟩ := h
    obtain ⟨d, m⟩ := R.mutAt mi ei
    exact m.noTup e xs rfl
  · exact R.gt b xs e
theorem prot_G (R : SR K Rf G ρ F σ H) {j : Option Nat} {b : Addr} {o : HO} (e : G b = some o) : prot G ρ σ H j b = some o := by
  unfold prot
  split
  · exact (R.gs b o e).1
  · exact e
theorem prot_mut (R : SR K Rf G ρ F σ H) {j : Option Nat} {b : Addr} {i : Nat} (hi : some i ≠ j) (mi : MutI ρ i) (ei : σ[i]? = some (some (.ref b))) : prot G ρ σ H j b = H b := by
  unfold prot
  rw [if_pos ⟨i, hi, mi, ei⟩]
theorem prot_at (R : SR K Rf G ρ F σ H) (mj : MutI ρ j) (ej : σ[j]? = some (some (.ref a))) : prot G ρ σ H (some j) a = none := by
  unfold prot
  rw [if_neg, R.gm j a mj ej]
  rintro ⟨i, hi, mi, ei⟩
  exact hi (congrArg some (R.dis i j a mi mj ei ej))

/-- what is kept behind a call -/
theorem SR.kept (R : SR K Rf G ρ F σ H) {jo : Option Nat} (Rc : SR K Rf' (prot G ρ σ H jo) ρc F' σc H') :
    (∀ i b, some i ≠ jo → MutI ρ i → σ[i]? = some (some (.ref b)) → F' b = none ∧ H' b = H b) ∧ (∀ b o, G b = some o → H' b = some o ∧ F' b = none) := by
  refine ⟨fun i b hi mi ei => ?_, fun b o g => Rc.gs b o (prot_G R g)⟩
  obtain ⟨_, o, ho⟩ := R.mutNone mi ei
  have q := Rc.gs b o ((prot_mut R hi mi ei).trans ho)
  exact ⟨q.2, q.1.trans ho.symm⟩
theorem SR.backN (R : SR K Rf G ρ F σ H) (Rc : SR K Rf' (prot G ρ σ H none) ρc F' σc H') (s : Same F F') : SR K Rf G ρ F' σ H' := by
  obtain ⟨k1, k2⟩ := R.kept Rc
  exact ⟨R.len, Rc.fz, fun i t e => (R.sl i t e).mono s (fun b mt ev => k1 i b (by simp) ⟨t, e, mt⟩ ev) fun b o g => (k2 b o g).1.trans (R.gs b o g).1.symm, R.dis, R.gm, k2, R.rf, R.gt⟩
theorem slotsOf_get {ds : List PyData} {c : PyData} {k : Option Nat} {i : Nat} {s : Slot} (e : (slotsOf ds c k)[i]? = some s) : (k = some i ∧ s = .ref c ∧ i < ds.length) ∨ (k ≠ some i ∧ ∃ d, ds[i]? = some d ∧ s = .dat d) := by
  cases k with
  | none =>
    unfold slotsOf at e
    rw [List.getElem?_map] at e
    cases h : ds[i]? with
    | none => rw [h] at e; cases e
    | some d => rw [h] at e; cases e; exact .inr ⟨by simp, d, rfl, rfl⟩
  | some k =>
    unfold slotsOf at e
    by_cases hi : k = i
    · subst hi
      by_cases hk : k < (ds.map Slot.dat).length
      · rw [List.getElem?_set_self hk] at e; cases e; exact .inl ⟨rfl, rfl, by simpa using hk⟩
      · rw [List.getElem?_eq_none (by rw [List.length_set]; omega)] at e; cases e
    · rw [List.getElem?_set_ne hi, List.getElem?_map] at e
      cases h : ds[i]? with
      | none => rw [h] at e; cases e
      | some d => rw [h] at e; cases e; exact .inr ⟨by simpa using hi, d, rfl, rfl⟩
theorem slotsOf_length {ds : List PyData} {c : PyData} {k : Option Nat} : (slotsOf ds c k).length = ds.length := by
  cases k <;> simp [slotsOf]
/-- the callee's slots at its entry -/
theorem SR.entryN {G' : Hp} {vs : List V} {ds : List PyData} (R : SR K Rf G ρ F σ H) (ra : RpA K F vs ds) (hG : ∀ b o, G' b = some o → H b = some o ∧ F b = none) (hT : ∀ b xs, G' b ≠ some (.tup xs)) : SR K (rfOf none vs) G' (slotsOf ds .none none) F (vs.map some) H := by
  have nm : ∀ i, ¬ MutI (slotsOf ds .none none) i := fun i ⟨t, et, mt⟩ => by
    rcases slotsOf_get et with ⟨z, _⟩ | ⟨_, d, _, rfl⟩
    · cases z
    · cases mt
  refine ⟨by rw [slotsOf_length, List.length_map, ra.length], R.fz, fun i t et => ?_, fun i _ _ mi => (nm i mi).elim, fun i _ mi => (nm i mi).elim, hG, fun i b eb => (by unfold rfOf at eb; rw [if_neg (by simp)] at eb; cases eb), hT⟩
  rcases slotsOf_get et with ⟨z, _⟩ | ⟨_, d, ed, rfl⟩
  · cases z
  · obtain ⟨v, ev, rv⟩ := ra.get ed
    exact ⟨v, by rw [List.getElem?_map, ev]; rfl, rv⟩
theorem SR.entryS {G' : Hp} {vs : List V} {ds : List PyData} {k : Nat} (R : SR K Rf G ρ F σ H) (hl : vs.length = ds.length) (ra : ∀ i d, i ≠ k → ds[i]? = some d → ∃ v, vs[i]? = some v ∧ Rp K F v d) (ea : vs[k]? = some (.ref a)) (na : F a = none) (m : MutAt K F H a c)
    (ga : G' a = none) (hG : ∀ b o, G' b = some o → H b = some o ∧ F b = none) (hT : ∀ b xs, G' b ≠ some (.tup xs)) : SR K (rfOf (some k) vs) G' (slotsOf ds c (some k)) F (vs.map some) H := by
  have mk : ∀ i, MutI (slotsOf ds c (some k)) i → i = k := fun i ⟨t, et, mt⟩ => by
    rcases slotsOf_get et with ⟨z, _⟩ | ⟨_, d, _, rfl⟩
    · cases z; rfl
    · cases mt
  refine ⟨by rw [slotsOf_length, List.length_map, hl], R.fz, fun i t et => ?_, fun i j _ mi mj _ _ => (mk i mi).trans (mk j mj).symm, fun i b mi eb => ?_, hG, fun i b eb => ?_, hT⟩
  · rcases slotsOf_get et with ⟨z, rfl, _⟩ | ⟨hi, d, ed, rfl⟩
    · cases z
      exact ⟨a, by rw [List.getElem?_map, ea]; rfl, na, m, by unfold rfOf; rw [if_pos rfl, ea]⟩
    · obtain ⟨v, ev, rv⟩ := ra i d (fun z => hi (by rw [z])) ed
      exact ⟨v, by rw [List.getElem?_map, ev]; rfl, rv⟩
  · rw [mk i mi, List.getElem?_map, ea] at eb
    cases eb
    exact ga
  · unfold rfOf at eb
    split at eb
    · rename_i h
      cases h
      rw [ea] at eb
      cases eb
      have hk : k < ds.length := by rw [← hl]; exact (List.getElem?_eq_some_iff.mp ea).1
      refine ⟨by rw [List.getElem?_map, ea]; rfl, .ref c, ?_, rfl⟩
      unfold slotsOf
      rw [List.getElem?_set_self (by rw [List.length_map]; exact hk)]
    · cases eb
end

theorem getElem?_mid {α : Type} {l1 l2 : List α} {x : α} {i : Nat} : (l1 ++ x :: l2)[i]? = if i < l1.length then l1[i]? else if i = l1.length then some x else l2[i - l1.length - 1]? := by
  by_cases h : i < l1.length
  · rw [if_pos h, List.getElem?_append_left h]
  · rw [if_neg h, List.getElem?_append_right (by omega)]
    by_cases h2 : i = l1.length
    · rw [if_pos h2, h2]; simp
    · rw [if_neg h2]
      obtain ⟨m, hm⟩ : ∃ m, i - l1.length = m + 1 := ⟨i - l1.length - 1, by omega⟩
      rw [hm]; simp

section
variable {X : Cx} {Φ : Fns} {bf : Nat → Option Nat} {e : Expr} {es : List Expr} {xs : Xs} {k f : Nat} {fa : Addr} {fd : FuncData} {ps : List Str} {n : Str} {p pos : Pos}
theorem redCall {np : Nat} {E : XK} {σ : St} {H : Hp} {Q : VK} (hnp : ∀ ds r, Φ f ds = some r → ds.length = np) (h : tX X.K (ev Φ bf (.call f xs)) σ H Q) : tOs X.K (evs Φ bf xs) σ H fun vs H1 => spF X.K (bf f) np (Φ f) (vs ++ []) H1 Q E := by
  obtain ⟨Rf, G, ρ, F, r, ρ', R, e, k⟩ := h
  simp only [ev, Option.bind_eq_some_iff] at e
  obtain ⟨⟨rs, ρ1⟩, e1, ⟨ds, ρ2⟩, e2, ⟨d, c'⟩, e3, ρ3, e4, e⟩ := e
  simp only [Option.some.injEq, Prod.mk.injEq] at e
  obtain ⟨rfl, rfl⟩ := e
  refine ⟨Rf, G, ρ, F, rs, ρ1, R, e1, fun vs F1 H1 R1 s1 os => ?_⟩
  show spF X.K (bf f) np (Φ f) (vs ++ []) H1 Q E
  rw [List.append_nil]
  have hlen := hnp _ _ e3
  cases hb : bf f with
  | none =>
    rw [hb] at e2 e4
    simp only [callArgs] at e2
    simp only [callBack, Option.some.injEq] at e4
    subst e4
    obtain ⟨F2, R2, s2, ra⟩ := SR.escs R1 os e2
    refine ⟨by rw [ra.length, hlen], prot G ρ2 σ H1 none, F2, ds, .none, d, c', R2.entryN ra (fun b o q => prot_gs R2 q) (prot_gt R2), fun i z => (by cases z), e3, fun v F' H' Rc s' q => ?_⟩
    exact k v F' H' (R2.backN Rc s') (s1.trans (s2.trans s')) q
  | some kk =>
    rw [hb] at e2 e4
    simp only [callArgs, Option.bind_eq_some_iff] at e2
    obtain ⟨⟨ds1, ρa⟩, ea, ⟨ds2, ρb⟩, eb, r, er, j, ej, c, ec, e2⟩ := e2
    simp only [Option.some.injEq, Prod.mk.injEq] at e2
    obtain ⟨rfl, rfl⟩ := e2
    simp only [callBack, Option.bind_eq_some_iff] at e4
    obtain ⟨r', er', j', ej', e4⟩ := e4
    rw [er] at er'; cases er'
    rw [ej] at ej'; cases ej'
    obtain ⟨Fa, Ra, sa, ra1⟩ := SR.escs R1 (os.take kk) ea
    obtain ⟨F2, R2, sb, ra2⟩ := SR.escs Ra ((os.mono sa).drop (kk + 1)) eb
    have rj : r = .slot j := by cases r <;> simp only [Res.ix] at ej <;> cases ej; rfl
    subst rj
    obtain ⟨v, hv, ov⟩ := os.get er
    obtain ⟨a, ea', na, m, mj, hrf⟩ := conOf_some R2 ec
    have eva : v = .ref a := by
      have z : σ[j]? = some (some v) := ov
      rw [ea'] at z; cases z; rfl
    subst eva
    have hk : kk < vs.length := (List.getElem?_eq_some_iff.mp hv).1
    have hl1 : ds1.length = kk := by rw [← ra1.length, List.length_take]; omega
    have hl2 : ds2.length = vs.length - (kk + 1) := by rw [← ra2.length, List.length_drop]
    have hl : vs.length = (ds1 ++ c :: ds2).length := by rw [List.length_append, List.length_cons]; omega
    have en : SR X.K (rfOf (some kk) vs) (prot G ρb σ H1 (some j)) (slotsOf (ds1 ++ c :: ds2) c (some kk)) F2 (vs.map some) H1 := by
      refine R2.entryS hl (fun i d hi hd => ?_) hv na m (prot_at R2 mj ea') (fun b o q => prot_gs R2 q) (prot_gt R2)
      rw [getElem?_mid] at hd
      split at hd
      · rename_i h
        obtain ⟨w, hw, rw'⟩ := (ra1.mono sb).get hd
        rw [List.getElem?_take_of_lt (by omega)] at hw
        exact ⟨w, hw, rw'⟩
      · split at hd
        · omega
        · obtain ⟨w, hw, rw'⟩ := ra2.get hd
          rw [List.getElem?_drop] at hw
          exact ⟨w, by rw [← hw]; congr 1; omega, rw'⟩
    refine ⟨by rw [hl, hlen], _, F2, _, c, d, c', en, fun i z => (by cases z; rw [getElem?_mid, if_neg (by omega), if_pos hl1.symm]), e3, fun v F' H' Rc s' q => ?_⟩
    have back : SR X.K Rf G ρ3 F' σ H' := by
      obtain ⟨k1, k2⟩ := R2.kept Rc
      have hsl : (slotsOf (ds1 ++ c :: ds2) c' (some kk))[kk]? = some (.ref c') := by
        unfold slotsOf
        rw [List.getElem?_set_self (by rw [List.length_map]; omega)]
      obtain ⟨a', ea2, na2, m2, _⟩ := Rc.sl kk _ hsl
      rw [List.getElem?_map, hv] at ea2
      cases ea2
      exact R2.reset e4 ea' s' Rc.fz na2 m2 (fun i b hi mi eb => k1 i b (by simpa using hi) mi eb) k2
    exact k v F' H' back (s1.trans (sa.trans (sb.trans s'))) q
theorem ce_call (Fk : FnOk X.prog X.w X.K X.mg X.base CX0 k fa fd ps (spF X.K (bf f) ps.length (Φ f))) (hnp : ∀ ds r, Φ f ds = some r → ds.length = ps.length) (hr : Room k X.A) (hm : X.mg n = some (.ref fa)) (hk : PySem.W.keepIn X.K (.ref fa) = true) (hb : Binds X.K fd ps [])
    (hg : Gl X n) (ha : CA X Φ bf (e :: es) xs) (hdb : (n == ("__debug__" : Str)) = false := by decide) (he : starEach (e :: es) X.env = (false, eval e X.env) :: starEach es X.env := by rfl) (hpl : (backTo pos (starEach es X.env)).any (·.1) = false := by rfl) :
    CE X Φ bf (.Call (.Name n p) (e :: es) [] pos) (.call f xs) :=
  PE.imp (pe_call Fk hr hg hm hk hb .nil pass0 ha hdb he hpl) fun σ H Q h => redCall hnp h
end
end L2.Z

namespace L2.Z
open PySem PySem.Spec PyProof.Rows

section
variable {K : PySem.W.Frag} {Rf Rf' : Nat → Option Addr} {G F F' H H' : Hp} {ρ ρ' : Ev} {σ σ' : St} {a p : Addr} {d c : PyData} {v : V} {r : Res} {j i : Nat} {s : Slot}
theorem asg_some (e : asg i s ρ = some ρ') : (∃ t, ρ[i]? = some t ∧ t.isRf = false) ∧ ρ' = ρ.set i s := by
  unfold asg at e
  split at e
  · rename_i h; cases e; exact ⟨⟨_, h, rfl⟩, rfl⟩
  · rename_i h; cases e; exact ⟨⟨_, h, rfl⟩, rfl⟩
  · rename_i h; cases e; exact ⟨⟨_, h, rfl⟩, rfl⟩
  · cases e
theorem Loose.rf (R : SR K Rf G ρ F σ H) (l : Loose G ρ F σ p) : Rf i ≠ some p := fun e => by
  obtain ⟨z1, s, z2, z3⟩ := R.rf i p e
  cases s with
  | ref d => exact l.2.2 i ⟨_, z2, rfl⟩ z1
  | lok b d =>
    obtain ⟨a, o, e1, _, g, _⟩ := R.sl i _ z2
    rw [z1] at e1; cases e1
    rw [l.2.1] at g; cases g
  | _ => cases z3
/-- what may be stored -/
def SO (K : PySem.W.Frag) (G : Hp) (ρ : Ev) (F : Hp) (σ : St) (H : Hp) (v : V) : Slot → Prop
  | .dat d => Rp K F v d
  | .own d => ∃ p, v = .ref p ∧ Loose G ρ F σ p ∧ MutAt K F H p d
  | _ => False
theorem SR.asg (R : SR K Rf G ρ F σ H) (e : Z.asg i s ρ = some ρ') (so : SO K G ρ F σ H v s) : SR K Rf G ρ' F (σ.set i (some v)) H := by
  obtain ⟨⟨t, ht, hr⟩, rfl⟩ := asg_some e
  have hi : i < ρ.length := (List.getElem?_eq_some_iff.mp ht).1
  have hσ : i < σ.length := by rw [← R.len]; exact hi
  have gσ : ∀ k, (σ.set i (some v))[k]? = if k = i then some (some v) else σ[k]? := fun k => by
    by_cases h : k = i
    · subst h; rw [List.getElem?_set_self hσ, if_pos rfl]
    · rw [List.getElem?_set_ne (Ne.symm h), if_neg h]
  have mutc : ∀ k, MutI (ρ.set i s) k → (k = i ∧ s.isMut = true) ∨ (k ≠ i ∧ MutI ρ k) := fun k ⟨u, eu, mu⟩ => by
    rw [getSet hi] at eu
    split at eu
    · rename_i h; cases eu; exact .inl ⟨h, mu⟩
    · rename_i h; exact .inr ⟨h, u, eu, mu⟩
  have own : s.isMut = true → ∃ p, v = .ref p ∧ Loose G ρ F σ p := fun m => by
    cases s with
    | own d => obtain ⟨p, e, l, _⟩ := so; exact ⟨p, e, l⟩
    | ref d => exact so.elim
    | _ => cases m
  refine ⟨by rw [List.length_set, List.length_set]; exact R.len, R.fz, fun k u eu => ?_, fun k l b mk ml ek el => ?_, fun k b mk ek => ?_, R.gs, fun k b eb => ?_, R.gt⟩
  · rw [getSet hi] at eu
    rw [gσ]
    split at eu
    · rename_i h
      cases eu
      rw [if_pos h]
      cases s with
      | un => trivial
      | dat d => exact ⟨v, rfl, so⟩
      | own d => obtain ⟨p, rfl, l, m⟩ := so; exact ⟨p, rfl, l.1, m⟩
      | ref d => exact so.elim
      | lok b d => exact so.elim
    · rename_i h
      rw [if_neg h]
      exact R.sl k u eu
  · rw [gσ] at ek el
    rcases mutc k mk with ⟨hk, mk1⟩ | ⟨hk, mk1⟩
    · rcases mutc l ml with ⟨hl, ml1⟩ | ⟨hl, ml1⟩
      · exact hk.trans hl.symm
      · rw [if_pos hk] at ek; rw [if_neg hl] at el
        cases ek
        obtain ⟨p, e, q⟩ := own mk1
        cases e
        exact (q.2.2 l ml1 el).elim
    · rcases mutc l ml with ⟨hl, ml1⟩ | ⟨hl, ml1⟩
      · rw [if_pos hl] at el; rw [if_neg hk] at ek
        cases el
        obtain ⟨p, e, q⟩ := own ml1
        cases e
        exact (q.2.2 k mk1 ek).elim
      · rw [if_neg hk] at ek; rw [if_neg hl] at el
        exact R.dis k l b mk1 ml1 ek el
  · rw [gσ] at ek
    rcases mutc k mk with ⟨hk, mk1⟩ | ⟨hk, mk1⟩
    · rw [if_pos hk] at ek
      cases ek
      obtain ⟨p, e, q⟩ := own mk1
      cases e
      exact q.2.1
    · rw [if_neg hk] at ek
      exact R.gm k b mk1 ek
  · obtain ⟨z1, u, z2, z3⟩ := R.rf k b eb
    have hk : k ≠ i := fun h => by subst h; rw [ht] at z2; cases z2; rw [hr] at z3; cases z3
    exact ⟨by rw [gσ, if_neg hk]; exact z1, u, by rw [getSet hi, if_neg hk]; exact z2, z3⟩
/-- a loose object, guarded -/
theorem SR.guard (R : SR K Rf G ρ F σ H) {o : HO} (h : H p = some o) (no : ∀ xs, o ≠ .tup xs) (l : Loose G ρ F σ p) : SR K Rf (upd G p o) ρ F σ H := by
  refine ⟨R.len, R.fz, fun k t et => ?_, R.dis, fun k b mk ek => ?_, fun b x e => ?_, R.rf, gt_upd R.gt no⟩
  · have q := R.sl k t et
    cases t with
    | lok b d =>
      obtain ⟨a, o', e, q, g, m⟩ := q
      exact ⟨a, o', e, q, by rw [upd_ne (fun z => by rw [z, l.2.1] at g; cases g)]; exact g, m⟩
    | _ => exact q
  · rw [upd_ne (fun z => l.2.2 k mk (by rw [ek, z]))]
    exact R.gm k b mk ek
  · by_cases hb : b = p
    · subst hb; rw [upd_same] at e; cases e; exact ⟨h, l.1⟩
    · rw [upd_ne hb] at e; exact R.gs b x e
theorem SR.unguard {o : HO} (R : SR K Rf (upd G p o) ρ F σ H) (hG : G p = none) (hr : ∀ i, Rf i ≠ some p) : SR K Rf G ρ F σ H ∧ Loose G ρ F σ p ∧ H p = some o := by
  have g0 := R.gs p o upd_same
  refine ⟨⟨R.len, R.fz, fun k t et => ?_, R.dis, fun k b mk ek => ?_, fun b x e => ?_, R.rf, fun b xs e => R.gt b xs (by rw [upd_ne (fun z => by rw [z, hG] at e; cases e)]; exact e)⟩, ⟨g0.2, hG, fun k mk ek => ?_⟩, g0.1⟩
  · have q := R.sl k t et
    cases t with
    | lok b d =>
      obtain ⟨a, o', e, q, g, m⟩ := q
      exact ⟨a, o', e, q, by rw [upd_ne (fun z => hr k (by rw [q, z]))] at g; exact g, m⟩
    | _ => exact q
  · have q := R.gm k b mk ek
    by_cases hb : b = p
    · subst hb; rw [upd_same] at q; cases q
    · rw [upd_ne hb] at q; exact q
  · exact R.gs b x (by rw [upd_ne (fun z => by rw [z, hG] at e; cases e)]; exact e)
  · have q := R.gm k p mk ek
    rw [upd_same] at q; cases q
/-- stored as it came -/
theorem SR.stored (R : SR K Rf G ρ F σ H) (q : RR K G ρ F σ H v r) (e : Z.stored ρ r = some (s, ρ')) : ∃ F', SR K Rf G ρ' F' σ H ∧ Same F F' ∧ SO K G ρ' F' σ H v s := by
  have other : ∀ {r}, OR K F σ v r → ((Z.esc ρ r).bind fun p => some (Slot.dat p.1, p.2)) = some (s, ρ') → ∃ F', SR K Rf G ρ' F' σ H ∧ Same F F' ∧ SO K G ρ' F' σ H v s := fun {r} o e => by
    simp only [Option.bind_eq_some_iff] at e
    obtain ⟨⟨d, ρ1⟩, e1, e⟩ := e
    simp only [Option.some.injEq, Prod.mk.injEq] at e
    obtain ⟨rfl, rfl⟩ := e
    exact R.esc o e1
  cases r with
  | new d =>
    simp only [Z.stored, Option.some.injEq, Prod.mk.injEq] at e
    obtain ⟨rfl, rfl⟩ := e
    exact ⟨F, R, Same.refl _, q⟩
  | val d => exact other (r := .val d) q e
  | slot i => exact other (r := .slot i) q e
end

def OutOk (K : PySem.W.Frag) (Rf : Nat → Option Addr) (G F : Hp) (D : Ends) : Out → Prop
  | .nx ρ => ∀ σ F' H, SR K Rf G ρ F' σ H → Same F F' → D.nx σ H
  | .bk ρ => ∀ σ F' H, SR K Rf G ρ F' σ H → Same F F' → D.bk σ H
  | .ct ρ => ∀ σ F' H, SR K Rf G ρ F' σ H → Same F F' → D.ct σ H
  | .rt d ρ => ∀ v σ F' H, SR K Rf G ρ F' σ H → Same F F' → Rp K F' v d → D.rt v H
theorem OutOk.mono {K : PySem.W.Frag} {Rf : Nat → Option Addr} {G F F' : Hp} {D : Ends} {o : Out} (s : Same F F') (h : OutOk K Rf G F D o) : OutOk K Rf G F' D o := by
  cases o with
  | nx ρ => exact fun σ F1 H R s1 => h σ F1 H R (s.trans s1)
  | bk ρ => exact fun σ F1 H R s1 => h σ F1 H R (s.trans s1)
  | ct ρ => exact fun σ F1 H R s1 => h σ F1 H R (s.trans s1)
  | rt d ρ => exact fun v σ F1 H R s1 => h v σ F1 H R (s.trans s1)
def tS (K : PySem.W.Frag) (f : Ev → Option Out) : TS := fun D σ H => ∃ Rf G ρ F o, SR K Rf G ρ F σ H ∧ f ρ = some o ∧ OutOk K Rf G F D o
abbrev CS (X : Cx) (Φ : Fns) (bf : Nat → Option Nat) (M : Nat) (st : Stmt) (s : S) : Prop := PS X st (tS X.K (evS Φ bf M s))
abbrev CSs (X : Cx) (Φ : Fns) (bf : Nat → Option Nat) (M : Nat) (st : List Stmt) (s : Ss) : Prop := PSs X st (tS X.K (evSs Φ bf M s))

def tG (K : PySem.W.Frag) (t : Tg) : TG := fun v σ H Q => ∃ Rf G ρ F d ρ', SR K Rf G ρ F σ H ∧ Rp K F v d ∧ t.bind d ρ = some ρ' ∧ ∀ σ', σ'.length = σ.length → (∀ i, i ∉ t.ixs → σ'[i]? = σ[i]?) → SR K Rf G ρ' F σ' H → Q σ' H
abbrev CG (X : Cx) (e : Expr) (t : Tg) : Prop := PG X e (tG X.K t)
section
variable {X : Cx} {pos : Pos} {e1 e2 e3 e4 : Expr} {t1 t2 t3 t4 : Tg} {k : Nat}
theorem cg_n (i : Nat) {x : Str} (hN : X.N.Nodup) (hi : X.N[i]? = some x) (hx : Loc X.env.scope x) (hf : X.fn x = true ∨ X.env.scope.names.lookup x = some .local := by first | exact .inl rfl | exact .inr rfl | assumption) : CG X (.Name x pos) (.n i) := by
  refine PG.imp (pg_name (i := i) hN hi hx hf) fun v σ H Q h => ?_
  obtain ⟨Rf, G, ρ, F, d, ρ', R, q, e, k⟩ := h
  exact k _ (by rw [List.length_set]) (fun j hj => by rw [List.getElem?_set_ne]; intro z; exact hj (by simp [Tg.ixs, z])) (R.asg e q)
theorem rp_tup2 {K : PySem.W.Frag} {F H : Hp} {v : V} {x y : PyData} (s : Same F H) (q : Rp K F v (.tuple [x, y])) : ∃ a u w, v = .ref a ∧ SqT K H a [u, w] ∧ Rp K F u x ∧ Rp K F w y := by
  cases q with
  | tup h _ r =>
    cases r with
    | cons a r => cases r with
      | cons b r => cases r; exact ⟨_, _, _, rfl, SqT.of (s _ _ h), a, b⟩
theorem cg_t (hc : X.calm = true) (h1 : CG X e1 t1) (h2 : CG X e2 t2)
    (s1 : (assignEach [e1, e2] X.env).map (·.2) = assign e1 X.env :: (assignEach [e2] X.env).map (·.2) := by rfl) (s2 : (assignEach [e2] X.env).map (·.2) = assign e2 X.env :: (assignEach [] X.env).map (·.2) := by rfl)
    (hn : (assignEach [e1, e2] X.env).length = 2 := by rfl) (hst : (assignEach [e1, e2] X.env).findIdx? (·.1) = none := by rfl) : CG X (.Tuple [e1, e2] k pos) (.t t1 t2) := by
  refine PG.imp (pg_tup (n := 2) hc (pgs_cons h1 (pgs_cons h2 pgs_nil s2) s1) hn hst) fun v σ H Q h => ?_
  obtain ⟨Rf, G, ρ, F, d, ρ', R, q, e, kk⟩ := h
  simp only [Tg.bind] at e
  split at e
  · rename_i x y
    simp only [Option.bind_eq_some_iff] at e
    obtain ⟨ρ1, e1, e2⟩ := e
    obtain ⟨a, u, w, rfl, hq, q1, q2⟩ := rp_tup2 R.fz q
    refine ⟨a, [u, w], rfl, hq, rfl, u, [w], rfl, Rf, G, ρ, F, x, ρ1, R, q1, e1, fun σ1 l1 g1 R1 => ?_⟩
    refine ⟨w, [], rfl, Rf, G, ρ1, F, y, ρ', R1, q2, e2, fun σ2 l2 g2 R2 => ⟨rfl, ?_⟩⟩
    exact kk σ2 (l2.trans l1) (fun i hi => by
      simp only [Tg.ixs, List.mem_append, not_or] at hi
      rw [g2 i hi.2, g1 i hi.1]) R2
  · cases e
theorem rp_tup3 {K : PySem.W.Frag} {F H : Hp} {v : V} {x y z : PyData} (s : Same F H) (q : Rp K F v (.tuple [x, y, z])) : ∃ a u w t, v = .ref a ∧ SqT K H a [u, w, t] ∧ Rp K F u x ∧ Rp K F w y ∧ Rp K F t z := by
  cases q with
  | tup h _ r =>
    cases r with
    | cons a r => cases r with
      | cons b r => cases r with
        | cons c r => cases r; exact ⟨_, _, _, _, rfl, SqT.of (s _ _ h), a, b, c⟩
theorem cg_t3 (hc : X.calm = true) (h1 : CG X e1 t1) (h2 : CG X e2 t2) (h3 : CG X e3 t3)
    (s1 : (assignEach [e1, e2, e3] X.env).map (·.2) = assign e1 X.env :: (assignEach [e2, e3] X.env).map (·.2) := by rfl) (s2 : (assignEach [e2, e3] X.env).map (·.2) = assign e2 X.env :: (assignEach [e3] X.env).map (·.2) := by rfl) (s3 : (assignEach [e3] X.env).map (·.2) = assign e3 X.env :: (assignEach [] X.env).map (·.2) := by rfl)
    (hn : (assignEach [e1, e2, e3] X.env).length = 3 := by rfl) (hst : (assignEach [e1, e2, e3] X.env).findIdx? (·.1) = none := by rfl) : CG X (.Tuple [e1, e2, e3] k pos) (.t3 t1 t2 t3) := by
  refine PG.imp (pg_tup (n := 3) hc (pgs_cons h1 (pgs_cons h2 (pgs_cons h3 pgs_nil s3) s2) s1) hn hst) fun v σ H Q h => ?_
  obtain ⟨Rf, G, ρ, F, d, ρ', R, q, e, kk⟩ := h
  simp only [Tg.bind] at e
  split at e
  · rename_i x y z
    simp only [Option.bind_eq_some_iff] at e
    obtain ⟨ρ1, e1, ρ2, e2, e3⟩ := e
    obtain ⟨a, u, w, t, rfl, hq, q1, q2, q3⟩ := rp_tup3 R.fz q
    refine ⟨a, [u, w, t], rfl, hq, rfl, u, [w, t], rfl, Rf, G, ρ, F, x, ρ1, R, q1, e1, fun σ1 l1 g1 R1 => ?_⟩
    refine ⟨w, [t], rfl, Rf, G, ρ1, F, y, ρ2, R1, q2, e2, fun σ2 l2 g2 R2 => ?_⟩
    refine ⟨t, [], rfl, Rf, G, ρ2, F, z, ρ', R2, q3, e3, fun σ3 l3 g3 R3 => ⟨rfl, ?_⟩⟩
    exact kk σ3 (l3.trans (l2.trans l1)) (fun i hi => by
      simp only [Tg.ixs, List.mem_append, not_or] at hi
      rw [g3 i hi.2, g2 i hi.1.2, g1 i hi.1.1]) R3
  · cases e
end

section
variable {X : Cx} {Φ : Fns} {bf : Nat → Option Nat} {M : Nat} {e c : Expr} {x y : Z.X} {st : Stmt} {rest a b : List Stmt} {s : S} {ss s1 s2 : Ss} {pos : Pos}
theorem cs_nil : CSs X Φ bf M [] .nil := by
  refine PSs.imp pss_nil fun D σ H h => ?_
  obtain ⟨Rf, G, ρ, F, o, R, e, k⟩ := h
  simp only [evSs, Option.some.injEq] at e
  subst e
  exact k σ F H R (Same.refl _)
theorem cs_cons (h1 : CS X Φ bf M st s) (h2 : CSs X Φ bf M rest ss) : CSs X Φ bf M (st :: rest) (.cons s ss) := by
  refine PSs.imp (pss_cons h1 h2) fun D σ H h => ?_
  obtain ⟨Rf, G, ρ, F, o, R, e, k⟩ := h
  simp only [evSs, Option.bind_eq_some_iff] at e
  obtain ⟨o1, e1, e2⟩ := e
  refine ⟨Rf, G, ρ, F, o1, R, e1, ?_⟩
  cases o1 with
  | nx ρ1 => exact fun σ1 F1 H1 R1 s1 => ⟨Rf, G, ρ1, F1, o, R1, e2, k.mono s1⟩
  | bk ρ1 => simp only [Option.some.injEq] at e2; subst e2; exact k
  | ct ρ1 => simp only [Option.some.injEq] at e2; subst e2; exact k
  | rt d ρ1 => simp only [Option.some.injEq] at e2; subst e2; exact k
/-- name = value, by the value's reading -/
theorem redSet {K : PySem.W.Frag} {i : Nat} {D : Ends} {σ : St} {H : Hp} (h : tS K (evS Φ bf M (.set i x)) D σ H) : tX K (ev Φ bf x) σ H fun v H1 => D.nx (σ.set i (some v)) H1 := by
  obtain ⟨Rf, G, ρ, F, o, R, e, k⟩ := h
  simp only [evS, Option.bind_eq_some_iff] at e
  obtain ⟨⟨r, ρ1⟩, e1, ⟨s, ρ2⟩, e2, ρ3, e3, e⟩ := e
  simp only [Option.some.injEq] at e
  subst e
  refine ⟨Rf, G, ρ, F, r, ρ1, R, e1, fun v F1 H1 R1 s1 q => ?_⟩
  obtain ⟨F2, R2, s2, so⟩ := R1.stored q e2
  exact k _ F2 H1 (R2.asg e3 so) (s1.trans s2)
theorem cs_set (i : Nat) {n : Str} {pos' : Pos} (he : CE X Φ bf e x) (hN : X.N.Nodup) (hi : X.N[i]? = some n) (hx : Loc X.env.scope n) (hs : swapsWith e (some (.Name n pos')) pos.line X.env = pure false := by rfl) (hf : X.fn n = true ∨ X.env.scope.names.lookup n = some .local := by first | exact .inl rfl | exact .inr rfl | assumption) :
    CS X Φ bf M (.Assign [.Name n pos'] e pos) (.set i x) :=
  PS.imp (ps_set hN hi hx he hs hf) fun D σ H h => redSet h
theorem cs_set_by {te : TE} {i : Nat} (hp : PS X st (tAsg te (gName i))) (hr : ∀ σ H Q, tX X.K (ev Φ bf x) σ H Q → te σ H Q) : CS X Φ bf M st (.set i x) :=
  PS.imp hp fun D σ H h => hr _ _ _ (redSet h)
theorem cs_put {tg : Expr} {t : Tg} (he : CE X Φ bf e x) (hg : CG X tg t) (hs : swapsWithSole [tg] e pos.line X.env = pure false := by rfl) (hw : swappedStores [tg] e X.env = pure none := by rfl)
    (h1 : (assignEach [tg] X.env).map (·.2) = [assign tg X.env] := by rfl) : CS X Φ bf M (.Assign [tg] e pos) (.put t x) := by
  refine PS.imp (ps_asg he hg hs hw h1) fun D σ H h => ?_
  obtain ⟨Rf, G, ρ, F, o, R, e, k⟩ := h
  simp only [evS, Option.bind_eq_some_iff] at e
  obtain ⟨⟨d, ρ1⟩, e1, ρ2, e2, e⟩ := e
  simp only [Option.some.injEq] at e
  subst e
  refine tX_val R e1 fun v F1 H1 R1 s1 q => ?_
  exact ⟨Rf, G, ρ1, F1, d, ρ2, R1, q, e2, fun σ' _ _ R' => k σ' F1 H1 R' s1⟩
theorem cs_expr (he : CE X Φ bf e x) (hs : swapsWith e none pos.line X.env = pure false := by rfl) : CS X Φ bf M (.Expr e pos) (.expr x) := by
  refine PS.imp (ps_expr he hs) fun D σ H h => ?_
  obtain ⟨Rf, G, ρ, F, o, R, e, k⟩ := h
  simp only [evS, Option.bind_eq_some_iff] at e
  obtain ⟨⟨r, ρ1⟩, e1, e⟩ := e
  simp only [Option.some.injEq] at e
  subst e
  exact ⟨Rf, G, ρ, F, r, ρ1, R, e1, fun v F1 H1 R1 s1 q => k σ F1 H1 R1 s1⟩
theorem cs_ret (he : CE X Φ bf e x) : CS X Φ bf M (.Return (some e) pos) (.ret x) := by
  refine PS.imp (ps_ret he) fun D σ H h => ?_
  obtain ⟨Rf, G, ρ, F, o, R, e, k⟩ := h
  simp only [evS, Option.bind_eq_some_iff] at e
  obtain ⟨⟨d, ρ1⟩, e1, e⟩ := e
  simp only [Option.some.injEq] at e
  subst e
  exact tX_val R e1 fun v F1 H1 R1 s1 q => k v σ F1 H1 R1 s1 q
theorem cs_ite (hc : CT X Φ bf c x) (ha : CSs X Φ bf M a s1) (hb : CSs X Φ bf M b s2) : CS X Φ bf M (.If c a b pos) (.ite x s1 s2) := by
  refine PS.imp (ps_if hc ha hb) fun D σ H h => ?_
  obtain ⟨Rf, G, ρ, F, o, R, e, k⟩ := h
  simp only [evS, Option.bind_eq_some_iff] at e
  obtain ⟨⟨p, ρ1⟩, e1, e⟩ := e
  refine ⟨Rf, G, ρ, F, p, ρ1, R, e1, fun F1 H1 R1 s1 => ?_⟩
  cases p with
  | true => simp only [if_true] at e ⊢; exact ⟨Rf, G, ρ1, F1, o, R1, e, k.mono s1⟩
  | false => simp only [Bool.false_eq_true, if_false] at e ⊢; exact ⟨Rf, G, ρ1, F1, o, R1, e, k.mono s1⟩
theorem cs_pass : CS X Φ bf M (.Pass pos) .pass := by
  refine PS.imp ps_pass fun D σ H h => ?_
  obtain ⟨Rf, G, ρ, F, o, R, e, k⟩ := h
  simp only [evS, Option.some.injEq] at e
  subst e
  exact k σ F H R (Same.refl _)
theorem cs_brk : CS X Φ bf M (.Break pos) .brk := by
  refine PS.imp ps_break fun D σ H h => ?_
  obtain ⟨Rf, G, ρ, F, o, R, e, k⟩ := h
  simp only [evS, Option.some.injEq] at e
  subst e
  exact k σ F H R (Same.refl _)
theorem cs_cnt : CS X Φ bf M (.Continue pos) .cnt := by
  refine PS.imp ps_continue fun D σ H h => ?_
  obtain ⟨Rf, G, ρ, F, o, R, e, k⟩ := h
  simp only [evS, Option.some.injEq] at e
  subst e
  exact k σ F H R (Same.refl _)
/-- what is never reached -/
theorem cs_stuck : CS X Φ bf M st .stuck := by
  refine PS.imp ps_never fun D σ H h => ?_
  obtain ⟨Rf, G, ρ, F, o, R, e, k⟩ := h
  simp only [evS] at e
  cases e
theorem cs_whl (hp : PassesOwn (model X.prog X.w) X.A X.env X.xe) (hc : CT X Φ bf c x) (hb : CSs X Φ bf M b ss) : CS X Φ bf M (.While c b [] pos) (.whl x ss) := by
  refine PS.imp (ps_while hp hc hb) fun D σ H h => ?_
  obtain ⟨Rf, G, ρ, F, o, R, e, k⟩ := h
  simp only [evS] at e
  refine ⟨fun m σ H => ∃ ρ F1, SR X.K Rf G ρ F1 σ H ∧ Same F F1 ∧ whLoop (truth (ev Φ bf x)) (evSs Φ bf M ss) m ρ = some o, ⟨M, ρ, F, R, Same.refl _, e⟩, ?_⟩
  rintro m σ H ⟨ρ, F1, R, s1, e⟩
  cases m with
  | zero => simp only [whLoop] at e; cases e
  | succ m =>
    simp only [whLoop, Option.bind_eq_some_iff] at e
    obtain ⟨⟨p, ρ1⟩, e1, e⟩ := e
    refine ⟨Rf, G, ρ, F1, p, ρ1, R, e1, fun F2 H1 R1 s2 => ?_⟩
    cases p with
    | false =>
      simp only [Bool.false_eq_true, if_false, Option.some.injEq] at e ⊢
      subst e
      exact k σ F2 H1 R1 (s1.trans s2)
    | true =>
      simp only [if_true, Option.bind_eq_some_iff] at e ⊢
      obtain ⟨o1, e2, e⟩ := e
      refine ⟨fun σ' H' => ∃ ρ F1, SR X.K Rf G ρ F1 σ' H' ∧ Same F F1 ∧ whLoop (truth (ev Φ bf x)) (evSs Φ bf M ss) m ρ = some o, fun σ' H' q => ⟨m, Nat.lt_succ_self m, q⟩, Rf, G, ρ1, F2, o1, R1, e2, ?_⟩
      cases o1 with
      | nx ρ2 => exact fun σ' F3 H3 R3 s3 => ⟨ρ2, F3, R3, s1.trans (s2.trans s3), e⟩
      | ct ρ2 => exact fun σ' F3 H3 R3 s3 => ⟨ρ2, F3, R3, s1.trans (s2.trans s3), e⟩
      | bk ρ2 =>
        simp only [Option.some.injEq] at e
        subst e
        exact fun σ' F3 H3 R3 s3 => k σ' F3 H3 R3 (s1.trans (s2.trans s3))
      | rt d ρ2 =>
        simp only [Option.some.injEq] at e
        subst e
        exact fun v σ' F3 H3 R3 s3 q => k v σ' F3 H3 R3 (s1.trans (s2.trans s3)) q
end
end L2.Z

namespace L2.Z
open PySem PySem.Spec PyProof.Rows

def pin (Rf : Nat → Option Addr) (j : Nat) (a : Addr) : Nat → Option Addr := fun i => if i = j then some a else Rf i
theorem pin_self {Rf : Nat → Option Addr} {j : Nat} {a : Addr} : pin Rf j a j = some a := by unfold pin; rw [if_pos rfl]
theorem pin_ne {Rf : Nat → Option Addr} {j k : Nat} {a : Addr} (h : k ≠ j) : pin Rf j a k = Rf k := by unfold pin; rw [if_neg h]
def Slot.back (d : PyData) : Slot → Slot
  | .ref _ => .ref d
  | _ => .own d
section
variable {K : PySem.W.Frag} {Rf Rf' : Nat → Option Addr} {G F F' H H' : Hp} {ρ ρ' : Ev} {σ σ' : St} {a p : Addr} {d c : PyData} {v : V} {r : Res} {j i : Nat} {s : Slot}
/-- one container is locked; how it is unlocked -/
theorem SR.lock1 (R : SR K Rf G ρ F σ H) {b : Bool} (h : ρ[j]? = some s) (hm : s.isMut = true) (hs : s.get = some d) :
    ∃ a o, SR K (pin Rf j a) (upd G a o) (ρ.set j (.lok b d)) F σ H ∧ σ[j]? = some (some (.ref a)) ∧ G a = none ∧ MutAt K F H a d ∧ H a = some o ∧
      ∀ G0 ρ' F' σ' H' b' d' s', G0 a = none → SR K (pin Rf j a) (upd G0 a o) ρ' F' σ' H' → ρ'[j]? = some (.lok b' d') → s' = s.back d' → SR K Rf G0 (ρ'.set j s') F' σ' H' := by
  have hj : j < ρ.length := (List.getElem?_eq_some_iff.mp h).1
  obtain ⟨a, ea, na, m, qr⟩ : ∃ a, σ[j]? = some (some (.ref a)) ∧ F a = none ∧ MutAt K F H a d ∧ (∀ d', s = .ref d' → Rf j = some a) := by
    have q := R.sl j s h
    cases s with
    | own d' => cases hs; obtain ⟨a, e, n, m⟩ := q; exact ⟨a, e, n, m, fun _ z => by cases z⟩
    | ref d' => cases hs; obtain ⟨a, e, n, m, q⟩ := q; exact ⟨a, e, n, m, fun _ _ => q⟩
    | _ => cases hm
  obtain ⟨o, eo⟩ := m.there
  have mj : MutI ρ j := ⟨s, h, hm⟩
  have ga : G a = none := R.gm j a mj ea
  -- no other slot's pin is a
  have nrf : ∀ k, k ≠ j → Rf k ≠ some a := fun k hk e => by
    obtain ⟨z1, t, z2, z3⟩ := R.rf k a e
    cases t with
    | ref d' => exact hk (R.dis k j a ⟨_, z2, rfl⟩ mj z1 ea)
    | lok b d' =>
      obtain ⟨a', o', e1, _, g, _⟩ := R.sl k _ z2
      rw [z1] at e1; cases e1
      rw [ga] at g; cases g
    | _ => cases z3
  have mutc : ∀ k, MutI (ρ.set j (.lok b d)) k → k ≠ j ∧ MutI ρ k := fun k ⟨u, eu, mu⟩ => by
    rw [getSet hj] at eu
    split at eu
    · cases eu; cases mu
    · rename_i z; exact ⟨z, u, eu, mu⟩
  refine ⟨a, o, ⟨by rw [List.length_set]; exact R.len, R.fz, fun k t et => ?_, fun k l x mk ml => R.dis k l x (mutc k mk).2 (mutc l ml).2, fun k x mk ek => ?_, fun x y e => ?_, fun k x e => ?_, gt_upd R.gt (m.noTup eo)⟩, ea, ga, m, eo, ?_⟩
  · rw [getSet hj] at et
    split at et
    · rename_i z
      cases et
      subst z
      exact ⟨a, o, ea, pin_self, upd_same, m⟩
    · rename_i z
      have q := R.sl k t et
      cases t with
      | ref d' => obtain ⟨a', e, n, m', q⟩ := q; exact ⟨a', e, n, m', (pin_ne z).trans q⟩
      | lok b' d' =>
        obtain ⟨a', o', e, q, g, m'⟩ := q
        exact ⟨a', o', e, (pin_ne z).trans q, by rw [upd_ne (fun z => by rw [z, ga] at g; cases g)]; exact g, m'⟩
      | _ => exact q
  · obtain ⟨hk, mk⟩ := mutc k mk
    rw [upd_ne (fun z => hk (R.dis k j a mk mj (by rw [ek, z]) ea))]
    exact R.gm k x mk ek
  · by_cases hx : x = a
    · subst hx; rw [upd_same] at e; cases e; exact ⟨eo, na⟩
    · rw [upd_ne hx] at e; exact R.gs x y e
  · by_cases hk : k = j
    · subst hk
      rw [pin_self] at e
      cases e
      exact ⟨ea, .lok b d, by rw [getSet hj, if_pos rfl], rfl⟩
    · rw [pin_ne hk] at e
      obtain ⟨z1, t, z2, z3⟩ := R.rf k x e
      exact ⟨z1, t, by rw [getSet hj, if_neg hk]; exact z2, z3⟩
  · intro G0 ρ' F' σ' H' b' d' s' ga R' hl es
    have hj' : j < ρ'.length := (List.getElem?_eq_some_iff.mp hl).1
    obtain ⟨a', o', e1, e2, e3, m'⟩ := R'.sl j _ hl
    rw [pin_self] at e2
    cases e2
    have gs' := R'.gs a o upd_same
    have gle : ∀ x y, G0 x = some y → upd G0 a o x = some y := fun x y e => by rw [upd_ne (fun z => by rw [z, ga] at e; cases e)]; exact e
    have nm : ∀ k, MutI ρ' k → σ'[k]? ≠ some (some (.ref a)) := fun k mk ek => by
      have q := R'.gm k a mk ek
      rw [upd_same] at q; cases q
    have sm' : s'.isMut = true := by subst es; cases s <;> rfl
    have mutc' : ∀ k, MutI (ρ'.set j s') k → k = j ∨ MutI ρ' k := fun k ⟨u, eu, mu⟩ => by
      rw [getSet hj'] at eu
      split at eu
      · rename_i z; exact .inl z
      · exact .inr ⟨u, eu, mu⟩
    refine ⟨by rw [List.length_set]; exact R'.len, R'.fz, fun k t et => ?_, fun k l x mk ml ek el => ?_, fun k x mk ek => ?_, fun x y e => R'.gs x y (gle x y e), fun k x e => ?_, fun x xs e => R'.gt x xs (gle x _ e)⟩
    · rw [getSet hj'] at et
      split at et
      · rename_i z
        cases et
        subst z
        subst es
        cases s with
        | own d0 => exact ⟨a, e1, gs'.2, m'⟩
        | ref d0 => exact ⟨a, e1, gs'.2, m', qr d0 rfl⟩
        | _ => cases hm
      · rename_i z
        have q := R'.sl k t et
        cases t with
        | ref d0 => obtain ⟨x, e, n, m0, q⟩ := q; rw [pin_ne z] at q; exact ⟨x, e, n, m0, q⟩
        | lok b0 d0 =>
          obtain ⟨x, y, e, q, g, m0⟩ := q
          rw [pin_ne z] at q
          rw [upd_ne (fun w => nrf k z (by rw [q, w]))] at g
          exact ⟨x, y, e, q, g, m0⟩
        | _ => exact q
    · rcases mutc' k mk with hk | mk1
      · rcases mutc' l ml with hl | ml1
        · exact hk.trans hl.symm
        · subst hk; rw [e1] at ek; cases ek; exact (nm l ml1 el).elim
      · rcases mutc' l ml with hl | ml1
        · subst hl; rw [e1] at el; cases el; exact (nm k mk1 ek).elim
        · exact R'.dis k l x mk1 ml1 ek el
    · rcases mutc' k mk with hk | mk1
      · subst hk; rw [e1] at ek; cases ek; exact ga
      · have q := R'.gm k x mk1 ek
        cases g : G0 x with
        | none => rfl
        | some y => rw [gle x y g] at q; cases q
    · by_cases hk : k = j
      · subst hk
        obtain ⟨z1, t, z2, z3⟩ := R.rf k x e
        rw [h] at z2
        cases z2
        cases s with
        | ref d0 =>
          rw [qr d0 rfl] at e
          cases e
          subst es
          exact ⟨e1, _, by rw [getSet hj', if_pos rfl], rfl⟩
        | own d0 => cases z3
        | _ => cases hm
      · obtain ⟨z1, t, z2, z3⟩ := R'.rf k x ((pin_ne hk).trans e)
        exact ⟨z1, t, by rw [getSet hj', if_neg hk]; exact z2, z3⟩

/-- an operand that will stay -/
def Keep (K : PySem.W.Frag) (F G : Hp) (v : V) (d : PyData) : Prop := Rp K F v d ∨ ∃ a o, v = .ref a ∧ G a = some o ∧ ∀ F2 H2, Same F F2 → H2 a = some o → MutAt K F2 H2 a d
inductive Keeps (K : PySem.W.Frag) (F G : Hp) : List V → List PyData → Prop
  | nil : Keeps K F G [] []
  | cons {v : V} {vs : List V} {d : PyData} {ds : List PyData} : Keep K F G v d → Keeps K F G vs ds → Keeps K F G (v :: vs) (d :: ds)
theorem Keep.gmono {G' : Hp} (h : ∀ b x, G b = some x → G' b = some x) (k : Keep K F G v d) : Keep K F G' v d := by
  rcases k with k | ⟨a, o, e, g, q⟩
  · exact .inl k
  · exact .inr ⟨a, o, e, h a o g, q⟩
theorem Keeps.gmono {G' : Hp} (h : ∀ b x, G b = some x → G' b = some x) : ∀ {vs : List V} {ds : List PyData}, Keeps K F G vs ds → Keeps K F G' vs ds
  | _, _, .nil => .nil
  | _, _, .cons a b => .cons (a.gmono h) (Keeps.gmono h b)
theorem Keep.rq (R : SR K Rf G ρ F' σ H) (s : Same F F') (k : Keep K F G v d) : Rq K F' H v d := by
  rcases k with k | ⟨a, o, rfl, g, q⟩
  · exact (k.mono s).rq R.fz
  · exact (q F' H s (R.gs a o g).1).rq
theorem Keeps.rq (R : SR K Rf G ρ F' σ H) (s : Same F F') : ∀ {vs : List V} {ds : List PyData}, Keeps K F G vs ds → RqA K F' H vs ds
  | _, _, .nil => .nil
  | _, _, .cons a b => .cons (a.rq R s) (Keeps.rq R s b)
def updL (G : Hp) : List (Addr × HO) → Hp
  | [] => G
  | p :: l => updL (upd G p.1 p.2) l
theorem updL_out {G : Hp} {b : Addr} : ∀ {L : List (Addr × HO)}, (∀ p ∈ L, p.1 ≠ b) → updL G L b = G b
  | [], _ => rfl
  | p :: l, h => by
    unfold updL
    rw [updL_out (fun q hq => h q (List.mem_cons_of_mem _ hq)), upd_ne (Ne.symm (h p List.mem_cons_self))]
theorem upd_comm {G : Hp} {a b : Addr} {x y : HO} (h : a ≠ b) : upd (upd G a x) b y = upd (upd G b y) a x := by
  funext c
  by_cases h1 : c = a
  · subst h1; rw [upd_ne h, upd_same, upd_same]
  · rw [upd_ne (a := a) h1]
    by_cases h2 : c = b
    · subst h2; rw [upd_same, upd_same]
    · rw [upd_ne h2, upd_ne h2, upd_ne h1]
theorem updL_comm {D : Addr} {o : HO} : ∀ {L : List (Addr × HO)} {G : Hp}, (∀ p ∈ L, p.1 ≠ D) → updL (upd G D o) L = upd (updL G L) D o
  | [], _, _ => rfl
  | p :: l, G, h => by
    unfold updL
    rw [upd_comm (Ne.symm (h p List.mem_cons_self)), updL_comm (fun q hq => h q (List.mem_cons_of_mem _ hq))]
theorem SR.lockR (R : SR K Rf G ρ F σ H) (o : OR K F σ v r) (e : r.get ρ = some d) :
    ∃ Rf' L, SR K Rf' (updL G L) (Z.lockR ρ r) F σ H ∧ Keep K F (updL G L) v d ∧ (∀ p ∈ L, G p.1 = none ∧ ∃ x, H p.1 = some x) ∧
      ∀ G0 ρ' F' σ' H' ρ'', (∀ p ∈ L, G0 p.1 = none) → SR K Rf' (updL G0 L) ρ' F' σ' H' → unlockR ρ r ρ' = some ρ'' → SR K Rf G0 ρ'' F' σ' H' := by
  have same : ∀ {d : PyData} {f : Ev → Option Ev}, (∀ ρ', f ρ' = some ρ') → ∀ {ρl}, ρl = ρ → Keep K F G v d → ∃ Rf' L, SR K Rf' (updL G L) ρl F σ H ∧ Keep K F (updL G L) v d ∧ (∀ p ∈ L, G p.1 = none ∧ ∃ x, H p.1 = some x) ∧
      ∀ G0 ρ' F' σ' H' ρ'', (∀ p ∈ L, G0 p.1 = none) → SR K Rf' (updL G0 L) ρ' F' σ' H' → f ρ' = some ρ'' → SR K Rf G0 ρ'' F' σ' H' := fun {d f} hf {ρl} hl hk => by
    subst hl
    exact ⟨Rf, [], R, hk, fun _ h => by simp at h, fun G0 ρ' F' σ' H' ρ'' _ R' e => by rw [hf] at e; cases e; exact R'⟩
  cases r with
  | val d' => cases e; exact same (f := unlockR ρ (.val d)) (fun _ => rfl) rfl (.inl o)
  | new d' => cases e; exact same (f := unlockR ρ (.new d)) (fun _ => rfl) rfl (.inl o)
  | slot j =>
    simp only [Res.get, Option.bind_eq_some_iff] at e
    obtain ⟨s, e1, e2⟩ := e
    have hv : σ[j]? = some (some v) := o
    have q := R.sl j s e1
    have mu : ∀ b, s.isMut = true → (∀ ρ', unlockR ρ (.slot j) ρ' = (match ρ'[j]? with | some (.lok _ d) => some (ρ'.set j (s.back d)) | _ => none)) → Z.lockR ρ (.slot j) = ρ.set j (.lok b d) →
        ∃ Rf' L, SR K Rf' (updL G L) (Z.lockR ρ (.slot j)) F σ H ∧ Keep K F (updL G L) v d ∧ (∀ p ∈ L, G p.1 = none ∧ ∃ x, H p.1 = some x) ∧
      ∀ G0 ρ' F' σ' H' ρ'', (∀ p ∈ L, G0 p.1 = none) → SR K Rf' (updL G0 L) ρ' F' σ' H' → unlockR ρ (.slot j) ρ' = some ρ'' → SR K Rf G0 ρ'' F' σ' H' := fun b hm hu hl => by
      obtain ⟨a, o', R', ea, ga, m, ho, un⟩ := R.lock1 (b := b) e1 hm e2
      rw [hv] at ea; cases ea
      refine ⟨pin Rf j a, [(a, o')], by rw [hl]; exact R', .inr ⟨a, o', rfl, upd_same, fun F2 H2 s2 h2 => m.mono (h2.trans ho.symm) s2⟩, fun p hp => ?_, fun G0 ρ' F' σ' H' ρ'' hG R2 eu => ?_⟩
      · obtain rfl : p = (a, o') := by simpa using hp
        exact ⟨ga, o', ho⟩
      · rw [hu] at eu
        split at eu
        · rename_i b2 d2 h2
          cases eu
          exact un G0 ρ' F' σ' H' b2 d2 _ (hG (a, o') (by simp)) R2 h2 rfl
        · cases eu
    cases s with
    | un => cases e2
    | dat d' =>
      cases e2
      obtain ⟨x, ex, rx⟩ := q
      rw [hv] at ex; cases ex
      exact same (f := unlockR ρ (.slot j)) (fun ρ' => by simp only [unlockR, e1]) (by simp only [Z.lockR, e1]) (.inl rx)
    | lok b d' =>
      cases e2
      obtain ⟨a, o', ex, _, g, m⟩ := q
      rw [hv] at ex; cases ex
      refine same (f := unlockR ρ (.slot j)) (fun ρ' => by simp only [unlockR, e1]) (by simp only [Z.lockR, e1]) (.inr ⟨a, o', rfl, g, fun F2 H2 s2 h2 => m.mono (h2.trans (R.gs a o' g).1.symm) s2⟩)
    | own d' => cases e2; exact mu false rfl (fun ρ' => by simp only [unlockR, e1]; rfl) (by simp only [Z.lockR, e1])
    | ref d' => cases e2; exact mu true rfl (fun ρ' => by simp only [unlockR, e1]; rfl) (by simp only [Z.lockR, e1])
theorem lockR_get (R : SR K Rf G ρ F σ H) {r r' : Res} (e : r'.get ρ = some d) : r'.get (Z.lockR ρ r) = some d := by
  cases r with
  | slot j =>
    unfold Z.lockR
    have key : ∀ s b d0, ρ[j]? = some s → s.get = some d0 → r'.get (ρ.set j (.lok b d0)) = some d := fun s b d0 hs hg => by
      have hj : j < ρ.length := (List.getElem?_eq_some_iff.mp hs).1
      cases r' with
      | slot k =>
        simp only [Res.get, Option.bind_eq_some_iff] at e ⊢
        obtain ⟨t, e1, e2⟩ := e
        by_cases hk : k = j
        · subst hk
          rw [hs] at e1; cases e1
          exact ⟨.lok b d0, by rw [getSet hj, if_pos rfl], hg.symm.trans e2⟩
        · exact ⟨t, by rw [getSet hj, if_neg hk]; exact e1, e2⟩
      | _ => exact e
    simp only
    split
    · rename_i d0 h; exact key _ _ _ h rfl
    · rename_i d0 h; exact key _ _ _ h rfl
    · exact e
  | _ => exact e
theorem lockR_all (R : SR K Rf G ρ F σ H) {r : Res} : ∀ {rs : List Res} {ds : List PyData}, getAll ρ rs = some ds → getAll (Z.lockR ρ r) rs = some ds
  | [], _, e => e
  | r' :: rs, _, e => by
    simp only [getAll, Option.bind_eq_some_iff] at e ⊢
    obtain ⟨d, e1, ds, e2, e3⟩ := e
    exact ⟨d, lockR_get R e1, ds, lockR_all R e2, e3⟩
theorem SR.locks : ∀ {vs : List V} {rs : List Res} {ds : List PyData} {Rf : Nat → Option Addr} {G : Hp} {ρ : Ev}, SR K Rf G ρ F σ H → ORs K F σ vs rs → getAll ρ rs = some ds →
    ∃ Rf' L, SR K Rf' (updL G L) (lockAll rs ρ) F σ H ∧ Keeps K F (updL G L) vs ds ∧ (∀ p ∈ L, G p.1 = none ∧ ∃ x, H p.1 = some x) ∧
      ∀ G0 ρ' F' σ' H' ρ'', (∀ p ∈ L, G0 p.1 = none) → SR K Rf' (updL G0 L) ρ' F' σ' H' → unlockAll rs ρ ρ' = some ρ'' → SR K Rf G0 ρ'' F' σ' H'
  | _, _, _, Rf, G, ρ, R, .nil, e => by
    simp only [getAll, Option.some.injEq] at e
    subst e
    exact ⟨Rf, [], R, .nil, fun _ h => by simp at h, fun G0 ρ' F' σ' H' ρ'' _ R' e => by simp only [unlockAll, Option.some.injEq] at e; subst e; exact R'⟩
  | _, _, _, Rf, G, ρ, R, .cons (r := r) (rs := rs) o os, e => by
    simp only [getAll, Option.bind_eq_some_iff] at e
    obtain ⟨d, e1, ds, e2, e3⟩ := e
    simp only [Option.some.injEq] at e3
    subst e3
    obtain ⟨Rf1, L1, R1, k1, g1, u1⟩ := R.lockR o e1
    obtain ⟨Rf2, L2, R2, k2, g2, u2⟩ := SR.locks R1 os (lockR_all R e2)
    have app : ∀ {G : Hp} {l1 l2 : List (Addr × HO)}, updL G (l1 ++ l2) = updL (updL G l1) l2 := fun {G l1 l2} => by
      induction l1 generalizing G with
      | nil => rfl
      | cons p l ih => exact ih
    have sep : ∀ p ∈ L2, ∀ q ∈ L1, q.1 ≠ p.1 := fun p hp q hq z => by
      have n := (g2 p hp).1
      have there : ∀ {l : List (Addr × HO)} {G : Hp}, q ∈ l → ∃ x, updL G l q.1 = some x := by
        intro l
        induction l with
        | nil => intro G h; simp at h
        | cons y l ih =>
          intro G h
          unfold updL
          by_cases hl : q ∈ l
          · exact ih hl
          · have hy : q = y := by simpa [hl] using h
            subst hy
            by_cases hx : ∃ w ∈ l, w.1 = q.1
            · obtain ⟨w, hw, ew⟩ := hx
              have gen : ∀ {l : List (Addr × HO)} {G : Hp} {b : Addr}, (∃ x, G b = some x) → ∃ x, updL G l b = some x := by
                intro l
                induction l with
                | nil => intro G b h; exact h
                | cons y l ih =>
                  intro G b h
                  unfold updL
                  refine ih ?_
                  by_cases hb : b = y.1
                  · exact ⟨y.2, by rw [hb, upd_same]⟩
                  · rw [upd_ne hb]; exact h
              exact gen ⟨_, upd_same⟩
            · refine ⟨q.2, ?_⟩
              rw [updL_out (fun w hw e => hx ⟨w, hw, e⟩), upd_same]
      obtain ⟨x, hx⟩ := there (G := G) hq
      rw [z, n] at hx
      cases hx
    refine ⟨Rf2, L1 ++ L2, by rw [app]; exact R2, ?_, fun p hp => ?_, fun G0 ρ' F' σ' H' ρ'' hG R' e => ?_⟩
    · rw [app]
      refine .cons (k1.gmono fun b x e => ?_) k2
      rw [updL_out (fun p hp z => by rw [← z, (g2 p hp).1] at e; cases e)]
      exact e
    · rcases List.mem_append.mp hp with hp | hp
      · exact g1 p hp
      · obtain ⟨n, x, hx⟩ := g2 p hp
        rw [updL_out (fun q hq => sep p hp q hq)] at n
        exact ⟨n, x, hx⟩
    · simp only [unlockAll, Option.bind_eq_some_iff] at e
      obtain ⟨ρm, e4, e5⟩ := e
      rw [app] at R'
      refine u1 _ _ _ _ _ _ (fun p hp => hG p (List.mem_append_left _ hp)) (u2 _ _ _ _ _ _ (fun p hp => ?_) R' e4) e5
      rw [updL_out (fun q hq => sep p hp q hq)]
      exact hG p (List.mem_append_right _ hp)
end

/-- J walks the items while the operands stand -/
def JOk (K : PySem.W.Frag) (vs : List V) (ds : List PyData) (items : List PyData) (J : It) : Prop := ∀ (Rf : Nat → Option Addr) (G : Hp) (ρ : Ev) (F : Hp) (σ : St) (H : Hp), SR K Rf G ρ F σ H → RqA K F H vs ds →
  (∀ i, items.length ≤ i → J.stop i H) ∧ (∀ i d, items[i]? = some d → J.go i H ∧ ∀ x H', J.yld i H x H' → ∃ F', SR K Rf G ρ F' σ H' ∧ Same F F' ∧ Rp K F' x d)
def tI (K : PySem.W.Frag) (f : Ev → Option (List Res × Ev)) (g : List PyData → Option (List PyData)) : TI := fun σ H R => ∃ Rf G ρ F rs ρ' ds items, SR K Rf G ρ F σ H ∧ f ρ = some (rs, ρ') ∧ getAll ρ' rs = some ds ∧ g ds = some items ∧
  ∀ vs F' H' J, SR K Rf G ρ' F' σ H' → Same F F' → ORs K F' σ vs rs → JOk K vs ds items J → items.length ≤ sizeLine → R J H'
theorem PI.imp {X : Cx} {tg e : Expr} {t t' : TI} (h : PI X tg e t) (hi : ∀ σ H R, t' σ H R → t σ H R) : PI X tg e t' := ⟨fun pins s σ H R I q => h.run pins s σ H R I (hi σ H R q)⟩
abbrev CI (X : Cx) (Φ : Fns) (bf : Nat → Option Nat) (tg it : Expr) (g : List PyData → Option (List PyData)) (xs : Xs) : Prop := PI X tg it (tI X.K (evs Φ bf xs) g)

section
variable {X : Cx} {Φ : Fns} {bf : Nat → Option Nat} {M : Nat} {tg it e : Expr} {xs : Xs} {t : Tg} {g : List PyData → Option (List PyData)} {b : List Stmt} {ss : Ss} {pos : Pos}
theorem cs_for (hp : PassesOwn (model X.prog X.w) X.A X.env X.xe) (hc : X.calm = true) (hi : CI X Φ bf tg it g xs) (hg : CG X tg t) (hb : CSs X Φ bf M b ss) (hs : ∀ x, foldedSetIterable it X.env x = pure x := by intro _; rfl) :
    CS X Φ bf M (.For tg it b [] pos) (.frr t g xs ss) := by
  refine PS.imp (ps_for hp hc hi hg hb hs) fun D σ H h => ?_
  obtain ⟨Rf, G, ρ, F, o, R, e, k⟩ := h
  simp only [evS, Option.bind_eq_some_iff] at e
  obtain ⟨⟨rs, ρ1⟩, e1, ds, e2, items, e3, o1, e4, e5⟩ := e
  refine ⟨Rf, G, ρ, F, rs, ρ1, ds, items, R, e1, e2, e3, fun vs F1 H1 J R1 s1 os hJ hlen => ?_⟩
  obtain ⟨Rf2, L, R2, kp, gl, un0⟩ := SR.locks R1 os e2
  have un : ∀ ρ' F' σ' H' ρ'', SR X.K Rf2 (updL G L) ρ' F' σ' H' → unlockAll rs ρ1 ρ' = some ρ'' → SR X.K Rf G ρ'' F' σ' H' := fun ρ' F' σ' H' ρ'' a b => un0 G ρ' F' σ' H' ρ'' (fun p hp => (gl p hp).1) a b
  generalize updL G L = G2 at R2 kp un
  refine ⟨fun i m σ H => m = items.length - i ∧ i ≤ items.length ∧ ∃ ρ F2, SR X.K Rf2 G2 ρ F2 σ H ∧ Same F1 F2 ∧ frLoop t (evSs Φ bf M ss) (items.drop i) ρ = some o1, ⟨items.length, by simp, Nat.zero_le _, _, F1, R2, Same.refl _, by simpa using e4⟩, ?_⟩
  rintro i m σ H ⟨rfl, hi, ρi, F2, R3, s2, e⟩
  have rq := kp.rq R3 s2
  obtain ⟨jstop, jgo⟩ := hJ Rf2 G2 ρi F2 σ H R3 rq
  by_cases hlt : i < items.length
  · have hd : items.drop i = items[i] :: items.drop (i + 1) := List.drop_eq_getElem_cons hlt
    rw [hd] at e
    simp only [frLoop, Option.bind_eq_some_iff] at e
    obtain ⟨ρ2, eb, o2, es, e⟩ := e
    obtain ⟨go, yl⟩ := jgo i items[i] (List.getElem?_eq_getElem hlt)
    refine .inr ⟨go, fun σ' H' => ∃ ρ F2, SR X.K Rf2 G2 ρ F2 σ' H' ∧ Same F1 F2 ∧ frLoop t (evSs Φ bf M ss) (items.drop (i + 1)) ρ = some o1, fun σ' H' q => ⟨items.length - (i + 1), by omega, rfl, hlt, q⟩, fun x H' y => ?_⟩
    obtain ⟨F3, R4, s3, q⟩ := yl x H' y
    refine ⟨Rf2, G2, ρi, F3, items[i], ρ2, R4, q, eb, fun σ' _ _ R5 => ?_⟩
    refine ⟨Rf2, G2, ρ2, F3, o2, R5, es, ?_⟩
    have back : ∀ {ρ' F' σ' H' ρ''}, SR X.K Rf2 G2 ρ' F' σ' H' → unlockAll rs ρ1 ρ' = some ρ'' → SR X.K Rf G ρ'' F' σ' H' := fun a b => un _ _ _ _ _ a b
    cases o2 with
    | nx ρ3 => exact fun σ7 F7 H7 R7 s7 => ⟨ρ3, F7, R7, s2.trans (s3.trans s7), e⟩
    | ct ρ3 => exact fun σ7 F7 H7 R7 s7 => ⟨ρ3, F7, R7, s2.trans (s3.trans s7), e⟩
    | bk ρ3 =>
      simp only [Option.some.injEq] at e
      subst e
      simp only [Out.mapM, Option.bind_eq_some_iff, Option.some.injEq] at e5
      obtain ⟨ρ4, e6, rfl⟩ := e5
      exact fun σ7 F7 H7 R7 s7 => k σ7 F7 H7 (back R7 e6) (s1.trans (s2.trans (s3.trans s7)))
    | rt d ρ3 =>
      simp only [Option.some.injEq] at e
      subst e
      simp only [Out.mapM, Option.bind_eq_some_iff, Option.some.injEq] at e5
      obtain ⟨ρ4, e6, rfl⟩ := e5
      exact fun v σ7 F7 H7 R7 s7 q => k v σ7 F7 H7 (back R7 e6) (s1.trans (s2.trans (s3.trans s7))) q
  · have hi' : i = items.length := by omega
    rw [hi', List.drop_length] at e
    simp only [frLoop, Option.some.injEq] at e
    subst e
    simp only [Out.mapM, Option.bind_eq_some_iff, Option.some.injEq] at e5
    obtain ⟨ρ4, e6, rfl⟩ := e5
    refine .inl ⟨jstop i (by omega), ?_⟩
    exact k σ F2 H (un _ _ _ _ _ R3 e6) (s1.trans s2)
end

/-- a list, a tuple -/
def gSeq : List PyData → Option (List PyData)
  | [.list ds] => some ds
  | [.tuple ds] => some ds
  | _ => none
def gRange1 : List PyData → Option (List PyData)
  | [.int n] => if -(2 ^ 62) ≤ n ∧ n ≤ sizeLine then some ((List.range n.toNat).map fun i => .int (i : Nat)) else none
  | _ => none
def gRange2 : List PyData → Option (List PyData)
  | [.int a, .int n] => if n - a ≤ sizeLine ∧ (-(2 ^ 62) ≤ a ∧ a < 2 ^ 62) ∧ -(2 ^ 62) ≤ n ∧ n < 2 ^ 62 then some ((List.range (n - a).toNat).map fun i => .int (a + (i : Nat))) else none
  | _ => none
theorem SqL.uniq {K : PySem.W.Frag} {H : Hp} {a : Addr} {xs ys : List V} (h : SqL K H a xs) (h' : SqL K H a ys) (hk : ∀ o, K.lookup a = some o → H a = none) : xs = ys := by
  rcases h with (h | ⟨o, h⟩) | ⟨o, its, n, k1, _, _, d1, _, r1⟩
  · rcases h' with (h' | ⟨o', h'⟩) | ⟨o', its', n', k2, _⟩
    · rw [h] at h'; cases h'; rfl
    · rw [h] at h'; cases h'
    · rw [hk _ k2] at h; cases h
  · rcases h' with (h' | ⟨o', h'⟩) | ⟨o', its', n', k2, _⟩
    · rw [h] at h'; cases h'
    · rw [h] at h'; cases h'; rfl
    · rw [hk _ k2] at h; cases h
  · rcases h' with (h' | ⟨o', h'⟩) | ⟨o', its', n', k2, _, _, d2, _, r2⟩
    · rw [hk _ k1] at h'; cases h'
    · rw [hk _ k1] at h'; cases h'
    · rw [k1] at k2; cases k2
      rw [d1] at d2; cases d2
      exact r1.inj r2
end L2.Z

namespace L2.Z
open PySem PySem.Spec PyProof.Rows

section
variable {K : PySem.W.Frag} {Rf Rf' : Nat → Option Addr} {G F F' H H' : Hp} {ρ ρ' ρw : Ev} {σ σ' : St} {a p : Addr} {d c : PyData} {v : V} {r : Res} {j i : Nat} {s : Slot}
theorem wipe_len (σ : St) (vs : List Nat) : (wipe σ vs).length = σ.length := wipe_length σ vs
theorem wipe_get {σ : St} : ∀ {vs : List Nat} {i : Nat}, i ∉ vs → (wipe σ vs)[i]? = σ[i]? := fun {vs i} h => wipe_out h
/-- a comprehension's own slots are forgotten -/
theorem SR.wipe : ∀ {vs : List Nat} {ρw : Ev}, SR K Rf G ρ F σ H → wipeE vs ρ = some ρw →
    SR K Rf G ρw F (L2.wipe σ vs) H ∧ (∀ i, i ∉ vs → ρw[i]? = ρ[i]?) ∧ (∀ i, i ∈ vs → ∃ t, ρ[i]? = some t ∧ (t = .un ∨ ∃ d, t = .dat d)) ∧ ρw.length = ρ.length
  | [], _, R, e => by
    simp only [wipeE, Option.some.injEq] at e
    subst e
    exact ⟨R, fun _ _ => rfl, fun _ h => by simp at h, rfl⟩
  | k :: vs, ρw, R, e => by
    simp only [wipeE, Option.bind_eq_some_iff] at e
    obtain ⟨ρ1, e1, e2⟩ := e
    obtain ⟨R1, g1, o1, l1⟩ := SR.wipe R e1
    have key : ∃ t, ρ1[k]? = some t ∧ (t = .un ∨ ∃ d, t = .dat d) ∧ ρw = ρ1.set k .un := by
      split at e2
      · rename_i h; cases e2; exact ⟨_, h, .inl rfl, rfl⟩
      · rename_i d h; cases e2; exact ⟨_, h, .inr ⟨d, rfl⟩, rfl⟩
      · cases e2
    obtain ⟨t, ht, ho, rfl⟩ := key
    have hk : k < ρ1.length := (List.getElem?_eq_some_iff.mp ht).1
    have gσ : ∀ i, i ≠ k → (L2.wipe σ (k :: vs))[i]? = (L2.wipe σ vs)[i]? := fun i hi => by
      show ((L2.wipe σ vs).set k none)[i]? = _
      rw [List.getElem?_set_ne (Ne.symm hi)]
    have mutc : ∀ i, MutI (ρ1.set k .un) i → i ≠ k ∧ MutI ρ1 i := fun i ⟨u, eu, mu⟩ => by
      rw [getSet hk] at eu
      split at eu
      · cases eu; cases mu
      · rename_i z; exact ⟨z, u, eu, mu⟩
    refine ⟨⟨by rw [List.length_set, l1, wipe_length]; exact R.len, R.fz, fun i u eu => ?_, fun i l b mi ml ei el => ?_, fun i b mi ei => ?_, R.gs, fun i b eb => ?_, R.gt⟩, fun i hi => ?_, fun i hi => ?_, by rw [List.length_set, l1]⟩
    · rw [getSet hk] at eu
      split at eu
      · cases eu; trivial
      · rename_i z; rw [gσ i z]; exact R1.sl i u eu
    · rw [gσ i (mutc i mi).1] at ei
      rw [gσ l (mutc l ml).1] at el
      exact R1.dis i l b (mutc i mi).2 (mutc l ml).2 ei el
    · rw [gσ i (mutc i mi).1] at ei
      exact R1.gm i b (mutc i mi).2 ei
    · obtain ⟨z1, u, z2, z3⟩ := R1.rf i b eb
      have hi : i ≠ k := fun z => by
        subst z
        rw [ht] at z2; cases z2
        rcases ho with rfl | ⟨d, rfl⟩ <;> cases z3
      exact ⟨by rw [gσ i hi]; exact z1, u, by rw [getSet hk, if_neg hi]; exact z2, z3⟩
    · simp only [List.mem_cons, not_or] at hi
      rw [getSet hk, if_neg hi.1]
      exact g1 i hi.2
    · by_cases hv : i ∈ vs
      · exact o1 i hv
      · have hik : i = k := by simpa [hv] using hi
        subst hik
        rw [g1 i hv] at ht
        exact ⟨t, ht, ho⟩
theorem backE_get {ρ₀ ρ : Ev} (hl : ρ.length = ρ₀.length) : ∀ {vs : List Nat}, (backE ρ₀ vs ρ).length = ρ.length ∧ ∀ i, (backE ρ₀ vs ρ)[i]? = if i ∈ vs then (if i < ρ.length then ρ₀[i]? else none) else ρ[i]?
  | [] => ⟨rfl, fun i => by simp [backE]⟩
  | k :: vs => by
    obtain ⟨l1, g1⟩ := backE_get hl (vs := vs)
    unfold backE
    split
    · rename_i s h
      have hk : k < ρ₀.length := (List.getElem?_eq_some_iff.mp h).1
      refine ⟨by rw [List.length_set, l1], fun i => ?_⟩
      rw [getSet (by rw [l1, hl]; exact hk)]
      by_cases hi : i = k
      · subst hi
        rw [if_pos rfl, if_pos (by simp), if_pos (by omega), h]
      · rw [if_neg hi, g1 i]
        simp only [List.mem_cons, hi, false_or]
    · rename_i h
      have hk : ρ₀.length ≤ k := List.getElem?_eq_none_iff.mp h
      refine ⟨l1, fun i => ?_⟩
      rw [g1 i]
      by_cases hi : i = k
      · subst hi
        have e1 : (i ∈ i :: vs) = True := by simp
        have h2 : ¬ i < ρ.length := by omega
        have h3 : ρ[i]? = none := List.getElem?_eq_none (by omega)
        simp only [e1, if_true, if_neg h2, h3]
        split <;> rfl
      · simp only [List.mem_cons, hi, false_or]
/-- .. and come back -/
theorem SR.unwipe {vs : List Nat} {G' : Hp} (R : SR K Rf G ρ F σ H) (e : wipeE vs ρ = some ρw) (R' : SR K Rf G' ρ' F' (L2.wipe σ vs) H') (s : Same F F') : SR K Rf G' (backE ρ vs ρ') F' σ H' := by
  obtain ⟨_, g1, o1, l1⟩ := R.wipe e
  have hl : ρ'.length = ρ.length := by rw [R'.len, wipe_length]; exact R.len.symm
  obtain ⟨l2, g2⟩ := backE_get (ρ₀ := ρ) hl (vs := vs)
  have hn : ∀ i, i ∉ vs → (backE ρ vs ρ')[i]? = ρ'[i]? := fun i hi => by rw [g2, if_neg hi]
  have hi' : ∀ i, i ∈ vs → ∃ t, (backE ρ vs ρ')[i]? = some t ∧ ρ[i]? = some t ∧ (t = .un ∨ ∃ d, t = .dat d) := fun i hi => by
    obtain ⟨t, ht, ho⟩ := o1 i hi
    refine ⟨t, ?_, ht, ho⟩
    rw [g2, if_pos hi, if_pos (by rw [hl]; exact (List.getElem?_eq_some_iff.mp ht).1)]
    exact ht
  have mutc : ∀ i, MutI (backE ρ vs ρ') i → i ∉ vs ∧ MutI ρ' i := fun i ⟨u, eu, mu⟩ => by
    by_cases hi : i ∈ vs
    · obtain ⟨t, ht, _, ho⟩ := hi' i hi
      rw [ht] at eu; cases eu
      rcases ho with rfl | ⟨d, rfl⟩ <;> cases mu
    · exact ⟨hi, u, by rw [← hn i hi]; exact eu, mu⟩
  refine ⟨by rw [l2, hl]; exact R.len, R'.fz, fun i t et => ?_, fun i l b mi ml ei el => ?_, fun i b mi ei => ?_, R'.gs, fun i b eb => ?_, R'.gt⟩
  · by_cases hi : i ∈ vs
    · obtain ⟨u, hu, ho, hh⟩ := hi' i hi
      rw [hu] at et; cases et
      have q := R.sl i _ ho
      rcases hh with rfl | ⟨d, rfl⟩
      · trivial
      · obtain ⟨x, ex, rx⟩ := q
        exact ⟨x, ex, rx.mono s⟩
    · rw [hn i hi] at et
      have q := R'.sl i t et
      rw [wipe_out hi] at q
      exact q
  · have h1 := mutc i mi
    have h2 := mutc l ml
    exact R'.dis i l b h1.2 h2.2 (by rw [wipe_out h1.1]; exact ei) (by rw [wipe_out h2.1]; exact el)
  · have h1 := mutc i mi
    exact R'.gm i b h1.2 (by rw [wipe_out h1.1]; exact ei)
  · obtain ⟨z1, u, z2, z3⟩ := R'.rf i b eb
    have hi : i ∉ vs := fun hi => by
      obtain ⟨y1, w, y2, y3⟩ := R.rf i b eb
      obtain ⟨t, _, ht, ho⟩ := hi' i hi
      rw [ht] at y2; cases y2
      rcases ho with rfl | ⟨d, rfl⟩ <;> cases y3
    exact ⟨by rw [wipe_out hi] at z1; exact z1, u, by rw [hn i hi]; exact z2, z3⟩
/-- the guarded list grows -/
theorem SR.regrow {o o' : HO} (R : SR K Rf (upd G p o) ρ F σ H) (no : ∀ xs, o' ≠ .tup xs) (hr : ∀ i, Rf i ≠ some p) : SR K Rf (upd G p o') ρ F σ (upd H p o') := by
  have g0 := R.gs p o upd_same
  have fzn : ∀ b x, F b = some x → b ≠ p := fun b x e z => by rw [z, g0.2] at e; cases e
  have mne : ∀ i b, MutI ρ i → σ[i]? = some (some (.ref b)) → b ≠ p := fun i b mi ei z => by
    have q := R.gm i b mi ei
    rw [z, upd_same] at q; cases q
  refine ⟨R.len, fun b x e => by rw [upd_ne (fzn b x e)]; exact R.fz b x e, fun i t et => ?_, R.dis, fun i b mi ei => ?_, fun b x e => ?_, R.rf, fun b xs e => by
    by_cases hb : b = p
    · subst hb; rw [upd_same] at e; exact no xs (Option.some.inj e)
    · rw [upd_ne hb] at e; exact R.gt b xs (by rw [upd_ne hb]; exact e)⟩
  · have q := R.sl i t et
    cases t with
    | un => trivial
    | dat d => exact q
    | own d =>
      obtain ⟨a, e, n, m⟩ := q
      exact ⟨a, e, n, m.mono (upd_ne (mne i a ⟨_, et, rfl⟩ e)) (Same.refl _)⟩
    | ref d =>
      obtain ⟨a, e, n, m, q⟩ := q
      exact ⟨a, e, n, m.mono (upd_ne (mne i a ⟨_, et, rfl⟩ e)) (Same.refl _), q⟩
    | lok b d =>
      obtain ⟨a, x, e, q, g, m⟩ := q
      have ha : a ≠ p := fun z => hr i (by rw [q, z])
      rw [upd_ne ha] at g
      exact ⟨a, x, e, q, by rw [upd_ne ha]; exact g, m.mono (upd_ne ha) (Same.refl _)⟩
  · have q := R.gm i b mi ei
    rw [upd_ne (mne i b mi ei)] at q ⊢
    exact q
  · by_cases hb : b = p
    · subst hb; rw [upd_same] at e ⊢; cases e; exact ⟨rfl, g0.2⟩
    · rw [upd_ne hb] at e ⊢
      exact R.gs b x (by rw [upd_ne hb]; exact e)
end

section
variable {X : Cx} {Φ : Fns} {bf : Nat → Option Nat} {tg it e : Expr} {xs : Xs} {t : Tg} {x c : Z.X} {g : List PyData → Option (List PyData)}
theorem redLc {K : PySem.W.Frag} {own : List Nat} {σ : St} {H : Hp} {Q : VK} (hsub : ∀ i ∈ t.ixs, i ∈ own) (h : tX K (ev Φ bf (.lc x t g xs c own)) σ H Q) :
    tLc (tI K (evs Φ bf xs) g) (tG K t) (tB1 K (truth (ev Φ bf c))) (tX K (ev Φ bf x)) own σ H Q := by
  obtain ⟨Rf, G, ρ, F, r, ρ', R, e, k⟩ := h
  simp only [ev, Option.bind_eq_some_iff] at e
  obtain ⟨⟨rs, ρ1⟩, e1, ds, e2, items, e3, ρw, ew, ⟨res, ρe⟩, el, ρ2, eu, e⟩ := e
  simp only [Option.some.injEq, Prod.mk.injEq] at e
  obtain ⟨rfl, rfl⟩ := e
  refine ⟨Rf, G, ρ, F, rs, ρ1, ds, items, R, e1, e2, e3, fun vs F1 H1 J R1 s1 os hJ hlen D hD => ?_⟩
  obtain ⟨Rf2, L, R2, kp, gl, un⟩ := SR.locks R1 os e2
  have hDL : ∀ p ∈ L, p.1 ≠ D := fun p hp z => by
    obtain ⟨_, x, hx⟩ := gl p hp
    rw [z, hD] at hx; cases hx
  have lD0 : Loose G ρ1 F1 σ D := R1.loose_new hD
  have hr0 : ∀ i, Rf i ≠ some D := fun i => lD0.rf R1
  have unD : ∀ {va ρ' F' H' ρ''}, SR K Rf2 (upd (updL G L) D (.lst va)) ρ' F' σ H' → unlockAll rs ρ1 ρ' = some ρ'' → SR K Rf (upd G D (.lst va)) ρ'' F' σ H' := fun {va ρ' F' H' ρ''} a b => by
    rw [← updL_comm hDL] at a
    exact un _ _ _ _ _ _ (fun p hp => by rw [upd_ne (hDL p hp)]; exact (gl p hp).1) a b
  generalize updL G L = G2 at R2 kp unD
  have lD : Loose G2 (lockAll rs ρ1) F1 σ D := R2.loose_new hD
  have hr : ∀ i, Rf2 i ≠ some D := fun i => lD.rf R2
  have R3 : SR K Rf2 G2 (lockAll rs ρ1) F1 σ (upd H1 D (.lst [])) := R2.laid hD
  have R4 : SR K Rf2 (upd G2 D (.lst [])) (lockAll rs ρ1) F1 σ (upd H1 D (.lst [])) := R3.guard upd_same (fun _ z => by cases z) lD
  obtain ⟨R5, _, _, _⟩ := R4.wipe ew
  refine ⟨fun i m H => m = items.length - i ∧ i ≤ items.length ∧ ∃ (ρi : Ev) (Fi : Hp) (acc : List PyData) (va : List V), SR K Rf2 (upd G2 D (.lst va)) ρi Fi (wipe σ own) H ∧ Same F1 Fi ∧ RpA K Fi va acc ∧ acc.length ≤ i ∧
      lcLoop own t (truth (ev Φ bf c)) (valof (ev Φ bf x)) (items.drop i) acc ρi = some (res, ρe), ⟨items.length, by simp, Nat.zero_le _, ρw, F1, [], [], R5, Same.refl _, .nil, Nat.le_refl _, by simpa using el⟩, ?_⟩
  rintro i m H ⟨rfl, hi, ρi, Fi, acc, va, Ri, si, ra, hal, ei⟩
  have kp' : Keeps K F1 (upd G2 D (.lst va)) vs ds := kp.gmono fun b y e => by rw [upd_ne (fun z => by rw [z, lD.2.1] at e; cases e)]; exact e
  have rq := kp'.rq Ri si
  obtain ⟨jstop, jgo⟩ := hJ Rf2 _ ρi Fi _ H Ri rq
  by_cases hlt : i < items.length
  · have hd : items.drop i = items[i] :: items.drop (i + 1) := List.drop_eq_getElem_cons hlt
    rw [hd] at ei
    simp only [lcLoop, Option.bind_eq_some_iff] at ei
    obtain ⟨ρa, ea, ⟨b, ρb⟩, eb, ei⟩ := ei
    obtain ⟨go, yl⟩ := jgo i items[i] (List.getElem?_eq_getElem hlt)
    refine .inr ⟨go, fun H' => ∃ (ρi : Ev) (Fi : Hp) (acc : List PyData) (va : List V), SR K Rf2 (upd G2 D (.lst va)) ρi Fi (wipe σ own) H' ∧ Same F1 Fi ∧ RpA K Fi va acc ∧ acc.length ≤ i + 1 ∧
      lcLoop own t (truth (ev Φ bf c)) (valof (ev Φ bf x)) (items.drop (i + 1)) acc ρi = some (res, ρe), fun H' q => ⟨items.length - (i + 1), by omega, rfl, hlt, q⟩, fun y H' hy => ?_⟩
    obtain ⟨Fa, Ra, sa, q⟩ := yl y H' hy
    refine ⟨Rf2, _, ρi, Fa, items[i], ρa, Ra, q, ea, fun σ2 l2 g2 Rb => ?_⟩
    have hw : wipe σ2 own = wipe σ own := by
      apply List.ext_getElem?
      intro j
      by_cases hj : j ∈ own
      · have key : ∀ (τ : St) (vs : List Nat), j ∈ vs → (wipe τ vs)[j]? = if j < τ.length then some none else none := by
          intro τ vs
          induction vs with
          | nil => intro h; simp at h
          | cons k r ih =>
            intro h
            show ((wipe τ r).set k none)[j]? = _
            by_cases hk : j = k
            · subst hk
              by_cases hl : j < τ.length
              · rw [List.getElem?_set_self (by rw [wipe_length]; exact hl), if_pos hl]
              · rw [List.getElem?_eq_none (by rw [List.length_set, wipe_length]; omega), if_neg hl]
            · rw [List.getElem?_set_ne (Ne.symm hk)]
              exact ih (by simpa [hk] using h)
        rw [key _ _ hj, key _ _ hj, l2, wipe_length]
      · rw [wipe_out hj, wipe_out hj, g2 j (fun z => hj (hsub j z)), wipe_out hj]
    refine ⟨hw, Rf2, _, ρa, Fa, b, ρb, Rb, eb, fun Fb H3 Rc sb => ?_⟩
    cases b with
    | false =>
      simp only [Bool.false_eq_true, if_false]
      simp only [Option.bind_eq_some_iff] at ei
      obtain ⟨ρz, ez, ei⟩ := ei
      obtain ⟨Rd, _, _, _⟩ := Rc.wipe ez
      rw [hw] at Rd
      exact ⟨ρz, Fb, acc, va, Rd, si.trans (sa.trans sb), ra.mono (sa.trans sb), by omega, ei⟩
    | true =>
      simp only [if_true]
      simp only [Option.bind_eq_some_iff] at ei
      obtain ⟨⟨dv, ρy⟩, ey, ρz, ez, ei⟩ := ei
      refine tX_val Rc ey fun y F4 H4 Rd sd qd => ?_
      have hD4 := (Rd.gs D _ upd_same).1
      have hlv : va.length = acc.length := ra.length
      refine ⟨va, hD4, by omega, ?_⟩
      obtain ⟨Re, _, _, _⟩ := Rd.wipe ez
      rw [hw] at Re
      have Rf' := Re.regrow (o' := .lst (va ++ [y])) (fun _ z => by cases z) hr
      exact ⟨ρz, F4, acc ++ [dv], va ++ [y], Rf', si.trans (sa.trans (sb.trans sd)), (ra.mono (sa.trans (sb.trans sd))).append (.cons qd .nil), by rw [List.length_append, List.length_singleton]; omega, ei⟩
  · have hi' : i = items.length := by omega
    rw [hi', List.drop_length] at ei
    simp only [lcLoop, Option.some.injEq, Prod.mk.injEq] at ei
    obtain ⟨rfl, rfl⟩ := ei
    refine .inl ⟨jstop i (by omega), ?_⟩
    have R6 := R4.unwipe ew Ri si
    obtain ⟨R8, l8, h8⟩ := (unD R6 eu).unguard lD0.2.1 hr0
    exact k (.ref D) Fi H R8 (s1.trans si) ⟨D, rfl, l8, va, h8, by rw [ra.length]; omega, ra⟩
end
end L2.Z

namespace L2.Z
open PySem PySem.Spec PyProof.Rows

section
variable {K : PySem.W.Frag}
theorem rr_val {G F H : Hp} {ρ : Ev} {σ : St} {v : V} {d : PyData} (h : Rp K F v d) : RR K G ρ F σ H v (mkR false d) := h
def pI2 (f : Int → Int → Int) : PyData → PyData → Option (Bool × PyData)
  | .int i, .int j => some (false, .int (f i j))
  | _, _ => none
theorem ok_I2 {f : Int → Int → Int} : Ok2 K (rI0 fun i j => .int (f i j)) (pI2 f) := by
  intro Rf G ρ F σ H v w d e n d' Q R q1 q2 h k
  cases d <;> cases e <;> simp only [pI2] at h <;> try cases h
  rename_i i j
  cases q1; cases q2
  exact ⟨i, j, rfl, rfl, k _ F H R (Same.refl _) (rr_val (.int _))⟩
def pIC (C : Int → Int → Prop) [∀ i j, Decidable (C i j)] (f : Int → Int → Int) : PyData → PyData → Option (Bool × PyData)
  | .int i, .int j => if C i j then some (false, .int (f i j)) else none
  | _, _ => none
theorem ok_IC {C : Int → Int → Prop} [∀ i j, Decidable (C i j)] {f : Int → Int → Int} : Ok2 K (rI C fun i j => .int (f i j)) (pIC C f) := by
  intro Rf G ρ F σ H v w d e n d' Q R q1 q2 h k
  cases d <;> cases e <;> simp only [pIC] at h <;> try cases h
  rename_i i j
  split at h
  · rename_i hc
    cases h
    cases q1; cases q2
    exact ⟨i, j, rfl, rfl, hc, k _ F H R (Same.refl _) (rr_val (.int _))⟩
  · cases h
abbrev pAddI := pI2 fun i j => i + j
abbrev pSubI := pI2 fun i j => i - j
def MulOk (i j : Int) : Prop := ((-(2 ^ 64) < i ∧ i < 2 ^ 64) ∨ (-(2 ^ 64) < j ∧ j < 2 ^ 64)) ∨ (i.natAbs < 2 ^ 8192 ∧ j.natAbs < 2 ^ 8192)
instance (i j : Int) : Decidable (MulOk i j) := by unfold MulOk; infer_instance
theorem MulOk.ok {i j : Int} (h : MulOk i j) : IntMulOk i j := by
  rcases h with h | ⟨h1, h2⟩
  · exact CMul.ok h
  · exact CMulW.ok (wide_mul h1 h2 (by decide) (by decide) (by decide))
theorem op_mulZ {X : Cx} : OpR X (binaryOp .Mult) (rI MulOk fun i j => .int (i * j)) := opI fun _ _ _ _ _ _ _ hc q => mul_int q hc.ok
instance (i j : Int) : Decidable (CDiv i j) := by unfold CDiv; infer_instance
instance (i j : Int) : Decidable (CPow i j) := by unfold CPow; infer_instance
abbrev pMulI := pIC MulOk fun i j => i * j
abbrev pDivI := pIC CDiv fun i j => i / j
abbrev pModI := pIC (fun _ j => 0 < j) fun i j => i % j
abbrev pPowI := pIC CPow fun i j => i ^ j.toNat
def pIB (f : Int → Int → Bool) : PyData → PyData → Option (Bool × PyData)
  | .int i, .int j => some (false, .bool (f i j))
  | _, _ => none
theorem ok_IB {f : Int → Int → Bool} : Ok2 K (rI0 fun i j => .bl (f i j)) (pIB f) := by
  intro Rf G ρ F σ H v w d e n d' Q R q1 q2 h k
  cases d <;> cases e <;> simp only [pIB] at h <;> try cases h
  rename_i i j
  cases q1; cases q2
  exact ⟨i, j, rfl, rfl, k _ F H R (Same.refl _) (rr_val (.bl _))⟩
abbrev pLt := pIB fun i j => decide (i < j)
abbrev pLe := pIB fun i j => decide (i ≤ j)
abbrev pGt := pIB fun i j => decide (j < i)
abbrev pGe := pIB fun i j => decide (j ≤ i)
def pI1 (f : Int → Int) : PyData → Option (Bool × PyData)
  | .int i => some (false, .int (f i))
  | _ => none
theorem ok_I1 {f : Int → Int} : Ok1 K (rU fun i => .int (f i)) (pI1 f) := by
  intro Rf G ρ F σ H v d n d' Q R q h k
  cases d <;> simp only [pI1] at h <;> try cases h
  rename_i i
  cases q
  exact ⟨i, rfl, k _ F H R (Same.refl _) (rr_val (.int _))⟩
abbrev pNeg := pI1 fun i => -i

def okEq (d e : PyData) : Bool := d.plain && e.plain && decide (min d.depth e.depth ≤ 60)
def pEq (d e : PyData) : Option (Bool × PyData) := if okEq d e = true then some (false, .bool (PyData.eqv d e)) else none
def pNe (d e : PyData) : Option (Bool × PyData) := if okEq d e = true then some (false, .bool (!PyData.eqv d e)) else none
def rEqZ (K : PySem.W.Frag) : R2 := fun x y H Q => ∃ d e, Dp K H x d ∧ Dp K H y e ∧ d.plain = true ∧ e.plain = true ∧ min d.depth e.depth ≤ 60 ∧ Q (.bl (PyData.eqv d e)) H
def rNeZ (K : PySem.W.Frag) : R2 := fun x y H Q => ∃ d e, Dp K H x d ∧ Dp K H y e ∧ d.plain = true ∧ e.plain = true ∧ min d.depth e.depth ≤ 60 ∧ Q (.bl (!PyData.eqv d e)) H
theorem op_eqZ {X : Cx} (hu : X.A.units + 64 < cLine) : OpR X (compareOp .Eq) (rEqZ X.K) := by
  intro pins s σ H x y v u Q I rx ry h
  obtain ⟨d, e, hd, he, sd, se, hm, q⟩ := h
  obtain ⟨as, r1⟩ := Dp.reads I d x v hd rx
  obtain ⟨bs, r2⟩ := Dp.reads I e y u he ry
  exact SeqAt.eq_plain r1 r2 sd se (by omega) ⟨.bl _, H, I, rfl, q⟩
theorem op_neZ {X : Cx} (hu : X.A.units + 64 < cLine) : OpR X (compareOp .NotEq) (rNeZ X.K) := by
  intro pins s σ H x y v u Q I rx ry h
  obtain ⟨d, e, hd, he, sd, se, hm, q⟩ := h
  obtain ⟨as, r1⟩ := Dp.reads I d x v hd rx
  obtain ⟨bs, r2⟩ := Dp.reads I e y u he ry
  exact SeqAt.ne_plain r1 r2 sd se (by omega) ⟨.bl _, H, I, rfl, q⟩
theorem okEq_iff {d e : PyData} : okEq d e = true ↔ d.plain = true ∧ e.plain = true ∧ min d.depth e.depth ≤ 60 := by
  unfold okEq
  rw [Bool.and_eq_true, Bool.and_eq_true, decide_eq_true_eq, and_assoc]
theorem ok_eq : Ok2 K (rEqZ K) pEq := by
  intro Rf G ρ F σ H v w d e n d' Q R q1 q2 h k
  unfold pEq at h
  split at h
  · rename_i hc
    obtain ⟨h1, h2, h3⟩ := okEq_iff.mp hc
    cases h
    exact ⟨d, e, (q1.rp R.fz).dp h1, (q2.rp R.fz).dp h2, h1, h2, h3, k _ F H R (Same.refl _) (rr_val (.bl _))⟩
  · cases h
theorem ok_ne : Ok2 K (rNeZ K) pNe := by
  intro Rf G ρ F σ H v w d e n d' Q R q1 q2 h k
  unfold pNe at h
  split at h
  · rename_i hc
    obtain ⟨h1, h2, h3⟩ := okEq_iff.mp hc
    cases h
    exact ⟨d, e, (q1.rp R.fz).dp h1, (q2.rp R.fz).dp h2, h1, h2, h3, k _ F H R (Same.refl _) (rr_val (.bl _))⟩
  · cases h
def isNone : PyData → Bool
  | .none => true
  | _ => false
def pIsN (d : PyData) : Option (Bool × PyData) := some (false, .bool (isNone d))
def pNotN (d : PyData) : Option (Bool × PyData) := some (false, .bool (!isNone d))
theorem isNone_rq {F H : Hp} {v : V} {d : PyData} (q : Rq K F H v d) : decide (v = .non) = isNone d := by
  cases d with
  | none => cases q; rfl
  | bool b => cases q; rfl
  | int i => cases q; rfl
  | str x => cases q; rfl
  | list ds => obtain ⟨a, xs, rfl, _⟩ := q; rfl
  | tuple ds => obtain ⟨a, xs, rfl, _⟩ := q; rfl
  | dict kvs => obtain ⟨a, rfl, _⟩ := q; rfl
theorem ok_isN : Ok1 K (fun x H Q => Q (.bl (decide (x = .non))) H) pIsN := by
  intro Rf G ρ F σ H v d n d' Q R q h k
  cases h
  have e := isNone_rq q
  show Q (.bl (decide (v = .non))) H
  rw [e]
  exact k _ F H R (Same.refl _) (rr_val (.bl _))
theorem ok_notN : Ok1 K (fun x H Q => Q (.bl (!decide (x = .non))) H) pNotN := by
  intro Rf G ρ F σ H v d n d' Q R q h k
  cases h
  have e := isNone_rq q
  show Q (.bl (!decide (v = .non))) H
  rw [e]
  exact k _ F H R (Same.refl _) (rr_val (.bl _))

def tyD : PyData → String
  | .none => "NoneType" | .bool _ => "bool" | .int _ => "int" | .str _ => "str" | .list _ => "list" | .tuple _ => "tuple" | .dict _ => "dict"
theorem rq_ty {F H : Hp} {v : V} {d : PyData} (s : Same F H) (q : Rq K F H v d) : TyX K H v (.type (tyD d)) := by
  cases d with
  | none => cases q; exact .base .non
  | bool b => cases q; exact .base (.bl b)
  | int i => cases q; exact .base (.int i)
  | str x => cases q; exact .base (.str x)
  | list ds =>
    obtain ⟨a, xs, rfl, h, _⟩ := q
    rcases h with (h | ⟨o, h⟩) | ⟨o, its, n, k1, k2, _⟩
    · exact .base (.lst h)
    · exact .base (.frz h)
    · exact .kList k1 k2
  | tuple ds => obtain ⟨a, xs, rfl, h, _⟩ := q; exact .base (.tup (s _ _ h))
  | dict kvs =>
    obtain ⟨a, rfl, m⟩ := q
    rcases m with ⟨ps, e, _⟩ | ⟨ps, e, _⟩
    · exact .base (.dK e)
    · exact .base (.dT e)
def pIsInt : PyData → Option (Bool × PyData)
  | .int _ | .bool _ => some (false, .bool true)
  | _ => some (false, .bool false)
def pIsBool : PyData → Option (Bool × PyData)
  | .bool _ => some (false, .bool true)
  | _ => some (false, .bool false)
def pIsStr : PyData → Option (Bool × PyData)
  | .str _ => some (false, .bool true)
  | _ => some (false, .bool false)
def pIsTup : PyData → Option (Bool × PyData)
  | .tuple _ => some (false, .bool true)
  | _ => some (false, .bool false)
def pIsList : PyData → Option (Bool × PyData)
  | .list _ => some (false, .bool true)
  | _ => some (false, .bool false)
def rIs1 (K : PySem.W.Frag) (T : String) : V → Hp → VK → Prop := fun x H Q => rIsi K [x, .ty T] H Q
theorem ok_is {T : String} {f : PyData → Option (Bool × PyData)} (hf : ∀ d, ∃ b, f d = some (false, .bool b) ∧ kitB (tyD d) T = some b) : Ok1 K (rIs1 K T) f := by
  intro Rf G ρ F σ H v d n d' Q R q h k
  obtain ⟨b, e1, e2⟩ := hf d
  rw [e1] at h
  cases h
  exact ⟨_, _, _, _, b, rfl, .ty T, rq_ty R.fz q, kit_ty e2, k _ F H R (Same.refl _) (rr_val (.bl _))⟩
theorem ok_isInt : Ok1 K (rIs1 K "int") pIsInt := ok_is fun d => by
  cases d
  · exact ⟨_, rfl, show kitB "NoneType" "int" = _ by decide +kernel⟩
  · exact ⟨_, rfl, show kitB "bool" "int" = _ by decide +kernel⟩
  · exact ⟨_, rfl, show kitB "int" "int" = _ by decide +kernel⟩
  · exact ⟨_, rfl, show kitB "str" "int" = _ by decide +kernel⟩
  · exact ⟨_, rfl, show kitB "list" "int" = _ by decide +kernel⟩
  · exact ⟨_, rfl, show kitB "tuple" "int" = _ by decide +kernel⟩
  · exact ⟨_, rfl, show kitB "dict" "int" = _ by decide +kernel⟩

theorem ok_isBool : Ok1 K (rIs1 K "bool") pIsBool := ok_is fun d => by
  cases d
  · exact ⟨_, rfl, show kitB "NoneType" "bool" = _ by decide +kernel⟩
  · exact ⟨_, rfl, show kitB "bool" "bool" = _ by decide +kernel⟩
  · exact ⟨_, rfl, show kitB "int" "bool" = _ by decide +kernel⟩
  · exact ⟨_, rfl, show kitB "str" "bool" = _ by decide +kernel⟩
  · exact ⟨_, rfl, show kitB "list" "bool" = _ by decide +kernel⟩
  · exact ⟨_, rfl, show kitB "tuple" "bool" = _ by decide +kernel⟩
  · exact ⟨_, rfl, show kitB "dict" "bool" = _ by decide +kernel⟩

theorem ok_isStr : Ok1 K (rIs1 K "str") pIsStr := ok_is fun d => by
  cases d
  · exact ⟨_, rfl, show kitB "NoneType" "str" = _ by decide +kernel⟩
  · exact ⟨_, rfl, show kitB "bool" "str" = _ by decide +kernel⟩
  · exact ⟨_, rfl, show kitB "int" "str" = _ by decide +kernel⟩
  · exact ⟨_, rfl, show kitB "str" "str" = _ by decide +kernel⟩
  · exact ⟨_, rfl, show kitB "list" "str" = _ by decide +kernel⟩
  · exact ⟨_, rfl, show kitB "tuple" "str" = _ by decide +kernel⟩
  · exact ⟨_, rfl, show kitB "dict" "str" = _ by decide +kernel⟩

theorem ok_isTup : Ok1 K (rIs1 K "tuple") pIsTup := ok_is fun d => by
  cases d
  · exact ⟨_, rfl, show kitB "NoneType" "tuple" = _ by decide +kernel⟩
  · exact ⟨_, rfl, show kitB "bool" "tuple" = _ by decide +kernel⟩
  · exact ⟨_, rfl, show kitB "int" "tuple" = _ by decide +kernel⟩
  · exact ⟨_, rfl, show kitB "str" "tuple" = _ by decide +kernel⟩
  · exact ⟨_, rfl, show kitB "list" "tuple" = _ by decide +kernel⟩
  · exact ⟨_, rfl, show kitB "tuple" "tuple" = _ by decide +kernel⟩
  · exact ⟨_, rfl, show kitB "dict" "tuple" = _ by decide +kernel⟩

theorem ok_isList : Ok1 K (rIs1 K "list") pIsList := ok_is fun d => by
  cases d
  · exact ⟨_, rfl, show kitB "NoneType" "list" = _ by decide +kernel⟩
  · exact ⟨_, rfl, show kitB "bool" "list" = _ by decide +kernel⟩
  · exact ⟨_, rfl, show kitB "int" "list" = _ by decide +kernel⟩
  · exact ⟨_, rfl, show kitB "str" "list" = _ by decide +kernel⟩
  · exact ⟨_, rfl, show kitB "list" "list" = _ by decide +kernel⟩
  · exact ⟨_, rfl, show kitB "tuple" "list" = _ by decide +kernel⟩
  · exact ⟨_, rfl, show kitB "dict" "list" = _ by decide +kernel⟩

end

section
variable {X : Cx} {Φ : Fns} {bf : Nat → Option Nat} {a : Expr} {x y : Z.X} {p p2 pos : Pos} {e : Expr}
/-- isinstance(e, T) -/
theorem ce_isi {T : String} {n : Str} {f : PyData → Option (Bool × PyData)} (ok : Ok1 X.K (rIs1 X.K T) f) (hv : bootBuiltins n = some (.type T)) (hn : n ≠ "__name__") (hdb : (n == ("__debug__" : Str)) = false) (hm : X.mg "isinstance" = none) (hm2 : X.mg n = none) (hg : Gl X "isinstance") (hg2 : Gl X n) (ha : CE X Φ bf a x)
    (he : starEach [a, .Name n p2] X.env = (false, eval a X.env) :: starEach [.Name n p2] X.env := by rfl) (hpl : (backTo pos (starEach [.Name n p2] X.env)).any (·.1) = false := by rfl) (he2 : starEach [.Name n p2] X.env = (false, eval (.Name n p2) X.env) :: starEach [] X.env := by rfl) :
    CE X Φ bf (.Call (.Name "isinstance" p) [a, .Name n p2] [] pos) (.op1 f x) := by
  refine ce1 ok (fun ta h => ?_) ha
  exact (pe_callB call_isi hg hm (by decide +kernel) (pa_cons h (pa_cons (pe_bltn (v := .ty T) hg2 hm2 hv rfl hn hdb) pa_nil he2) he) (by decide) (by decide) he hpl)
end
end L2.Z

namespace L2.Z
open PySem PySem.Spec PyProof.Rows

section
variable {K : PySem.W.Frag}
def pLen : PyData → Option (Bool × PyData)
  | .list ds => some (false, .int ds.length)
  | .tuple ds => some (false, .int ds.length)
  | _ => none
def r1 (r : List V → Hp → VK → Prop) : V → Hp → VK → Prop := fun x H Q => r [x] H Q
def r2 (r : List V → Hp → VK → Prop) : V → V → Hp → VK → Prop := fun x y H Q => r [x, y] H Q
abbrev rLen (K : PySem.W.Frag) : List V → Hp → VK → Prop := fun xs H Q => ∃ x n, xs = [x] ∧ LenV K x H n ∧ Q (.int n) H
theorem ok_len : Ok1 K (r1 (rLen K)) pLen := by
  intro Rf G ρ F σ H v d n d' Q R q h k
  cases d <;> simp only [pLen] at h <;> cases h
  · obtain ⟨a, xs, rfl, e, _, r⟩ := q
    refine ⟨_, xs.length, rfl, .inl ⟨xs, e, rfl⟩, ?_⟩
    rw [r.length]
    exact k _ F H R (Same.refl _) (rr_val (.int _))
  · obtain ⟨a, xs, rfl, e, _, r⟩ := q
    refine ⟨_, xs.length, rfl, .inr ⟨xs, SqT.of (R.fz _ _ e), rfl⟩, ?_⟩
    rw [r.length]
    exact k _ F H R (Same.refl _) (rr_val (.int _))
def pAbs := pI1 fun i => if i < 0 then -i else i
theorem ok_abs : Ok1 K (r1 fun xs H Q => ∃ i, xs = [.int i] ∧ Q (.int (if i < 0 then -i else i)) H) pAbs := by
  intro Rf G ρ F σ H v d n d' Q R q h k
  unfold pAbs at h
  cases d <;> simp only [pI1] at h <;> cases h
  cases q
  exact ⟨_, rfl, k _ F H R (Same.refl _) (rr_val (.int _))⟩
def pInt1 : PyData → Option (Bool × PyData)
  | .int i => some (false, .int i)
  | .bool b => some (false, .int (if b then 1 else 0))
  | _ => none
theorem ok_int1 : Ok1 K (r1 fun xs H Q => (∃ i, xs = [.int i] ∧ Q (.int i) H) ∨ ∃ k, xs = [.bl k] ∧ Q (.int (if k then 1 else 0)) H) pInt1 := by
  intro Rf G ρ F σ H v d n d' Q R q h k
  cases d <;> simp only [pInt1] at h <;> cases h
  · cases q; exact .inr ⟨_, rfl, k _ F H R (Same.refl _) (rr_val (.int _))⟩
  · cases q; exact .inl ⟨_, rfl, k _ F H R (Same.refl _) (rr_val (.int _))⟩
abbrev pMax2 := pI2 fun i j => if j > i then j else i
abbrev pMin2 := pI2 fun i j => if j < i then j else i
theorem ok_max2 : Ok2 K (r2 fun xs H Q => ∃ i j, xs = [.int i, .int j] ∧ Q (.int (if j > i then j else i)) H) pMax2 := by
  intro Rf G ρ F σ H v w d e n d' Q R q1 q2 h k
  cases d <;> cases e <;> simp only [pI2] at h <;> try cases h
  cases q1; cases q2
  exact ⟨_, _, rfl, k _ F H R (Same.refl _) (rr_val (.int _))⟩
theorem ok_min2 : Ok2 K (r2 fun xs H Q => ∃ i j, xs = [.int i, .int j] ∧ Q (.int (if j < i then j else i)) H) pMin2 := by
  intro Rf G ρ F σ H v w d e n d' Q R q1 q2 h k
  cases d <;> cases e <;> simp only [pI2] at h <;> try cases h
  cases q1; cases q2
  exact ⟨_, _, rfl, k _ F H R (Same.refl _) (rr_val (.int _))⟩
def boolsOf : List PyData → Option (List Bool)
  | [] => some []
  | .bool b :: r => (boolsOf r).bind fun bs => some (b :: bs)
  | _ => none
def intsOf : List PyData → Option (List Int)
  | [] => some []
  | .int b :: r => (intsOf r).bind fun bs => some (b :: bs)
  | _ => none
theorem rpa_bools {F : Hp} : ∀ {ds : List PyData} {xs : List V} {bs : List Bool}, RpA K F xs ds → boolsOf ds = some bs → xs = bs.map V.bl
  | [], _, _, r, e => by cases r; cases e; rfl
  | .bool b :: ds, _, _, r, e => by
    cases r with
    | cons a r =>
      simp only [boolsOf, Option.bind_eq_some_iff] at e
      obtain ⟨bs, e1, e⟩ := e
      cases e
      cases a
      rw [rpa_bools r e1]; rfl
theorem rpa_ints {F : Hp} : ∀ {ds : List PyData} {xs : List V} {bs : List Int}, RpA K F xs ds → intsOf ds = some bs → xs = bs.map V.int
  | [], _, _, r, e => by cases r; cases e; rfl
  | .int b :: ds, _, _, r, e => by
    cases r with
    | cons a r =>
      simp only [intsOf, Option.bind_eq_some_iff] at e
      obtain ⟨bs, e1, e⟩ := e
      cases e
      cases a
      rw [rpa_ints r e1]; rfl
def pAll : PyData → Option (Bool × PyData)
  | .list ds => (boolsOf ds).bind fun bs => some (false, .bool (bs.all id))
  | _ => none
def pAny : PyData → Option (Bool × PyData)
  | .list ds => (boolsOf ds).bind fun bs => some (false, .bool (bs.any id))
  | _ => none
theorem ok_all : Ok1 K (r1 (rAll K)) pAll := by
  intro Rf G ρ F σ H v d n d' Q R q h k
  cases d <;> simp only [pAll, Option.bind_eq_some_iff] at h <;> try cases h
  rename_i h
  obtain ⟨h1, h2⟩ := h
  cases h2
  obtain ⟨a, xs, rfl, e, _, r⟩ := q
  rw [rpa_bools r h1] at e
  exact ⟨a, _, rfl, e, k _ F H R (Same.refl _) (rr_val (.bl _))⟩
theorem ok_any : Ok1 K (r1 (rAny K)) pAny := by
  intro Rf G ρ F σ H v d n d' Q R q h k
  cases d <;> simp only [pAny, Option.bind_eq_some_iff] at h <;> try cases h
  rename_i h
  obtain ⟨h1, h2⟩ := h
  cases h2
  obtain ⟨a, xs, rfl, e, _, r⟩ := q
  rw [rpa_bools r h1] at e
  exact ⟨a, _, rfl, e, k _ F H R (Same.refl _) (rr_val (.bl _))⟩
def pSum : PyData → Option (Bool × PyData)
  | .list ds => (intsOf ds).bind fun bs => some (false, .int bs.sum)
  | _ => none
theorem ok_sum : Ok1 K (r1 (rSum K)) pSum := by
  intro Rf G ρ F σ H v d n d' Q R q h k
  cases d <;> simp only [pSum, Option.bind_eq_some_iff] at h <;> try cases h
  rename_i h
  obtain ⟨h1, h2⟩ := h
  cases h2
  obtain ⟨a, xs, rfl, e, _, r⟩ := q
  rw [rpa_ints r h1] at e
  exact ⟨a, _, rfl, e, k _ F H R (Same.refl _) (rr_val (.int _))⟩
def pIdx : PyData → PyData → Option (Bool × PyData)
  | .list ds, .int i => (atI ds i).bind fun d => some (false, d)
  | .tuple ds, .int i => (atI ds i).bind fun d => some (false, d)
  | .dict kvs, k => (dGetP kvs k).bind fun o => o.bind fun d => some (false, d)
  | _, _ => none
theorem rpa_at {F : Hp} {xs : List V} {ds : List PyData} {i : Int} {d : PyData} (r : RpA K F xs ds) (e : atI ds i = some d) : ∃ v, atI xs i = some v ∧ Rp K F v d := by
  unfold atI at e ⊢
  rw [r.length]
  cases h : ixN ds.length i with
  | none => rw [h] at e; cases e
  | some j => rw [h] at e; exact r.get e
theorem rq_keyV {F H : Hp} {y : V} {d : PyData} (q : Rq K F H y d) (h : isK d = true ∨ isT d = true) : KeyV F y d := by
  rcases h with h | h
  · obtain ⟨k, rfl⟩ := isK_some h
    exact .inl ⟨k, rfl, by cases k <;> exact q⟩
  · obtain ⟨ks, rfl⟩ := isT_some h
    obtain ⟨a, xs, rfl, e, _, r⟩ := q
    exact .inr ⟨ks, a, rfl, rfl, by rw [rpa_keys r] at e; exact e⟩
theorem dGetP_kinds {kvs : List (PyData × PyData)} {d : PyData} {o : Option PyData} (h : dGetP kvs d = some o) : isK d = true ∨ isT d = true := by
  unfold dGetP at h
  split at h
  · rename_i hk; exact keyOk_kinds hk
  · cases h
theorem dPutP_kinds {kvs kvs' : List (PyData × PyData)} {d e : PyData} (h : dPutP kvs d e = some kvs') : isK d = true ∨ isT d = true := by
  unfold dPutP at h
  split at h
  · rename_i hk; exact keyOk_kinds hk.1
  · cases h
theorem ok_idx : Ok2 K (fun x y H Q => (rIxL K x y H Q ∨ rIxT K x y H Q) ∨ rIxDZ x y H Q) pIdx := by
  intro Rf G ρ F σ H v w d e n d' Q R q1 q2 h k
  cases d with
  | list ds =>
    cases e <;> simp only [pIdx] at h <;> try cases h
    simp only [Option.bind_eq_some_iff] at h
    obtain ⟨z, h1, h2⟩ := h
    cases h2
    cases q2
    obtain ⟨a, xs, rfl, e, _, r⟩ := q1
    obtain ⟨u, hu, ru⟩ := rpa_at r h1
    exact .inl (.inl ⟨a, xs, _, u, rfl, rfl, e, hu, k _ F H R (Same.refl _) (rr_val ru)⟩)
  | tuple ds =>
    cases e <;> simp only [pIdx] at h <;> try cases h
    simp only [Option.bind_eq_some_iff] at h
    obtain ⟨z, h1, h2⟩ := h
    cases h2
    cases q2
    obtain ⟨a, xs, rfl, e, _, r⟩ := q1
    obtain ⟨u, hu, ru⟩ := rpa_at r h1
    exact .inl (.inr ⟨a, xs, _, u, rfl, rfl, SqT.of (R.fz _ _ e), hu, k _ F H R (Same.refl _) (rr_val ru)⟩)
  | dict kvs =>
    simp only [pIdx, Option.bind_eq_some_iff] at h
    obtain ⟨o, h1, z, h2, h3⟩ := h
    cases h3
    subst h2
    obtain ⟨a, rfl, m⟩ := q1
    obtain ⟨o, g, r⟩ := dget_ok R.fz m (rq_keyV q2 (dGetP_kinds h1)) h1
    cases o with
    | none => exact r.elim
    | some u => exact .inr ⟨a, u, rfl, g, k _ F H R (Same.refl _) (rr_val r)⟩
  | _ => simp only [pIdx] at h; cases h
end

section
variable {X : Cx} {Φ : Fns} {bf : Nat → Option Nat} {M : Nat} {a b e it tg : Expr} {es : List Expr} {x y c : Z.X} {p pos apos : Pos} {n : Str} {xs : Xs} {t : Tg} {g : List PyData → Option (List PyData)}
theorem ce_b1 {id : String} {r : List V → Hp → VK → Prop} {f : PyData → Option (Bool × PyData)} (ok : Ok1 X.K (r1 r) f) (hc : CallR X (.builtin id) r) (hv : bootBuiltins n = some (.builtin id)) (hn : n ≠ "__name__") (hdb : (n == ("__debug__" : Str)) = false) (hm : X.mg n = none) (hg : Gl X n) (ha : CE X Φ bf a x)
    (he : starEach [a] X.env = (false, eval a X.env) :: starEach [] X.env := by rfl) (hpl : (backTo pos (starEach [] X.env)).any (·.1) = false := by rfl) : CE X Φ bf (.Call (.Name n p) [a] [] pos) (.op1 f x) :=
  ce1 ok (fun ta h => pe_callB hc hg hm hv (pa_cons h pa_nil he) hn hdb he hpl) ha
theorem ce_ty1 {T : String} {r : List V → Hp → VK → Prop} {f : PyData → Option (Bool × PyData)} (ok : Ok1 X.K (r1 r) f) (hc : CallR X (.type T) r) (hv : bootBuiltins n = some (.type T)) (hn : n ≠ "__name__") (hdb : (n == ("__debug__" : Str)) = false) (hm : X.mg n = none) (hg : Gl X n) (ha : CE X Φ bf a x)
    (he : starEach [a] X.env = (false, eval a X.env) :: starEach [] X.env := by rfl) (hpl : (backTo pos (starEach [] X.env)).any (·.1) = false := by rfl) : CE X Φ bf (.Call (.Name n p) [a] [] pos) (.op1 f x) :=
  ce1 ok (fun ta h => pe_callTy hc hg hm hv (pa_cons h pa_nil he) hn hdb he hpl) ha
theorem ce_b2 {id : String} {r : List V → Hp → VK → Prop} {f : PyData → PyData → Option (Bool × PyData)} (ok : Ok2 X.K (r2 r) f) (hc : CallR X (.builtin id) r) (hv : bootBuiltins n = some (.builtin id)) (hn : n ≠ "__name__") (hdb : (n == ("__debug__" : Str)) = false) (hm : X.mg n = none) (hg : Gl X n) (ha : CE X Φ bf a x) (hb : CE X Φ bf b y)
    (he : starEach [a, b] X.env = (false, eval a X.env) :: starEach [b] X.env := by rfl) (he2 : starEach [b] X.env = (false, eval b X.env) :: starEach [] X.env := by rfl) (hpl : (backTo pos (starEach [b] X.env)).any (·.1) = false := by rfl) : CE X Φ bf (.Call (.Name n p) [a, b] [] pos) (.op2 f x y) :=
  ce2 ok (fun ta tb h h' => pe_callB hc hg hm hv (pa_cons h (pa_cons h' pa_nil he2) he) hn hdb he hpl) ha hb
theorem ce_idx (hu : X.A.units + 64 < cLine) (hs : PlainIx b) (ha : CE X Φ bf a x) (hb : CE X Φ bf b y) : CE X Φ bf (.Subscript a b pos) (.op2 pIdx x y) :=
  ce2 ok_idx (fun ta tb h h' => pe_ix (IxR.or (IxR.or ix_list ix_tup) (ix_dict hu)) h h' hs) ha hb
/-- a module's constant -/
theorem ce_glob {v : V} {u : Value} {d : PyData} (hm : X.mg n = some u) (r : RelV v u) (hd : ∀ F, Rp X.K F v d) (hg : Gl X n) (hdb : (n == ("__debug__" : Str)) = false) : CE X Φ bf (.Name n pos) (.k d) := ce_k (pe_glob hg hm r hdb) hd

theorem ce_lc {scope : Scope} {own : List (Str × Nat)} {ifs : List Expr} (hc : X.calm = true) (hN : X.N.Nodup) (hsub : ∀ i ∈ t.ixs, i ∈ own.map (·.2)) (hi : CI X Φ bf tg it g xs) (ok : blkC X.N X.env.scope scope own = true)
    (hg : ∀ (s : Shared) (H : Hp) (C : Addr) (cl : List (Str × Addr)) (fp : List Addr), CG (X.blk s H scope (compEnvC scope cl C X.env) fp) tg t)
    (ht : ∀ (s : Shared) (H : Hp) (C : Addr) (cl : List (Str × Addr)) (fp : List Addr), PTs (X.blk s H scope (compEnvC scope cl C X.env) fp) ifs (tB1 X.K (truth (ev Φ bf c))))
    (he : ∀ (s : Shared) (H : Hp) (C : Addr) (cl : List (Str × Addr)) (fp : List Addr), CE (X.blk s H scope (compEnvC scope cl C X.env) fp) Φ bf e x) (hs : ∀ x, foldedSetIterable it X.env x = pure x := by intro _; rfl) :
    CE X Φ bf (.ListComp e [⟨tg, it, ifs, 0⟩] scope pos) (.lc x t g xs c (own.map (·.2))) :=
  PE.imp (pe_lc hc hN hi (blkOk_by ok) hg ht he hs) fun σ H Q h => redLc hsub h
theorem pts0 : PTs X [] (tB1 X.K (truth (ev Φ bf (.k (.bool true))))) := by
  refine ⟨fun pins s σ H Q I h => pts_nil.run pins s σ H Q I ?_⟩
  obtain ⟨Rf, G, ρ, F, b, ρ', R, e, k⟩ := h
  simp only [truth, ev, Option.bind_eq_some_iff] at e
  obtain ⟨_, e1, e2⟩ := e
  simp only [Option.some.injEq] at e1
  subst e1
  simp only [Res.get, Option.some.injEq, Prod.mk.injEq] at e2
  obtain ⟨rfl, rfl⟩ := e2
  exact k F H R (Same.refl _)
theorem pts1 {cc : Expr} (h : CT X Φ bf cc c) : PTs X [cc] (tB1 X.K (truth (ev Φ bf c))) := pts_one h
theorem cs_setLc (i : Nat) {y : Str} {py : Pos} {scope : Scope} {own : List (Str × Nat)} {ifs : List Expr} {spos : Pos} (hc : X.calm = true) (hN : X.N.Nodup) (hsub : ∀ i ∈ t.ixs, i ∈ own.map (·.2)) (hy : X.N[i]? = some y) (hyl : X.env.scope.names.lookup y = some .local)
    (hk : X.env.scope.kind = .function) (hl : (py.line == pos.line) = true) (hany : (scope.names.any fun (n, k) => n == y && (k == .local || k == .cell)) = false)
    (hi : CI X Φ bf tg it g xs) (ok : blkC X.N X.env.scope scope own = true)
    (hg : ∀ (s : Shared) (H : Hp) (C : Addr) (cl : List (Str × Addr)) (fp : List Addr), CG (X.blk s H scope (compEnvC scope cl C X.env) fp) tg t)
    (ht : ∀ (s : Shared) (H : Hp) (C : Addr) (cl : List (Str × Addr)) (fp : List Addr), PTs (X.blk s H scope (compEnvC scope cl C X.env) fp) ifs (tB1 X.K (truth (ev Φ bf c))))
    (he : ∀ (s : Shared) (H : Hp) (C : Addr) (cl : List (Str × Addr)) (fp : List Addr), CE (X.blk s H scope (compEnvC scope cl C X.env) fp) Φ bf e x) (hs : ∀ x, foldedSetIterable it X.env x = pure x := by intro _; rfl) :
    CS X Φ bf M (.Assign [.Name y py] (.ListComp e [⟨tg, it, ifs, 0⟩] scope pos) spos) (.set i (.lc x t g xs c (own.map (·.2)))) :=
  cs_set_by (ps_setLc hc hN hy hyl (sw_true hk hyl hl hany) hi (blkOk_by ok) hg ht he hs) fun σ H Q h => redLc hsub h

theorem jok_list {K : PySem.W.Frag} {a : Addr} {ds : List PyData} : JOk K [.ref a] [.list ds] ds (Itl K a) := by
  intro Rf G ρ F σ H R rq
  cases rq with
  | cons q _ =>
    obtain ⟨a', ys, e, h, _, r⟩ := q
    cases e
    refine ⟨fun i hi => ⟨ys, h, by rw [r.length]; exact hi⟩, fun i d hd => ?_⟩
    obtain ⟨v, hv, rv⟩ := r.get hd
    refine ⟨⟨ys, v, h, hv⟩, fun z H' hz => ?_⟩
    obtain ⟨e1, e2⟩ := hz
    subst e1
    have e3 := e2 ys h
    rw [hv] at e3; cases e3
    exact ⟨F, R, Same.refl _, rv⟩
theorem jok_tup {K : PySem.W.Frag} {a : Addr} {ds : List PyData} : JOk K [.ref a] [.tuple ds] ds (Itt K a) := by
  intro Rf G ρ F σ H R rq
  cases rq with
  | cons q _ =>
    obtain ⟨a', ys, e, h, _, r⟩ := q
    cases e
    refine ⟨fun i hi => ⟨ys, SqT.of (R.fz _ _ h), by rw [r.length]; exact hi⟩, fun i d hd => ?_⟩
    obtain ⟨v, hv, rv⟩ := r.get hd
    refine ⟨⟨ys, v, SqT.of (R.fz _ _ h), hv⟩, fun z H' hz => ?_⟩
    obtain ⟨e1, e2⟩ := hz
    subst e1
    have e3 := e2 ys (SqT.of (R.fz _ _ h))
    rw [hv] at e3; cases e3
    exact ⟨F, R, Same.refl _, rv⟩
/-- a list or a tuple that is walked -/
def iSeq (K : PySem.W.Frag) (tl : TE) : TI := fun σ H R => tl σ H fun x H1 => (∃ a, x = .ref a ∧ (∃ xs, SqL K H1 a xs) ∧ R (Itl K a) H1) ∨ (∃ a, x = .ref a ∧ (∃ xs, SqT K H1 a xs) ∧ R (Itt K a) H1)
theorem pi_seq {l : Expr} {tl : TE} (hl : PE X l tl) : PI X tg l (iSeq X.K tl) := by
  refine ⟨fun pins s σ H R I h => ?_⟩
  refine thn (hl.run pins s σ H _ I h) fun v s1 ⟨x, H1, I1, r1, q1⟩ => ?_
  have nb : ∀ b ∈ [s1.heap.objs.size], FpOk X pins H1 b := fun b hb => by
    have e : b = s1.heap.objs.size := by simpa using hb
    subst e
    exact I1.fpOk (Nat.le_refl _) (I1.hok.fresh (Nat.le_refl _))
  rcases q1 with ⟨a, e, ⟨xs, hq⟩, q⟩ | ⟨a, e, ⟨xs, hq⟩, q⟩
  · subst e
    cases r1
    obtain ⟨its, rv, p, hz⟩ := I1.list hq
    exact wpAny_pyIter_list p.isList ⟨s1.heap.objs.size, [s1.heap.objs.size], _, _, H1, rfl, I1.kept (t' := s1.toks) (fun b o e => Heap.get?_push_of_some _ e), turn_list a _, ⟨_, Heap.get?_push_size _ rfl, rfl, rfl⟩, nb, q⟩
  · subst e
    cases r1
    obtain ⟨its, rv, p, hz⟩ := I1.tuple hq
    exact wpAny_pyIter_tuple (show s1.heap.IsTuple a its.toArray from p) ⟨s1.heap.objs.size, [s1.heap.objs.size], _, _, H1, rfl, I1.kept (t' := s1.toks) (fun b o e => Heap.get?_push_of_some _ e), turn_tuple a _, ⟨_, Heap.get?_push_size _ rfl, rfl, rfl⟩, nb, q⟩
theorem getAll1 {ρ : Ev} {r : Res} {ds : List PyData} (e : getAll ρ [r] = some ds) : ∃ d, r.get ρ = some d ∧ ds = [d] := by
  simp only [getAll, Option.bind_eq_some_iff] at e
  obtain ⟨d, e1, ds', e2, e3⟩ := e
  simp only [Option.some.injEq] at e2 e3
  subst e2 e3
  exact ⟨d, e1, rfl⟩
theorem evs1 {x : Z.X} {ρ ρ' : Ev} {rs : List Res} (e : evs Φ bf (.cons x .nil) ρ = some (rs, ρ')) : ∃ r, ev Φ bf x ρ = some (r, ρ') ∧ rs = [r] := by
  simp only [evs, Option.bind_eq_some_iff] at e
  obtain ⟨⟨r, ρ1⟩, e1, ⟨rs', ρ2⟩, e2, e⟩ := e
  simp only [Option.some.injEq, Prod.mk.injEq] at e2 e
  obtain ⟨rfl, rfl⟩ := e2
  obtain ⟨rfl, rfl⟩ := e
  exact ⟨r, e1, rfl⟩
theorem ci_seq (ha : CE X Φ bf it x) : CI X Φ bf tg it gSeq (.cons x .nil) := by
  refine PI.imp (pi_seq ha) fun σ H R' h => ?_
  obtain ⟨Rf, G, ρ, F, rs, ρ', ds, items, R, e1, e2, e3, k⟩ := h
  obtain ⟨r, e4, rfl⟩ := evs1 e1
  obtain ⟨d, e5, rfl⟩ := getAll1 e2
  refine tX_opd R e4 fun v F1 H1 R1 s1 o => ?_
  have q := R1.rq o e5
  cases d <;> simp only [gSeq] at e3 <;> try cases e3
  · obtain ⟨a, ys, rfl, h, z, ra⟩ := q
    exact .inl ⟨a, rfl, ⟨ys, h⟩, k [.ref a] F1 H1 _ R1 s1 (.cons o .nil) jok_list (by rw [← ra.length]; exact z)⟩
  · obtain ⟨a, ys, rfl, h, z, ra⟩ := q
    exact .inr ⟨a, rfl, ⟨ys, SqT.of (R1.fz _ _ h)⟩, k [.ref a] F1 H1 _ R1 s1 (.cons o .nil) jok_tup (by rw [← ra.length]; exact z)⟩
theorem jok_range {K : PySem.W.Frag} {vs : List V} {ds : List PyData} {lo : Int} {n : Nat} : JOk K vs ds ((List.range n).map fun i => .int (lo + (i : Nat))) (Itr lo n) := by
  intro Rf G ρ F σ H R rq
  refine ⟨fun i hi => (show n ≤ i by simpa using hi), fun i d hd => ?_⟩
  rw [List.getElem?_map] at hd
  cases h : (List.range n)[i]? with
  | none => rw [h] at hd; cases hd
  | some j =>
    rw [h] at hd
    have hi : i < n := by
      have := (List.getElem?_eq_some_iff.mp h).1
      simpa using this
    rw [List.getElem?_range hi] at h
    cases h
    cases hd
    refine ⟨hi, fun z H' hz => ?_⟩
    obtain ⟨e1, e2⟩ := hz
    subst e1 e2
    exact ⟨F, R, Same.refl _, .int _⟩
theorem ci_range1 (hg : Gl X "range") (hm : X.mg "range" = none) (ha : CE X Φ bf a x) (hs : starEach [a] X.env = [(false, eval a X.env)] := by rfl) (he : starEach [a] X.env = (false, eval a X.env) :: starEach [] X.env := by rfl) : CI X Φ bf tg (.Call (.Name "range" p) [a] [] pos) gRange1 (.cons x .nil) := by
  refine PI.imp (pi_range1 hg hm (pa_cons ha pa_nil he) hs) fun σ H R' h => ?_
  obtain ⟨Rf, G, ρ, F, rs, ρ', ds, items, R, e1, e2, e3, k⟩ := h
  obtain ⟨r, e4, rfl⟩ := evs1 e1
  obtain ⟨d, e5, rfl⟩ := getAll1 e2
  refine tX_opd R e4 fun v F1 H1 R1 s1 o => ?_
  have q := R1.rq o e5
  cases d <;> simp only [gRange1] at e3 <;> try cases e3
  rename_i n
  cases q
  split at e3
  · rename_i hn
    cases e3
    have hz : (sizeLine : Int) < 2 ^ 62 := by rw [sizeLine_eq]; decide
    obtain ⟨h0, hn⟩ := hn
    refine ⟨n, rfl, h0, by omega, ?_⟩
    have j := jok_range (K := X.K) (vs := [.int n]) (ds := [.int n]) (lo := 0) (n := n.toNat)
    have ej : ((List.range n.toNat).map fun i : Nat => PyData.int (0 + (i : Nat))) = (List.range n.toNat).map fun i : Nat => PyData.int (i : Nat) := by
      congr 1; funext i; rw [Int.zero_add]
    rw [ej] at j
    exact k [.int n] F1 H1 _ R1 s1 (.cons o .nil) j (by rw [List.length_map, List.length_range]; omega)
  · cases e3
theorem ci_range2 (hg : Gl X "range") (hm : X.mg "range" = none) (ha : CE X Φ bf a x) (hb : CE X Φ bf b y) (hs : starEach [a, b] X.env = [(false, eval a X.env), (false, eval b X.env)] := by rfl) (hs2 : starEach [b] X.env = [(false, eval b X.env)] := by rfl)
    (he : starEach [a, b] X.env = (false, eval a X.env) :: starEach [b] X.env := by rfl) (he2 : starEach [b] X.env = (false, eval b X.env) :: starEach [] X.env := by rfl) : CI X Φ bf tg (.Call (.Name "range" p) [a, b] [] pos) gRange2 (.cons x (.cons y .nil)) := by
  refine PI.imp (pi_range2 hg hm (pa_cons ha (pa_cons hb pa_nil he2) he) hs hs2) fun σ H R' h => ?_
  obtain ⟨Rf, G, ρ, F, rs, ρ', ds, items, R, e1, e2, e3, k⟩ := h
  simp only [evs, Option.bind_eq_some_iff] at e1
  obtain ⟨⟨ra, ρ1⟩, ea, ⟨rs1, ρ2⟩, ⟨⟨rb, ρ3⟩, eb, ⟨rs2, ρ4⟩, e4, e5⟩, e6⟩ := e1
  simp only [Option.some.injEq, Prod.mk.injEq] at e4 e5 e6
  obtain ⟨rfl, rfl⟩ := e4
  obtain ⟨rfl, rfl⟩ := e5
  obtain ⟨rfl, rfl⟩ := e6
  simp only [getAll, Option.bind_eq_some_iff] at e2
  obtain ⟨da, e7, ds1, ⟨db, e8, ds2, e9, e10⟩, e11⟩ := e2
  simp only [Option.some.injEq] at e9 e10 e11
  subst e9 e10 e11
  refine tX_opd R ea fun v F1 H1 R1 s1 o => ?_
  refine tX_opd R1 eb fun w F2 H2 R2 s2 o2 => ?_
  have q1 := R2.rq (o.mono s2) e7
  have q2 := R2.rq o2 e8
  cases da <;> cases db <;> simp only [gRange2] at e3 <;> try cases e3
  rename_i m n
  cases q1
  cases q2
  split at e3
  · rename_i hn
    cases e3
    exact ⟨m, n, rfl, ⟨hn.2.1.1, hn.2.1.2, hn.2.2.1, hn.2.2.2⟩, k [.int m, .int n] F2 H2 _ R2 (s1.trans s2) (.cons (o.mono s2) (.cons o2 .nil)) jok_range (by rw [List.length_map, List.length_range]; omega)⟩
  · cases e3

theorem lstAt_some {K : PySem.W.Frag} {Rf : Nat → Option Addr} {G F H : Hp} {ρ : Ev} {σ : St} {j : Nat} {ds : List PyData} (R : SR K Rf G ρ F σ H) (e : lstAt ρ j = some ds) : ∃ a, σ[j]? = some (some (.ref a)) ∧ ∃ vs, H a = some (.lst vs) ∧ vs.length ≤ sizeLine ∧ RpA K F vs ds := by
  simp only [lstAt, Option.bind_eq_some_iff] at e
  obtain ⟨c, e1, e2⟩ := e
  obtain ⟨a, ea, _, m, _⟩ := conOf_some R e1
  cases c <;> simp only at e2 <;> cases e2
  exact ⟨a, ea, m⟩

theorem cs_app (i : Nat) {nm : Str} {p1 p2 p3 p4 : Pos} (hN : X.N[i]? = some nm) (hv : Vis X.env.scope nm) (hd : (nm == ("__debug__" : Str)) = false) (hcd : (nm == ("__classdict__" : Str)) = false) (hb : CE X Φ bf e x)
    (hbase : attributeBase (.Name nm p1) "append" X.env (eval (.Name nm p1) X.env) = eval (.Name nm p1) X.env := by rfl)
    (hfew : ((backTo p3 (starEach [e] X.env)).all (fun x => !x.1) && (backToKw p3 (keywordEach [] X.env)).all (fun x => x.1.isSome) && decide ([e].length + ([] : List Keyword).length + (if ([] : List Keyword).isEmpty then 0 else 1) < 30)) = true := by rfl)
    (hline : (p2.endLine == p3.line) = true := by rfl) (hs : starEach [e] X.env = (false, eval e X.env) :: starEach [] X.env := by rfl) (hplain : (backTo p3 (starEach [] X.env)).any (·.1) = false := by rfl)
    (hsw : swapsWith (.Call (.Attribute (.Name nm p1) "append" p2) [e] [] p3) none p4.line X.env = pure false := by rfl) :
    CS X Φ bf M (.Expr (.Call (.Attribute (.Name nm p1) "append" p2) [e] [] p3) p4) (.app i x) := by
  refine PS.imp (ps_expr (pe_bm PySem.F.plainAttrs_list PySem.F.slot_list_append PySem.F.type_list_append mt_append (pe_var hN hv hd hcd) (pa_cons hb pa_nil hs) hbase hfew hline hs hplain) hsw) fun D σ H h => ?_
  obtain ⟨Rf, G, ρ, F, o, R, e, k⟩ := h
  simp only [evS, Option.bind_eq_some_iff] at e
  obtain ⟨ds0, e0, ⟨d, ρ1⟩, e1, c, e2, c', e3, ρ2, e4, e⟩ := e
  simp only [Option.some.injEq] at e
  subst e
  obtain ⟨a0, ea0, va0, ha0, _, ra0⟩ := lstAt_some R e0
  refine ⟨.ref a0, ea0, .inl ⟨rfl, va0, SqL.of ha0⟩, ?_⟩
  refine tX_val R e1 fun v F1 H1 R1 s1 q => ?_
  obtain ⟨a, ea, na, m, mj, _⟩ := conOf_some R1 e2
  rw [ea0] at ea; cases ea
  cases c with
  | list ds =>
    simp only [appD] at e3
    split at e3
    · rename_i hz
      cases e3
      obtain ⟨vs, hv1, hvz, rv⟩ := m
      refine ⟨a0, vs, v, rfl, rfl, hv1, by have := rv.length; simp only [List.length_singleton] at hz; omega, ?_⟩
      exact k σ F1 _ (R1.write e4 ea0 na mj ⟨vs ++ [v], upd_same, by rw [List.length_append, rv.length]; exact hz, rv.append (.cons q .nil)⟩) s1
    · cases e3
  | _ => cases e3
theorem cs_ext (i : Nat) {nm : Str} {p1 p2 p3 p4 : Pos} (hN : X.N[i]? = some nm) (hv : Vis X.env.scope nm) (hd : (nm == ("__debug__" : Str)) = false) (hcd : (nm == ("__classdict__" : Str)) = false) (hb : CE X Φ bf e x)
    (hbase : attributeBase (.Name nm p1) "extend" X.env (eval (.Name nm p1) X.env) = eval (.Name nm p1) X.env := by rfl)
    (hfew : ((backTo p3 (starEach [e] X.env)).all (fun x => !x.1) && (backToKw p3 (keywordEach [] X.env)).all (fun x => x.1.isSome) && decide ([e].length + ([] : List Keyword).length + (if ([] : List Keyword).isEmpty then 0 else 1) < 30)) = true := by rfl)
    (hline : (p2.endLine == p3.line) = true := by rfl) (hs : starEach [e] X.env = (false, eval e X.env) :: starEach [] X.env := by rfl) (hplain : (backTo p3 (starEach [] X.env)).any (·.1) = false := by rfl)
    (hsw : swapsWith (.Call (.Attribute (.Name nm p1) "extend" p2) [e] [] p3) none p4.line X.env = pure false := by rfl) :
    CS X Φ bf M (.Expr (.Call (.Attribute (.Name nm p1) "extend" p2) [e] [] p3) p4) (.ext i x) := by
  refine PS.imp (ps_expr (pe_bm PySem.F.plainAttrs_list PySem.F.slot_list_extend PySem.F.type_list_extend mt_extend (pe_var hN hv hd hcd) (pa_cons hb pa_nil hs) hbase hfew hline hs hplain) hsw) fun D σ H h => ?_
  obtain ⟨Rf, G, ρ, F, o, R, e, k⟩ := h
  simp only [evS, Option.bind_eq_some_iff] at e
  obtain ⟨ds0, e0, ⟨r, ρ1⟩, e1, es, e5, c, e2, c', e3, ρ2, e4, e⟩ := e
  simp only [Option.some.injEq] at e
  subst e
  obtain ⟨a0, ea0, va0, ha0, _, ra0⟩ := lstAt_some R e0
  refine ⟨.ref a0, ea0, .inl ⟨rfl, va0, SqL.of ha0⟩, ?_⟩
  refine ⟨Rf, G, ρ, F, r, ρ1, R, e1, fun v F1 H1 R1 s1 q => ?_⟩
  obtain ⟨a, ea, na, m, mj, _⟩ := conOf_some R1 e2
  rw [ea0] at ea; cases ea
  obtain ⟨b, zs, rfl, hb1, rz⟩ : ∃ b zs, v = .ref b ∧ H1 b = some (.lst zs) ∧ RpA X.K F1 zs es := by
    cases r with
    | val d => cases e5
    | new d =>
      obtain ⟨p, rfl, l, mm⟩ := q
      cases d <;> simp only [extSrc] at e5 <;> cases e5
      obtain ⟨zs, hz, _, rz⟩ := mm
      exact ⟨p, zs, rfl, hz, rz⟩
    | slot j =>
      obtain ⟨b, eb, zs, hz, _, rz⟩ := lstAt_some R1 e5
      rw [show σ[j]? = some (some v) from q] at eb
      cases eb
      exact ⟨b, zs, rfl, hz, rz⟩
  cases c with
  | list ds =>
    simp only [appD] at e3
    split at e3
    · rename_i hz
      cases e3
      obtain ⟨vs, hv1, hvz, rv⟩ := m
      refine ⟨a0, b, vs, zs, rfl, rfl, hv1, hb1, by rw [rv.length, rz.length]; exact hz, ?_⟩
      exact k σ F1 _ (R1.write e4 ea0 na mj ⟨vs ++ zs, upd_same, by rw [List.length_append, rv.length, rz.length]; exact hz, rv.append rz⟩) s1
    · cases e3
  | _ => cases e3
/-- v[k] = e, v a list -/
theorem cs_setL (hu : X.A.units + 64 < cLine) (i : Nat) {nm : Str} {p1 p2 p3 : Pos} {kx : Expr} (hN : X.N[i]? = some nm) (hv : Vis X.env.scope nm) (hd : (nm == ("__debug__" : Str)) = false) (hcd : (nm == ("__classdict__" : Str)) = false) (hk : CE X Φ bf kx y) (he : CE X Φ bf e x)
    (ha : ∀ v, assign (.Subscript (.Name nm p1) kx p2) X.env v = (do
      let ov ← holding [v] (eval (.Name nm p1) X.env)
      let iv ← holding [v, ov] (eval kx X.env)
      standAt p2
      holding [v, ov, iv] (setItem ov iv v)
      release [v, ov, iv] []) := by intro _; rfl)
    (hs : swapsWithSole [.Subscript (.Name nm p1) kx p2] e p3.line X.env = pure false := by rfl) (hw : swappedStores [.Subscript (.Name nm p1) kx p2] e X.env = pure none := by rfl)
    (h1 : (assignEach [.Subscript (.Name nm p1) kx p2] X.env).map (·.2) = [assign (.Subscript (.Name nm p1) kx p2) X.env] := by rfl) :
    CS X Φ bf M (.Assign [.Subscript (.Name nm p1) kx p2] e p3) (.setAt i y x) := by
  refine PS.imp (ps_asg he (pg_sub (pe_var hN hv hd hcd) hk (PSet.or set_list (set_dict hu)) ha) hs hw h1) fun D σ H h => ?_
  obtain ⟨Rf, G, ρ, F, o, R, e, k⟩ := h
  simp only [evS, Option.bind_eq_some_iff] at e
  obtain ⟨⟨d, ρ1⟩, e1, c0, e0, ⟨r, ρ2⟩, e2, dk, e3, c, e4, c', e5, ρ3, e6, e⟩ := e
  simp only [Option.some.injEq] at e
  subst e
  refine tX_val R e1 fun v F1 H1 R1 s1 q => ?_
  obtain ⟨a0, ea0, _⟩ := conOf_some R1 e0
  refine ⟨.ref a0, ea0, ?_⟩
  refine tX_opd R1 e2 fun w F2 H2 R2 s2 o2 => ?_
  obtain ⟨a, ea, na, m, mj, _⟩ := conOf_some R2 e4
  rw [ea0] at ea; cases ea
  have qk := R2.rq o2 e3
  cases c with
  | list ds =>
    cases dk <;> simp only [setD] at e5 <;> try cases e5
    simp only [Option.bind_eq_some_iff] at e5
    obtain ⟨j, e7, e8⟩ := e5
    simp only [Option.some.injEq] at e8
    subst e8
    cases qk
    obtain ⟨vs, hv1, hvz, rv⟩ := m
    refine .inl ⟨a0, vs, _, j, rfl, rfl, hv1, by rw [rv.length]; exact e7, ?_⟩
    exact k σ F2 _ (R2.write e6 ea0 na mj ⟨vs.set j v, upd_same, by rw [List.length_set]; exact hvz, RpA.set (q.mono s2) j rv⟩) (s1.trans s2)
  | dict kvs =>
    simp only [setD, Option.bind_eq_some_iff] at e5
    obtain ⟨kvs', e7, e8⟩ := e5
    simp only [Option.some.injEq] at e8
    subst e8
    obtain ⟨u, g, m'⟩ := dput_ok R2.fz na m (rq_keyV qk (dPutP_kinds e7)) (q.mono s2) e7
    exact .inr ⟨a0, _, rfl, g, k σ F2 _ (R2.write e6 ea0 na mj m') (s1.trans s2)⟩
  | _ => cases e5
end
end L2.Z

namespace L2.Z
open PySem PySem.Spec PyProof.Rows

section
variable {K : PySem.W.Frag} {Rf : Nat → Option Addr} {G F F' H H' : Hp} {ρ ρ' : Ev} {σ : St} {v : V} {d : PyData}
/-- values that wait to be stored; the containers among them are guarded -/
def Pend (K : PySem.W.Frag) (Rf : Nat → Option Addr) (ρ : Ev) (F : Hp) (σ : St) (H : Hp) : Hp → List V → List Slot → Prop
  | G, [], [] => SR K Rf G ρ F σ H
  | G, v :: vs, .dat d :: ss => Rp K F v d ∧ Pend K Rf ρ F σ H G vs ss
  | G, v :: vs, .own d :: ss => ∃ p o, v = .ref p ∧ G p = none ∧ (∀ i, Rf i ≠ some p) ∧ MutAt K F H p d ∧ Pend K Rf ρ F σ H (upd G p o) vs ss
  | _, _, _ => False
theorem Pend.gs : ∀ {vs : List V} {ss : List Slot} {G : Hp}, Pend K Rf ρ F σ H G vs ss → ∀ b o, G b = some o → H b = some o ∧ F b = none
  | [], [], G, R, b, o, e => SR.gs R b o e
  | v :: vs, .dat d :: ss, G, R, b, o, e => Pend.gs R.2 b o e
  | v :: vs, .own d :: ss, G, R, b, o, e => by
    obtain ⟨p, o', _, g, _, _, R'⟩ := R
    exact Pend.gs R' b o (by rw [upd_ne (fun z => by rw [z, g] at e; cases e)]; exact e)
theorem Pend.grow (s : Same H H') : ∀ {vs : List V} {ss : List Slot} {G : Hp}, Pend K Rf ρ F σ H G vs ss → Pend K Rf ρ F σ H' G vs ss
  | [], [], G, R => SR.grow R s
  | v :: vs, .dat d :: ss, G, R => ⟨R.1, Pend.grow s R.2⟩
  | v :: vs, .own d :: ss, G, R => by
    obtain ⟨p, o', e, g, hr, m, R'⟩ := R
    obtain ⟨o, eo⟩ := m.there
    exact ⟨p, o', e, g, hr, m.mono ((s p o eo).trans eo.symm) (Same.refl _), Pend.grow s R'⟩
theorem Pend.length : ∀ {vs : List V} {ss : List Slot} {G : Hp}, Pend K Rf ρ F σ H G vs ss → vs.length = ss.length
  | [], [], G, _ => rfl
  | v :: vs, .dat d :: ss, G, R => by simp [Pend.length R.2]
  | v :: vs, .own d :: ss, G, R => by obtain ⟨p, o', _, _, _, _, R'⟩ := R; simp [Pend.length R']
/-- the last one first -/
def setAll (σ : St) : List Nat → List V → St
  | i :: is, v :: vs => (setAll σ is vs).set i (some v)
  | _, _ => σ
theorem Pend.store : ∀ {vs : List V} {ss : List Slot} {is : List Nat} {G : Hp} {ρ' : Ev}, Pend K Rf ρ F σ H G vs ss → asgAll is ss ρ = some ρ' → SR K Rf G ρ' F (setAll σ is vs) H
  | [], [], [], G, _, R, e => by simp only [asgAll, Option.some.injEq] at e; subst e; exact R
  | v :: vs, .dat d :: ss, i :: is, G, _, R, e => by
    simp only [asgAll, Option.bind_eq_some_iff] at e
    obtain ⟨ρ1, e1, e2⟩ := e
    exact (Pend.store R.2 e1).asg e2 R.1
  | v :: vs, .own d :: ss, i :: is, G, _, R, e => by
    simp only [asgAll, Option.bind_eq_some_iff] at e
    obtain ⟨ρ1, e1, e2⟩ := e
    obtain ⟨p, o, rfl, g, hr, m, R'⟩ := R
    obtain ⟨R1, l, ho⟩ := (Pend.store R' e1).unguard g hr
    exact R1.asg e2 ⟨p, rfl, l, m⟩
  | [], [], i :: is, G, _, R, e => by simp only [asgAll] at e; cases e
  | v :: vs, .dat d :: ss, [], G, _, R, e => by simp only [asgAll] at e; cases e
  | v :: vs, .own d :: ss, [], G, _, R, e => by simp only [asgAll] at e; cases e
end
def tSl (K : PySem.W.Frag) (f : Ev → Option (List Slot × Ev)) : TA := fun σ H Q => ∃ Rf G ρ F ss ρ', SR K Rf G ρ F σ H ∧ f ρ = some (ss, ρ') ∧ ∀ vs F' H', Pend K Rf ρ' F' σ H' G vs ss → Same F F' → Q vs H'
abbrev CL (X : Cx) (Φ : Fns) (bf : Nat → Option Nat) (es : List Expr) (xs : Xs) : Prop := PA X es (tSl X.K (evst Φ bf xs))
section
variable {X : Cx} {Φ : Fns} {bf : Nat → Option Nat} {M : Nat} {a b e e1 e2 e3 e4 : Expr} {es : List Expr} {x y : Z.X} {xs : Xs} {pos pt pt2 px py pz : Pos} {n : Str} {kt k2 : Nat} {st : Stmt}
theorem cl_nil : CL X Φ bf [] .nil := by
  refine PA.imp pa_nil fun σ H Q h => ?_
  obtain ⟨Rf, G, ρ, F, r, ρ', R, e, k⟩ := h
  simp only [evst, Option.some.injEq, Prod.mk.injEq] at e
  obtain ⟨rfl, rfl⟩ := e
  exact k [] F H R (Same.refl _)
theorem cl_cons (ha : CE X Φ bf a x) (hr : CL X Φ bf es xs) (hs : starEach (a :: es) X.env = (false, eval a X.env) :: starEach es X.env := by rfl) : CL X Φ bf (a :: es) (.cons x xs) := by
  refine PA.imp (pa_cons ha hr hs) fun σ H Q h => ?_
  obtain ⟨Rf, G, ρ, F, r, ρ', R, e, k⟩ := h
  simp only [evst, Option.bind_eq_some_iff] at e
  obtain ⟨⟨r1, ρ1⟩, e1, ⟨s, ρ2⟩, e2, ⟨ss, ρ3⟩, e3, e⟩ := e
  simp only [Option.some.injEq, Prod.mk.injEq] at e
  obtain ⟨rfl, rfl⟩ := e
  refine ⟨Rf, G, ρ, F, r1, ρ1, R, e1, fun v F1 H1 R1 s1 q => ?_⟩
  obtain ⟨F2, R2, s2, so⟩ := R1.stored q e2
  cases s with
  | dat d => exact ⟨Rf, G, ρ2, F2, ss, ρ3, R2, e3, fun vs F3 H3 P s3 => k (v :: vs) F3 H3 ⟨Rp.mono s3 so, P⟩ (s1.trans (s2.trans s3))⟩
  | own d =>
    obtain ⟨p, rfl, l, m⟩ := so
    obtain ⟨o, eo⟩ := m.there
    refine ⟨Rf, upd G p o, ρ2, F2, ss, ρ3, R2.guard eo (m.noTup eo) l, e3, fun vs F3 H3 P s3 => ?_⟩
    have g3 := P.gs p o upd_same
    exact k (.ref p :: vs) F3 H3 ⟨p, o, rfl, l.2.1, fun i => l.rf R2, m.mono (g3.1.trans eo.symm) s3, P⟩ (s1.trans (s2.trans s3))
  | un => exact so.elim
  | ref d => exact so.elim
  | lok b d => exact so.elim
theorem redPar {K : PySem.W.Frag} {is : List Nat} {D : Ends} {σ : St} {H : Hp} (h : tS K (evS Φ bf M (.par is xs)) D σ H) : tSl K (evst Φ bf xs) σ H fun vs H1 => (∃ s : List Slot, s.length = vs.length ∧ s.length = is.length) ∧ D.nx (setAll σ is vs) H1 ∧ True := by
  obtain ⟨Rf, G, ρ, F, o, R, e, k⟩ := h
  simp only [evS, Option.bind_eq_some_iff] at e
  obtain ⟨⟨ss, ρ1⟩, e1, ρ2, e2, e⟩ := e
  simp only [Option.some.injEq] at e
  subst e
  have len : ∀ {is : List Nat} {ss : List Slot} {ρ ρ' : Ev}, asgAll is ss ρ = some ρ' → ss.length = is.length := by
    intro is
    induction is with
    | nil => intro ss ρ ρ' e; cases ss with
      | nil => rfl
      | cons _ _ => simp only [asgAll] at e; cases e
    | cons i is ih => intro ss ρ ρ' e; cases ss with
      | nil => simp only [asgAll] at e; cases e
      | cons s ss =>
        simp only [asgAll, Option.bind_eq_some_iff] at e
        obtain ⟨ρ1, e1, _⟩ := e
        simp [ih e1]
  exact ⟨Rf, G, ρ, F, ss, ρ1, R, e1, fun vs F1 H1 P s1 => ⟨⟨ss, P.length.symm, len e2⟩, k _ F1 H1 (P.store e2) s1, trivial⟩⟩
theorem cs_par2 {i j : Nat} {nx ny : Str} (hc : X.calm = true) (hN : X.N.Nodup) (hi : X.N[i]? = some nx) (hj : X.N[j]? = some ny) (hij : i ≠ j) (hx : X.env.scope.names.lookup nx = some .local) (hy : X.env.scope.names.lookup ny = some .local) (ha : CL X Φ bf [a, b] xs)
    (hw : swappedStores [.Tuple [.Name nx px, .Name ny py] kt pt] (.Tuple [a, b] k2 pt2) X.env = pure (some [nx, ny]))
    (hs : swapsWithSole [.Tuple [.Name nx px, .Name ny py] kt pt] (.Tuple [a, b] k2 pt2) pos.line X.env = pure false := by rfl) :
    CS X Φ bf M (.Assign [.Tuple [.Name nx px, .Name ny py] kt pt] (.Tuple [a, b] k2 pt2) pos) (.par [i, j] xs) := by
  refine PS.imp (ps_par hc hN hi hj hij hx hy ha hw hs) fun D σ H h => ?_
  obtain ⟨Rf, G, ρ, F, ss, ρ', R, e, k⟩ := redPar h
  refine ⟨Rf, G, ρ, F, ss, ρ', R, e, fun vs F' H' P s => ?_⟩
  obtain ⟨⟨s0, l1, l2⟩, q, _⟩ := k vs F' H' P s
  have l3 : vs.length = 2 := by rw [← l1, l2]; rfl
  match vs, l3, q with
  | [v, w], _, q =>
    refine ⟨v, w, rfl, ?_⟩
    have e0 : setAll σ [i, j] [v, w] = (σ.set i (some v)).set j (some w) := List.set_comm _ _ (Ne.symm hij)
    rw [← e0]
    exact q
theorem cs_par3 {i j l : Nat} {nx ny nz : Str} (hc : X.calm = true) (hN : X.N.Nodup) (hi : X.N[i]? = some nx) (hj : X.N[j]? = some ny) (hl : X.N[l]? = some nz) (hij : i ≠ j) (hil : i ≠ l) (hjl : j ≠ l)
    (hp : ∀ {ta : TA}, PA X [a, b, e] ta → PS X st (tPar3 i j l ta)) (ha : CL X Φ bf [a, b, e] xs) : CS X Φ bf M st (.par [i, j, l] xs) := by
  refine PS.imp (hp ha) fun D σ H h => ?_
  obtain ⟨Rf, G, ρ, F, ss, ρ', R, e, k⟩ := redPar h
  refine ⟨Rf, G, ρ, F, ss, ρ', R, e, fun vs F' H' P s => ?_⟩
  obtain ⟨⟨s0, l1, l2⟩, q, _⟩ := k vs F' H' P s
  have l3 : vs.length = 3 := by rw [← l1, l2]; rfl
  match vs, l3, q with
  | [u, v, w], _, q =>
    refine ⟨u, v, w, rfl, ?_⟩
    have e0 : setAll σ [i, j, l] [u, v, w] = ((σ.set i (some u)).set j (some v)).set l (some w) := by
      show ((σ.set l (some w)).set j (some v)).set i (some u) = _
      rw [List.set_comm (l := σ) _ _ (Ne.symm hjl), List.set_comm _ _ (Ne.symm hil), List.set_comm (l := σ) _ _ (Ne.symm hij)]
    rw [← e0]
    exact q
/-- by a tuple that is made and unpacked -/
theorem redParT {K : PySem.W.Frag} {is : List Nat} {D : Ends} {σ : St} {H : Hp} (hz : is.length ≤ sizeLine) (h : tS K (evS Φ bf M (.par is xs)) D σ H) : tSl K (evst Φ bf xs) σ H fun vs H1 => vs.length ≤ sizeLine ∧ ∀ p, H1 p = none → (vs.length = is.length ∧ D.nx (setAll σ is vs) (upd H1 p (.tup vs))) := by
  obtain ⟨Rf, G, ρ, F, o, R, e, k⟩ := h
  have len : ∀ {is : List Nat} {ss : List Slot} {ρ ρ' : Ev}, asgAll is ss ρ = some ρ' → ss.length = is.length := by
    intro is
    induction is with
    | nil => intro ss ρ ρ' e; cases ss with
      | nil => rfl
      | cons _ _ => simp only [asgAll] at e; cases e
    | cons i is ih => intro ss ρ ρ' e; cases ss with
      | nil => simp only [asgAll] at e; cases e
      | cons s ss =>
        simp only [asgAll, Option.bind_eq_some_iff] at e
        obtain ⟨ρ1, e1, _⟩ := e
        simp [ih e1]
  simp only [evS, Option.bind_eq_some_iff] at e
  obtain ⟨⟨ss, ρ1⟩, e1, ρ2, e2, e⟩ := e
  simp only [Option.some.injEq] at e
  subst e
  refine ⟨Rf, G, ρ, F, ss, ρ1, R, e1, fun vs F1 H1 P s1 => ?_⟩
  have l : vs.length = is.length := P.length.trans (len e2)
  refine ⟨by omega, fun p hp => ⟨l, ?_⟩⟩
  have P' : Pend K Rf ρ1 F1 σ (upd H1 p (.tup vs)) G vs ss := P.grow (upd_Same hp)
  exact k _ F1 _ (P'.store e2) s1
theorem cs_parT2 {i j : Nat} {t1 t2 : Expr} (hc : X.calm = true) (hij : i ≠ j) (h1 : PG X t1 (gName i)) (h2 : PG X t2 (gName j)) (ha : CL X Φ bf [a, b] xs)
    (hs : swapsWithSole [.Tuple [t1, t2] kt pt] (.Tuple [a, b] k2 pt2) pos.line X.env = pure false := by rfl) (hw : swappedStores [.Tuple [t1, t2] kt pt] (.Tuple [a, b] k2 pt2) X.env = pure none)
    (g1 : (assignEach [.Tuple [t1, t2] kt pt] X.env).map (·.2) = [assign (.Tuple [t1, t2] kt pt) X.env] := by rfl)
    (s1 : (assignEach [t1, t2] X.env).map (·.2) = assign t1 X.env :: (assignEach [t2] X.env).map (·.2) := by rfl) (s2 : (assignEach [t2] X.env).map (·.2) = assign t2 X.env :: (assignEach [] X.env).map (·.2) := by rfl)
    (hn : (assignEach [t1, t2] X.env).length = 2 := by rfl) (hst : (assignEach [t1, t2] X.env).findIdx? (·.1) = none := by rfl) :
    CS X Φ bf M (.Assign [.Tuple [t1, t2] kt pt] (.Tuple [a, b] k2 pt2) pos) (.par [i, j] xs) := by
  refine PS.imp (ps_asg (pe_tup ha) (pg_tup (n := 2) hc (pgs_cons h1 (pgs_cons h2 pgs_nil s2) s1) hn hst) hs hw g1) fun D σ H h => ?_
  obtain ⟨Rf, G, ρ, F, ss, ρ', R, e, k⟩ := redParT (by show 2 ≤ sizeLine; rw [sizeLine_eq]; decide) h
  refine ⟨Rf, G, ρ, F, ss, ρ', R, e, fun vs F' H' P s => ?_⟩
  obtain ⟨z, k'⟩ := k vs F' H' P s
  refine ⟨z, fun p hp => ?_⟩
  obtain ⟨l3, q⟩ := k' p hp
  match vs, l3, q with
  | [v, w], _, q =>
    refine ⟨p, [v, w], rfl, SqT.of upd_same, rfl, v, [w], rfl, w, [], rfl, rfl, ?_⟩
    have e0 : setAll σ [i, j] [v, w] = (σ.set i (some v)).set j (some w) := List.set_comm _ _ (Ne.symm hij)
    rw [← e0]
    exact q
theorem cs_parT3 {i j l : Nat} {t1 t2 t3 : Expr} (hc : X.calm = true) (hij : i ≠ j) (hil : i ≠ l) (hjl : j ≠ l) (h1 : PG X t1 (gName i)) (h2 : PG X t2 (gName j)) (h3 : PG X t3 (gName l)) (ha : CL X Φ bf [a, b, e] xs)
    (hs : swapsWithSole [.Tuple [t1, t2, t3] kt pt] (.Tuple [a, b, e] k2 pt2) pos.line X.env = pure false := by rfl) (hw : swappedStores [.Tuple [t1, t2, t3] kt pt] (.Tuple [a, b, e] k2 pt2) X.env = pure none)
    (g1 : (assignEach [.Tuple [t1, t2, t3] kt pt] X.env).map (·.2) = [assign (.Tuple [t1, t2, t3] kt pt) X.env] := by rfl)
    (s1 : (assignEach [t1, t2, t3] X.env).map (·.2) = assign t1 X.env :: (assignEach [t2, t3] X.env).map (·.2) := by rfl) (s2 : (assignEach [t2, t3] X.env).map (·.2) = assign t2 X.env :: (assignEach [t3] X.env).map (·.2) := by rfl) (s3 : (assignEach [t3] X.env).map (·.2) = assign t3 X.env :: (assignEach [] X.env).map (·.2) := by rfl)
    (hn : (assignEach [t1, t2, t3] X.env).length = 3 := by rfl) (hst : (assignEach [t1, t2, t3] X.env).findIdx? (·.1) = none := by rfl) :
    CS X Φ bf M (.Assign [.Tuple [t1, t2, t3] kt pt] (.Tuple [a, b, e] k2 pt2) pos) (.par [i, j, l] xs) := by
  refine PS.imp (ps_asg (pe_tup ha) (pg_tup (n := 3) hc (pgs_cons h1 (pgs_cons h2 (pgs_cons h3 pgs_nil s3) s2) s1) hn hst) hs hw g1) fun D σ H h => ?_
  obtain ⟨Rf, G, ρ, F, ss, ρ', R, e, k⟩ := redParT (by show 3 ≤ sizeLine; rw [sizeLine_eq]; decide) h
  refine ⟨Rf, G, ρ, F, ss, ρ', R, e, fun vs F' H' P s => ?_⟩
  obtain ⟨z, k'⟩ := k vs F' H' P s
  refine ⟨z, fun p hp => ?_⟩
  obtain ⟨l3, q⟩ := k' p hp
  match vs, l3, q with
  | [u, v, w], _, q =>
    refine ⟨p, [u, v, w], rfl, SqT.of upd_same, rfl, u, [v, w], rfl, v, [w], rfl, w, [], rfl, rfl, ?_⟩
    have e0 : setAll σ [i, j, l] [u, v, w] = ((σ.set i (some u)).set j (some v)).set l (some w) := by
      show ((σ.set l (some w)).set j (some v)).set i (some u) = _
      rw [List.set_comm (l := σ) _ _ (Ne.symm hjl), List.set_comm _ _ (Ne.symm hil), List.set_comm (l := σ) _ _ (Ne.symm hij)]
    rw [← e0]
    exact q
/-- name op= value, whole numbers -/
theorem cs_aug (i : Nat) {op : Operator} {f : PyData → PyData → Option (Bool × PyData)} {r : R2} (ok : Ok2 X.K r f) (ho : OpR X (inplaceOp op) r) (hN : X.N.Nodup) (hi : X.N[i]? = some n) (hx : Loc X.env.scope n) (he : CE X Φ bf e x)
    (hf : X.fn n = true ∨ X.env.scope.names.lookup n = some .local := by first | exact .inl rfl | exact .inr rfl | assumption) : CS X Φ bf M (.AugAssign (.Name n px) op e pos) (.aug i f x) := by
  refine PS.imp (ps_aug (ti := r) hN hi hx he ho hf) fun D σ H h => ?_
  obtain ⟨Rf, G, ρ, F, o, R, e, k⟩ := h
  simp only [evS] at e
  split at e
  · rename_i d hd
    simp only [Option.bind_eq_some_iff] at e
    obtain ⟨⟨r1, ρ1⟩, e1, d', e2, ⟨nn, dz⟩, e3, e⟩ := e
    cases nn with
    | true => cases e
    | false =>
      simp only [Option.bind_eq_some_iff] at e
      obtain ⟨ρ2, e4, e⟩ := e
      simp only [Option.some.injEq] at e
      subst e
      obtain ⟨v, ev0, rv⟩ := R.sl i _ hd
      refine ⟨v, ev0, tX_opd R e1 fun w F1 H1 R1 s1 o1 => ?_⟩
      refine ok _ _ _ _ _ _ _ _ _ _ _ _ _ R1 ((rv.mono s1).rq R1.fz) (R1.rq o1 e2) e3 fun v' F2 H2 R2 s2 q => ?_
      exact k _ F2 H2 (R2.asg e4 q) (s1.trans s2)
  · cases e
/-- v.pop() -/
theorem ce_pop (i : Nat) {nm : Str} {p1 p2 p3 : Pos} (hN : X.N[i]? = some nm) (hv : Vis X.env.scope nm) (hd : (nm == ("__debug__" : Str)) = false) (hcd : (nm == ("__classdict__" : Str)) = false)
    (hbase : attributeBase (.Name nm p1) "pop" X.env (eval (.Name nm p1) X.env) = eval (.Name nm p1) X.env := by rfl) (hline : (p2.endLine == p3.line) = true := by rfl) :
    CE X Φ bf (.Call (.Attribute (.Name nm p1) "pop" p2) [] [] p3) (.pop i) := by
  refine PE.imp (pe_bm0 PySem.F.plainAttrs_list PySem.F.slot_list_pop PySem.F.type_list_pop mt_pop (pe_var hN hv hd hcd) hbase hline) fun σ H Q h => ?_
  obtain ⟨Rf, G, ρ, F, r, ρ', R, e, k⟩ := h
  simp only [ev, Option.bind_eq_some_iff] at e
  obtain ⟨c, e1, e⟩ := e
  obtain ⟨a, ea, na, m, mj, _⟩ := conOf_some R e1
  cases c with
  | list ds =>
    simp only [Option.bind_eq_some_iff] at e
    obtain ⟨d, e2, ρ1, e3, e⟩ := e
    simp only [Option.some.injEq, Prod.mk.injEq] at e
    obtain ⟨rfl, rfl⟩ := e
    obtain ⟨vs, hv1, hz, rv⟩ := m
    obtain ⟨v, hv2, rd⟩ := rv.get e2
    refine ⟨.ref a, ea, .inl ⟨rfl, vs, SqL.of hv1⟩, a, vs, v, rfl, rfl, hv1, by rw [rv.length]; exact hv2, ?_⟩
    have W := R.write e3 ea na mj (o := .lst vs.dropLast) ⟨vs.dropLast, upd_same, by rw [List.length_dropLast]; exact Nat.le_trans (Nat.sub_le _ _) hz, by
      rw [List.dropLast_eq_take, List.dropLast_eq_take, rv.length]; exact rv.take _⟩
    exact k v F _ W (Same.refl _) rd
  | _ => cases e

def outOf (d : PyData) (ρ : Ev) : Option Nat → Option (PyData × PyData)
  | none => some (d, .none)
  | some k => match ρ[k]? with
    | some (.ref c) => some (d, c)
    | _ => none
def conArg (ds : List PyData) : Option Nat → PyData
  | none => .none
  | some k => ds.getD k .none
/-- what a body is worth: N slots, one parameter perhaps by reference -/
def callBody (Φ : Fns) (bf : Nat → Option Nat) (M : Nat) (b : Ss) (np ns : Nat) (k : Option Nat) (ds : List PyData) : Option (PyData × PyData) :=
  if ds.length = np then
    match evSs Φ bf M b (slotsOf ds (conArg ds k) k ++ List.replicate (ns - np) .un) with
    | some (.rt d ρ) => outOf d ρ k
    | some (.nx ρ) => outOf .none ρ k
    | _ => none
  else none
theorem SR.more {K : PySem.W.Frag} {Rf : Nat → Option Addr} {G F H : Hp} {ρ : Ev} {σ : St} (R : SR K Rf G ρ F σ H) (n : Nat) : SR K Rf G (ρ ++ List.replicate n .un) F (σ ++ List.replicate n none) H := by
  have nl : ∀ i s, (ρ ++ List.replicate n Slot.un)[i]? = some s → (i < ρ.length ∧ ρ[i]? = some s) ∨ s = .un := fun i s e => by
    by_cases h : i < ρ.length
    · rw [List.getElem?_append_left h] at e; exact .inl ⟨h, e⟩
    · rw [List.getElem?_append_right (by omega), List.getElem?_replicate] at e
      split at e
      · cases e; exact .inr rfl
      · cases e
  have sl : ∀ i, i < ρ.length → (σ ++ List.replicate n none)[i]? = σ[i]? := fun i h => List.getElem?_append_left (by rw [← R.len]; exact h)
  have mu : ∀ i, MutI (ρ ++ List.replicate n .un) i → i < ρ.length ∧ MutI ρ i := fun i ⟨s, e, m⟩ => by
    rcases nl i s e with ⟨h, e'⟩ | rfl
    · exact ⟨h, s, e', m⟩
    · cases m
  refine ⟨by rw [List.length_append, List.length_append, R.len, List.length_replicate, List.length_replicate], R.fz, fun i s e => ?_, fun i j a mi mj ei ej => ?_, fun i a mi ei => ?_, R.gs, fun i a e => ?_, R.gt⟩
  · rcases nl i s e with ⟨h, e'⟩ | rfl
    · rw [sl i h]; exact R.sl i s e'
    · trivial
  · rw [sl i (mu i mi).1] at ei
    rw [sl j (mu j mj).1] at ej
    exact R.dis i j a (mu i mi).2 (mu j mj).2 ei ej
  · rw [sl i (mu i mi).1] at ei
    exact R.gm i a (mu i mi).2 ei
  · obtain ⟨z1, s, z2, z3⟩ := R.rf i a e
    have h : i < ρ.length := (List.getElem?_eq_some_iff.mp z2).1
    exact ⟨by rw [sl i h]; exact z1, s, by rw [List.getElem?_append_left h]; exact z2, z3⟩
/-- at a def's end, from its slots back to its arguments -/
theorem SR.leave {K : PySem.W.Frag} {k : Option Nat} {vs : List V} {G F F' H H' : Hp} {ds : List PyData} {c d c' : PyData} {ρ : Ev} {σ : St} (R : SR K (rfOf k vs) G (slotsOf ds c k) F (vs.map some) H) (R' : SR K (rfOf k vs) G ρ F' σ H') (s : Same F F') (e : outOf d ρ k = some (d, c')) :
    SR K (rfOf k vs) G (slotsOf ds c' k) F' (vs.map some) H' := by
  have hl : vs.length = ds.length := by have := R.len; rw [slotsOf_length, List.length_map] at this; exact this.symm
  have key : ∀ i, k = some i → ∃ a, vs[i]? = some (.ref a) ∧ F' a = none ∧ MutAt K F' H' a c' ∧ G a = none := fun i hk => by
    subst hk
    simp only [outOf] at e
    split at e
    · rename_i c2 hc
      cases e
      obtain ⟨a, ea, na, m, q⟩ := R'.sl i _ hc
      unfold rfOf at q
      rw [if_pos rfl] at q
      split at q
      · rename_i b hb
        cases q
        exact ⟨a, hb, na, m, R'.gm i a ⟨_, hc, rfl⟩ ea⟩
      · cases q
    · cases e
  have mk : ∀ i, MutI (slotsOf ds c' k) i → k = some i := fun i ⟨t, et, mt⟩ => by
    rcases slotsOf_get et with ⟨z, _⟩ | ⟨_, d, _, rfl⟩
    · exact z
    · cases mt
  refine ⟨by rw [slotsOf_length, List.length_map, hl], R'.fz, fun i t et => ?_, fun i j a mi mj _ _ => by have h1 := mk i mi; have h2 := mk j mj; rw [h1] at h2; exact Option.some.inj h2, fun i a mi ei => ?_, R'.gs, fun i a ea => ?_, R'.gt⟩
  · rcases slotsOf_get et with ⟨z, rfl, _⟩ | ⟨hk, d, ed, rfl⟩
    · obtain ⟨a, ha, na, m, _⟩ := key i z
      exact ⟨a, by rw [List.getElem?_map, ha]; rfl, na, m, by unfold rfOf; rw [if_pos z, ha]⟩
    · have h0 : (slotsOf ds c k)[i]? = some (.dat d) := by
        cases k with
        | none => unfold slotsOf; rw [List.getElem?_map, ed]; rfl
        | some k => unfold slotsOf; rw [List.getElem?_set_ne (fun z => hk (by rw [z])), List.getElem?_map, ed]; rfl
      obtain ⟨x, ex, rx⟩ := R.sl i _ h0
      exact ⟨x, ex, rx.mono s⟩
  · obtain ⟨b, hb, _, _, g⟩ := key i (mk i mi)
    rw [List.getElem?_map, hb] at ei
    cases ei
    exact g
  · unfold rfOf at ea
    split at ea
    · rename_i hk
      obtain ⟨b, hb, _⟩ := key i hk
      rw [hb] at ea
      cases ea
      subst hk
      have hi : i < ds.length := by rw [← hl]; exact (List.getElem?_eq_some_iff.mp hb).1
      refine ⟨by rw [List.getElem?_map, hb]; rfl, .ref c', ?_, rfl⟩
      unfold slotsOf
      rw [List.getElem?_set_self (by rw [List.length_map]; exact hi)]
    · cases ea
theorem outOf_fst {d : PyData} {ρ : Ev} {k : Option Nat} {r : PyData × PyData} (e : outOf d ρ k = some r) : r.1 = d ∧ outOf d ρ k = some (d, r.2) := by
  cases k with
  | none => simp only [outOf, Option.some.injEq] at e; subst e; exact ⟨rfl, rfl⟩
  | some k =>
    simp only [outOf] at e ⊢
    split at e
    · rename_i c h; cases e; exact ⟨rfl, rfl⟩
    · cases e
/-- THE RULE for a def -/
theorem fn_ok {P : Program} {w : World} {K : PySem.W.Frag} {mg : Str → Option Value} {base : Heap} {nm qual : Str} {st : Stmt} {f : Addr} {fd : FuncData} {N ps : List Str} {lv : Nat} {k : Option Nat} {body : Ss} {φ : List PyData → Option (PyData × PyData)}
    (F : Fun K nm qual st f fd) (S : FnScope N ps (defScope st))
    (hb : ∀ (cdv : Value) (A : Around) (outer : List Env) (s : Shared) (H : Hp) (E : XK), Room lv (A.deeper (envOfC qual (defScope st) s.heap.objs.size f cdv)) →
      CSs (cxOf CX0 P w K mg base N qual (defScope st) f cdv A outer s H E).nox Φ bf M (defBody st) body)
    (hφ : ∀ ds r, φ ds = some r → callBody Φ bf M body ps.length N.length k ds = some r) : FnOk P w K mg base CX0 (lv + 1) f fd ps (spF K k ps.length φ) := by
  refine F.ok S (fun vs H Q E h => h.1) (fun cdv A outer s H vs Q E hr h => ⟨_, hb cdv A outer s H E hr, ?_⟩)
  obtain ⟨hl, G, F0, ds, c, d, c', R, hk, e, kk⟩ := h
  have e := hφ _ _ e
  unfold callBody at e
  split at e
  · rename_i hdl
    have hc : slotsOf ds (conArg ds k) k = slotsOf ds c k := by
      cases k with
      | none => rfl
      | some k => simp only [slotsOf, conArg]; rw [List.getD_eq_getElem?_getD, hk k rfl]; rfl
    rw [hc] at e
    have R1 := R.more (N.length - vs.length)
    rw [hl] at R1
    have st0 : start N vs = vs.map some ++ List.replicate (N.length - ps.length) none := by unfold start; rw [hl]
    show tS K (evSs Φ bf M body) { nx := fun _ H' => Q .non H', rt := Q } (start N vs) H
    rw [st0]
    split at e
    · rename_i dv ρ he
      obtain ⟨h1, h2⟩ := outOf_fst e
      simp only at h1; subst h1
      exact ⟨_, G, _, F0, _, R1, he, fun v σ' F' H' R' s' q => kk v F' H' (R.leave R' s' h2) s' q⟩
    · rename_i ρ he
      obtain ⟨h1, h2⟩ := outOf_fst e
      simp only at h1; subst h1
      exact ⟨_, G, _, F0, _, R1, he, fun σ' F' H' R' s' => kk .non F' H' (R.leave R' s' h2) s' .non⟩
    · cases e
  · cases e
end
end L2.Z

namespace L2.Z
open PySem PySem.Spec PyProof.Rows

theorem lenZ {xs : Xs} (h : Nat.ble xs.len 1000 = true) : xs.len ≤ sizeLine := Nat.le_trans (Nat.le_of_ble_eq_true h) (by decide)
theorem blkX {N : List Str} {sc scope : Scope} {own : List (Str × Nat)} (h : blkC N sc scope own = true) : blkC N sc scope own = true := h
section
variable {X : Cx} {Φ : Fns} {bf : Nat → Option Nat} {M : Nat} {a b : Expr} {x y : L2.Z.X} {pos : Pos}
theorem ce_isN {j : Nat} {pos' : Pos} (ha : CE X Φ bf a x) : CE X Φ bf (.Compare a [.Is] [.Constant .none j pos'] pos) (.op1 pIsN x) :=
  ce1 ok_isN (fun ta h => pe_cmp (t := tIsN ta) (pc_isN h) rfl) ha
theorem ce_notN {j : Nat} {pos' : Pos} (ha : CE X Φ bf a x) : CE X Φ bf (.Compare a [.IsNot] [.Constant .none j pos'] pos) (.op1 pNotN x) :=
  ce1 ok_notN (fun ta h => pe_cmp (t := tNotN ta) (pc_notN h) rfl) ha
theorem ct_isN {j : Nat} {pos' : Pos} (ha : CE X Φ bf a x) : CT X Φ bf (.Compare a [.Is] [.Constant .none j pos'] pos) (.op1 pIsN x) :=
  PT.imp (pt_cmp (t := tIsN _) (pc_isN ha) rfl) fun σ H Q q => red1 ok_isN (redT q)
theorem ct_notN {j : Nat} {pos' : Pos} (ha : CE X Φ bf a x) : CT X Φ bf (.Compare a [.IsNot] [.Constant .none j pos'] pos) (.op1 pNotN x) :=
  PT.imp (pt_cmp (t := tNotN _) (pc_notN ha) rfl) fun σ H Q q => red1 ok_notN (redT q)
theorem iop_mulZ : OpR X (inplaceOp .Mult) (rI MulOk fun i j => .int (i * j)) := opI fun _ _ _ _ _ _ _ hc q => imul_int q hc.ok
theorem fn_zero {P : Program} {w : World} {K : PySem.W.Frag} {mg : Str → Option Value} {base : Heap} {lv : Nat} {f : Addr} {fd : FuncData} {ps : List Str} {k : Option Nat} :
    FnOk P w K mg base CX0 lv f fd ps (spF K k ps.length fun _ => none) :=
  ⟨fun vs H Q E h => h.1, fun _ _ _ _ _ _ _ _ _ _ _ _ _ h => by obtain ⟨_, _, _, _, _, _, _, _, _, e, _⟩ := h; cases e⟩
theorem callBody_len {b : Ss} {np ns : Nat} {k : Option Nat} {ds : List PyData} {r : PyData × PyData} (h : callBody Φ bf M b np ns k ds = some r) : ds.length = np := by
  unfold callBody at h
  split at h
  · assumption
  · cases h
end
/-- the law's promise -/
def spLaw (K : PySem.W.Frag) : Sp := fun vs H Q _ => ∃ (a : Addr) (ns : List Int), vs = [.ref a] ∧ SqL K H a (ns.map V.int) ∧ ns.length ≤ 63 ∧ ∀ H', Q (.bl true) H'
theorem rpa_mapInt {K : PySem.W.Frag} {F : Hp} : ∀ ns : List Int, RpA K F (ns.map V.int) (ns.map PyData.int)
  | [] => .nil
  | i :: r => .cons (.int i) (rpa_mapInt r)
theorem law_ok {P : Program} {w : World} {K : PySem.W.Frag} {mg : Str → Option Value} {base : Heap} {lv : Nat} {f : Addr} {fd : FuncData} {x : Str} {φ : List PyData → Option (PyData × PyData)}
    (Fk : FnOk P w K mg base CX0 lv f fd [x] (spF K none 1 φ)) (h : ∀ ns : List Int, ns.length ≤ 63 → φ [.list (ns.map .int)] = some (.bool true, .none)) : FnOk P w K mg base CX0 lv f fd [x] (spLaw K) := by
  refine Fk.imp fun vs H Q E q => ?_
  obtain ⟨a, ns, rfl, hS, hl, k⟩ := q
  refine ⟨rfl, fun _ => none, H, [.list (ns.map .int)], .none, .bool true, .none, ?_, fun _ z => (by cases z), h ns hl, fun v F' H' R s r => ?_⟩
  · refine ⟨rfl, Same.refl _, fun i s e => ?_, fun i j b mi mj _ _ => ?_, fun i b mi _ => ?_, fun _ _ e => (by cases e), fun i b e => (by cases e), fun _ _ e => (by cases e)⟩
    · cases i with
      | zero =>
        cases e
        exact ⟨.ref a, rfl, .lst hS (by rw [List.length_map]; exact Nat.le_trans hl (by decide)) (rpa_mapInt ns)⟩
      | succ i => cases e
    all_goals
      obtain ⟨s, e, m⟩ := mi
      cases i with
      | zero => cases e; cases m
      | succ i => cases e
  · cases r
    exact k H'
end L2.Z

namespace L2.Z
open PySem
section
variable {Φ : Fns} {bf : Nat → Option Nat} {M : Nat} {ρ : Ev}
@[simp] theorem z_v {i : Nat} : ev Φ bf (.v i) ρ = (ρ[i]?).bind fun s => s.get.bind fun _ => some (.slot i, ρ) := by simp only [ev]
@[simp] theorem z_k {d : PyData} : ev Φ bf (.k d) ρ = some (.val d, ρ) := by simp only [ev]
@[simp] theorem z_op1 {f} {a : X} : ev Φ bf (.op1 f a) ρ = (ev Φ bf a ρ).bind fun p => (p.1.get p.2).bind fun d => (f d).bind fun q => some (mkR q.1 q.2, p.2) := by simp only [ev]
@[simp] theorem z_op2 {f} {a b : X} : ev Φ bf (.op2 f a b) ρ = (ev Φ bf a ρ).bind fun p => (ev Φ bf b p.2).bind fun p' => (p.1.get p'.2).bind fun d => (p'.1.get p'.2).bind fun d' => (f d d').bind fun q => some (mkR q.1 q.2, p'.2) := by simp only [ev]
@[simp] theorem z_and {a b : X} : ev Φ bf (.and a b) ρ = (truth (ev Φ bf a) ρ).bind fun p => if p.1 = true then (truth (ev Φ bf b) p.2).bind fun q => some (.val (.bool q.1), q.2) else some (.val (.bool false), p.2) := by simp only [ev]
@[simp] theorem z_or {a b : X} : ev Φ bf (.or a b) ρ = (truth (ev Φ bf a) ρ).bind fun p => if p.1 = true then some (.val (.bool true), p.2) else (truth (ev Φ bf b) p.2).bind fun q => some (.val (.bool q.1), q.2) := by simp only [ev]
@[simp] theorem z_ite {c a b : X} : ev Φ bf (.ite c a b) ρ = (truth (ev Φ bf c) ρ).bind fun p => if p.1 = true then ev Φ bf a p.2 else ev Φ bf b p.2 := by simp only [ev]
@[simp] theorem z_chain {f g} {a b c : X} : ev Φ bf (.chain f g a b c) ρ = (ev Φ bf a ρ).bind fun p => (ev Φ bf b p.2).bind fun p' => (p.1.get p'.2).bind fun d => (p'.1.get p'.2).bind fun d' => match f d d' with
    | some (false, .bool true) => (ev Φ bf c p'.2).bind fun p'' => (p'.1.get p''.2).bind fun e => (p''.1.get p''.2).bind fun e' => match g e e' with
      | some (false, .bool z) => some (.val (.bool z), p''.2)
      | _ => none
    | some (false, .bool false) => some (.val (.bool false), p'.2)
    | _ => none := by simp only [ev] <;> rfl
theorem z_chain3 {f g h} {a b c d : X} : ev Φ bf (.chain3 f g h a b c d) ρ = (ev Φ bf a ρ).bind fun p => (ev Φ bf b p.2).bind fun p' => (p.1.get p'.2).bind fun v => (p'.1.get p'.2).bind fun v' => match f v v' with
    | some (false, .bool true) => (ev Φ bf c p'.2).bind fun p'' => (p'.1.get p''.2).bind fun e => (p''.1.get p''.2).bind fun e' => match g e e' with
      | some (false, .bool true) => (ev Φ bf d p''.2).bind fun q => (p''.1.get q.2).bind fun w => (q.1.get q.2).bind fun w' => match h w w' with
        | some (false, .bool z) => some (.val (.bool z), q.2)
        | _ => none
      | some (false, .bool false) => some (.val (.bool false), p''.2)
      | _ => none
    | some (false, .bool false) => some (.val (.bool false), p'.2)
    | _ => none := by simp only [ev] <;> rfl
@[simp] theorem z_call {f : Nat} {as : Xs} : ev Φ bf (.call f as) ρ = (evs Φ bf as ρ).bind fun p => (callArgs p.2 p.1 (bf f)).bind fun q => (Φ f q.1).bind fun z => (callBack q.2 p.1 z.2 (bf f)).bind fun ρ' => some (.val z.1, ρ') := by simp only [ev]
@[simp] theorem z_tup {as : Xs} : ev Φ bf (.tup as) ρ = (evv Φ bf as ρ).bind fun p => some (.val (.tuple p.1), p.2) := by simp only [ev]
@[simp] theorem z_lst {as : Xs} : ev Φ bf (.lst as) ρ = (evv Φ bf as ρ).bind fun p => some (.new (.list p.1), p.2) := by simp only [ev]
@[simp] theorem z_s0 : evs Φ bf .nil ρ = some ([], ρ) := by simp only [evs]
@[simp] theorem z_s1 {x : X} {r : Xs} : evs Φ bf (.cons x r) ρ = (ev Φ bf x ρ).bind fun p => (evs Φ bf r p.2).bind fun q => some (p.1 :: q.1, q.2) := by simp only [evs]
@[simp] theorem z_v0 : evv Φ bf .nil ρ = some ([], ρ) := by simp only [evv]
@[simp] theorem z_v1 {x : X} {r : Xs} : evv Φ bf (.cons x r) ρ = (valof (ev Φ bf x) ρ).bind fun p => (evv Φ bf r p.2).bind fun q => some (p.1 :: q.1, q.2) := by simp only [evv]
@[simp] theorem z_set {i : Nat} {e : X} : evS Φ bf M (.set i e) ρ = (ev Φ bf e ρ).bind fun p => (stored p.2 p.1).bind fun q => (asg i q.1 q.2).bind fun ρ => some (.nx ρ) := by simp only [evS]
@[simp] theorem z_put {t : Tg} {e : X} : evS Φ bf M (.put t e) ρ = (valof (ev Φ bf e) ρ).bind fun p => (t.bind p.1 p.2).bind fun ρ => some (.nx ρ) := by simp only [evS]
@[simp] theorem z_par {is : List Nat} {es : Xs} : evS Φ bf M (.par is es) ρ = (evst Φ bf es ρ).bind fun p => (asgAll is p.1 p.2).bind fun ρ => some (.nx ρ) := by simp only [evS]
@[simp] theorem z_setAt {i : Nat} {k e : X} : evS Φ bf M (.setAt i k e) ρ = (valof (ev Φ bf e) ρ).bind fun p => (conOf p.2 i).bind fun _ => (ev Φ bf k p.2).bind fun q => (q.1.get q.2).bind fun dk => (conOf q.2 i).bind fun c => (setD c dk p.1).bind fun c' => (conSet q.2 i c').bind fun ρ => some (.nx ρ) := by simp only [evS]
@[simp] theorem z_app {i : Nat} {e : X} : evS Φ bf M (.app i e) ρ = (lstAt ρ i).bind fun _ => (valof (ev Φ bf e) ρ).bind fun p => (conOf p.2 i).bind fun c => (appD c [p.1]).bind fun c' => (conSet p.2 i c').bind fun ρ => some (.nx ρ) := by simp only [evS]
@[simp] theorem z_expr {e : X} : evS Φ bf M (.expr e) ρ = (ev Φ bf e ρ).bind fun p => some (.nx p.2) := by simp only [evS]
@[simp] theorem z_if {c : X} {a b : Ss} : evS Φ bf M (.ite c a b) ρ = (truth (ev Φ bf c) ρ).bind fun p => if p.1 = true then evSs Φ bf M a p.2 else evSs Φ bf M b p.2 := by simp only [evS]
@[simp] theorem z_ret {e : X} : evS Φ bf M (.ret e) ρ = (valof (ev Φ bf e) ρ).bind fun p => some (.rt p.1 p.2) := by simp only [evS]
@[simp] theorem z_pass : evS Φ bf M .pass ρ = some (.nx ρ) := by simp only [evS]
@[simp] theorem z_brk : evS Φ bf M .brk ρ = some (.bk ρ) := by simp only [evS]
@[simp] theorem z_cnt : evS Φ bf M .cnt ρ = some (.ct ρ) := by simp only [evS]
@[simp] theorem z_stuck : evS Φ bf M .stuck ρ = none := by simp only [evS]
theorem z_lc {e : X} {t : Tg} {g} {as : Xs} {c : X} {own : List Nat} : ev Φ bf (.lc e t g as c own) ρ = (evs Φ bf as ρ).bind fun p => (getAll p.2 p.1).bind fun ds => (g ds).bind fun items =>
      (wipeE own (lockAll p.1 p.2)).bind fun ρ₁ => (lcLoop own t (truth (ev Φ bf c)) (valof (ev Φ bf e)) items [] ρ₁).bind fun q =>
      (unlockAll p.1 p.2 (backE (lockAll p.1 p.2) own q.2)).bind fun ρ₂ => some (.new (.list q.1), ρ₂) := by simp only [ev]
theorem z_whl {c : X} {b : Ss} : evS Φ bf M (.whl c b) ρ = whLoop (truth (ev Φ bf c)) (evSs Φ bf M b) M ρ := by simp only [evS]
theorem z_frr {t : Tg} {g} {as : Xs} {b : Ss} : evS Φ bf M (.frr t g as b) ρ = (evs Φ bf as ρ).bind fun p => (getAll p.2 p.1).bind fun ds => (g ds).bind fun items =>
      (frLoop t (evSs Φ bf M b) items (lockAll p.1 p.2)).bind fun o => o.mapM (unlockAll p.1 p.2) := by simp only [evS]
@[simp] theorem z_n : evSs Φ bf M .nil ρ = some (.nx ρ) := by simp only [evSs]
@[simp] theorem z_c {s : S} {r : Ss} : evSs Φ bf M (.cons s r) ρ = (evS Φ bf M s ρ).bind fun o => match o with
    | .nx ρ => evSs Φ bf M r ρ
    | o => some o := by simp only [evSs] <;> rfl
end
section
variable {ρ : Ev} {d d' : PyData} {i j : Int} {b : Bool} {x y : Str}
@[simp] theorem g_val : (Res.val d).get ρ = some d := rfl
@[simp] theorem g_new : (Res.new d).get ρ = some d := rfl
@[simp] theorem g_slot {k : Nat} : (Res.slot k).get ρ = (ρ[k]?).bind Slot.get := rfl
@[simp] theorem g_un : Slot.get .un = none := rfl
@[simp] theorem g_dat : Slot.get (.dat d) = some d := rfl
@[simp] theorem g_own : Slot.get (.own d) = some d := rfl
@[simp] theorem g_ref : Slot.get (.ref d) = some d := rfl
@[simp] theorem g_lok : Slot.get (.lok b d) = some d := rfl
@[simp] theorem m_ff : mkR false d = .val d := rfl
@[simp] theorem m_tt : mkR true d = .new d := rfl
@[simp] theorem e_val : esc ρ (.val d) = some (d, ρ) := rfl
@[simp] theorem e_new : esc ρ (.new d) = some (d, ρ) := rfl
theorem e_dat {k : Nat} (h : ρ[k]? = some (.dat d)) : esc ρ (.slot k) = some (d, ρ) := by simp only [esc, h]
theorem e_own {k : Nat} (h : ρ[k]? = some (.own d)) : esc ρ (.slot k) = some (d, ρ.set k (.dat d)) := by simp only [esc, h]
@[simp] theorem st_new : stored ρ (.new d) = some (.own d, ρ) := rfl
@[simp] theorem st_val : stored ρ (.val d) = some (.dat d, ρ) := rfl
@[simp] theorem st_slot {k : Nat} : stored ρ (.slot k) = (esc ρ (.slot k)).bind fun p => some (.dat p.1, p.2) := rfl
@[simp] theorem p_isTup1 {ds} : pIsTup (.tuple ds) = some (false, .bool true) := rfl
@[simp] theorem p_isInt1 : pIsInt (.int i) = some (false, .bool true) := rfl
@[simp] theorem p_isBool1 : pIsBool (.int i) = some (false, .bool false) := rfl
@[simp] theorem p_not : pNot (.bool b) = some (false, .bool (!b)) := rfl
@[simp] theorem p_I2 {f : Int → Int → Int} : pI2 f (.int i) (.int j) = some (false, .int (f i j)) := rfl
@[simp] theorem p_IB {f : Int → Int → Bool} : pIB f (.int i) (.int j) = some (false, .bool (f i j)) := rfl
@[simp] theorem p_I1 {f : Int → Int} : pI1 f (.int i) = some (false, .int (f i)) := rfl
theorem p_IC {C : Int → Int → Prop} [∀ i j, Decidable (C i j)] {f : Int → Int → Int} (h : C i j) : pIC C f (.int i) (.int j) = some (false, .int (f i j)) := by simp only [pIC, if_pos h]
@[simp] theorem p_lenT {ds} : pLen (.tuple ds) = some (false, .int ds.length) := rfl
@[simp] theorem p_lenL {ds} : pLen (.list ds) = some (false, .int ds.length) := rfl
@[simp] theorem p_idxT {ds} : pIdx (.tuple ds) (.int i) = (atI ds i).bind fun d => some (false, d) := rfl
@[simp] theorem p_idxL {ds} : pIdx (.list ds) (.int i) = (atI ds i).bind fun d => some (false, d) := rfl
@[simp] theorem p_int1 : pInt1 (.int i) = some (false, .int i) := rfl
theorem at_nat {α : Type} {xs : List α} {k : Nat} (h : k < xs.length) : atI xs (k : Int) = xs[k]? := by
  unfold atI ixN
  rw [if_pos (by omega), if_pos (by omega)]
  rfl
@[simp] theorem at_0 {α : Type} {a : α} {r : List α} : atI (a :: r) 0 = some a := at_nat (k := 0) (by simp)
@[simp] theorem at_1 {α : Type} {a c : α} {r : List α} : atI (a :: c :: r) 1 = some c := at_nat (k := 1) (by simp)
@[simp] theorem at_2 {α : Type} {a c e : α} {r : List α} : atI (a :: c :: e :: r) 2 = some e := at_nat (k := 2) (by simp)
@[simp] theorem at_3 {α : Type} {a c e f : α} {r : List α} : atI (a :: c :: e :: f :: r) 3 = some f := at_nat (k := 3) (by simp)
@[simp] theorem ou_none : outOf d ρ none = some (d, .none) := rfl
end
theorem callBody_rt {Φ : Fns} {bf : Nat → Option Nat} {M : Nat} {b : Ss} {np ns : Nat} {ds : List PyData} {d : PyData} {ρ : Ev} (hl : ds.length = np)
    (h : evSs Φ bf M b (slotsOf ds (conArg ds none) none ++ List.replicate (ns - np) .un) = some (.rt d ρ)) : callBody Φ bf M b np ns none ds = some (d, .none) := by
  unfold callBody
  rw [if_pos hl, h]
  rfl
theorem z_step {Φ : Fns} {bf : Nat → Option Nat} {M : Nat} {s : S} {r : Ss} {ρ : Ev} (ρ' : Ev) {o : Option Out} (h : evS Φ bf M s ρ = some (.nx ρ')) (k : evSs Φ bf M r ρ' = o) : evSs Φ bf M (.cons s r) ρ = o := by
  rw [z_c, h]; exact k
theorem z_stepE {Φ : Fns} {bf : Nat → Option Nat} {M : Nat} {s : S} {r : Ss} {ρ : Ev} {d : PyData} (ρ' : Ev) (h : evS Φ bf M s ρ = some (.nx ρ')) (k : ∃ σ, evSs Φ bf M r ρ' = some (.rt d σ)) : ∃ σ, evSs Φ bf M (.cons s r) ρ = some (.rt d σ) := by
  obtain ⟨σ, k⟩ := k
  exact ⟨σ, by rw [z_c, h]; exact k⟩
end L2.Z

namespace L2.Z
open PySem PySem.Spec PyProof.Rows

section
variable {K : PySem.W.Frag}
def pTup : PyData → Option (Bool × PyData)
  | .list ds => some (false, .tuple ds)
  | .tuple ds => some (false, .tuple ds)
  | _ => none
def rTupOf (K : PySem.W.Frag) : List V → Hp → VK → Prop := fun xs H Q => ∃ p ys, xs = [.ref p] ∧ ((SqL K H p ys ∧ ∀ l, H l = none → Q (.ref l) (L2.upd H l (.tup ys))) ∨ (SqT K H p ys ∧ Q (.ref p) H))
theorem ok_tupOf : Ok1 K (r1 (rTupOf K)) pTup := by
  intro Rf G ρ F σ H v d n d' Q R q h k
  cases d <;> simp only [pTup] at h <;> cases h
  · obtain ⟨a, xs, rfl, e, z, r⟩ := q
    refine ⟨a, xs, rfl, .inl ⟨e, fun p hp => ?_⟩⟩
    obtain ⟨F2, R2, s2, q2⟩ := R.newTup hp z r
    exact k _ F2 _ R2 s2 q2
  · obtain ⟨a, xs, rfl, e, z, r⟩ := q
    exact ⟨a, xs, rfl, .inr ⟨SqT.of (R.fz _ _ e), k _ F _ R (Same.refl _) (rr_val (.tup e z r))⟩⟩
def pLst : PyData → Option (Bool × PyData)
  | .list ds => some (true, .list ds)
  | .tuple ds => some (true, .list ds)
  | _ => none
def rLstOf (K : PySem.W.Frag) : List V → Hp → VK → Prop := fun xs H Q => ∃ p ys, xs = [.ref p] ∧ (SqL K H p ys ∨ SqT K H p ys) ∧ ∀ l, H l = none → Q (.ref l) (L2.upd H l (.lst ys))
theorem ok_lstOf : Ok1 K (r1 (rLstOf K)) pLst := by
  intro Rf G ρ F σ H v d n d' Q R q h k
  cases d <;> simp only [pLst] at h <;> cases h
  · obtain ⟨a, xs, rfl, e, z, r⟩ := q
    refine ⟨a, xs, rfl, .inl e, fun p hp => ?_⟩
    exact k _ F _ (R.laid hp) (Same.refl _) ⟨p, rfl, R.loose_new hp |> fun l => l, ⟨xs, upd_same, z, r⟩⟩
  · obtain ⟨a, xs, rfl, e, z, r⟩ := q
    refine ⟨a, xs, rfl, .inr (SqT.of (R.fz _ _ e)), fun p hp => ?_⟩
    exact k _ F _ (R.laid hp) (Same.refl _) ⟨p, rfl, R.loose_new hp, ⟨xs, upd_same, z, r⟩⟩
theorem cr_tupOf {X : Cx} : CallR X (.type "tuple") (rTupOf X.K) := call_tuple_of
theorem cr_lstOf {X : Cx} : CallR X (.type "list") (rLstOf X.K) := call_list_of

def itemsOf : PyData → Option (List PyData)
  | .list ds => some ds
  | .tuple ds => some ds
  | _ => none
def okIn (d : PyData) (ds : List PyData) : Bool := d.plain && PyData.plainAll ds && decide (min (PyData.depthAll ds) d.depth ≤ 60)
def pIn (d c : PyData) : Option (Bool × PyData) := match c with
  | .dict kvs => (dGetP kvs d).bind fun o => some (false, .bool (o.isSome))
  | c => (itemsOf c).bind fun ds => if okIn d ds = true then some (false, .bool (ds.any fun y => PyData.eqv y d)) else none
def pNotIn (d c : PyData) : Option (Bool × PyData) := match c with
  | .dict kvs => (dGetP kvs d).bind fun o => some (false, .bool (!o.isSome))
  | c => (itemsOf c).bind fun ds => if okIn d ds = true then some (false, .bool (!ds.any fun y => PyData.eqv y d)) else none
def rInZ (K : PySem.W.Frag) (neg : Bool) : R2 := fun x y H Q => ∃ d ds, Dp K H x d ∧ (Dp K H y (.list ds) ∨ Dp K H y (.tuple ds)) ∧ okIn d ds = true ∧ Q (.bl (if neg then !ds.any (fun y => PyData.eqv y d) else ds.any fun y => PyData.eqv y d)) H
theorem okIn_iff {d : PyData} {ds : List PyData} : okIn d ds = true ↔ d.plain = true ∧ PyData.plainAll ds = true ∧ min (PyData.depthAll ds) d.depth ≤ 60 := by
  unfold okIn
  rw [Bool.and_eq_true, Bool.and_eq_true, decide_eq_true_eq, and_assoc]
theorem op_inZ {X : Cx} (hu : X.A.units + 64 < cLine) : OpR X (compareOp .In) (rInZ X.K false) := by
  intro pins s σ H x y v u Q I rx ry h
  obtain ⟨d, ds, hd, hc, ok, q⟩ := h
  obtain ⟨h1, h2, h3⟩ := okIn_iff.mp ok
  obtain ⟨as, r1⟩ := Dp.reads I d x v hd rx
  rcases hc with hc | hc
  · obtain ⟨bs, r2⟩ := Dp.reads I _ y u hc ry
    exact SeqAt.in_list_data r2 r1 h2 h1 (by omega) ⟨.bl _, H, I, rfl, q⟩
  · obtain ⟨bs, r2⟩ := Dp.reads I _ y u hc ry
    exact SeqAt.in_tuple_data r2 r1 h2 h1 (by omega) ⟨.bl _, H, I, rfl, q⟩
theorem op_notInZ {X : Cx} (hu : X.A.units + 64 < cLine) : OpR X (compareOp .NotIn) (rInZ X.K true) := by
  intro pins s σ H x y v u Q I rx ry h
  obtain ⟨d, ds, hd, hc, ok, q⟩ := h
  obtain ⟨h1, h2, h3⟩ := okIn_iff.mp ok
  obtain ⟨as, r1⟩ := Dp.reads I d x v hd rx
  rcases hc with hc | hc
  · obtain ⟨bs, r2⟩ := Dp.reads I _ y u hc ry
    exact SeqAt.notIn_list_data r2 r1 h2 h1 (by omega) ⟨.bl _, H, I, rfl, q⟩
  · obtain ⟨bs, r2⟩ := Dp.reads I _ y u hc ry
    exact SeqAt.notIn_tuple_data r2 r1 h2 h1 (by omega) ⟨.bl _, H, I, rfl, q⟩
theorem inDp {F H : Hp} (s : Same F H) {w : V} {c : PyData} {ds : List PyData} (q : Rq K F H w c) (e : itemsOf c = some ds) (hp : PyData.plainAll ds = true) : Dp K H w (.list ds) ∨ Dp K H w (.tuple ds) := by
  cases c <;> simp only [itemsOf] at e <;> cases e
  · exact .inl ((q.rp s).dp (by simpa [PyData.plain] using hp))
  · exact .inr ((q.rp s).dp (by simpa [PyData.plain] using hp))
theorem ok_in : Ok2 K (fun x y H Q => rInZ K false x y H Q ∨ rInDZ false x y H Q) pIn := by
  intro Rf G ρ F σ H v w d e n d' Q R q1 q2 h k
  cases e with
  | dict kvs =>
    simp only [pIn, Option.bind_eq_some_iff] at h
    obtain ⟨o, h1, h2⟩ := h
    cases h2
    obtain ⟨a, rfl, m⟩ := q2
    obtain ⟨o', g, r⟩ := dget_ok R.fz m (rq_keyV q1 (dGetP_kinds h1)) h1
    have e : o'.isSome = o.isSome := by
      cases o' <;> cases o <;> first | rfl | exact r.elim
    refine .inr ⟨a, o', rfl, g, ?_⟩
    simp only [e]
    exact k _ F H R (Same.refl _) (rr_val (.bl _))
  | _ =>
    simp only [pIn, Option.bind_eq_some_iff] at h
    obtain ⟨ds, hi, h⟩ := h
    split at h
    · rename_i hc
      obtain ⟨h1, h2, h3⟩ := okIn_iff.mp hc
      cases h
      exact .inl ⟨d, ds, (q1.rp R.fz).dp h1, inDp R.fz q2 hi h2, hc, k _ F H R (Same.refl _) (rr_val (.bl _))⟩
    · cases h
theorem ok_notIn : Ok2 K (fun x y H Q => rInZ K true x y H Q ∨ rInDZ true x y H Q) pNotIn := by
  intro Rf G ρ F σ H v w d e n d' Q R q1 q2 h k
  cases e with
  | dict kvs =>
    simp only [pNotIn, Option.bind_eq_some_iff] at h
    obtain ⟨o, h1, h2⟩ := h
    cases h2
    obtain ⟨a, rfl, m⟩ := q2
    obtain ⟨o', g, r⟩ := dget_ok R.fz m (rq_keyV q1 (dGetP_kinds h1)) h1
    have e : o'.isSome = o.isSome := by
      cases o' <;> cases o <;> first | rfl | exact r.elim
    refine .inr ⟨a, o', rfl, g, ?_⟩
    simp only [e]
    exact k _ F H R (Same.refl _) (rr_val (.bl _))
  | _ =>
    simp only [pNotIn, Option.bind_eq_some_iff] at h
    obtain ⟨ds, hi, h⟩ := h
    split at h
    · rename_i hc
      obtain ⟨h1, h2, h3⟩ := okIn_iff.mp hc
      cases h
      exact .inl ⟨d, ds, (q1.rp R.fz).dp h1, inDp R.fz q2 hi h2, hc, k _ F H R (Same.refl _) (rr_val (.bl _))⟩
    · cases h
theorem op_inZD {X : Cx} (hu : X.A.units + 64 < cLine) : OpR X (compareOp .In) (fun x y H Q => rInZ X.K false x y H Q ∨ rInDZ false x y H Q) := (op_inZ hu).or (op_inDZ hu)
theorem op_notInZD {X : Cx} (hu : X.A.units + 64 < cLine) : OpR X (compareOp .NotIn) (fun x y H Q => rInZ X.K true x y H Q ∨ rInDZ true x y H Q) := (op_notInZ hu).or (op_notInDZ hu)
end
end L2.Z

namespace L2.Z
open PySem PySem.Spec PyProof.Rows

section
variable {K : PySem.W.Frag}
def isTupN : PyData → Bool
  | .tuple (_ :: _) => true
  | _ => false
def isNoT : PyData → Bool
  | .none => false
  | .tuple _ => false
  | _ => true
def okSort (ds : List PyData) : Bool := ds.all (fun d => ds.all fun e => PySem.W.alike d e) && (ds.all isTupN || ds.all isNoT) && ds.all (fun d => decide (d.depth ≤ 60) && d.plain)
def leD : PyData → PyData → Bool := PySem.W.dataLe false id
def pSorted : PyData → Option (Bool × PyData)
  | .list ds => if okSort ds = true then some (true, .list (ds.mergeSort leD)) else none
  | _ => none
theorem okSort_iff {ds : List PyData} (h : okSort ds = true) : PySem.W.AllAlike ds ∧ PySem.W.Sortable ds ∧ ∀ d, d ∈ ds → d.depth ≤ 60 ∧ d.plain = true := by
  unfold okSort at h
  simp only [Bool.and_eq_true, Bool.or_eq_true, List.all_eq_true, decide_eq_true_eq] at h
  obtain ⟨⟨h1, h2⟩, h3⟩ := h
  refine ⟨fun d hd e he => h1 d hd e he, ?_, h3⟩
  rcases h2 with h2 | h2
  · refine .inl fun d hd => ?_
    have := h2 d hd
    cases d <;> simp only [isTupN] at this <;> try cases this
    rename_i xs
    cases xs with
    | nil => cases this
    | cons x r => exact ⟨x, r, rfl⟩
  · refine .inr fun d hd => ?_
    have := h2 d hd
    cases d <;> first | (simp [isNoT] at this; done) | (refine ⟨fun z => ?_, fun xs z => ?_⟩ <;> (cases z))
def rSortD (K : PySem.W.Frag) : List V → Hp → VK → Prop := fun vs H Q => ∃ (a : Addr) (xs : List V) (ds : List PyData), vs = [V.ref a] ∧ SqL K H a xs ∧ DpAll K H xs ds ∧ okSort ds = true ∧
  ∀ (ys : List V) (p : Addr), (∃ bs : List (V × PyData), bs.map Prod.fst = ys ∧ bs.map Prod.snd = ds.mergeSort leD ∧ ∀ b ∈ bs, b ∈ xs.zip ds) → ys.length = xs.length → H p = none → Q (.ref p) (L2.upd H p (.lst ys))
theorem eachR : ∀ {X : Cx} {pins : List (Addr × Obj)} {σ : St} {H : Hp} {s : Shared} (I : Inv X pins σ H s) {xs : List V} {ds : List PyData} {its : List Value}, DpAll X.K H xs ds → Vals xs its →
    PySem.W.EachIs (fun v (b : V × PyData) => RelV b.1 v) its (xs.zip ds) ∧ PySem.W.EachIs (fun v (b : V × PyData) => ∃ as, Reads s.heap v b.2 as) its (xs.zip ds)
  | _, _, _, _, _, I, [], _, _, d, r => by cases d; cases r; exact ⟨.nil, .nil⟩
  | _, _, _, _, _, I, x :: xs, _, _, d, r => by
    cases d with
    | cons a b =>
      cases r with
      | cons c e =>
        obtain ⟨h1, h2⟩ := eachR I b e
        exact ⟨.cons c h1, .cons (Dp.reads I _ _ _ a c) h2⟩
theorem each_vals : ∀ {out : List Value} {bs : List (V × PyData)}, PySem.W.EachIs (fun v (b : V × PyData) => RelV b.1 v) out bs → Vals (bs.map Prod.fst) out
  | _, _, .nil => .nil
  | _, _, .cons a b => .cons a (each_vals b)
theorem zip_snd : ∀ {xs : List V} {ds : List PyData}, xs.length = ds.length → (xs.zip ds).map Prod.snd = ds
  | [], [], _ => rfl
  | x :: xs, d :: ds, h => by simp [zip_snd (xs := xs) (ds := ds) (by simpa using h)]
theorem DpAll.length {H : Hp} : ∀ {xs : List V} {ds : List PyData}, DpAll K H xs ds → xs.length = ds.length
  | _, _, .nil => rfl
  | _, _, .cons _ b => by simp [DpAll.length b]
theorem cr_sortD {X : Cx} (hu : X.A.units + 64 < cLine) : CallR X (.builtin "sorted") (rSortD X.K) := by
  intro pins s σ H vs us Q I r h
  obtain ⟨a, xs, ds, rfl, hs, hd, ok, q⟩ := h
  obtain ⟨its, rv, hl, hz⟩ := I.list hs
  rw [Vals.ref1 r]
  obtain ⟨k1, k2, k3⟩ := okSort_iff ok
  obtain ⟨e1, e2⟩ := eachR I hd rv
  have hlen := DpAll.length hd
  have hz2 : (xs.zip ds).map Prod.snd = ds := zip_snd hlen
  have hzl : (xs.zip ds).length = xs.length := by rw [List.length_zip]; omega
  refine PySem.W.sorted_data (bs := xs.zip ds) (enc := Prod.snd) (R := fun v (b : V × PyData) => RelV b.1 v) hl.isList e1 e2 (by rw [hz2]; exact k1) (by rw [hz2]; exact k2) (by rw [hzl]; exact hz) (fun b hb => ?_) fun out h1 h2 => ?_
  · have : b.2 ∈ ds := by rw [← hz2]; exact List.mem_map.mpr ⟨b, hb, rfl⟩
    have := (k3 _ this).1
    omega
  · obtain ⟨ep, he'⟩ := PyProof.Rows.sortedAll_at s.heap its out.toArray
    have hv := each_vals h2
    have hl2 : (((xs.zip ds).mergeSort (PySem.W.dataLe false Prod.snd)).map Prod.fst).length = xs.length := by
      rw [List.length_map, List.length_mergeSort, hzl]
    refine ⟨.ref _, L2.upd H (s.heap.objs.size + 1) (.lst (((xs.zip ds).mergeSort (PySem.W.dataLe false Prod.snd)).map Prod.fst)), I.laid (t' := s.toks) (fun _ _ => PyProof.Rows.sortedAll_old) (Nat.le_succ _) ⟨by rw [hl2]; exact hz, out, ep, hv, he'⟩, rfl, ?_⟩
    refine q _ _ ⟨(xs.zip ds).mergeSort (PySem.W.dataLe false Prod.snd), rfl, ?_, fun b hb => List.mem_mergeSort.mp hb⟩ hl2 (I.hok.fresh (Nat.le_succ _))
    rw [List.map_mergeSort (r := PySem.W.dataLe false Prod.snd) (s := leD) (f := Prod.snd) (fun a _ b _ => rfl), hz2]
theorem rpa_zip {F : Hp} : ∀ {xs : List V} {ds : List PyData}, RpA K F xs ds → ∀ b ∈ xs.zip ds, Rp K F b.1 b.2
  | _, _, .nil, _, h => by simp at h
  | _, _, .cons a r, b, h => by
    rw [List.zip_cons_cons, List.mem_cons] at h
    rcases h with rfl | h
    · exact a
    · exact rpa_zip r b h
theorem rpa_unzip {F : Hp} : ∀ {bs : List (V × PyData)}, (∀ b ∈ bs, Rp K F b.1 b.2) → RpA K F (bs.map Prod.fst) (bs.map Prod.snd)
  | [], _ => .nil
  | b :: bs, h => .cons (h b (by simp)) (rpa_unzip fun c hc => h c (by simp [hc]))
theorem ok_sorted : Ok1 K (r1 (rSortD K)) pSorted := by
  intro Rf G ρ F σ H v d n d' Q R q h k
  cases d <;> simp only [pSorted] at h <;> try cases h
  rename_i ds
  split at h
  · rename_i ok
    cases h
    obtain ⟨a, xs, rfl, e, z, r⟩ := q
    have hp : PyData.plainAll ds = true := by
      have : ∀ es : List PyData, (∀ d ∈ es, d.plain = true) → PyData.plainAll es = true := fun es => by
        induction es with
        | nil => intro _; simp [PyData.plainAll]
        | cons d es ih => intro h; simp [PyData.plainAll, h d (by simp), ih fun c hc => h c (by simp [hc])]
      exact this ds fun d hd => ((okSort_iff ok).2.2 d hd).2
    refine ⟨a, xs, ds, rfl, e, (r.mono R.fz).dp hp, ok, fun ys p ⟨bs, h1, h2, h3⟩ hl hp => ?_⟩
    have ra : RpA K F ys (ds.mergeSort leD) := by
      rw [← h1, ← h2]
      exact rpa_unzip fun b hb => rpa_zip r b (h3 b hb)
    exact k _ F _ (R.laid hp) (Same.refl _) ⟨p, rfl, R.loose_new hp, ⟨ys, upd_same, by rw [hl]; exact z, ra⟩⟩
  · cases h
end
end L2.Z

namespace L2.Z
open PySem PySem.Spec PyProof.Rows

def zipD : List PyData → List PyData → List PyData
  | x :: xs, y :: ys => .tuple [x, y] :: zipD xs ys
  | _, _ => []
theorem zipD_len : ∀ xs ys : List PyData, (zipD xs ys).length = min xs.length ys.length
  | [], _ => by simp [zipD]
  | _ :: _, [] => by simp [zipD]
  | x :: xs, y :: ys => by simp [zipD, zipD_len xs ys]
theorem zipD_get : ∀ (xs ys : List PyData) (i : Nat) (d : PyData), (zipD xs ys)[i]? = some d → ∃ x y, xs[i]? = some x ∧ ys[i]? = some y ∧ d = .tuple [x, y]
  | [], _, _, _, h => by simp [zipD] at h
  | _ :: _, [], _, _, h => by simp [zipD] at h
  | x :: xs, y :: ys, 0, d, h => by simp [zipD] at h; exact ⟨x, y, rfl, rfl, h.symm⟩
  | x :: xs, y :: ys, i + 1, d, h => by
    obtain ⟨a, b, h1, h2, h3⟩ := zipD_get xs ys i d (by simpa [zipD] using h)
    exact ⟨a, b, by simpa using h1, by simpa using h2, h3⟩
def gZip : List PyData → Option (List PyData)
  | [.list xs, .list ys] => some (zipD xs ys)
  | [.tuple xs, .tuple ys] => some (zipD xs ys)
  | _ => none
theorem min_le {n i j : Nat} (h : min n i ≤ j) : n ≤ j ∨ i ≤ j := by omega
theorem jok_zipL {K : PySem.W.Frag} {a b : Addr} {xs ys : List PyData} : JOk K [.ref a, .ref b] [.list xs, .list ys] (zipD xs ys) (Itz K a b) := by
  intro Rf G ρ F σ H R rq
  cases rq with
  | cons q rq =>
    cases rq with
    | cons q' _ =>
      obtain ⟨a', us, e, h, zu, r⟩ := q
      obtain ⟨b', ws, e', h', zw, r'⟩ := q'
      cases e; cases e'
      refine ⟨fun i hi => ⟨us, ws, h, h', by rw [r.length, r'.length]; rw [zipD_len] at hi; exact min_le hi⟩, fun i d hd => ?_⟩
      obtain ⟨x, y, hx, hy, rfl⟩ := zipD_get _ _ _ _ hd
      obtain ⟨v, hv, rv⟩ := r.get hx
      obtain ⟨w, hw, rw'⟩ := r'.get hy
      refine ⟨⟨us, ws, v, w, h, h', hv, hw⟩, fun z H' hz => ?_⟩
      obtain ⟨T, x', y', rfl, hT, rfl, e1, e2⟩ := hz
      have e3 := e1 us h; rw [hv] at e3; cases e3
      have e4 := e2 ws h'; rw [hw] at e4; cases e4
      obtain ⟨F2, R2, s2, q2⟩ := R.newTup hT (by show 2 ≤ sizeLine; decide) (.cons rv (.cons rw' .nil))
      exact ⟨F2, R2, s2, q2⟩
theorem jok_zipT {K : PySem.W.Frag} {a b : Addr} {xs ys : List PyData} : JOk K [.ref a, .ref b] [.tuple xs, .tuple ys] (zipD xs ys) (RZ.ItzT K a b) := by
  intro Rf G ρ F σ H R rq
  cases rq with
  | cons q rq =>
    cases rq with
    | cons q' _ =>
      obtain ⟨a', us, e, h, zu, r⟩ := q
      obtain ⟨b', ws, e', h', zw, r'⟩ := q'
      cases e; cases e'
      refine ⟨fun i hi => ⟨us, ws, SqT.of (R.fz _ _ h), SqT.of (R.fz _ _ h'), by rw [r.length, r'.length]; rw [zipD_len] at hi; exact min_le hi⟩, fun i d hd => ?_⟩
      obtain ⟨x, y, hx, hy, rfl⟩ := zipD_get _ _ _ _ hd
      obtain ⟨v, hv, rv⟩ := r.get hx
      obtain ⟨w, hw, rw'⟩ := r'.get hy
      refine ⟨⟨us, ws, v, w, SqT.of (R.fz _ _ h), SqT.of (R.fz _ _ h'), hv, hw⟩, fun z H' hz => ?_⟩
      obtain ⟨T, x', y', rfl, hT, rfl, e1, e2⟩ := hz
      have e3 := e1 us (SqT.of (R.fz _ _ h)); rw [hv] at e3; cases e3
      have e4 := e2 ws (SqT.of (R.fz _ _ h')); rw [hw] at e4; cases e4
      obtain ⟨F2, R2, s2, q2⟩ := R.newTup hT (by show 2 ≤ sizeLine; decide) (.cons rv (.cons rw' .nil))
      exact ⟨F2, R2, s2, q2⟩
section
variable {X : Cx} {Φ : Fns} {bf : Nat → Option Nat} {a b : Expr} {x y : Z.X} {p pos tpos : Pos} {elts : List Expr} {kk : Nat}
theorem evs2 {ρ ρ' : Ev} {rs : List Res} (e : evs Φ bf (.cons x (.cons y .nil)) ρ = some (rs, ρ')) : ∃ r ρ1 r', ev Φ bf x ρ = some (r, ρ1) ∧ ev Φ bf y ρ1 = some (r', ρ') ∧ rs = [r, r'] := by
  simp only [evs, Option.bind_eq_some_iff] at e
  obtain ⟨⟨ra, ρ1⟩, ea, ⟨rs1, ρ2⟩, ⟨⟨rb, ρ3⟩, eb, ⟨rs2, ρ4⟩, e4, e5⟩, e6⟩ := e
  simp only [Option.some.injEq, Prod.mk.injEq] at e4 e5 e6
  obtain ⟨rfl, rfl⟩ := e4
  obtain ⟨rfl, rfl⟩ := e5
  obtain ⟨rfl, rfl⟩ := e6
  exact ⟨ra, ρ1, rb, ea, eb, rfl⟩
theorem getAll2 {ρ : Ev} {r r' : Res} {ds : List PyData} (e : getAll ρ [r, r'] = some ds) : ∃ d d', r.get ρ = some d ∧ r'.get ρ = some d' ∧ ds = [d, d'] := by
  simp only [getAll, Option.bind_eq_some_iff] at e
  obtain ⟨da, e7, ds1, ⟨db, e8, ds2, e9, e10⟩, e11⟩ := e
  simp only [Option.some.injEq] at e9 e10 e11
  subst e9 e10 e11
  exact ⟨da, db, e7, e8, rfl⟩
theorem ci_zip (hg : Gl X "zip") (hm : X.mg "zip" = none) (ha : CE X Φ bf a x) (hb : CE X Φ bf b y) (hs : starEach [a, b] X.env = (false, eval a X.env) :: starEach [b] X.env := by rfl) (hs2 : starEach [b] X.env = (false, eval b X.env) :: starEach [] X.env := by rfl)
    (hpl : (backTo pos (starEach [b] X.env)).any (·.1) = false := by rfl) : CI X Φ bf (.Tuple elts kk tpos) (.Call (.Name "zip" p) [a, b] [] pos) gZip (.cons x (.cons y .nil)) := by
  refine PI.imp (RZ.pi_zipA hg hm (pa_cons ha (pa_cons hb pa_nil hs2) hs) hs hpl) fun σ H R' h => ?_
  obtain ⟨Rf, G, ρ, F, rs, ρ', ds, items, R, e1, e2, e3, k⟩ := h
  obtain ⟨ra, ρ1, rb, ea, eb, rfl⟩ := evs2 e1
  obtain ⟨da, db, e7, e8, rfl⟩ := getAll2 e2
  refine tX_opd R ea fun v F1 H1 R1 s1 o => ?_
  refine tX_opd R1 eb fun w F2 H2 R2 s2 o2 => ?_
  have q1 := R2.rq (o.mono s2) e7
  have q2 := R2.rq o2 e8
  cases da <;> cases db <;> simp only [gZip] at e3 <;> try cases e3
  · obtain ⟨a', us, rfl, h, z, r⟩ := q1
    obtain ⟨b', ws, rfl, h', z', r'⟩ := q2
    refine ⟨a', b', us, ws, rfl, .inl ⟨h, h', k [.ref a', .ref b'] F2 H2 _ R2 (s1.trans s2) (.cons (o.mono s2) (.cons o2 .nil)) jok_zipL ?_⟩⟩
    rw [zipD_len, ← r.length]
    exact Nat.le_trans (Nat.min_le_left _ _) z
  · obtain ⟨a', us, rfl, h, z, r⟩ := q1
    obtain ⟨b', ws, rfl, h', z', r'⟩ := q2
    refine ⟨a', b', us, ws, rfl, .inr ⟨SqT.of (R2.fz _ _ h), SqT.of (R2.fz _ _ h'), k [.ref a', .ref b'] F2 H2 _ R2 (s1.trans s2) (.cons (o.mono s2) (.cons o2 .nil)) jok_zipT ?_⟩⟩
    rw [zipD_len, ← r.length]
    exact Nat.le_trans (Nat.min_le_left _ _) z
end
end L2.Z

namespace PySem
open Sem (wp)
theorem meets_enum_newZ {v : Value} {o : Obj} {H : Heap → Prop} (B : Begins v o H) :
    Meets (Builtin.«enumerate.__new__» ⟨[.type "enumerate", v], []⟩) (fun _ R s => H s.heap ∧
      R (.ok (.ret (.ref (s.heap.push o).objs.size))) { s with heap := (s.heap.push o).push { cls := .type "enumerate", data := .fields #[.none, .bool false, .ref s.heap.objs.size, rawInt 0, .none, .none] } }) :=
  .of_wp fun prog w A R s h => by
    obtain ⟨hp, g, d, tk, os⟩ := s; obtain ⟨h1, h⟩ := h
    have hsub := sub_enumerate
    have q1 : ∀ {A' : Around} {E : Value → Shared → Prop} {Q : Value → Shared → Prop}, Q (.ref hp.objs.size) ⟨hp.push o, g, d, tk, os⟩ → wpAny (model prog w) A' (pyIter v) Q E ⟨hp, g, d, tk, os⟩ :=
      fun q => B.iter prog w _ _ ⟨hp, g, d, tk, os⟩ _ h1 q
    wp_walk using q1
    refine wpAny_stack_any fun st => wpAny_pure ?_
    split
    · rename_i c _ _ _ _ _
      cases (c == Value.type "enumerate")
      · wp_walk using q1
        exact ⟨_, rfl, h⟩
      · wp_walk using q1
        exact ⟨_, rfl, h⟩
    · wp_walk using q1
      exact ⟨_, rfl, h⟩
section
variable {prog : Program} {w : World} {A : Around} {E : Value → Shared → Prop} {s : Shared}
theorem enum_beginsZ {v : Value} {o : Obj} {H : Heap → Prop} {Q : Value → Shared → Prop} (B : Begins v o H) (h1 : H s.heap)
    (h : ∀ h', IsEnum h' (s.heap.objs.size + 1) s.heap.objs.size 0 .none → h'.get? s.heap.objs.size = some o → h'.objs.size = s.heap.objs.size + 2 →
      (∀ b o, s.heap.get? b = some o → h'.get? b = some o) → Q (.ref (s.heap.objs.size + 1)) { s with heap := h' }) :
    wpAny (model prog w) A (call (.type "enumerate") [v]) Q E s := by
  refine callType_new F.called_enumerate (by decide) (F.typeCall_enumerate_1 _) (F.newCall_enumerate_1 _) (fun obj => F.args_object_init_2 obj _) F.entry_enumerate_new
    (meets_enum_newZ B) ⟨h1, ?_⟩
  have hz : (s.heap.push o).objs.size = s.heap.objs.size + 1 := Heap.size_push ..
  show _ ∧ _
  rw [hz]
  have he : IsEnum ((s.heap.push o).push { cls := .type "enumerate", data := .fields #[.none, .bool false, .ref s.heap.objs.size, rawInt 0, .none, .none] }) (s.heap.objs.size + 1) s.heap.objs.size 0 .none := by
    have := Heap.get?_push_size (s.heap.push o) (o := { cls := .type "enumerate", data := .fields #[.none, .bool false, .ref s.heap.objs.size, rawInt 0, .none, .none] }) rfl
    rw [hz] at this; exact this
  refine ⟨⟨_, he, rfl⟩, h _ he (Heap.get?_push_of_some _ (Heap.get?_push_size _ B.free)) (by rw [Heap.size_push, hz]) fun b o x => Heap.get?_push_of_some _ (Heap.get?_push_of_some _ x)⟩
theorem enum_endT {e it l : Addr} {items : Array Value} {k : Nat} {i : Int} {old : Value} {Q : Option Value → Shared → Prop} (hh : A.in1.handled = none)
    (he : IsEnum s.heap e it i old) (hit : s.heap.IsTupleIter it l k) (hl : s.heap.IsTuple l items) (hx : items[k]? = none)
    (hQ : ∀ h', Heap.ExtBut it s.heap h' → Q none { s with heap := h' }) : wpAny (model prog w) A (pyNext (.ref e)) Q E s := by
  have hT : s.TypeIs (.ref e) "enumerate" := ⟨_, he, rfl⟩
  unfold pyNext
  refine wpAny_bind (wpAny_attempt (wpAny_callSpecial?_slot (name := Str.ofString "__next__") hT F.slot_enumerate_next
    (wpAny_call_entry F.slot_enumerate_next hT F.entry_enumerate_next ?_ (F.args_enumerate_next_1 _))))
  show wpAny _ _ (field (.ref e) 2 >>= _) _ _ _
  refine wpAny_bind (wpAny_field he rfl (x := .ref it) rfl ?_)
  refine wpAny_bind (wpAny_nextOf_tuple_end hh hit hl hx fun h' x he' hx' => ?_)
  obtain ⟨o, ho, hc⟩ := hx'
  refine wpAny_bind (wpAny_isInstance (T := "StopIteration") (b := true) ⟨o, ho, hc⟩ isSubtype_stop ?_)
  exact wpAny_pure (hQ _ he')
end
end PySem
namespace L2.Z
open PySem PySem.Spec PyProof.Rows
def IteT (K : PySem.W.Frag) (a : Addr) : It :=
  ⟨fun i H => ∃ (xs : List V) (x : V), SqT K H a xs ∧ xs[i]? = some x, fun i H v H' => ∃ T x, v = .ref T ∧ H T = none ∧ H' = L2.upd H T (.tup [.int (i : Nat), x]) ∧ ∀ xs, SqT K H a xs → xs[i]? = some x, fun i H => ∃ xs : List V, SqT K H a xs ∧ xs.length ≤ i⟩
theorem turn_enumT {P : Program} {w : World} {K : PySem.W.Frag} {elts : List Expr} {kk : Nat} {tpos : Pos} (a e it : Addr) (hai : a ≠ it) (hea : e ≠ a) :
    Turn P w K (.Tuple elts kk tpos) (IteT K a) [e, it] e (fun i h => (∃ old, IsEnum h e it ((i : Nat) : Int) old) ∧ h.IsTupleIter it a i ∧ e ≠ it) where
  mem := by simp
  obj := fun i h st b hb => by
    obtain ⟨⟨old, he⟩, ⟨o, ho, hc, hd⟩, _⟩ := st
    have e' : b = e ∨ b = it := by simpa using hb
    rcases e' with z | z
    · rw [z]; exact ⟨_, he, fun v q => nomatch q⟩
    · rw [z]; exact ⟨o, ho, fun v q => by rw [hd] at q; cases q⟩
  keep := fun i h h' st k => let ⟨⟨old, he⟩, hi, hne⟩ := st; ⟨⟨old, k e (by simp) _ he⟩, hi.at fun o q => k it (by simp) o q, hne⟩
  item := by
    intro X hP hw hK hc i pins s σ H E I hf st hg
    subst hP hw hK
    obtain ⟨⟨old, he⟩, hit, hne⟩ := st
    obtain ⟨xs, x, hq, hx⟩ := hg
    obtain ⟨its, rv, p, hz⟩ := I.tuple hq
    have hT : s.heap.IsTuple a its.toArray := p
    obtain ⟨u, hu, ru⟩ := rv.get hx
    have hel : e < s.heap.objs.size := Heap.lt_size he
    have hil : it < s.heap.objs.size := by obtain ⟨_, q, _⟩ := hit; exact Heap.lt_size q
    have hi : i < its.toArray.size := by
      have := (List.getElem?_eq_some_iff.mp hu).1
      simpa using this
    refine wpAny_pyNext_enum_itemC (Draws.tuple (A := X.A.in1) (show X.A.in1.handled = none from I.ok.hd hc) it a hai its.toArray) he ⟨hit, hT⟩ hi hne (by simp; exact ⟨hne, hea⟩) fun y h' tk hy ho ⟨hit', _⟩ hT hsz hk => ?_
    have ey : y = u := by
      have : its[i]? = some y := by simpa using hy
      rw [hu] at this; cases this; rfl
    subst ey
    refine ⟨_, rfl, wpAny_letOwnedTupleGo_enum (s := { s with heap := h', toks := tk + 1 }) ho fun h'' he' sb => ?_⟩
    have hT2 : h''.get? s.heap.objs.size = some { cls := .type "tuple", data := .seq #[.int i tk, y] } := (sb.2 _ (Nat.ne_of_gt hel)).trans hT
    have new : ObjOk X.prog X.w (L2.upd H s.heap.objs.size (.tup [.int (i : Nat), x])) h'' s.heap.objs.size (.tup [.int (i : Nat), x]) :=
      ⟨by show 2 ≤ sizeLine; decide, [.int i tk, y], .cons ⟨_, rfl⟩ (.cons ru .nil), ⟨_, hT2, rfl, _, rfl⟩⟩
    have I1 : Inv X pins σ (L2.upd H s.heap.objs.size (.tup [.int (i : Nat), x])) { s with heap := h'', toks := tk + 1 } :=
      I.turnedNew (ch := [e, it]) (fun b ob hb q => (sb.2 b (fun z => hb (by simp [z]))).trans (hk b ob (fun z => hb (by simp [z])) (fun z => hb (by simp [z])) q)) hf (Nat.le_refl _) new
    refine ⟨.ref s.heap.objs.size, _, I1, rfl, ⟨_, x, rfl, I.hok.fresh (Nat.le_refl _), rfl, fun ys hy => by rw [I.tuple_inj hy hq]; exact hx⟩, ⟨⟨y, ?_⟩, hit'.at fun o q => (sb.2 it (Ne.symm hne)).trans q, hne⟩, fun b hb => ?_⟩
    · have e1 : ((i + 1 : Nat) : Int) = (i : Int) + 1 := by omega
      rw [e1]; exact he'
    · have hb' : b < s.heap.objs.size := by
        have e' : b = e ∨ b = it := by simpa using hb
        rcases e' with z | z
        · rw [z]; exact hel
        · rw [z]; exact hil
      rw [upd_ne (Nat.ne_of_lt hb')]
      exact (hf b hb).1
  done := by
    intro X hP hw hK hc i pins s σ H E I hf st hg
    subst hP hw hK
    obtain ⟨⟨old, he⟩, hit, hne⟩ := st
    obtain ⟨xs, hq, hx⟩ := hg
    obtain ⟨its, rv, p, hz⟩ := I.tuple hq
    obtain ⟨f0, f1, f2, f3, f4, f5⟩ := hf it (by simp)
    have hl := rv.length
    have hT : s.heap.IsTuple a its.toArray := p
    have hx2 : its.toArray[i]? = none := by
      have : its.length ≤ i := by omega
      simpa using this
    exact enum_endT (show X.A.in1.handled = none from I.ok.hd hc) he hit hT hx2 fun h' eb => ⟨rfl, I.turned (t' := s.toks) (fun b o hb q => eb b o hb q) f0 f1 f3 f4 f5⟩
  self := fun A i s Q E st h => let ⟨⟨_, he⟩, _⟩ := st; wpAny_pyIter_enum he h
def iEnumZ (K : PySem.W.Frag) (ta : TA) : TI := fun σ H R => ta σ H fun vs H1 => ∃ a xs, vs = [.ref a] ∧ ((SqL K H1 a xs ∧ R (Ite K a) H1) ∨ (SqT K H1 a xs ∧ R (IteT K a) H1))
theorem pi_enumZ {X : Cx} {e : Expr} {ta : TA} {p pos tpos : Pos} {elts : List Expr} {kk : Nat} (hg : Gl X "enumerate") (hm : X.mg "enumerate" = none) (ha : PA X [e] ta) (hs : starEach [e] X.env = [(false, eval e X.env)] := by rfl) :
    PI X (.Tuple elts kk tpos) (.Call (.Name "enumerate" p) [e] [] pos) (iEnumZ X.K ta) := by
  refine ⟨fun pins s σ H R I h => ?_⟩
  refine Call_ (ld_blt I hg hm boot_enumerate (PyProof.Rows.callWith_type1 (thn (ha.run pos pins s σ H _ I h) fun us s1 ⟨vs, H1, I1, r1, q1⟩ => ?_) hs rfl))
  obtain ⟨a, xs, ex, q⟩ := q1
  subst ex
  cases r1 with
  | cons r rr =>
    cases rr
    cases r
    have fp : ∀ b ∈ [s1.heap.objs.size + 1, s1.heap.objs.size], FpOk X pins H1 b := fun b hb => by
      have e' : b = s1.heap.objs.size + 1 ∨ b = s1.heap.objs.size := by simpa using hb
      have hle : s1.heap.objs.size ≤ b := by
        rcases e' with z | z
        · rw [z]; exact Nat.le_add_right _ _
        · rw [z]; exact Nat.le_refl _
      exact I1.fpOk hle (I1.hok.fresh hle)
    rcases q with ⟨hq, q⟩ | ⟨hq, q⟩
    · obtain ⟨its, rv, p', hz⟩ := I1.list hq
      refine call_enumerate_list p'.isList fun h' he hit hsz hk => wpAny_pyIter_enum he ?_
      have I2 : Inv X pins σ H1 { s1 with heap := h' } := I1.kept (t' := s1.toks) hk
      exact ⟨s1.heap.objs.size + 1, [s1.heap.objs.size + 1, s1.heap.objs.size], _, _, H1, rfl, I2, turn_enum a (s1.heap.objs.size + 1) s1.heap.objs.size, ⟨⟨.none, he⟩, hit, Nat.succ_ne_self _⟩, fp, q⟩
    · obtain ⟨its, rv, p', hz⟩ := I1.tuple hq
      have hT : s1.heap.IsTuple a its.toArray := p'
      have hal : a < s1.heap.objs.size := by obtain ⟨o, ho, _⟩ := p'; exact Heap.lt_size ho
      refine enum_beginsZ (begins_tuple a its.toArray) hT fun h' he hit hsz hk => wpAny_pyIter_enum he ?_
      have I2 : Inv X pins σ H1 { s1 with heap := h' } := I1.kept (t' := s1.toks) hk
      exact ⟨s1.heap.objs.size + 1, [s1.heap.objs.size + 1, s1.heap.objs.size], _, _, H1, rfl, I2, turn_enumT a (s1.heap.objs.size + 1) s1.heap.objs.size (Nat.ne_of_lt hal) (Nat.ne_of_gt (Nat.lt_succ_of_lt hal)), ⟨⟨.none, he⟩, ⟨_, hit, rfl, rfl⟩, Nat.succ_ne_self _⟩, fp, q⟩
def enumD : Nat → List PyData → List PyData
  | _, [] => []
  | i, x :: xs => .tuple [.int (i : Nat), x] :: enumD (i + 1) xs
theorem enumD_len : ∀ (i : Nat) (xs : List PyData), (enumD i xs).length = xs.length
  | _, [] => rfl
  | i, _ :: xs => by simp [enumD, enumD_len (i + 1) xs]
theorem enumD_get : ∀ (k : Nat) (xs : List PyData) (i : Nat) (d : PyData), (enumD k xs)[i]? = some d → ∃ x, xs[i]? = some x ∧ d = .tuple [.int ((k + i : Nat) : Int), x]
  | _, [], _, _, h => by simp [enumD] at h
  | k, x :: xs, 0, d, h => by simp [enumD] at h; exact ⟨x, rfl, by rw [← h]; rfl⟩
  | k, x :: xs, i + 1, d, h => by
    obtain ⟨y, h1, h2⟩ := enumD_get (k + 1) xs i d (by simpa [enumD] using h)
    exact ⟨y, by simpa using h1, by rw [h2, show k + 1 + i = k + (i + 1) by omega]⟩
def gEnum : List PyData → Option (List PyData)
  | [.list xs] => some (enumD 0 xs)
  | [.tuple xs] => some (enumD 0 xs)
  | _ => none
theorem jok_enumL {K : PySem.W.Frag} {a : Addr} {xs : List PyData} : JOk K [.ref a] [.list xs] (enumD 0 xs) (Ite K a) := by
  intro Rf G ρ F σ H R rq
  cases rq with
  | cons q _ =>
    obtain ⟨a', us, e, h, zu, r⟩ := q
    cases e
    refine ⟨fun i hi => ⟨us, h, by rw [r.length]; rw [enumD_len] at hi; exact hi⟩, fun i d hd => ?_⟩
    obtain ⟨x, hx, rfl⟩ := enumD_get _ _ _ _ hd
    obtain ⟨v, hv, rv⟩ := r.get hx
    refine ⟨⟨us, v, h, hv⟩, fun z H' hz => ?_⟩
    obtain ⟨T, x', rfl, hT, rfl, e1⟩ := hz
    have e3 := e1 us h; rw [hv] at e3; cases e3
    rw [Nat.zero_add]
    obtain ⟨F2, R2, s2, q2⟩ := R.newTup hT (by show 2 ≤ sizeLine; decide) (.cons (.int _) (.cons rv .nil))
    exact ⟨F2, R2, s2, q2⟩
theorem jok_enumT {K : PySem.W.Frag} {a : Addr} {xs : List PyData} : JOk K [.ref a] [.tuple xs] (enumD 0 xs) (IteT K a) := by
  intro Rf G ρ F σ H R rq
  cases rq with
  | cons q _ =>
    obtain ⟨a', us, e, h, zu, r⟩ := q
    cases e
    refine ⟨fun i hi => ⟨us, SqT.of (R.fz _ _ h), by rw [r.length]; rw [enumD_len] at hi; exact hi⟩, fun i d hd => ?_⟩
    obtain ⟨x, hx, rfl⟩ := enumD_get _ _ _ _ hd
    obtain ⟨v, hv, rv⟩ := r.get hx
    refine ⟨⟨us, v, SqT.of (R.fz _ _ h), hv⟩, fun z H' hz => ?_⟩
    obtain ⟨T, x', rfl, hT, rfl, e1⟩ := hz
    have e3 := e1 us (SqT.of (R.fz _ _ h)); rw [hv] at e3; cases e3
    rw [Nat.zero_add]
    obtain ⟨F2, R2, s2, q2⟩ := R.newTup hT (by show 2 ≤ sizeLine; decide) (.cons (.int _) (.cons rv .nil))
    exact ⟨F2, R2, s2, q2⟩
section
variable {X : Cx} {Φ : Fns} {bf : Nat → Option Nat} {a : Expr} {x : Z.X} {p pos tpos : Pos} {elts : List Expr} {kk : Nat}
theorem ci_enum (hg : Gl X "enumerate") (hm : X.mg "enumerate" = none) (ha : CE X Φ bf a x) (hs : starEach [a] X.env = [(false, eval a X.env)] := by rfl) (he : starEach [a] X.env = (false, eval a X.env) :: starEach [] X.env := by rfl) :
    CI X Φ bf (.Tuple elts kk tpos) (.Call (.Name "enumerate" p) [a] [] pos) gEnum (.cons x .nil) := by
  refine PI.imp (pi_enumZ hg hm (pa_cons ha pa_nil he) hs) fun σ H R' h => ?_
  obtain ⟨Rf, G, ρ, F, rs, ρ', ds, items, R, e1, e2, e3, k⟩ := h
  obtain ⟨r, e4, rfl⟩ := evs1 e1
  obtain ⟨d, e5, rfl⟩ := getAll1 e2
  refine tX_opd R e4 fun v F1 H1 R1 s1 o => ?_
  have q := R1.rq o e5
  cases d <;> simp only [gEnum] at e3 <;> try cases e3
  · obtain ⟨a', us, rfl, h, z, r⟩ := q
    exact ⟨a', us, rfl, .inl ⟨h, k [.ref a'] F1 H1 _ R1 s1 (.cons o .nil) jok_enumL (by rw [enumD_len, ← r.length]; exact z)⟩⟩
  · obtain ⟨a', us, rfl, h, z, r⟩ := q
    exact ⟨a', us, rfl, .inr ⟨SqT.of (R1.fz _ _ h), k [.ref a'] F1 H1 _ R1 s1 (.cons o .nil) jok_enumT (by rw [enumD_len, ← r.length]; exact z)⟩⟩
end
end L2.Z

namespace L2.Z
open PySem PySem.Spec PyProof.Rows

def cutD {α : Type} (xs : List α) (lo hi : Option Int) : List α := (xs.drop (HT.sIx xs.length 0 lo)).take (HT.sIx xs.length xs.length hi - HT.sIx xs.length 0 lo)
def slD (d : PyData) (lo hi : Option Int) : Option (Bool × PyData) := match d with
  | .list ds => some (true, .list (cutD ds lo hi))
  | .tuple ds => some (false, .tuple (cutD ds lo hi))
  | _ => none
def pSlF : PyData → PyData → Option (Bool × PyData)
  | d, .int i => slD d (some i) none
  | _, _ => none
def pSlT : PyData → PyData → Option (Bool × PyData)
  | d, .int i => slD d none (some i)
  | _, _ => none
def pSlB : List PyData → Option (Bool × PyData)
  | [d, .int i, .int j] => slD d (some i) (some j)
  | _ => none
section
variable {K : PySem.W.Frag}
def rSlZ (K : PySem.W.Frag) : V → Option Int → Option Int → Hp → VK → Prop := fun x lo hi H Q => rSlL K x lo hi H Q ∨ rSlA K x lo hi H Q
theorem sl_Z {X : Cx} : SlR X (rSlZ X.K) := SlR.or sl_list sl_tupA
theorem rpa_cut {F : Hp} {xs : List V} {ds : List PyData} (r : RpA K F xs ds) (lo hi : Option Int) : RpA K F (cutV xs lo hi) (cutD ds lo hi) := by
  unfold cutV cutD
  rw [r.length]
  exact (r.drop _).take _
theorem ok_sl {lo hi : Option Int} : Ok1 K (fun x H Q => rSlZ K x lo hi H Q) fun d => slD d lo hi := by
  intro Rf G ρ F σ H v d n d' Q R q h k
  cases d <;> simp only [slD] at h <;> cases h
  · obtain ⟨a, xs, rfl, e, z, r⟩ := q
    refine .inl ⟨a, xs, rfl, e, fun p hp => ?_⟩
    exact k _ F _ (R.laid hp) (Same.refl _) ⟨p, rfl, R.loose_new hp, ⟨_, upd_same, Nat.le_trans (cutV_length xs lo hi) z, rpa_cut r lo hi⟩⟩
  · obtain ⟨a, xs, rfl, e, z, r⟩ := q
    rename_i ds
    refine .inr ⟨a, xs, rfl, SqT.of (R.fz _ _ e), fun hw => ?_, fun _ p hp => ?_⟩
    · have : cutD ds lo hi = ds := by
        unfold cutD
        rw [← r.length, hw.1, hw.2, List.drop_zero, Nat.sub_zero, r.length, List.take_length]
      rw [this] at k
      exact k _ F _ R (Same.refl _) (rr_val (.tup e z r))
    · obtain ⟨F2, R2, s2, q2⟩ := R.newTup hp (Nat.le_trans (cutV_length xs lo hi) z) (rpa_cut r lo hi)
      exact k _ F2 _ R2 s2 q2
theorem ok_slF : Ok2 K (fun x y H Q => ∃ i, y = .int i ∧ rSlZ K x (some i) none H Q) pSlF := by
  intro Rf G ρ F σ H v w d e n d' Q R q1 q2 h k
  cases e <;> simp only [pSlF] at h <;> try cases h
  cases q2
  exact ⟨_, rfl, ok_sl _ _ _ _ _ _ _ _ _ _ _ R q1 h k⟩
theorem ok_slT : Ok2 K (fun x y H Q => ∃ i, y = .int i ∧ rSlZ K x none (some i) H Q) pSlT := by
  intro Rf G ρ F σ H v w d e n d' Q R q1 q2 h k
  cases e <;> simp only [pSlT] at h <;> try cases h
  cases q2
  exact ⟨_, rfl, ok_sl _ _ _ _ _ _ _ _ _ _ _ R q1 h k⟩
end
section
variable {X : Cx} {Φ : Fns} {bf : Nat → Option Nat} {a b c : Expr} {x y z : Z.X} {pos p2 : Pos}
theorem ce_slF (ha : CE X Φ bf a x) (hb : CE X Φ bf b y) : CE X Φ bf (.Subscript a (.Slice (some b) none none p2) pos) (.op2 pSlF x y) :=
  ce2 ok_slF (fun ta tb h h' => pe_slice sl_Z h (po_some h') po_none) ha hb
theorem ce_slT (ha : CE X Φ bf a x) (hb : CE X Φ bf b y) : CE X Φ bf (.Subscript a (.Slice none (some b) none p2) pos) (.op2 pSlT x y) :=
  ce2 ok_slT (fun ta tb h h' => pe_slice sl_Z h po_none (po_some h')) ha hb
end
def pAdd : PyData → PyData → Option (Bool × PyData)
  | .int i, .int j => some (false, .int (i + j))
  | .tuple xs, .tuple ys => if xs.length + ys.length ≤ sizeLine then some (false, .tuple (xs ++ ys)) else none
  | .list xs, .list ys => if xs.length + ys.length ≤ sizeLine then some (true, .list (xs ++ ys)) else none
  | _, _ => none
def rCatL (K : PySem.W.Frag) : R2 := fun x y H Q => ∃ a b xs ys, x = .ref a ∧ y = .ref b ∧ SqL K H a xs ∧ SqL K H b ys ∧ xs.length + ys.length ≤ sizeLine ∧ ∀ p, H p = none → Q (.ref p) (upd H p (.lst (xs ++ ys)))
def rAddZ (K : PySem.W.Frag) : R2 := fun x y H Q => (rI0 (fun i j => .int (i + j)) x y H Q ∨ rCatA K x y H Q) ∨ rCatL K x y H Q
theorem op_catL {X : Cx} : OpR X (binaryOp .Add) (rCatL X.K) := by
  intro pins s σ H x y v u Q I rx ry h
  obtain ⟨l, b, xs, zs, rfl, rfl, hH, hB, hz, q⟩ := h
  cases rx
  cases ry
  obtain ⟨its, r, p, _⟩ := I.list hH
  obtain ⟨its2, r2, p2, _⟩ := I.list hB
  obtain ⟨⟨cls, dd, data, sl⟩, ho, hc, n, hd⟩ := id p.isList
  obtain ⟨⟨cls2, dd2, data2, sl2⟩, ho2, hc2, n2, hd2⟩ := id p2.isList
  simp only at hc hd hc2 hd2
  subst hc hd hc2 hd2
  have ea : its.toArray ++ its2.toArray = (its ++ its2).toArray := by simp
  have hsz : its.toArray.size + its2.toArray.size ≤ sizeLine := by rw [List.size_toArray, List.size_toArray, ← r.length, ← r2.length]; exact hz
  refine concat_meets ⟨_, ho, rfl⟩ ⟨_, ho2, rfl⟩ noFill_list_add seq_list_add PySem.F.slot_list_add PySem.F.entry_list_add (PySem.F.args_list_add_2 _ _) (list_addW l b its.toArray its2.toArray n n2 dd dd2 sl sl2 hsz) ⟨ho, ho2, ?_⟩
  rw [ea]
  refine ⟨.ref s.heap.objs.size, upd H s.heap.objs.size (.lst (xs ++ zs)), I.laid (t' := s.toks) (fun b ob q => Heap.get?_push_of_some _ q) (Nat.le_refl _) ⟨by rw [List.length_append]; exact hz, its ++ its2, 0, r.append r2, ?_⟩, rfl, q _ (I.hok.fresh (Nat.le_refl _))⟩
  exact Heap.get?_push_size _ rfl
theorem op_addZ {X : Cx} : OpR X (binaryOp .Add) (rAddZ X.K) := OpR.or (OpR.or op_add op_catA) op_catL
section
variable {K : PySem.W.Frag}
theorem rpa_nil {F : Hp} {ds : List PyData} (r : RpA K F [] ds) : ds = [] := by cases r; rfl
theorem ok_add : Ok2 K (rAddZ K) pAdd := by
  intro Rf G ρ F σ H v w d e n d' Q R q1 q2 h k
  cases d <;> cases e <;> simp only [pAdd] at h <;> try cases h
  · rename_i i j
    cases q1; cases q2
    exact .inl (.inl ⟨i, j, rfl, rfl, k _ F H R (Same.refl _) (rr_val (.int _))⟩)
  · rename_i ds es
    split at h
    · rename_i hz
      cases h
      obtain ⟨a, xs, rfl, e1, z1, r1⟩ := q1
      obtain ⟨b, ys, rfl, e2, z2, r2⟩ := q2
      refine .inr ⟨a, b, xs, ys, rfl, rfl, e1, e2, by rw [r1.length, r2.length]; exact hz, fun p hp => ?_⟩
      exact k _ F _ (R.laid hp) (Same.refl _) ⟨p, rfl, R.loose_new hp, ⟨_, upd_same, by rw [List.length_append, r1.length, r2.length]; exact hz, r1.append r2⟩⟩
    · cases h
  · rename_i ds es
    split at h
    · rename_i hz
      cases h
      obtain ⟨a, xs, rfl, e1, z1, r1⟩ := q1
      obtain ⟨b, ys, rfl, e2, z2, r2⟩ := q2
      refine .inl (.inr ⟨a, b, xs, ys, rfl, rfl, SqT.of (R.fz _ _ e1), SqT.of (R.fz _ _ e2), by rw [r1.length, r2.length]; exact hz, fun hx => ?_, fun _ hy => ?_, fun _ _ p hp => ?_⟩)
      · subst hx
        have := rpa_nil r1
        subst this
        exact k _ F _ R (Same.refl _) (rr_val (.tup e2 z2 r2))
      · subst hy
        have := rpa_nil r2
        subst this
        rw [List.append_nil] at k
        exact k _ F _ R (Same.refl _) (rr_val (.tup e1 z1 r1))
      · obtain ⟨F2, R2, s2, q2⟩ := R.newTup hp (by rw [List.length_append, r1.length, r2.length]; exact hz) (r1.append r2)
        exact k _ F2 _ R2 s2 q2
    · cases h
end
end L2.Z

namespace L2.Z
open PySem PySem.Spec PyProof.Rows

def notNone : PyData → Bool
  | .none => false
  | _ => true
def okMM (ds : List PyData) : Bool := ds.all (fun d => ds.all fun e => PySem.W.alike d e) && ds.all notNone && PyData.plainAll ds && decide (PyData.depthAll ds ≤ 60)
def pMaxS (c : PyData) : Option (Bool × PyData) := match itemsOf c with
  | some (d :: ds) => if okMM (d :: ds) = true then some (false, PySem.W.maxD d ds) else none
  | _ => none
def pMinS (c : PyData) : Option (Bool × PyData) := match itemsOf c with
  | some (d :: ds) => if okMM (d :: ds) = true then some (false, PySem.W.minD d ds) else none
  | _ => none
theorem fold_mem {f : PyData → PyData → PyData} (hf : ∀ a y, f a y = a ∨ f a y = y) : ∀ (ds : List PyData) (d : PyData), ds.foldl f d ∈ d :: ds
  | [], d => by simp
  | y :: ds, d => by
    have := fold_mem hf ds (f d y)
    rw [List.foldl_cons]
    rcases hf d y with e | e
    · rw [e] at this ⊢
      rcases List.mem_cons.mp this with h | h
      · rw [h]; simp
      · simp [h]
    · rw [e] at this ⊢
      rcases List.mem_cons.mp this with h | h
      · rw [h]; simp
      · simp [h]
theorem maxD_mem (d : PyData) (ds : List PyData) : PySem.W.maxD d ds ∈ d :: ds := fold_mem (fun a y => by by_cases h : PySem.W.dataLt a y = true <;> simp [h]) ds d
theorem minD_mem (d : PyData) (ds : List PyData) : PySem.W.minD d ds ∈ d :: ds := fold_mem (fun a y => by by_cases h : PySem.W.dataLt y a = true <;> simp [h]) ds d
theorem okMM_iff {ds : List PyData} (h : okMM ds = true) : PySem.W.AlikeAll ds ∧ PyData.plainAll ds = true ∧ PyData.depthAll ds ≤ 60 := by
  unfold okMM at h
  simp only [Bool.and_eq_true, List.all_eq_true, decide_eq_true_eq] at h
  obtain ⟨⟨⟨h1, h2⟩, h3⟩, h4⟩ := h
  refine ⟨⟨h1, fun x hx e => ?_⟩, h3, h4⟩
  have := h2 x hx
  subst e
  simp [notNone] at this
def rMM (K : PySem.W.Frag) (m : PyData → List PyData → PyData) : List V → Hp → VK → Prop := fun vs H Q => ∃ (a : Addr) (xs : List V) (d : PyData) (ds : List PyData), vs = [V.ref a] ∧ (SqL K H a xs ∨ SqT K H a xs) ∧ DpAll K H xs (d :: ds) ∧ okMM (d :: ds) = true ∧
  ∀ (i : Nat) (x : V), xs[i]? = some x → (d :: ds)[i]? = some (m d ds) → Q x H
theorem vals_at : ∀ {xs : List V} {its : List Value} {i : Nat} {v : Value}, Vals xs its → its[i]? = some v → ∃ x, xs[i]? = some x ∧ RelV x v
  | _, _, _, _, .nil, e => by simp at e
  | _, _, 0, _, .cons a _, e => by simp at e; subst e; exact ⟨_, rfl, a⟩
  | _, _, i + 1, v, .cons _ b, e => by
    obtain ⟨x, h1, h2⟩ := vals_at (i := i) (v := v) b (by simpa using e)
    exact ⟨x, by simpa using h1, h2⟩
theorem mm_end {X : Cx} {pins : List (Addr × Obj)} {σ : St} {H : Hp} {s : Shared} {Q : VK} (I : Inv X pins σ H s) {xs : List V} {ds : List PyData} {m : PyData} {its : List Value} (rv : Vals xs its) (hd : DpAll X.K H xs ds) (hm : m ∈ ds) (ha : PySem.W.AlikeAll ds)
    (q : ∀ (i : Nat) (x : V), xs[i]? = some x → ds[i]? = some m → Q x H) {i : Nat} {v : Value} {h' : Heap} {tk : Nat} {bs : List Addr} (hv : its.toArray[i]? = some v) (r : Reads h' v m bs) (hk : ∀ b o, s.heap.get? b = some o → h'.get? b = some o) : EP X pins σ Q v { s with heap := h', toks := tk } := by
  have I1 : Inv X pins σ H { s with heap := h', toks := tk } := I.kept hk
  obtain ⟨x, hx, rx⟩ := vals_at rv (by simpa using hv)
  obtain ⟨as, ra⟩ := Dp.readsAll I1 ds xs its hd rv
  obtain ⟨cs, rc, hi, hmem, _⟩ := PySem.W.readsAll_at ra i v (by simpa using hv)
  have e : ds.getD i .none = m := PySem.W.alike_unique _ _ _ _ _ (ha.1 _ hmem _ hm) rc r
  refine ⟨x, H, I1, rx, q i x hx ?_⟩
  rw [← e, List.getD_eq_getElem?_getD, List.getElem?_eq_getElem hi]
  rfl
theorem cr_maxS {X : Cx} (hc : X.calm = true) (hu : X.A.units + 64 < cLine) : CallR X (.builtin "max") (rMM X.K PySem.W.maxD) := by
  intro pins s σ H vs us Q I r h
  obtain ⟨a, xs, d, ds, rfl, hs, hd, ok, q⟩ := h
  rw [Vals.ref1 r]
  obtain ⟨k1, k2, k3⟩ := okMM_iff ok
  rcases hs with hs | hs
  · obtain ⟨its, rv, hl, hz⟩ := I.list hs
    obtain ⟨as, ra⟩ := Dp.readsAll I _ _ _ hd rv
    exact PySem.W.max_list_data (I.ok.hd hc) hl.isList ra k1 (by omega) fun i v h' tk bs hv rr hk => mm_end I rv hd (maxD_mem _ _) k1 q hv rr hk
  · obtain ⟨its, rv, hl, hz⟩ := I.tuple hs
    obtain ⟨as, ra⟩ := Dp.readsAll I _ _ _ hd rv
    exact PySem.W.max_tuple_data (I.ok.hd hc) (show s.heap.IsTuple a its.toArray from hl) ra k1 (by omega) fun i v h' tk bs hv rr hk => mm_end I rv hd (maxD_mem _ _) k1 q hv rr hk
theorem cr_minS {X : Cx} (hc : X.calm = true) (hu : X.A.units + 64 < cLine) : CallR X (.builtin "min") (rMM X.K PySem.W.minD) := by
  intro pins s σ H vs us Q I r h
  obtain ⟨a, xs, d, ds, rfl, hs, hd, ok, q⟩ := h
  rw [Vals.ref1 r]
  obtain ⟨k1, k2, k3⟩ := okMM_iff ok
  rcases hs with hs | hs
  · obtain ⟨its, rv, hl, hz⟩ := I.list hs
    obtain ⟨as, ra⟩ := Dp.readsAll I _ _ _ hd rv
    exact PySem.W.min_list_data (I.ok.hd hc) hl.isList ra k1 (by omega) fun i v h' tk bs hv rr hk => mm_end I rv hd (minD_mem _ _) k1 q hv rr hk
  · obtain ⟨its, rv, hl, hz⟩ := I.tuple hs
    obtain ⟨as, ra⟩ := Dp.readsAll I _ _ _ hd rv
    exact PySem.W.min_tuple_data (I.ok.hd hc) (show s.heap.IsTuple a its.toArray from hl) ra k1 (by omega) fun i v h' tk bs hv rr hk => mm_end I rv hd (minD_mem _ _) k1 q hv rr hk
section
variable {K : PySem.W.Frag}
theorem ok_mm {m : PyData → List PyData → PyData} {f : PyData → Option (Bool × PyData)} (hf : ∀ c n d', f c = some (n, d') → ∃ d ds, itemsOf c = some (d :: ds) ∧ okMM (d :: ds) = true ∧ n = false ∧ d' = m d ds) : Ok1 K (r1 (rMM K m)) f := by
  intro Rf G ρ F σ H v c n d' Q R q h k
  obtain ⟨d, ds, e1, ok, rfl, rfl⟩ := hf _ _ _ h
  obtain ⟨k1, k2, k3⟩ := okMM_iff ok
  have fin : ∀ (xs : List V), RpA K F xs (d :: ds) → ∀ (i : Nat) (x : V), xs[i]? = some x → (d :: ds)[i]? = some (m d ds) → Q x H := fun xs r i x hx hd => by
    obtain ⟨y, hy, ry⟩ := r.get hd
    rw [hx] at hy; cases hy
    exact k _ F _ R (Same.refl _) (rr_val ry)
  cases c <;> simp only [itemsOf] at e1 <;> try cases e1
  · obtain ⟨a, xs, rfl, e, z, r⟩ := q
    exact ⟨a, xs, d, ds, rfl, .inl e, (r.mono R.fz).dp k2, ok, fin xs r⟩
  · obtain ⟨a, xs, rfl, e, z, r⟩ := q
    exact ⟨a, xs, d, ds, rfl, .inr (SqT.of (R.fz _ _ e)), (r.mono R.fz).dp k2, ok, fin xs r⟩
theorem ok_maxS : Ok1 K (r1 (rMM K PySem.W.maxD)) pMaxS := ok_mm fun c n d' h => by
  unfold pMaxS at h
  split at h
  · rename_i d ds e
    split at h
    · rename_i ok; cases h; exact ⟨d, ds, e, ok, rfl, rfl⟩
    · cases h
  · cases h
theorem ok_minS : Ok1 K (r1 (rMM K PySem.W.minD)) pMinS := ok_mm fun c n d' h => by
  unfold pMinS at h
  split at h
  · rename_i d ds e
    split at h
    · rename_i ok; cases h; exact ⟨d, ds, e, ok, rfl, rfl⟩
    · cases h
  · cases h
end
end L2.Z

namespace L2.Z
open PySem PySem.Spec PyProof.Rows

def rgD (a b : Int) : List PyData := (List.range (b - a).toNat).map fun i => .int (a + (i : Nat))
instance (a b : Int) : Decidable (RgOk a b) := by unfold RgOk; infer_instance
def pTupRg2 : PyData → PyData → Option (Bool × PyData)
  | .int a, .int b => if RgOk a b then some (false, .tuple (rgD a b)) else none
  | _, _ => none
def pTupRg1 : PyData → Option (Bool × PyData)
  | .int b => if RgOk 0 b then some (false, .tuple (rgD 0 b)) else none
  | _ => none
def pLstRg2 : PyData → PyData → Option (Bool × PyData)
  | .int a, .int b => if RgOk a b then some (true, .list (rgD a b)) else none
  | _, _ => none
def pLstRg1 : PyData → Option (Bool × PyData)
  | .int b => if RgOk 0 b then some (true, .list (rgD 0 b)) else none
  | _ => none
section
variable {K : PySem.W.Frag}
theorem rpa_rg {F : Hp} (a : Int) : ∀ l : List Nat, RpA K F (l.map fun i => V.int (a + (i : Nat))) (l.map fun i => .int (a + (i : Nat)))
  | [] => .nil
  | i :: l => .cons (.int _) (rpa_rg a l)
theorem rg_size {a b : Int} (h : RgOk a b) : (rgV a b).length ≤ sizeLine := by rw [rgV_length, sizeLine_eq]; have := h.2.2.2.2; omega
theorem ok_tupRg1 : Ok1 K (fun x H Q => ∃ n, x = .int n ∧ RgOk 0 n ∧ ∀ q, H q = none → Q (.ref q) (L2.upd H q (.tup (rgV 0 n)))) pTupRg1 := by
  intro Rf G ρ F σ H v d n d' Q R q h k
  cases d <;> simp only [pTupRg1] at h <;> try cases h
  split at h
  · rename_i ok
    cases h; cases q
    refine ⟨_, rfl, ok, fun p hp => ?_⟩
    obtain ⟨F2, R2, s2, q2⟩ := R.newTup hp (rg_size ok) (rpa_rg 0 _)
    exact k _ F2 _ R2 s2 q2
  · cases h
theorem ok_lstRg1 : Ok1 K (fun x H Q => ∃ n, x = .int n ∧ RgOk 0 n ∧ ∀ q, H q = none → Q (.ref q) (L2.upd H q (.lst (rgV 0 n)))) pLstRg1 := by
  intro Rf G ρ F σ H v d n d' Q R q h k
  cases d <;> simp only [pLstRg1] at h <;> try cases h
  split at h
  · rename_i ok
    cases h; cases q
    refine ⟨_, rfl, ok, fun p hp => ?_⟩
    exact k _ F _ (R.laid hp) (Same.refl _) ⟨p, rfl, R.loose_new hp, ⟨_, upd_same, rg_size ok, rpa_rg 0 _⟩⟩
  · cases h
theorem ok_tupRg2 : Ok2 K (fun x y H Q => ∃ a b, x = .int a ∧ y = .int b ∧ RgOk a b ∧ ∀ q, H q = none → Q (.ref q) (L2.upd H q (.tup (rgV a b)))) pTupRg2 := by
  intro Rf G ρ F σ H v w d e n d' Q R q1 q2 h k
  cases d <;> cases e <;> simp only [pTupRg2] at h <;> try cases h
  split at h
  · rename_i ok
    cases h; cases q1; cases q2
    refine ⟨_, _, rfl, rfl, ok, fun p hp => ?_⟩
    obtain ⟨F2, R2, s2, q2⟩ := R.newTup hp (rg_size ok) (rpa_rg _ _)
    exact k _ F2 _ R2 s2 q2
  · cases h
theorem ok_lstRg2 : Ok2 K (fun x y H Q => ∃ a b, x = .int a ∧ y = .int b ∧ RgOk a b ∧ ∀ q, H q = none → Q (.ref q) (L2.upd H q (.lst (rgV a b)))) pLstRg2 := by
  intro Rf G ρ F σ H v w d e n d' Q R q1 q2 h k
  cases d <;> cases e <;> simp only [pLstRg2] at h <;> try cases h
  split at h
  · rename_i ok
    cases h; cases q1; cases q2
    refine ⟨_, _, rfl, rfl, ok, fun p hp => ?_⟩
    exact k _ F _ (R.laid hp) (Same.refl _) ⟨p, rfl, R.loose_new hp, ⟨_, upd_same, rg_size ok, rpa_rg _ _⟩⟩
  · cases h
end
section
variable {X : Cx} {Φ : Fns} {bf : Nat → Option Nat} {a b : Expr} {x y : Z.X} {p p2 pos pos2 : Pos}
theorem ce_tupRg1 (hg : Gl X "tuple") (hm : X.mg "tuple" = none) (hg2 : Gl X "range") (hm2 : X.mg "range" = none) (hc : X.calm = true) (ha : CE X Φ bf a x) (na : starEach [a] X.env = (false, eval a X.env) :: starEach [] X.env := by rfl)
    (nb : starEach [.Call (.Name "range" p2) [a] [] pos2] X.env = (false, eval (.Call (.Name "range" p2) [a] [] pos2) X.env) :: starEach [] X.env := by rfl) : CE X Φ bf (.Call (.Name "tuple" p) [.Call (.Name "range" p2) [a] [] pos2] [] pos) (.op1 pTupRg1 x) :=
  ce1 ok_tupRg1 (fun ta h => pe_tupRg hc hg hm (prg_1 hg2 hm2 h na) nb) ha
theorem ce_lstRg1 (hg : Gl X "list") (hm : X.mg "list" = none) (hg2 : Gl X "range") (hm2 : X.mg "range" = none) (hc : X.calm = true) (ha : CE X Φ bf a x) (na : starEach [a] X.env = (false, eval a X.env) :: starEach [] X.env := by rfl)
    (nb : starEach [.Call (.Name "range" p2) [a] [] pos2] X.env = (false, eval (.Call (.Name "range" p2) [a] [] pos2) X.env) :: starEach [] X.env := by rfl) : CE X Φ bf (.Call (.Name "list" p) [.Call (.Name "range" p2) [a] [] pos2] [] pos) (.op1 pLstRg1 x) :=
  ce1 ok_lstRg1 (fun ta h => pe_listRg hc hg hm (prg_1 hg2 hm2 h na) nb) ha
theorem ce_tupRg2 (hg : Gl X "tuple") (hm : X.mg "tuple" = none) (hg2 : Gl X "range") (hm2 : X.mg "range" = none) (hc : X.calm = true) (ha : CE X Φ bf a x) (hb : CE X Φ bf b y) (na : starEach [a, b] X.env = (false, eval a X.env) :: starEach [b] X.env := by rfl)
    (nb : starEach [b] X.env = (false, eval b X.env) :: starEach [] X.env := by rfl) (hp : (backTo pos2 (starEach [b] X.env)).any (·.1) = false := by rfl)
    (nc : starEach [.Call (.Name "range" p2) [a, b] [] pos2] X.env = (false, eval (.Call (.Name "range" p2) [a, b] [] pos2) X.env) :: starEach [] X.env := by rfl) : CE X Φ bf (.Call (.Name "tuple" p) [.Call (.Name "range" p2) [a, b] [] pos2] [] pos) (.op2 pTupRg2 x y) :=
  ce2 ok_tupRg2 (fun ta tb h h' => pe_tupRg hc hg hm (prg_2 hg2 hm2 h h' na nb hp) nc) ha hb
theorem ce_lstRg2 (hg : Gl X "list") (hm : X.mg "list" = none) (hg2 : Gl X "range") (hm2 : X.mg "range" = none) (hc : X.calm = true) (ha : CE X Φ bf a x) (hb : CE X Φ bf b y) (na : starEach [a, b] X.env = (false, eval a X.env) :: starEach [b] X.env := by rfl)
    (nb : starEach [b] X.env = (false, eval b X.env) :: starEach [] X.env := by rfl) (hp : (backTo pos2 (starEach [b] X.env)).any (·.1) = false := by rfl)
    (nc : starEach [.Call (.Name "range" p2) [a, b] [] pos2] X.env = (false, eval (.Call (.Name "range" p2) [a, b] [] pos2) X.env) :: starEach [] X.env := by rfl) : CE X Φ bf (.Call (.Name "list" p) [.Call (.Name "range" p2) [a, b] [] pos2] [] pos) (.op2 pLstRg2 x y) :=
  ce2 ok_lstRg2 (fun ta tb h h' => pe_listRg hc hg hm (prg_2 hg2 hm2 h h' na nb hp) nc) ha hb
end
end L2.Z

namespace L2.Z
open PySem PySem.Spec PyProof.Rows

def pIsTL : PyData → Option (Bool × PyData)
  | .tuple _ => some (false, .bool true)
  | .list _ => some (false, .bool true)
  | _ => some (false, .bool false)
def Is2 (T1 T2 : String) (f : PyData → Option (Bool × PyData)) : Prop := ∀ d, ∃ b c, kitB (tyD d) T1 = some b ∧ kitB (tyD d) T2 = some c ∧ f d = some (false, .bool (b || c))
theorem is_TL : Is2 "tuple" "list" pIsTL := fun d => by
  cases d
  · exact ⟨false, false, show kitB "NoneType" "tuple" = _ by decide +kernel, show kitB "NoneType" "list" = _ by decide +kernel, rfl⟩
  · exact ⟨false, false, show kitB "bool" "tuple" = _ by decide +kernel, show kitB "bool" "list" = _ by decide +kernel, rfl⟩
  · exact ⟨false, false, show kitB "int" "tuple" = _ by decide +kernel, show kitB "int" "list" = _ by decide +kernel, rfl⟩
  · exact ⟨false, false, show kitB "str" "tuple" = _ by decide +kernel, show kitB "str" "list" = _ by decide +kernel, rfl⟩
  · exact ⟨false, true, show kitB "list" "tuple" = _ by decide +kernel, show kitB "list" "list" = _ by decide +kernel, rfl⟩
  · exact ⟨true, false, show kitB "tuple" "tuple" = _ by decide +kernel, show kitB "tuple" "list" = _ by decide +kernel, rfl⟩
  · exact ⟨false, false, show kitB "dict" "tuple" = _ by decide +kernel, show kitB "dict" "list" = _ by decide +kernel, rfl⟩
theorem is_LT : Is2 "list" "tuple" pIsTL := fun d => by
  obtain ⟨b, c, h1, h2, h3⟩ := is_TL d
  exact ⟨c, b, h2, h1, by rw [h3, Bool.or_comm]⟩
section
variable {X : Cx} {Φ : Fns} {bf : Nat → Option Nat} {a : Expr} {x : Z.X} {p q1 q2 q3 pos : Pos} {kk : Nat}
theorem ce_isi2 {T1 T2 : String} {n1 n2 : Str} {f : PyData → Option (Bool × PyData)} (ok : Is2 T1 T2 f) (hv1 : bootBuiltins n1 = some (.type T1)) (hv2 : bootBuiltins n2 = some (.type T2)) (hn1 : n1 ≠ "__name__") (hn2 : n2 ≠ "__name__") (hd1 : (n1 == ("__debug__" : Str)) = false) (hd2 : (n2 == ("__debug__" : Str)) = false)
    (hm : X.mg "isinstance" = none) (hm1 : X.mg n1 = none) (hm2 : X.mg n2 = none) (hg : Gl X "isinstance") (hg1 : Gl X n1) (hg2 : Gl X n2) (ha : CE X Φ bf a x)
    (s1 : starEach [a, .Tuple [.Name n1 q1, .Name n2 q2] kk q3] X.env = (false, eval a X.env) :: starEach [.Tuple [.Name n1 q1, .Name n2 q2] kk q3] X.env := by rfl)
    (s2 : starEach [.Tuple [.Name n1 q1, .Name n2 q2] kk q3] X.env = (false, eval (.Tuple [.Name n1 q1, .Name n2 q2] kk q3) X.env) :: starEach [] X.env := by rfl)
    (s3 : starEach [.Name n1 q1, .Name n2 q2] X.env = (false, eval (.Name n1 q1) X.env) :: starEach [.Name n2 q2] X.env := by rfl) (s4 : starEach [.Name n2 q2] X.env = (false, eval (.Name n2 q2) X.env) :: starEach [] X.env := by rfl)
    (hpl : (backTo pos (starEach [.Tuple [.Name n1 q1, .Name n2 q2] kk q3] X.env)).any (·.1) = false := by rfl) :
    CE X Φ bf (.Call (.Name "isinstance" p) [a, .Tuple [.Name n1 q1, .Name n2 q2] kk q3] [] pos) (.op1 f x) := by
  refine PE.imp (pe_callB call_isiT hg hm (by decide +kernel) (pa_cons ha (pa_cons (pe_tup (pa_cons (pe_bltn (v := .ty T1) hg1 hm1 hv1 rfl hn1 hd1) (pa_cons (pe_bltn (v := .ty T2) hg2 hm2 hv2 rfl hn2 hd2) pa_nil s4) s3)) pa_nil s2) s1) (by decide) (by decide) s1 hpl) fun σ H Q h => ?_
  obtain ⟨Rf, G, ρ, F, r, ρ', R, e, k⟩ := h
  simp only [ev, Option.bind_eq_some_iff] at e
  obtain ⟨⟨ra, ρ1⟩, ea, d, ed, ⟨n, d'⟩, ef, e⟩ := e
  simp only [Option.some.injEq, Prod.mk.injEq] at e
  obtain ⟨rfl, rfl⟩ := e
  obtain ⟨b, c, h1, h2, h3⟩ := ok d
  rw [h3] at ef
  cases ef
  refine tX_opd R ea fun v F1 H1 R1 s1 o => ?_
  refine ⟨by show 2 ≤ sizeLine; decide, fun t ht => ?_⟩
  have R2 := R1.laid (o := .tup [.ty T1, .ty T2]) ht
  refine ⟨v, t, [.ty T1, .ty T2], .type (tyD d), [.type T1, .type T2], b || c, rfl, upd_same, .cons (.ty T1) (.cons (.ty T2) .nil), rq_ty R2.fz (R2.rq o ed), ?_, k _ F1 _ R2 s1 (rr_val (.bl _))⟩
  refine kitAny_cons (kit_ty h1) (fun hb => kitAny_cons (kit_ty h2) (fun hc => ?_) fun hc => ?_) fun hb => ?_
  · subst hb hc; exact kitAny_nil
  · subst hb hc; rfl
  · subst hb; rfl
end
end L2.Z

namespace L2.Z
open PySem
section
variable {i j : Int} {xs ys ds : List PyData} {d : PyData} {x : Str}
@[simp] theorem p_add : pAdd (.int i) (.int j) = some (false, .int (i + j)) := rfl
theorem p_addT (h : xs.length + ys.length ≤ sizeLine) : pAdd (.tuple xs) (.tuple ys) = some (false, .tuple (xs ++ ys)) := by simp only [pAdd, if_pos h]
theorem p_addL (h : xs.length + ys.length ≤ sizeLine) : pAdd (.list xs) (.list ys) = some (true, .list (xs ++ ys)) := by simp only [pAdd, if_pos h]
@[simp] theorem p_tupL : pTup (.list ds) = some (false, .tuple ds) := rfl
@[simp] theorem p_tupT : pTup (.tuple ds) = some (false, .tuple ds) := rfl
@[simp] theorem p_lstL : pLst (.list ds) = some (true, .list ds) := rfl
@[simp] theorem p_lstT : pLst (.tuple ds) = some (true, .list ds) := rfl
@[simp] theorem p_isTL1 : pIsTL (.tuple ds) = some (false, .bool true) := rfl
@[simp] theorem p_isTL2 : pIsTL (.list ds) = some (false, .bool true) := rfl
@[simp] theorem p_isTL3 : pIsTL (.int i) = some (false, .bool false) := rfl
@[simp] theorem p_isTupL : pIsTup (.list ds) = some (false, .bool false) := rfl
@[simp] theorem p_isTupI : pIsTup (.int i) = some (false, .bool false) := rfl
@[simp] theorem p_isLstL : pIsList (.list ds) = some (false, .bool true) := rfl
@[simp] theorem p_isLstT : pIsList (.tuple ds) = some (false, .bool false) := rfl
@[simp] theorem p_isStrS : pIsStr (.str x) = some (false, .bool true) := rfl
@[simp] theorem p_isStrI : pIsStr (.int i) = some (false, .bool false) := rfl
@[simp] theorem p_slF : pSlF d (.int i) = slD d (some i) none := rfl
@[simp] theorem p_slT : pSlT d (.int i) = slD d none (some i) := rfl
@[simp] theorem p_slD1 {lo hi : Option Int} : slD (.list ds) lo hi = some (true, .list (cutD ds lo hi)) := rfl
@[simp] theorem p_slD2 {lo hi : Option Int} : slD (.tuple ds) lo hi = some (false, .tuple (cutD ds lo hi)) := rfl
theorem p_tupRg1 (h : RgOk 0 i) : pTupRg1 (.int i) = some (false, .tuple (rgD 0 i)) := by simp only [pTupRg1, if_pos h]
theorem p_lstRg1 (h : RgOk 0 i) : pLstRg1 (.int i) = some (true, .list (rgD 0 i)) := by simp only [pLstRg1, if_pos h]
theorem p_tupRg2 (h : RgOk i j) : pTupRg2 (.int i) (.int j) = some (false, .tuple (rgD i j)) := by simp only [pTupRg2, if_pos h]
theorem p_lstRg2 (h : RgOk i j) : pLstRg2 (.int i) (.int j) = some (true, .list (rgD i j)) := by simp only [pLstRg2, if_pos h]
theorem pne_int : pNe (.int i) (.int j) = some (false, .bool (!decide (i = j))) := by
  simp [pNe, okEq, PyData.plain, PyData.depth, PyData.eqv]
  by_cases h : i = j <;> simp [h]
theorem peq_int : pEq (.int i) (.int j) = some (false, .bool (decide (i = j))) := by
  simp [pEq, okEq, PyData.plain, PyData.depth, PyData.eqv]
  by_cases h : i = j <;> simp [h]
end
end L2.Z

namespace L2.Z
open PySem PySem.Spec PyProof.Rows

section
variable {K : PySem.W.Frag}
def pSumA (c : PyData) : Option (Bool × PyData) := (itemsOf c).bind fun ds => (intsOf ds).bind fun bs => some (false, .int bs.sum)
def rSumA (K : PySem.W.Frag) : List V → Hp → VK → Prop := fun vs H Q => ∃ (a : Addr) (ns : List Int), vs = [V.ref a] ∧ (SqL K H a (ns.map V.int) ∨ SqT K H a (ns.map V.int)) ∧ Q (.int ns.sum) H
theorem cr_sumA {X : Cx} (hc : X.calm = true) : CallR X (.builtin "sum") (rSumA X.K) := by
  intro pins s σ H vs us Q I r h
  obtain ⟨a, ns, rfl, hs, q⟩ := h
  rcases hs with hs | hs
  · exact cr_sum hc pins s σ H _ us Q I r ⟨a, ns, rfl, hs, q⟩
  · obtain ⟨its, rv, hl, _⟩ := I.tuple hs
    rw [Vals.ref1 r]
    have hi : IntsAre its ns := rv.ints
    have hl : s.heap.IsTuple a its.toArray := hl
    obtain ⟨xs, hx⟩ := (show IntsAre its.toArray.toList ns by simpa using hi).allInts.items
    have hn : numsOf its.toArray.toList = ns := by rw [show its.toArray.toList = its from rfl, hi.numsOf]
    rw [hx] at hl hn
    rw [nums_intItems] at hn
    refine PySem.W.ktm_sumG (I.ok.hd hc) hl fun h' tk t' hk => ?_
    rw [preSum_eq, List.take_of_length_le (by simp), hn]
    exact ⟨.int _, H, I.kept hk, ⟨_, rfl⟩, q⟩
theorem ok_sumA : Ok1 K (r1 (rSumA K)) pSumA := by
  intro Rf G ρ F σ H v d n d' Q R q h k
  simp only [pSumA, Option.bind_eq_some_iff] at h
  obtain ⟨ds, hi, bs, hb, h⟩ := h
  cases h
  have fin := k (.int bs.sum) F H R (Same.refl _) (rr_val (.int _))
  cases d <;> simp only [itemsOf] at hi <;> cases hi
  · obtain ⟨a, xs, rfl, e, _, r⟩ := q
    rw [rpa_ints r hb] at e
    exact ⟨a, bs, rfl, .inl e, fin⟩
  · obtain ⟨a, xs, rfl, e, _, r⟩ := q
    rw [rpa_ints r hb] at e
    exact ⟨a, bs, rfl, .inr (SqT.of (R.fz _ _ e)), fin⟩

def okFind (d : PyData) (ds : List PyData) : Bool := d.plain && PyData.plainAll ds && decide (min (PyData.depthAll ds) d.depth ≤ 60)
def pIndex : PyData → PyData → Option (Bool × PyData)
  | .list ds, d => if okFind d ds = true then (ds.findIdx? fun y => PyData.eqv y d).bind fun j => some (false, .int (j : Nat)) else none
  | _, _ => none
def pCount : PyData → PyData → Option (Bool × PyData)
  | .list ds, d => if okFind d ds = true then some (false, .int ((ds.countP fun y => PyData.eqv y d : Nat) : Int)) else none
  | _, _ => none
theorem okFind_iff {d : PyData} {ds : List PyData} : okFind d ds = true ↔ d.plain = true ∧ PyData.plainAll ds = true ∧ min (PyData.depthAll ds) d.depth ≤ 60 := by
  unfold okFind
  rw [Bool.and_eq_true, Bool.and_eq_true, decide_eq_true_eq, and_assoc]
def rIndexD (K : PySem.W.Frag) : V → List V → Hp → VK → Prop := fun x xs H Q => ∃ (a : Addr) (ys : List V) (y : V) (ds : List PyData) (d : PyData) (j : Nat), x = V.ref a ∧ xs = [y] ∧ SqL K H a ys ∧ DpAll K H ys ds ∧ Dp K H y d ∧ okFind d ds = true ∧
  ds.findIdx? (fun y => PyData.eqv y d) = some j ∧ Q (.int (j : Nat)) H
def rCountD (K : PySem.W.Frag) : V → List V → Hp → VK → Prop := fun x xs H Q => ∃ (a : Addr) (ys : List V) (y : V) (ds : List PyData) (d : PyData), x = V.ref a ∧ xs = [y] ∧ SqL K H a ys ∧ DpAll K H ys ds ∧ Dp K H y d ∧ okFind d ds = true ∧
  Q (.int ((ds.countP fun y => PyData.eqv y d : Nat) : Int)) H
theorem mt_countD {X : Cx} (hu : X.A.units + 64 < cLine) : MtR X "list.count" (rCountD X.K) := by
  intro pins s σ H x xs v us Q I rx rxs h
  obtain ⟨a, ys, y, ds, d, rfl, rfl, hs, hds, hd, ok, q⟩ := h
  cases rx
  obtain ⟨u, rfl, ru⟩ := rxs.one
  obtain ⟨its, rv, hl, hz⟩ := I.list hs
  obtain ⟨as, ra⟩ := Dp.readsAll I _ _ _ hds rv
  obtain ⟨bs, rb⟩ := Dp.reads I _ _ _ hd ru
  obtain ⟨k1, k2, k3⟩ := okFind_iff.mp ok
  exact PySem.SeqAt.count_list_data (vs := its.toArray) hl.isList (by simpa using ra) rb k2 k1 (by omega) ⟨.int _, H, I.tok _, ⟨_, rfl⟩, q⟩
theorem mt_indexD {X : Cx} (hu : X.A.units + 64 < cLine) : MtR X "list.index" (rIndexD X.K) := by
  intro pins s σ H x xs v us Q I rx rxs h
  obtain ⟨a, ys, y, ds, d, j, rfl, rfl, hs, hds, hd, ok, hj, q⟩ := h
  cases rx
  obtain ⟨u, rfl, ru⟩ := rxs.one
  obtain ⟨its, rv, hl, hz⟩ := I.list hs
  obtain ⟨as, ra⟩ := Dp.readsAll I _ _ _ hds rv
  obtain ⟨bs, rb⟩ := Dp.reads I _ _ _ hd ru
  obtain ⟨k1, k2, k3⟩ := okFind_iff.mp ok
  have ra' : ReadsAll s.heap its.toArray.toList ds as := by simpa using ra
  obtain ⟨hj', hit, hno⟩ := PySem.SeqAt.hit_at (vs := its.toArray) ra' k2 hj
  have hlen := rv.length
  obtain ⟨⟨cls, dd, data, sl⟩, n, ho, hc, hdn, hd'⟩ := hl
  simp only at hc hd'
  subst hc hd'
  exact call_meets PySem.F.slot_list_index ⟨_, ho, rfl⟩ PySem.F.entry_list_index (PySem.F.args_list_index_2 _ _)
    (PySem.SeqAt.list_indexAt a its.toArray n dd sl u _ j hj' (by rw [sizeLine_eq] at hz; simp at hj'; omega) hit hno) ⟨ho, PySem.SeqAt.items_plain ra' rb k2 k1 (by omega), ⟨.int _, H, I.tok _, ⟨_, rfl⟩, q⟩⟩
end
end L2.Z

namespace L2.Z
open PySem PySem.Spec PyProof.Rows

section
variable {K : PySem.W.Frag}
/-- what a method's rule r by values is worth -/
structure OkM (K : PySem.W.Frag) (T : String) (chk : PyData → Bool) (r : V → List V → Hp → VK → Prop) (f : PyData → List PyData → Option (Bool × PyData)) : Prop where
  ty : ∀ (F H : Hp) (v : V) (d : PyData), chk d = true → Rq K F H v d → tyV K T v H
  ok : ∀ (Rf : Nat → Option Addr) (G : Hp) (ρ : Ev) (F : Hp) (σ : St) (H : Hp) (v : V) (d : PyData) (vs : List V) (ds : List PyData) (n : Bool) (d' : PyData) (Q : VK),
    SR K Rf G ρ F σ H → Rq K F H v d → RqA K F H vs ds → f d ds = some (n, d') → (∀ v' F' H', SR K Rf G ρ F' σ H' → Same F F' → RR K G ρ F' σ H' v' (mkR n d') → Q v' H') → r v vs H Q
theorem redM {Φ : Fns} {bf : Nat → Option Nat} {T : String} {chk : PyData → Bool} {r : V → List V → Hp → VK → Prop} {f : PyData → List PyData → Option (Bool × PyData)} (ok : OkM K T chk r f) {x : Z.X} {xs : Xs} {σ : St} {H : Hp} {Q : VK}
    (h : tX K (ev Φ bf (.meth chk f x xs)) σ H Q) : tX K (ev Φ bf x) σ H fun v H1 => tyV K T v H1 ∧ tOs K (evs Φ bf xs) σ H1 fun vs H2 => r v vs H2 Q := by
  obtain ⟨Rf, G, ρ, F, res, ρ', R, e, k⟩ := h
  simp only [ev, Option.bind_eq_some_iff] at e
  obtain ⟨⟨ra, ρ1⟩, ea, d0, e0, e⟩ := e
  split at e
  · rename_i hc
    simp only [Option.bind_eq_some_iff] at e
    obtain ⟨⟨rs, ρ2⟩, eb, d, ed, ds, eds, ⟨n, d'⟩, ef, e⟩ := e
    simp only [Option.some.injEq, Prod.mk.injEq] at e
    obtain ⟨rfl, rfl⟩ := e
    refine tX_opd R ea fun v F1 H1 R1 s1 o => ⟨ok.ty _ _ _ _ hc (R1.rq o e0), Rf, G, ρ1, F1, rs, ρ2, R1, eb, fun vs F2 H2 R2 s2 os => ?_⟩
    exact ok.ok _ _ _ _ _ _ _ _ _ _ _ _ _ R2 (R2.rq (o.mono s2) ed) (R2.rqs os eds) ef fun v' F' H' R' s' q => k v' F' H' R' (s1.trans (s2.trans s')) q
  · cases e
end
section
variable {X : Cx} {Φ : Fns} {bf : Nat → Option Nat} {o e : Expr} {es : List Expr} {x : Z.X} {xs : Xs} {name : Str} {apos cpos : Pos} {T id : String} {r : V → List V → Hp → VK → Prop} {chk : PyData → Bool} {f : PyData → List PyData → Option (Bool × PyData)}
theorem ce_meth (ok : OkM X.K T chk r f) (pa : PlainAttrs T) (slot : PySem.Slot T name id) (hty : typeOf (.builtin id) = pure (.type "method_descriptor")) (hm : MtR X id r) (ho : CE X Φ bf o x) (ha : CA X Φ bf (e :: es) xs)
    (hbase : attributeBase o name X.env (eval o X.env) = eval o X.env := by rfl)
    (hfew : ((backTo cpos (starEach (e :: es) X.env)).all (fun x => !x.1) && (backToKw cpos (keywordEach [] X.env)).all (fun x => x.1.isSome)
      && decide ((e :: es).length + ([] : List Keyword).length + (if ([] : List Keyword).isEmpty then 0 else 1) < 30)) = true := by rfl)
    (hline : (apos.endLine == cpos.line) = true := by rfl) (hs : starEach (e :: es) X.env = (false, eval e X.env) :: starEach es X.env := by rfl) (hplain : (backTo cpos (starEach es X.env)).any (·.1) = false := by rfl) :
    CE X Φ bf (.Call (.Attribute o name apos) (e :: es) [] cpos) (.meth chk f x xs) :=
  PE.imp (pe_bm pa slot hty hm ho ha hbase hfew hline hs hplain) fun σ H Q h => redM ok h
theorem ce_dnew {pos : Pos} : CE X Φ bf (.Dict [] [] pos) .dnew := by
  refine PE.imp pe_dnewK fun σ H Q h => ?_
  obtain ⟨Rf, G, ρ, F, res, ρ', R, e, k⟩ := h
  simp only [ev, Option.some.injEq, Prod.mk.injEq] at e
  obtain ⟨rfl, rfl⟩ := e
  intro p hp
  exact k _ F _ (R.laid hp) (Same.refl _) ⟨p, rfl, R.loose_new hp, .inl ⟨[], upd_same, Nat.zero_le _, rfl, .nil⟩⟩
end

def isDct : PyData → Bool
  | .dict _ => true
  | _ => false
def isLst : PyData → Bool
  | .list _ => true
  | _ => false
/-- no container that may change -/
def flat : PyData → Bool
  | .list _ => false
  | .dict _ => false
  | _ => true
def pGet : PyData → List PyData → Option (Bool × PyData)
  | .dict kvs, [k] => (dGetP kvs k).bind fun o => some (false, o.getD .none)
  | .dict kvs, [k, d] => if flat d = true then (dGetP kvs k).bind fun o => some (false, o.getD d) else none
  | _, _ => none
def pIndexM : PyData → List PyData → Option (Bool × PyData)
  | c, [d] => pIndex c d
  | _, _ => none
def pCountM : PyData → List PyData → Option (Bool × PyData)
  | c, [d] => pCount c d
  | _, _ => none
section
variable {K : PySem.W.Frag} {F H : Hp}
theorem Rq.flat {v : V} {d : PyData} (q : Rq K F H v d) (h : flat d = true) : Rp K F v d := by
  cases d with
  | list _ => cases h
  | dict _ => cases h
  | tuple ds => obtain ⟨a, xs, rfl, e, z, r⟩ := q; exact .tup e z r
  | none => cases q; exact .non
  | bool b => cases q; exact .bl b
  | int i => cases q; exact .int i
  | str x => cases q; exact .str x
theorem ty_dct {v : V} {d : PyData} (h : isDct d = true) (q : Rq K F H v d) : tyV K "dict" v H := by
  cases d with
  | dict kvs =>
    obtain ⟨a, rfl, m⟩ := q
    rcases m with ⟨ps, e, _⟩ | ⟨ps, e, _⟩
    · exact .inr (.inr (.inl ⟨rfl, .inl ⟨_, e⟩⟩))
    · exact .inr (.inr (.inl ⟨rfl, .inr ⟨_, e⟩⟩))
  | _ => cases h
theorem ty_lst {v : V} {d : PyData} (h : isLst d = true) (q : Rq K F H v d) : tyV K "list" v H := by
  cases d with
  | list ds =>
    obtain ⟨a, xs, rfl, e, _⟩ := q
    exact .inl ⟨rfl, _, e⟩
  | _ => cases h
theorem ok_get : OkM K "dict" isDct rGetDZ pGet where
  ty := fun _ _ _ _ h q => ty_dct h q
  ok := by
    intro Rf G ρ F σ H v d vs ds n d' Q R q qs h k
    cases d with
    | dict kvs =>
      obtain ⟨a, rfl, m⟩ := q
      match ds, h, qs with
      | [e], h, .cons q1 .nil =>
        simp only [pGet, Option.bind_eq_some_iff] at h
        obtain ⟨o, h1, h2⟩ := h
        cases h2
        obtain ⟨o', g, r⟩ := dget_ok R.fz m (rq_keyV q1 (dGetP_kinds h1)) h1
        refine ⟨a, _, o', rfl, g, .inl ⟨rfl, k _ F H R (Same.refl _) ?_⟩⟩
        cases o' <;> cases o <;> first | exact r.elim | exact rr_val .non | exact rr_val r
      | [e, e2], h, .cons q1 (.cons q2 .nil) =>
        simp only [pGet] at h
        split at h
        · rename_i hf
          simp only [Option.bind_eq_some_iff] at h
          obtain ⟨o, h1, h2⟩ := h
          cases h2
          obtain ⟨o', g, r⟩ := dget_ok R.fz m (rq_keyV q1 (dGetP_kinds h1)) h1
          refine ⟨a, _, o', rfl, g, .inr ⟨_, rfl, k _ F H R (Same.refl _) ?_⟩⟩
          cases o' <;> cases o <;> first | exact r.elim | exact rr_val (q2.flat hf) | exact rr_val r
        · cases h
      | [], h, _ => simp only [pGet] at h; cases h
      | _ :: _ :: _ :: _, h, _ => simp only [pGet] at h; cases h
    | _ => simp only [pGet] at h; cases h
theorem findM (s : Same F H) {v : V} {ds : List PyData} (q : Rq K F H v (.list ds)) (hp : PyData.plainAll ds = true) : ∃ a ys, v = .ref a ∧ SqL K H a ys ∧ DpAll K H ys ds := by
  obtain ⟨a, xs, rfl, e, _, r⟩ := q
  exact ⟨a, xs, rfl, e, (r.mono s).dp hp⟩
theorem ok_indexM : OkM K "list" isLst (rIndexD K) pIndexM where
  ty := fun _ _ _ _ h q => ty_lst h q
  ok := by
    intro Rf G ρ F σ H v d vs ds n d' Q R q qs h k
    match ds, h, qs with
    | [e], h, .cons q1 .nil =>
      cases d with
      | list ds =>
        simp only [pIndexM, pIndex] at h
        split at h
        · rename_i hk
          simp only [Option.bind_eq_some_iff] at h
          obtain ⟨j, h1, h2⟩ := h
          cases h2
          obtain ⟨k1, k2, k3⟩ := okFind_iff.mp hk
          obtain ⟨a, ys, rfl, e1, e2⟩ := findM R.fz q k2
          exact ⟨a, ys, _, ds, e, j, rfl, rfl, e1, e2, (q1.rp R.fz).dp k1, hk, h1, k _ F H R (Same.refl _) (rr_val (.int _))⟩
        · cases h
      | _ => simp only [pIndexM, pIndex] at h; cases h
    | [], h, _ => simp only [pIndexM] at h; cases h
    | _ :: _ :: _, h, _ => simp only [pIndexM] at h; cases h
theorem ok_countM : OkM K "list" isLst (rCountD K) pCountM where
  ty := fun _ _ _ _ h q => ty_lst h q
  ok := by
    intro Rf G ρ F σ H v d vs ds n d' Q R q qs h k
    match ds, h, qs with
    | [e], h, .cons q1 .nil =>
      cases d with
      | list ds =>
        simp only [pCountM, pCount] at h
        split at h
        · rename_i hk
          cases h
          obtain ⟨k1, k2, k3⟩ := okFind_iff.mp hk
          obtain ⟨a, ys, rfl, e1, e2⟩ := findM R.fz q k2
          exact ⟨a, ys, _, ds, e, rfl, rfl, e1, e2, (q1.rp R.fz).dp k1, hk, k _ F H R (Same.refl _) (rr_val (.int _))⟩
        · cases h
      | _ => simp only [pCountM, pCount] at h; cases h
    | [], h, _ => simp only [pCountM] at h; cases h
    | _ :: _ :: _, h, _ => simp only [pCountM] at h; cases h
end
section
variable {X : Cx} {Φ : Fns} {bf : Nat → Option Nat} {o e : Expr} {es : List Expr} {x : Z.X} {xs : Xs} {apos cpos : Pos}
theorem ce_get (hu : X.A.units + 64 < cLine) (ho : CE X Φ bf o x) (ha : CA X Φ bf (e :: es) xs)
    (hbase : attributeBase o "get" X.env (eval o X.env) = eval o X.env := by rfl)
    (hfew : ((backTo cpos (starEach (e :: es) X.env)).all (fun x => !x.1) && (backToKw cpos (keywordEach [] X.env)).all (fun x => x.1.isSome)
      && decide ((e :: es).length + ([] : List Keyword).length + (if ([] : List Keyword).isEmpty then 0 else 1) < 30)) = true := by rfl)
    (hline : (apos.endLine == cpos.line) = true := by rfl) (hs : starEach (e :: es) X.env = (false, eval e X.env) :: starEach es X.env := by rfl) (hplain : (backTo cpos (starEach es X.env)).any (·.1) = false := by rfl) :
    CE X Φ bf (.Call (.Attribute o "get" apos) (e :: es) [] cpos) (.meth isDct pGet x xs) := ce_meth ok_get PySem.F.plainAttrs_dict PySem.F.slot_dict_get PySem.F.type_dict_get (mt_getDZ hu) ho ha hbase hfew hline hs hplain
theorem ce_index (hu : X.A.units + 64 < cLine) (ho : CE X Φ bf o x) (ha : CA X Φ bf (e :: es) xs)
    (hbase : attributeBase o "index" X.env (eval o X.env) = eval o X.env := by rfl)
    (hfew : ((backTo cpos (starEach (e :: es) X.env)).all (fun x => !x.1) && (backToKw cpos (keywordEach [] X.env)).all (fun x => x.1.isSome)
      && decide ((e :: es).length + ([] : List Keyword).length + (if ([] : List Keyword).isEmpty then 0 else 1) < 30)) = true := by rfl)
    (hline : (apos.endLine == cpos.line) = true := by rfl) (hs : starEach (e :: es) X.env = (false, eval e X.env) :: starEach es X.env := by rfl) (hplain : (backTo cpos (starEach es X.env)).any (·.1) = false := by rfl) :
    CE X Φ bf (.Call (.Attribute o "index" apos) (e :: es) [] cpos) (.meth isLst pIndexM x xs) := ce_meth ok_indexM PySem.F.plainAttrs_list PySem.F.slot_list_index PySem.F.type_list_index (mt_indexD hu) ho ha hbase hfew hline hs hplain
theorem ce_count (hu : X.A.units + 64 < cLine) (ho : CE X Φ bf o x) (ha : CA X Φ bf (e :: es) xs)
    (hbase : attributeBase o "count" X.env (eval o X.env) = eval o X.env := by rfl)
    (hfew : ((backTo cpos (starEach (e :: es) X.env)).all (fun x => !x.1) && (backToKw cpos (keywordEach [] X.env)).all (fun x => x.1.isSome)
      && decide ((e :: es).length + ([] : List Keyword).length + (if ([] : List Keyword).isEmpty then 0 else 1) < 30)) = true := by rfl)
    (hline : (apos.endLine == cpos.line) = true := by rfl) (hs : starEach (e :: es) X.env = (false, eval e X.env) :: starEach es X.env := by rfl) (hplain : (backTo cpos (starEach es X.env)).any (·.1) = false := by rfl) :
    CE X Φ bf (.Call (.Attribute o "count" apos) (e :: es) [] cpos) (.meth isLst pCountM x xs) := ce_meth ok_countM PySem.F.plainAttrs_list PySem.F.slot_list_count PySem.F.type_list_count (mt_countD hu) ho ha hbase hfew hline hs hplain
end
@[simp] theorem z_dnew {Φ : Fns} {bf : Nat → Option Nat} {ρ : Ev} : ev Φ bf .dnew ρ = some (.new (.dict []), ρ) := by simp only [ev]
@[simp] theorem z_meth {Φ : Fns} {bf : Nat → Option Nat} {ρ : Ev} {chk : PyData → Bool} {f : PyData → List PyData → Option (Bool × PyData)} {a : Z.X} {as : Xs} : ev Φ bf (.meth chk f a as) ρ = (ev Φ bf a ρ).bind fun p => (p.1.get p.2).bind fun d0 => if chk d0 = true then (evs Φ bf as p.2).bind fun q => (p.1.get q.2).bind fun d => (getAll q.2 q.1).bind fun ds => (f d ds).bind fun z => some (mkR z.1 z.2, q.2) else none := by simp only [ev] <;> rfl
end L2.Z

namespace L2.Z
open PySem PySem.Spec PyProof.Rows

def pairsD : List PyData → Option (List (PyData × PyData))
  | [] => some []
  | .tuple [k, v] :: ds => if isK k = true then (pairsD ds).bind fun r => some ((k, v) :: r) else none
  | _ :: _ => none
def dMerge (acc kvs : List (PyData × PyData)) : List (PyData × PyData) := kvs.foldl (fun a p => dPut a p.1 p.2) acc
def pDictP : PyData → Option (Bool × PyData)
  | .list ds => (pairsD ds).bind fun kvs => some (true, .dict (dMerge [] kvs))
  | _ => none
def rDictP (K : PySem.W.Frag) : List V → Hp → VK → Prop := fun xs H Q => ∃ (a : Addr) (ps : List Addr) (kvs : List (Key × V)), xs = [.ref a] ∧ SqL K H a (ps.map V.ref) ∧ Paired (fun p kv => SqT K H p [kV kv.1, kv.2]) ps kvs ∧
    ∀ p, H p = none → Q (.ref p) (L2.upd H p (.dK (mergeK [] kvs)))
section
variable {K : PySem.W.Frag} {F H : Hp}
theorem rpa_pairs : ∀ {xs : List V} {ds : List PyData} {kvs : List (PyData × PyData)}, RpA K F xs ds → pairsD ds = some kvs →
    ∃ (ps : List Addr) (vs : List (Key × V)), xs = ps.map V.ref ∧ Paired (fun p kv => F p = some (.tup [kV kv.1, kv.2])) ps vs ∧ kvs.map Prod.fst = vs.map (fun p => kD p.1) ∧ RpA K F (vs.map Prod.snd) (kvs.map Prod.snd)
  | [], _, kvs, .nil, e => by
    simp only [pairsD] at e; cases e; exact ⟨[], [], rfl, .nil, rfl, .nil⟩
  | x :: xs, d :: ds, kvs, .cons r t, e => by
    unfold pairsD at e
    split at e
    · rename_i h; cases h
    · rename_i k v ds' h
      cases h
      split at e
      · rename_i hk
        simp only [Option.bind_eq_some_iff] at e
        obtain ⟨r', e1, e2⟩ := e
        cases e2
        obtain ⟨ps, vs, h1, h2, h3, h4⟩ := rpa_pairs t e1
        obtain ⟨key, rfl⟩ := isK_some hk
        cases r with
        | tup q z e =>
          rename_i a ys
          match ys, q, e with
          | [y1, y2], q, .cons rk (.cons rv .nil) =>
            have e3 : y1 = kV key := by cases key <;> cases rk <;> rfl
            subst e3
            exact ⟨a :: ps, (key, y2) :: vs, by rw [h1]; rfl, .cons q h2, by simp [h3], .cons rv h4⟩
      · cases e
    · cases e
theorem merge_rel : ∀ {vs : List (Key × V)} {kvs : List (PyData × PyData)} {acc : List (Key × V)} {accd : List (PyData × PyData)}, kvs.map Prod.fst = vs.map (fun p => kD p.1) → RpA K F (vs.map Prod.snd) (kvs.map Prod.snd) →
    accd.map Prod.fst = acc.map (fun p => kD p.1) → RpA K F (acc.map Prod.snd) (accd.map Prod.snd) → (dMerge accd kvs).map Prod.fst = (mergeK acc vs).map (fun p => kD p.1) ∧ RpA K F ((mergeK acc vs).map Prod.snd) ((dMerge accd kvs).map Prod.snd)
  | [], [], _, _, _, _, h3, h4 => ⟨h3, h4⟩
  | [], _ :: _, _, _, h, _, _, _ => by simp at h
  | _ :: _, [], _, _, h, _, _, _ => by simp at h
  | p :: vs, q :: kvs, acc, accd, h1, h2, h3, h4 => by
    simp only [List.map_cons, List.cons.injEq] at h1
    cases h2 with
    | cons a b =>
      obtain ⟨i1, i2⟩ := put_rel (ps := acc) (kvs := accd) kD keyEq_K p.1 a h3 h4
      rw [← h1.1] at i1 i2
      exact merge_rel (vs := vs) (kvs := kvs) (acc := putK acc p.1 p.2) (accd := dPut accd q.1 q.2) h1.2 b i1 i2
theorem ok_dictP : Ok1 K (r1 (rDictP K)) pDictP := by
  intro Rf G ρ F σ H v d n d' Q R q h k
  cases d <;> simp only [pDictP] at h <;> try cases h
  rename_i ds
  simp only [Option.bind_eq_some_iff] at h
  obtain ⟨kvs, e1, e2⟩ := h
  cases e2
  obtain ⟨a, xs, rfl, e, z, r⟩ := q
  obtain ⟨ps, vs, rfl, h2, h3, h4⟩ := rpa_pairs r e1
  have hl : ps.length = vs.length := Paired.length h2
  rw [List.length_map] at z
  refine ⟨a, ps, vs, rfl, e, ?_, fun p hp => ?_⟩
  · have : ∀ {ps : List Addr} {vs : List (Key × V)}, Paired (fun p kv => F p = some (.tup [kV kv.1, kv.2])) ps vs → Paired (fun p kv => SqT K H p [kV kv.1, kv.2]) ps vs := by
      intro ps vs h
      induction h with
      | nil => exact .nil
      | cons a b ih => exact .cons (SqT.of (R.fz _ _ a)) ih
    exact this h2
  · obtain ⟨m1, m2⟩ := merge_rel (acc := []) (accd := []) h3 h4 rfl .nil
    have := length_mergeK vs []
    simp only [List.length_nil, Nat.zero_add] at this
    exact k _ F _ (R.laid hp) (Same.refl _) ⟨p, rfl, R.loose_new hp, .inl ⟨_, upd_same, by omega, m1, m2⟩⟩
end

def isKs (kvs : List (PyData × PyData)) : Bool := kvs.all fun p => isK p.1
def pMaxV : PyData → Option (Bool × PyData)
  | .dict kvs => if isKs kvs = true then (intsOf (kvs.map Prod.snd)).bind fun is => (match is with
    | i :: is => some (false, .int (is.foldl max i))
    | [] => none) else none
  | _ => none
def pMinV : PyData → Option (Bool × PyData)
  | .dict kvs => if isKs kvs = true then (intsOf (kvs.map Prod.snd)).bind fun is => (match is with
    | i :: is => some (false, .int (is.foldl min i))
    | [] => none) else none
  | _ => none
def rMaxV : V → Hp → VK → Prop := fun x H Q => ∃ a kvs is, x = V.ref a ∧ H a = some (.dK kvs) ∧ kvs.map (·.2) = is.map V.int ∧ is ≠ [] ∧ ∀ m, m ∈ is → (∀ j ∈ is, j ≤ m) → Q (.int m) H
def rMinV : V → Hp → VK → Prop := fun x H Q => ∃ a kvs is, x = V.ref a ∧ H a = some (.dK kvs) ∧ kvs.map (·.2) = is.map V.int ∧ is ≠ [] ∧ ∀ m, m ∈ is → (∀ j ∈ is, m ≤ j) → Q (.int m) H
theorem fmax_le : ∀ (is : List Int) (i : Int), i ≤ is.foldl max i ∧ ∀ j ∈ is, j ≤ is.foldl max i
  | [], i => ⟨Int.le_refl _, fun _ h => by cases h⟩
  | x :: is, i => by
    obtain ⟨h1, h2⟩ := fmax_le is (max i x)
    rw [List.foldl_cons]
    refine ⟨by omega, fun j hj => ?_⟩
    rcases List.mem_cons.mp hj with rfl | hj
    · omega
    · exact h2 j hj
theorem fmax_mem : ∀ (is : List Int) (i : Int), is.foldl max i ∈ i :: is
  | [], i => by simp
  | x :: is, i => by
    have := fmax_mem is (max i x)
    rw [List.foldl_cons]
    rcases List.mem_cons.mp this with h | h
    · rw [h]
      rcases Int.le_total i x with z | z
      · rw [Int.max_eq_right z]; simp
      · rw [Int.max_eq_left z]; simp
    · simp [h]
theorem fmin_le : ∀ (is : List Int) (i : Int), is.foldl min i ≤ i ∧ ∀ j ∈ is, is.foldl min i ≤ j
  | [], i => ⟨Int.le_refl _, fun _ h => by cases h⟩
  | x :: is, i => by
    obtain ⟨h1, h2⟩ := fmin_le is (min i x)
    rw [List.foldl_cons]
    refine ⟨by omega, fun j hj => ?_⟩
    rcases List.mem_cons.mp hj with rfl | hj
    · omega
    · exact h2 j hj
theorem fmin_mem : ∀ (is : List Int) (i : Int), is.foldl min i ∈ i :: is
  | [], i => by simp
  | x :: is, i => by
    have := fmin_mem is (min i x)
    rw [List.foldl_cons]
    rcases List.mem_cons.mp this with h | h
    · rw [h]
      rcases Int.le_total i x with z | z
      · rw [Int.min_eq_left z]; simp
      · rw [Int.min_eq_right z]; simp
    · simp [h]
section
variable {K : PySem.W.Frag} {F H : Hp}
theorem mutK {a : Addr} {kvs : List (PyData × PyData)} (m : MutAt K F H a (.dict kvs)) (hk : isKs kvs = true) (hn : kvs ≠ []) : ∃ ps : List (Key × V), H a = some (.dK ps) ∧ ps.length ≤ sizeLine ∧ kvs.map Prod.fst = ps.map (fun p => kD p.1) ∧ RpA K F (ps.map Prod.snd) (kvs.map Prod.snd) := by
  rcases m with m | ⟨ps, e, z, ek, r⟩
  · exact m
  · cases kvs with
    | nil => exact (hn rfl).elim
    | cons p kvs => cases ps with
      | nil => simp at ek
      | cons q ps =>
        simp only [List.map_cons, List.cons.injEq] at ek
        simp [isKs, ek.1, isK_T] at hk
theorem ok_maxV : Ok1 K rMaxV pMaxV := by
  intro Rf G ρ F σ H v d n d' Q R q h k
  cases d <;> simp only [pMaxV] at h <;> try cases h
  rename_i kvs
  split at h
  · rename_i hk
    simp only [Option.bind_eq_some_iff] at h
    obtain ⟨is, e1, h⟩ := h
    cases is with
    | nil => cases h
    | cons i is =>
      cases h
      obtain ⟨a, rfl, m⟩ := q
      have hn : kvs ≠ [] := fun z => by subst z; simp [intsOf] at e1
      obtain ⟨ps, e, _, _, r⟩ := mutK m hk hn
      refine ⟨a, ps, i :: is, rfl, e, rpa_ints r e1, by simp, fun m hm hle => ?_⟩
      obtain ⟨l1, l2⟩ := fmax_le is i
      have l3 := hle _ (fmax_mem is i)
      have l4 : m ≤ is.foldl max i := by
        rcases List.mem_cons.mp hm with rfl | hm
        · exact l1
        · exact l2 _ hm
      rw [show m = is.foldl max i by omega]
      exact k _ F H R (Same.refl _) (rr_val (.int _))
  · cases h
theorem ok_minV : Ok1 K rMinV pMinV := by
  intro Rf G ρ F σ H v d n d' Q R q h k
  cases d <;> simp only [pMinV] at h <;> try cases h
  rename_i kvs
  split at h
  · rename_i hk
    simp only [Option.bind_eq_some_iff] at h
    obtain ⟨is, e1, h⟩ := h
    cases is with
    | nil => cases h
    | cons i is =>
      cases h
      obtain ⟨a, rfl, m⟩ := q
      have hn : kvs ≠ [] := fun z => by subst z; simp [intsOf] at e1
      obtain ⟨ps, e, _, _, r⟩ := mutK m hk hn
      refine ⟨a, ps, i :: is, rfl, e, rpa_ints r e1, by simp, fun m hm hle => ?_⟩
      obtain ⟨l1, l2⟩ := fmin_le is i
      have l3 := hle _ (fmin_mem is i)
      have l4 : is.foldl min i ≤ m := by
        rcases List.mem_cons.mp hm with rfl | hm
        · exact l1
        · exact l2 _ hm
      rw [show m = is.foldl min i by omega]
      exact k _ F H R (Same.refl _) (rr_val (.int _))
  · cases h
end
section
variable {X : Cx} {o : Expr} {p pos apos mpos : Pos} {td : TE}
/-- max(o.values()), a dict with int values, one at least -/
theorem pe_maxVals (hc : X.calm = true) (hg : Gl X "max") (hm : X.mg "max" = none) (hd : PE X o td) (hbase : attributeBase o "values" X.env (eval o X.env) = eval o X.env := by rfl) (hline : (apos.endLine == mpos.line) = true := by rfl)
    (hse : starEach [Expr.Call (.Attribute o "values" apos) [] [] mpos] X.env = [(false, eval (Expr.Call (.Attribute o "values" apos) [] [] mpos) X.env)] := by rfl) :
    PE X (.Call (.Name "max" p) [.Call (.Attribute o "values" apos) [] [] mpos] [] pos) (fun σ H Q => td σ H fun x H1 => rMaxV x H1 Q) := by
  refine ⟨fun pins s σ H Q I h => ?_⟩
  refine wpAny_Call_Name_kw (ld_blt I hg hm (u := .builtin "max") (by first | rfl | decide +kernel) ?_ (by first | decide +kernel | decide) (by first | decide +kernel | decide))
  rw [hse]
  refine PySem.callWith_builtin1 (wpAny_Call_method0_late hbase hline (thn (hd.run pins s σ H _ I h) fun v s1 ⟨x, H1, I1, r1, a, kvs, is, ex, ha, hv, hne, q⟩ => ?_))
  subst ex
  obtain rfl : v = Value.ref a := r1
  obtain ⟨_, hsys, vs, rel, dof⟩ := dk_of I1.hok ha
  obtain ⟨ep, dat⟩ := dof.dictAt
  have dat' := dat
  obtain ⟨ob, es, ho, ex, hdat, hko, hpr, hnd⟩ := dat'
  refine ⟨"dict", "dict.values", F.plainAttrs_dict, F.slot_dict_values, F.type_dict_values, ⟨ob, ho, ex.1⟩, fun b e => ?_, Calls.callWith_builtin rfl (PySem.evalArgs_none ?_)⟩
  · cases e
    exact ⟨ob, ho, ex.2.1⟩
  refine call_meetsIn F.slot_dict_values ⟨ob, ho, ex.1⟩ F.entry_dict_values (F.args_dict_values_1 _) (meets_dict_values (mixKind X.prog X.w) a hsys) ⟨⟨vs, dof⟩, ?_⟩
  have k1 : ∀ b u, s1.heap.get? b = some u → (s1.heap.push { cls := .type "dict_values", data := .fields #[.ref a] }).get? b = some u := fun b u e => Heap.get?_push_of_some _ e
  have dat1 : (s1.heap.push { cls := .type "dict_values", data := .fields #[.ref a] }).DictAt (mixKind X.prog X.w) a vs ep := dat.keep k1
  have hlv : vs.length = is.length := by
    have e1 := congrArg List.length hv
    rw [List.length_map, List.length_map] at e1
    rw [← e1]
    exact (KV.length rel).symm
  have hlen : 0 < vs.length := by
    rw [hlv]
    exact List.length_pos_iff.mpr hne
  have hval : ∀ (i : Nat) (v : Value), (∃ k, vs[i]? = some (k, v)) → ∃ t, v = Value.int (is.getD i 0) t := fun i v ⟨k, hk⟩ => by
    obtain ⟨x, h1, h2⟩ := KV.at' rel hk
    have e1 : (kvs.map (·.2))[i]? = some x := by rw [List.getElem?_map, h1] <;> rfl
    rw [hv, List.getElem?_map] at e1
    obtain ⟨j, hj, e2⟩ := Option.map_eq_some_iff.mp e1
    subst e2
    obtain ⟨t, e3⟩ := h2
    refine ⟨t, ?_⟩
    rw [e3, List.getD_eq_getElem?_getD, hj] <;> rfl
  refine call_max_walk (wpAny_pyIter_values (v := s1.heap.objs.size) (d := a) ⟨_, Heap.get?_push_size _ rfl, rfl, rfl⟩ dat1 ?_)
  have hlt : a < s1.heap.objs.size := Heap.lt_size ho
  have hsz : (s1.heap.push { cls := .type "dict_values", data := .fields #[.ref a] }).objs.size = s1.heap.objs.size + 1 := Heap.size_push _ _
  refine ⟨_, _, _, _, _, _, _, rfl, Walks.dictValues (knd := mixKind X.prog X.w) (A := X.A.in1) (I.ok.hd hc) (s1.heap.push { cls := .type "dict_values", data := .fields #[.ref a] }).objs.size a (by rw [hsz]; exact Nat.ne_of_lt (Nat.lt_succ_of_lt hlt)) vs ep,
    ⟨⟨_, Heap.get?_push_size _ rfl, rfl, rfl⟩, dat1.keep fun b u e => Heap.get?_push_of_some _ e⟩, fun b hb => ?_, hlen, CmpOf.ints_gt (fun i => is.getD i 0) hval, fun v h' tk hP hk => ?_⟩
  · show b < ((s1.heap.push _).push _).objs.size
    rw [Heap.size_push, Heap.size_push]
    rw [hsz] at hb
    rcases List.mem_cons.mp hb with e | hb
    · rw [e]
      exact Nat.lt_succ_self _
    · have e : b = a := List.mem_singleton.mp hb
      rw [e]
      exact Nat.lt_succ_of_lt (Nat.lt_succ_of_lt hlt)
  · obtain ⟨t, rfl⟩ := hval _ v hP
    obtain ⟨b1, b2⟩ := argBest_gt (fun i => is.getD i 0) (vs.length - 1)
    refine ⟨.int _, H1, I1.kept (t' := tk) fun b u e => hk b u (fun hmem => ?_) (Heap.get?_push_of_some _ (k1 b u e)), ⟨t, rfl⟩, q _ ?_ fun j hj => ?_⟩
    · have e1 : b = (s1.heap.push { cls := .type "dict_values", data := .fields #[.ref a] }).objs.size := List.mem_singleton.mp hmem
      have e2 := Heap.lt_size e
      rw [hsz] at e1
      rw [e1] at e2
      exact absurd e2 (Nat.not_lt.mpr (Nat.le_succ _))
    · have hb : argBest (fun i j => decide (is.getD i 0 > is.getD j 0)) (vs.length - 1) < is.length := by omega
      rw [List.getD_eq_getElem?_getD, List.getElem?_eq_getElem hb]
      exact List.getElem_mem hb
    · obtain ⟨i, hi, e⟩ := List.mem_iff_getElem.mp hj
      have e2 : is.getD i 0 = j := by rw [List.getD_eq_getElem?_getD, List.getElem?_eq_getElem hi, ← e] <;> rfl
      rw [← e2]
      exact b2 i (by omega)
variable {Φ : Fns} {bf : Nat → Option Nat} {x : Z.X}
theorem ce_maxV (hc : X.calm = true) (hg : Gl X "max") (hm : X.mg "max" = none) (ho : CE X Φ bf o x) (hbase : attributeBase o "values" X.env (eval o X.env) = eval o X.env := by rfl) (hline : (apos.endLine == mpos.line) = true := by rfl)
    (hse : starEach [Expr.Call (.Attribute o "values" apos) [] [] mpos] X.env = [(false, eval (Expr.Call (.Attribute o "values" apos) [] [] mpos) X.env)] := by rfl) :
    CE X Φ bf (.Call (.Name "max" p) [.Call (.Attribute o "values" apos) [] [] mpos] [] pos) (.op1 pMaxV x) := ce1 ok_maxV (fun _ h => pe_maxVals hc hg hm h hbase hline hse) ho
theorem ce_minV (hc : X.calm = true) (hg : Gl X "min") (hm : X.mg "min" = none) (ho : CE X Φ bf o x) (hbase : attributeBase o "values" X.env (eval o X.env) = eval o X.env := by rfl) (hline : (apos.endLine == mpos.line) = true := by rfl)
    (hse : starEach [Expr.Call (.Attribute o "values" apos) [] [] mpos] X.env = [(false, eval (Expr.Call (.Attribute o "values" apos) [] [] mpos) X.env)] := by rfl) :
    CE X Φ bf (.Call (.Name "min" p) [.Call (.Attribute o "values" apos) [] [] mpos] [] pos) (.op1 pMinV x) := ce1 ok_minV (fun _ h => pe_minVals hc hg hm h hbase hline hse) ho
end

def rSortK : List V → Hp → VK → Prop := fun xs H Q => ∃ (a : Addr) (kvs : List (Key × V)) (is : List Int), xs = [.ref a] ∧ H a = some (.dK kvs) ∧ kvs.map (·.1) = is.map Sum.inl ∧
  ∀ p, H p = none → Q (.ref p) (L2.upd H p (.lst ((is.mergeSort (PySem.W.dataLe false PyData.int)).map V.int)))
def pSortK : PyData → Option (Bool × PyData)
  | .dict kvs => (intsOf (kvs.map Prod.fst)).bind fun is => if is = [] then none else some (true, .list ((is.map PyData.int).mergeSort leD))
  | _ => none
theorem each_of {α β : Type} {R : α → β → Prop} : ∀ {as : List α} {bs : List β}, as.length = bs.length → (∀ (j : Nat) (a : α) (b : β), as[j]? = some a → bs[j]? = some b → R a b) → PySem.W.EachIs R as bs
  | [], [], _, _ => .nil
  | [], _ :: _, h, _ => by simp at h
  | _ :: _, [], h, _ => by simp at h
  | a :: as, b :: bs, h, q => .cons (q 0 a b rfl rfl) (each_of (by simpa using h) fun j x y h1 h2 => q (j + 1) x y (by simpa using h1) (by simpa using h2))
theorem each_ints : ∀ {out : List Value} {bs : List Int}, PySem.W.EachIs (fun v b => RelV (.int b) v) out bs → Vals (bs.map V.int) out
  | _, _, .nil => .nil
  | _, _, .cons a b => .cons a (each_ints b)
section
variable {K : PySem.W.Frag} {F H : Hp}
theorem cr_sortK {X : Cx} (hc : X.calm = true) (hu : X.A.units + 64 < cLine) : CallR X (.builtin "sorted") rSortK := by
  intro pins s σ H vs us Q I r h
  obtain ⟨a, kvs, is, rfl, ha, hk, q⟩ := h
  rw [Vals.ref1 r]
  obtain ⟨hz, hsys, es, rel, dof⟩ := dk_of I.hok ha
  obtain ⟨ep, hat⟩ := dof.dictAt
  have hh := I.ok.hd hc
  have l1 : kvs.length = es.length := KV.length rel
  have l2 : kvs.length = is.length := by
    have := congrArg List.length hk
    simpa using this
  refine PySem.Calls.call_function_entry PyProof.Rows.kind_sorted PyProof.Rows.plain_sorted PyProof.Rows.entry_sorted (PyProof.Rows.args_sorted1 _) ?_
  unfold Builtin.«sorted»
  refine wpAny_bind (m := checkCount "sorted" 1 1 _) (wpAny_pure ?_)
  refine wpAny_bind (PySem.W.kdu_collect (A := X.A.in1) (PySem.W.kdl_dict (knd := mixKind X.prog X.w) (kvs := es) (ep := ep) hsys) hh hat (by omega) fun h' tk acc hkeep hacc => ?_)
  have hl : acc.toList.length = is.length := by rw [Array.length_toList, hacc.1]; omega
  refine wpAny_bind (wpAny_newList ?_ (by rw [hl]; omega))
  have I1 : Inv X pins σ H { s with heap := h', toks := tk } := I.kept hkeep
  have hkeep2 : ∀ b o, h'.get? b = some o → (h'.push (seqObj "list" acc.toList.toArray 0)).get? b = some o := fun b o e => Heap.get?_push_of_some _ e
  have hit : ∀ (j : Nat) (v : Value) (b : Int), acc.toList[j]? = some v → is[j]? = some b → RelV (.int b) v := fun j v b hj hb => by
    obtain ⟨k, x, e1, e2⟩ := hacc.2 j v (by rw [← Array.getElem?_toList]; exact hj)
    obtain ⟨y, h1, _⟩ := KV.at' rel e1
    have e3 : (kvs.map (·.1))[j]? = some k := by rw [List.getElem?_map, h1] <;> rfl
    rw [hk, List.getElem?_map, hb] at e3
    have e4 : Sum.inl b = k := Option.some.inj e3
    subst e4
    rcases keyIs_shape (k := Sum.inl b) (v := v) e2 with ⟨i, t, e5, e6⟩ | ⟨i, t, e5, e6⟩
    · cases e5; exact ⟨t, e6⟩
    · cases e5
  have hE := each_of (R := fun v b => RelV (.int b) v) hl hit
  have hg : wpAny (model X.prog X.w) X.A.in1 (call (.builtin "list.sort") [.ref h'.objs.size]) (fun _ s' => EP X pins σ Q (.ref h'.objs.size) s') X.xe { s with heap := h'.push (seqObj "list" acc.toList.toArray 0), toks := tk } := by
    refine PySem.W.list_sort_data (vs := acc.toList) (bs := is) (enc := PyData.int) (R := fun v b => RelV (.int b) v) (n := 0) (Heap.get?_push_size _ rfl) hE (hE.mono fun v b ⟨t, e⟩ => ⟨[], by subst e; exact .int _ _, by simp⟩) ?_ ?_ (by omega) (fun b _ => ?_) fun out hlen ho => ?_
    · intro d hd d' hd'
      obtain ⟨i, _, rfl⟩ := List.mem_map.mp hd
      obtain ⟨j, _, rfl⟩ := List.mem_map.mp hd'
      simp [PySem.W.alike]
    · refine .inr fun d hd => ?_
      obtain ⟨i, _, rfl⟩ := List.mem_map.mp hd
      exact ⟨(fun z => nomatch z), (fun xs z => nomatch z)⟩
    · simp only [PyData.depth]
      have : X.A.in1.units = X.A.units + 1 := rfl
      omega
    · have ho0 : (h'.push (seqObj "list" acc.toList.toArray 0)).get? h'.objs.size = some (seqObj "list" acc.toList.toArray 0) := Heap.get?_push_size _ rfl
      obtain ⟨ep', he'⟩ := PyProof.Rows.sortedHeap_at (out := out.toArray) ho0
      have hv := each_ints ho
      have hl2 : ((is.mergeSort (PySem.W.dataLe false PyData.int)).map V.int).length = is.length := by rw [List.length_map, List.length_mergeSort]
      have hz3 : is.length ≤ sizeLine := by omega
      refine ⟨.ref h'.objs.size, L2.upd H h'.objs.size (.lst ((is.mergeSort (PySem.W.dataLe false PyData.int)).map V.int)), I1.laid (t' := tk) (fun b o e => ?_) (Nat.le_refl _) ⟨by rw [hl2]; exact hz3, out, ep', hv, he'⟩, rfl, q _ (I1.hok.fresh (Nat.le_refl _))⟩
      have hlt := Heap.lt_size e
      have hlt2 : b < (h'.push (seqObj "list" acc.toList.toArray 0)).objs.size := Heap.lt_size (hkeep2 b o e)
      exact (PyProof.Rows.sortedHeap_old (Nat.ne_of_lt hlt) hlt2).trans (hkeep2 b o e)
  refine wpAny_bind (wpAny_holding (wpAny_mono hg (fun _ s' x => ?_) fun _ _ e => e))
  exact wpAny_pure ⟨_, rfl, x⟩
theorem ok_sortK : Ok1 K (r1 rSortK) pSortK := by
  intro Rf G ρ F σ H v d n d' Q R q h k
  cases d <;> simp only [pSortK] at h <;> try cases h
  rename_i kvs
  simp only [Option.bind_eq_some_iff] at h
  obtain ⟨is, e1, h⟩ := h
  split at h
  · cases h
  · rename_i hne
    cases h
    obtain ⟨a, rfl, m⟩ := q
    have key : ∀ {ds : List PyData} {is : List Int}, intsOf ds = some is → ds = is.map PyData.int := by
      intro ds
      induction ds with
      | nil => intro is h; simp [intsOf] at h; subst h; rfl
      | cons d ds ih =>
        intro is h
        cases d with
        | int i =>
          rw [intsOf, Option.bind_eq_some_iff] at h
          obtain ⟨js, h1, h2⟩ := h
          cases h2
          rw [ih h1]; rfl
        | _ => simp only [intsOf] at h; cases h
    have hks : isKs kvs = true := by
      have e2 := key e1
      unfold isKs
      rw [List.all_eq_true]
      intro p hp
      have : p.1 ∈ is.map PyData.int := by rw [← e2]; exact List.mem_map.mpr ⟨p, hp, rfl⟩
      obtain ⟨i, _, e3⟩ := List.mem_map.mp this
      rw [← e3]; rfl
    have hn : kvs ≠ [] := fun z => by subst z; simp [intsOf] at e1; exact hne e1
    obtain ⟨ps, e, z, ek, r⟩ := mutK m hks hn
    have hp1 : ps.map (·.1) = is.map Sum.inl := by
      have e2 : is.map PyData.int = ps.map (fun p => kD p.1) := by rw [← key e1]; exact ek
      have : ∀ {is : List Int} {ps : List (Key × V)}, is.map PyData.int = ps.map (fun p => kD p.1) → ps.map (·.1) = is.map Sum.inl := by
        intro is
        induction is with
        | nil => intro ps h; cases ps with
          | nil => rfl
          | cons _ _ => simp at h
        | cons i is ih => intro ps h; cases ps with
          | nil => simp at h
          | cons p ps =>
            simp only [List.map_cons, List.cons.injEq] at h
            rw [List.map_cons, List.map_cons, ih h.2]
            congr 1
            cases hp : p.1 with
            | inl j => rw [hp] at h; have := h.1; simp [kD] at this; rw [this]
            | inr j => rw [hp] at h; have := h.1; simp [kD] at this
      exact this e2
    refine ⟨a, ps, is, rfl, e, hp1, fun p hp => ?_⟩
    have hm : (is.mergeSort (PySem.W.dataLe false PyData.int)).map PyData.int = (is.map PyData.int).mergeSort leD := List.map_mergeSort (r := PySem.W.dataLe false PyData.int) (s := leD) (f := PyData.int) (fun a _ b _ => rfl)
    have ra : ∀ l : List Int, RpA K F (l.map V.int) (l.map PyData.int) := by
      intro l
      induction l with
      | nil => exact .nil
      | cons i l ih => exact .cons (.int i) ih
    have hl : is.length ≤ sizeLine := by
      have := congrArg List.length hp1
      simp at this; omega
    refine k _ F _ (R.laid hp) (Same.refl _) ⟨p, rfl, R.loose_new hp, ⟨_, upd_same, by rw [List.length_map, List.length_mergeSort]; exact hl, ?_⟩⟩
    rw [← hm]
    exact ra _
end
end L2.Z

namespace L2.Z
open PySem PySem.Spec PyProof.Rows

def rRepL (K : PySem.W.Frag) : R2 := fun x y H Q => ∃ a xs k, x = V.ref a ∧ y = V.int k ∧ SqL K H a xs ∧ 0 ≤ k ∧ k ≤ 100000 ∧ xs.length ≤ 100 ∧ ∀ p, H p = none → Q (.ref p) (L2.upd H p (.lst (List.replicate k.toNat xs).flatten))
section
variable {X : Cx}
theorem op_repL : OpR X (binaryOp .Mult) (rRepL X.K) := by
  intro pins s σ H x y v u Q I rx ry h
  obtain ⟨a, xs, k, rfl, rfl, hs, k0, k1, hl, q⟩ := h
  obtain rfl : v = Value.ref a := rx
  obtain ⟨t, rfl⟩ := ry
  obtain ⟨its, rv, ⟨⟨cls, dd, data, sl⟩, n, ho, hc, hdn, hd⟩, hlen⟩ := I.list hs
  have hc1 : cls = Value.type "list" := hc
  have hd1 : data = Data.seq its.toArray n := hd
  subst hc1 hd1
  have hi : its.length = xs.length := rv.length.symm
  have hm : its.toArray.size * k.toNat ≤ 100 * 100000 := by
    rw [List.size_toArray]
    exact Nat.mul_le_mul (by omega) (by omega)
  have hsl := sizeLine_eq
  have hfit : ¬ (!Builtin.List.listFitsIndex k) = true := by
    rw [fitsIndex_both (by omega) (by omega)]
    exact Bool.false_ne_true
  have flen : (List.replicate k.toNat its).flatten.length ≤ sizeLine := by
    rw [PyProof.Rows.lm_len_rep_flat]
    rw [List.size_toArray] at hm
    have := Nat.mul_comm k.toNat its.length
    omega
  refine wpAny_binaryOp_repeat_ref (T := "list") (U := "int") (by decide) ⟨_, ho, rfl⟩ (fun s' => typeIs_int s' k t) noFill_list_mul F.fills_int_mul F.slot_int_rmul repeat_list F.slot_int_index.lookup
    (call_meets F.slot_int_rmul (typeIs_int s k t) F.entry_int_rmul (F.args_int_rmul_2 _ _) (PySem.lm_int_rmul_list_any k t a its.toArray n dd sl)
      ⟨ho, rfl, ⟨_, ho, rfl⟩, call_meets F.slot_list_mul ⟨_, ho, rfl⟩ F.entry_list_mul (F.args_list_mul_2 _ _)
        (PySem.lm_list_mul_any a its.toArray n dd sl k t hfit (by omega) (by simp only [Builtin.List.listTooLong, decide_eq_true_eq]; omega))
        ⟨ho, ?_⟩⟩)
  have e : List.foldl (fun x1 x2 => x1 ++ x2) #[] (List.replicate (if its.toArray.isEmpty = true then 0 else k.toNat) its.toArray) = (List.replicate k.toNat its).flatten.toArray := by
    have f0 : ∀ m : Nat, List.foldl (fun x1 x2 => x1 ++ x2) #[] (List.replicate m its.toArray) = (List.replicate m its).flatten.toArray := fun m => by
      have := foldl_rep its m []
      rw [List.nil_append] at this
      exact this
    rw [f0]
    cases its with
    | nil => simp
    | cons a r' => rw [if_neg (by simp)]
  rw [e]
  refine ⟨.ref s.heap.objs.size, L2.upd H s.heap.objs.size (.lst (List.replicate k.toNat xs).flatten), I.laid (t' := s.toks) (fun b o e => Heap.get?_push_of_some _ e) (Nat.le_refl _) ⟨?_, _, 0, rv.rep k.toNat, Heap.get?_push_size _ rfl⟩, rfl, q _ (I.hok.fresh (Nat.le_refl _))⟩
  rw [PyProof.Rows.lm_len_rep_flat, ← hi]
  rw [PyProof.Rows.lm_len_rep_flat] at flen
  exact flen
theorem tuple_mul_one (l : Addr) (items : Array Value) (n : Nat) (dd : Option Addr) (sl : Array (Option Value)) (u : Tok) :
    Meets (Builtin.«tuple.__mul__» ⟨[.ref l, .int 1 u], []⟩) (fun _ R s => s.heap.get? l = some { cls := .type "tuple", dict := dd, data := .seq items n, slots := sl } ∧ R (.ok (.ret (Value.ref l))) s) :=
  .of_wp fun prog w A R s h => by
    obtain ⟨hp, g, d, tk, os⟩ := s
    obtain ⟨hl, h⟩ := h
    have f1 := AutoSeq1.idx_int
    wp_walk using wpAny_loadPart' hl
    exact ⟨_, rfl, h⟩
theorem tuple_mul_none (l : Addr) (items : Array Value) (n : Nat) (dd : Option Addr) (sl : Array (Option Value)) (u : Tok) (c1 : items.isEmpty = false) :
    Meets (Builtin.«tuple.__mul__» ⟨[.ref l, .int 0 u], []⟩) (fun _ R s => s.heap.get? l = some { cls := .type "tuple", dict := dd, data := .seq items n, slots := sl } ∧
      R (.ok (.ret (Value.ref s.heap.objs.size))) { s with heap := s.heap.push { cls := Value.type "tuple", data := Data.seq #[] }, toks := s.toks }) :=
  .of_wp fun prog w A R s h => by
    obtain ⟨hp, g, d, tk, os⟩ := s
    obtain ⟨hl, h⟩ := h
    have f1 := AutoSeq1.idx_int
    wp_walk using wpAny_loadPart' hl
    repeat (first
      | (refine wpAny_ite_false (decide_eq_false (by rw [c1]; exact Bool.false_ne_true)) ?_; wp_walk using wpAny_loadPart' hl))
    exact ⟨_, rfl, h⟩
def rRepTZ (K : PySem.W.Frag) : R2 := fun x y H Q => ∃ l k xs, x = V.ref l ∧ y = V.int k ∧ SqT K H l xs ∧ xs ≠ [] ∧ 0 ≤ k ∧ k ≤ 1000 ∧ xs.length ≤ 1000 ∧ (k = 1 → Q (.ref l) H) ∧ (k ≠ 1 → ∀ p, H p = none → Q (.ref p) (L2.upd H p (.tup (List.replicate k.toNat xs).flatten)))
theorem op_repTZ : OpR X (binaryOp .Mult) (rRepTZ X.K) := by
  intro pins s σ H x y v u Q I rx ry h
  obtain ⟨l, k, xs, rfl, rfl, hT, hne, h1, h2, hz, q1, q2⟩ := h
  by_cases c : 2 ≤ k
  · exact op_repT pins s σ H _ _ v u Q I rx ry ⟨l, k, xs, rfl, rfl, hT, hne, c, h2, hz, q2 (by omega)⟩
  · cases rx
    obtain ⟨t, rfl⟩ := ry
    obtain ⟨its, r, ⟨⟨cls, dd, data, sl⟩, ho, hc, n, hd⟩, hs⟩ := I.tuple hT
    simp only at hc hd
    subst hc hd
    have hle : its.length = xs.length := r.length.symm
    have hn : its ≠ [] := fun e => hne (by
      rw [e] at hle
      exact List.eq_nil_of_length_eq_zero hle.symm)
    have hi : its.toArray.isEmpty = false := by
      cases its with
      | nil => exact absurd rfl hn
      | cons a b => rfl
    rcases (show k = 0 ∨ k = 1 by omega) with rfl | rfl
    · refine wpAny_binaryOp_repeat_ref (T := "tuple") (U := "int") (by decide) ⟨_, ho, rfl⟩ (fun s' => typeIs_int s' 0 t) noFill_tuple_mul F.fills_int_mul F.slot_int_rmul repeat_tuple F.slot_int_index.lookup
        (call_meets F.slot_int_rmul (typeIs_int s 0 t) F.entry_int_rmul (F.args_int_rmul_2 _ _) (int_rmul_tuple 0 t l its.toArray n dd sl)
          ⟨ho, rfl, ⟨_, ho, rfl⟩, call_meets F.slot_tuple_mul ⟨_, ho, rfl⟩ F.entry_tuple_mul (F.args_tuple_mul_2 _ _) (tuple_mul_none l its.toArray n dd sl t hi) ⟨ho, ?_⟩⟩)
      refine ⟨.ref s.heap.objs.size, _, I.laid (t' := s.toks) (o := .tup (List.replicate (0 : Int).toNat xs).flatten) (fun b ob q => Heap.get?_push_of_some _ q) (Nat.le_refl _) ?_, rfl, q2 (by omega) _ (I.hok.fresh (Nat.le_refl _))⟩
      exact ⟨by simp, [], .nil, IsTup.new _ _⟩
    · refine wpAny_binaryOp_repeat_ref (T := "tuple") (U := "int") (by decide) ⟨_, ho, rfl⟩ (fun s' => typeIs_int s' 1 t) noFill_tuple_mul F.fills_int_mul F.slot_int_rmul repeat_tuple F.slot_int_index.lookup
        (call_meets F.slot_int_rmul (typeIs_int s 1 t) F.entry_int_rmul (F.args_int_rmul_2 _ _) (int_rmul_tuple 1 t l its.toArray n dd sl)
          ⟨ho, rfl, ⟨_, ho, rfl⟩, call_meets F.slot_tuple_mul ⟨_, ho, rfl⟩ F.entry_tuple_mul (F.args_tuple_mul_2 _ _) (tuple_mul_one l its.toArray n dd sl t) ⟨ho, ?_⟩⟩)
      exact ⟨.ref l, H, I, rfl, q1 rfl⟩
theorem op_mulS : OpR X (binaryOp .Mult) (fun x y H Q => rRepL X.K x y H Q ∨ rRepTZ X.K x y H Q) := OpR.or op_repL op_repTZ
end
def rep (k : Int) (ds : List PyData) : List PyData := (List.replicate k.toNat ds).flatten
def pMulS : PyData → PyData → Option (Bool × PyData)
  | .list ds, .int k => if 0 ≤ k ∧ k ≤ 100000 ∧ ds.length ≤ 100 then some (true, .list (rep k ds)) else none
  | .tuple ds, .int k => if ds.isEmpty = false ∧ 0 ≤ k ∧ k ≤ 1000 ∧ ds.length ≤ 1000 then some (false, .tuple (rep k ds)) else none
  | _, _ => none
section
variable {K : PySem.W.Frag}
theorem RpA.rep {F : Hp} {xs : List V} {ds : List PyData} (r : RpA K F xs ds) : ∀ n : Nat, RpA K F (List.replicate n xs).flatten (List.replicate n ds).flatten
  | 0 => .nil
  | n + 1 => by
    rw [List.replicate_succ, List.replicate_succ, List.flatten_cons, List.flatten_cons]
    exact r.append (RpA.rep r n)
theorem ok_mulS : Ok2 K (fun x y H Q => rRepL K x y H Q ∨ rRepTZ K x y H Q) pMulS := by
  intro Rf G ρ F σ H v w d e n d' Q R q1 q2 h k
  cases d <;> cases e <;> simp only [pMulS] at h <;> try cases h
  · rename_i ds i
    split at h
    · rename_i hz
      cases h
      obtain ⟨a, xs, rfl, e1, z1, r1⟩ := q1
      cases q2
      refine .inl ⟨a, xs, i, rfl, rfl, e1, hz.1, hz.2.1, by rw [r1.length]; exact hz.2.2, fun p hp => ?_⟩
      have hl : (List.replicate i.toNat xs).flatten.length ≤ sizeLine := by
        rw [PyProof.Rows.lm_len_rep_flat, r1.length, sizeLine_eq]
        have : i.toNat * ds.length ≤ 100000 * 100 := Nat.mul_le_mul (by omega) hz.2.2
        omega
      exact k _ F _ (R.laid hp) (Same.refl _) ⟨p, rfl, R.loose_new hp, ⟨_, upd_same, hl, r1.rep _⟩⟩
    · cases h
  · rename_i ds i
    split at h
    · rename_i hz
      cases h
      obtain ⟨a, xs, rfl, e1, z1, r1⟩ := q1
      cases q2
      obtain ⟨z2, z3, z4, z5⟩ := hz
      refine .inr ⟨a, i, xs, rfl, rfl, SqT.of (R.fz _ _ e1), fun hx => ?_, z3, z4, by rw [r1.length]; exact z5, fun h1 => ?_, fun _ p hp => ?_⟩
      · subst hx
        have := rpa_nil r1
        subst this
        cases z2
      · subst h1
        have e : Z.rep 1 ds = ds := by simp [Z.rep]
        rw [e] at k
        exact k _ F _ R (Same.refl _) (rr_val (.tup e1 z1 r1))
      · have hl : (List.replicate i.toNat xs).flatten.length ≤ sizeLine := by
          rw [PyProof.Rows.lm_len_rep_flat, r1.length, sizeLine_eq]
          have : i.toNat * ds.length ≤ 1000 * 1000 := Nat.mul_le_mul (by omega) z5
          omega
        obtain ⟨F2, R2, s2, q2⟩ := R.newTup hp hl (r1.rep _)
        exact k _ F2 _ R2 s2 q2
    · cases h
end
theorem rep_one (d : PyData) (n : Nat) : rep (n : Int) [d] = List.replicate n d := by
  unfold rep
  rw [Int.toNat_natCast]
  induction n with
  | zero => rfl
  | succ n ih => rw [List.replicate_succ, List.flatten_cons, ih, List.replicate_succ]; rfl
end L2.Z

namespace L2.Z
open PySem PySem.Spec PyProof.Rows
section
variable {prog : Program} {w : World} {A : Around} {E : Value → Shared → Prop} {s : Shared}
theorem collect_tup {l : Addr} {vs : List Value} {Q : List Value → Shared → Prop} (hl : IsTup s.heap l vs.toArray)
    (h : Q vs { s with heap := (s.heap.push (seqObj "list" #[] 0)).update s.heap.objs.size (Obj.mapSeq (· ++ vs.toArray)) }) (hsz : vs.length ≤ sizeLine) :
    wpAny (model prog w) A (collect (.ref l)) Q E s := by
  obtain ⟨o, ho, hc, n, hd⟩ := id hl
  unfold collect
  refine wpAny_bind (wpAny_runValue (codeAny_builtin entry_proto_collect' ?_))
  show wpAny _ _ (do again (.builtin "list.__iadd__" ⟨[← newList [], .ref l], []⟩)) _ _ s
  refine wpAny_bind (wpAny_newList (wpAny_pure ⟨Code.quiet_builtin _ (by decide +kernel), codeAny_builtin entry_list_iadd' ?_⟩))
  show wpAny _ _ (Builtin.List.listExtendWith (.ref s.heap.objs.size) (.ref l) (.ref s.heap.objs.size)) _ _ { s with heap := s.heap.push (seqObj "list" #[] 0) }
  unfold Builtin.List.listExtendWith
  have ho' : (s.heap.push (seqObj "list" #[] 0)).get? l = some o := Heap.get?_push_of_some _ ho
  refine wpAny_bind (wpAny_typeOf (T := "tuple") ⟨o, ho', hc⟩ ?_)
  have ht : (Value.type "tuple" == Value.type "tuple") = true := by rfl
  rw [if_pos (by rw [ht]; simp)]
  refine wpAny_bind (listItems_at ho' hd ?_)
  refine wpAny_bind (listItems_at (xs := #[]) (n := 0) (Heap.get?_push_size _ rfl) rfl ?_)
  rw [if_neg (by simp)]
  refine wpAny_bind (listUpdate_at (xs := #[]) (n := 0) (Heap.get?_push_size _ rfl) rfl ?_ (Nat.zero_le _) (by show (#[] ++ vs.toArray).size ≤ sizeLine + 1; simp only [Array.size_append, List.size_toArray, List.length_nil]; omega))
  refine wpAny_pure ?_
  show wpAny (model prog w) A (do
      let o ← load s.heap.objs.size
      match o.data with
      | .seq xs _ => pure xs.toList
      | _ => unsupported "internal:collect") Q E { s with heap := (s.heap.push (seqObj "list" #[] 0)).update s.heap.objs.size (Obj.mapSeq (· ++ vs.toArray)) }
  refine wpAny_bind (wpAny_load (get?_update_seq (Heap.get?_push_size _ rfl) _) ?_)
  show wpAny _ _ (pure ((#[] : Array Value) ++ vs.toArray).toList) Q E _
  rw [show ((#[] : Array Value) ++ vs.toArray).toList = vs by simp]
  exact wpAny_pure h
end
def rSortT (K : PySem.W.Frag) : List V → Hp → VK → Prop := fun xs H Q => ∃ (a : Addr) (is : List Int), xs = [.ref a] ∧ SqT K H a (is.map V.int) ∧
  ∀ p, H p = none → Q (.ref p) (L2.upd H p (.lst ((is.mergeSort (PySem.W.dataLe false PyData.int)).map V.int)))
def pSortT : PyData → Option (Bool × PyData)
  | .tuple ds => (intsOf ds).bind fun is => some (true, .list ((is.map PyData.int).mergeSort leD))
  | _ => none
section
variable {K : PySem.W.Frag} {F H : Hp}
theorem cr_sortT {X : Cx} (hc : X.calm = true) (hu : X.A.units + 64 < cLine) : CallR X (.builtin "sorted") (rSortT X.K) := by
  intro pins s σ H vs us Q I r h
  obtain ⟨a, is, rfl, hs, q⟩ := h
  rw [Vals.ref1 r]
  obtain ⟨its, rv, hl, hz⟩ := I.tuple hs
  have l2 : its.length = is.length := by
    have := rv.length
    rw [List.length_map] at this
    exact this.symm
  rw [List.length_map] at hz
  refine PySem.Calls.call_function_entry PyProof.Rows.kind_sorted PyProof.Rows.plain_sorted PyProof.Rows.entry_sorted (PyProof.Rows.args_sorted1 _) ?_
  unfold Builtin.«sorted»
  refine wpAny_bind (m := checkCount "sorted" 1 1 _) (wpAny_pure ?_)
  refine wpAny_bind (collect_tup (A := X.A.in1) hl ?_ (by omega))
  obtain ⟨h', hh'⟩ : ∃ h', h' = (s.heap.push (seqObj "list" #[] 0)).update s.heap.objs.size (Obj.mapSeq (· ++ its.toArray)) := ⟨_, rfl⟩
  rw [← hh']
  have hkeep : ∀ b o, s.heap.get? b = some o → h'.get? b = some o := fun b o e => by
    rw [hh', Heap.get?_update_ne _ _ _ _ (Nat.ne_of_lt (Heap.lt_size e))]
    exact Heap.get?_push_of_some _ e
  refine wpAny_bind (wpAny_newList ?_ (by omega))
  have I1 : Inv X pins σ H { s with heap := h', toks := s.toks } := I.kept hkeep
  have hkeep2 : ∀ b o, h'.get? b = some o → (h'.push (seqObj "list" its.toArray 0)).get? b = some o := fun b o e => Heap.get?_push_of_some _ e
  have hit : ∀ (j : Nat) (v : Value) (b : Int), its[j]? = some v → is[j]? = some b → RelV (.int b) v := fun j v b hj hb => by
    obtain ⟨x, h1, h2⟩ := vals_at rv hj
    rw [List.getElem?_map, hb] at h1
    have := Option.some.inj h1
    subst this
    exact h2
  have hE := each_of (R := fun v b => RelV (.int b) v) l2 hit
  have hg : wpAny (model X.prog X.w) X.A.in1 (call (.builtin "list.sort") [.ref h'.objs.size]) (fun _ s' => EP X pins σ Q (.ref h'.objs.size) s') X.xe { s with heap := h'.push (seqObj "list" its.toArray 0) } := by
    refine PySem.W.list_sort_data (vs := its) (bs := is) (enc := PyData.int) (R := fun v b => RelV (.int b) v) (n := 0) (Heap.get?_push_size _ rfl) hE (hE.mono fun v b ⟨t, e⟩ => ⟨[], by subst e; exact .int _ _, by simp⟩) ?_ ?_ hz (fun b _ => ?_) fun out hlen ho => ?_
    · intro d hd d' hd'
      obtain ⟨i, _, rfl⟩ := List.mem_map.mp hd
      obtain ⟨j, _, rfl⟩ := List.mem_map.mp hd'
      simp [PySem.W.alike]
    · refine .inr fun d hd => ?_
      obtain ⟨i, _, rfl⟩ := List.mem_map.mp hd
      exact ⟨(fun z => nomatch z), (fun xs z => nomatch z)⟩
    · simp only [PyData.depth]
      have : X.A.in1.units = X.A.units + 1 := rfl
      omega
    · have ho0 : (h'.push (seqObj "list" its.toArray 0)).get? h'.objs.size = some (seqObj "list" its.toArray 0) := Heap.get?_push_size _ rfl
      obtain ⟨ep', he'⟩ := PyProof.Rows.sortedHeap_at (out := out.toArray) ho0
      have hv := each_ints ho
      have hl2 : ((is.mergeSort (PySem.W.dataLe false PyData.int)).map V.int).length = is.length := by rw [List.length_map, List.length_mergeSort]
      refine ⟨.ref h'.objs.size, L2.upd H h'.objs.size (.lst ((is.mergeSort (PySem.W.dataLe false PyData.int)).map V.int)), I1.laid (t' := s.toks) (fun b o e => ?_) (Nat.le_refl _) ⟨by rw [hl2]; exact hz, out, ep', hv, he'⟩, rfl, q _ (I1.hok.fresh (Nat.le_refl _))⟩
      have hlt := Heap.lt_size e
      have hlt2 : b < (h'.push (seqObj "list" its.toArray 0)).objs.size := Heap.lt_size (hkeep2 b o e)
      exact (PyProof.Rows.sortedHeap_old (Nat.ne_of_lt hlt) hlt2).trans (hkeep2 b o e)
  refine wpAny_bind (wpAny_holding (wpAny_mono hg (fun _ s' x => ?_) fun _ _ e => e))
  exact wpAny_pure ⟨_, rfl, x⟩
theorem ok_sortT : Ok1 K (r1 (rSortT K)) pSortT := by
  intro Rf G ρ F σ H v d n d' Q R q h k
  cases d <;> simp only [pSortT] at h <;> try cases h
  rename_i ds
  simp only [Option.bind_eq_some_iff] at h
  obtain ⟨is, e1, h⟩ := h
  cases h
  obtain ⟨a, xs, rfl, e, z, r⟩ := q
  have e2 := rpa_ints r e1
  subst e2
  rw [List.length_map] at z
  refine ⟨a, is, rfl, SqT.of (R.fz _ _ e), fun p hp => ?_⟩
  have hm : (is.mergeSort (PySem.W.dataLe false PyData.int)).map PyData.int = (is.map PyData.int).mergeSort leD := List.map_mergeSort (r := PySem.W.dataLe false PyData.int) (s := leD) (f := PyData.int) (fun a _ b _ => rfl)
  have ra : ∀ l : List Int, RpA K F (l.map V.int) (l.map PyData.int) := by
    intro l
    induction l with
    | nil => exact .nil
    | cons i l ih => exact .cons (.int i) ih
  refine k _ F _ (R.laid hp) (Same.refl _) ⟨p, rfl, R.loose_new hp, ⟨_, upd_same, by rw [List.length_map, List.length_mergeSort]; exact z, ?_⟩⟩
  rw [← hm]
  exact ra _
end
end L2.Z

namespace L2.Z
open PySem PySem.Spec PyProof.Rows
section
variable {prog : Program} {w : World} {A : Around} {E : Value → Shared → Prop} {s : Shared}
theorem sliceApplied_rev {sl : Addr} {n : Nat} {t : Tok} {Q : Int × Int × Nat → Shared → Prop} (hs : s.heap.IsSliceOf sl .none .none (.int (-1) t))
    (h : Q ((n : Int) - 1, -1, n) s) : wpAny (model prog w) A (Builtin.Slice.sliceApplied (.ref sl) (pure (n : Int))) Q E s := by
  obtain ⟨os, hos, hcs, hds⟩ := id hs
  unfold Builtin.Slice.sliceApplied Builtin.Slice.sliceFields
  refine wpAny_bind (wpAny_bind (wpAny_field hos hds (x := .none) rfl (wpAny_bind (wpAny_field hos hds (x := .none) rfl (wpAny_bind (wpAny_field hos hds (x := .int (-1) t) rfl (wpAny_pure ?_)))))))
  refine wpAny_bind (slicePart_int ?_)
  show wpAny _ _ (if ((-1 : Int) == 0) = true then _ else _) _ _ s
  rw [if_neg (by decide)]
  refine wpAny_bind (slicePart_none (wpAny_bind (slicePart_none (wpAny_bind (wpAny_pure ?_)))))
  show wpAny _ _ (pure ((n : Int) - 1, (-1 : Int), Builtin.Slice.slicePlaces ((n : Int) - 1) (-1) (-1))) _ _ s
  have e : Builtin.Slice.slicePlaces ((n : Int) - 1) (-1) (-1) = n := by
    unfold Builtin.Slice.slicePlaces
    rw [if_neg (by decide)]
    have : (- (-1 : Int)) = 1 := by decide
    rw [this, Int.ediv_one]
    split <;> omega
  rw [e]
  exact wpAny_pure h
theorem pick_rev (xs : Array Value) : ((List.range xs.size).filterMap fun (m : Nat) => xs[(((xs.size : Int) - 1) + (m : Int) * (-1)).toNat]?).toArray = xs.toList.reverse.toArray := by
  congr 1
  have e2 : ∀ (l : List Value), (List.range l.length).filterMap (fun m => l[m]?) = l := by
    intro l
    induction l with
    | nil => rfl
    | cons a l ih =>
      rw [List.length_cons, List.range_succ_eq_map, List.filterMap_cons, List.filterMap_map]
      show a :: _ = a :: l
      congr 1
  have h := e2 xs.toList.reverse
  rw [List.length_reverse, Array.length_toList] at h
  refine Eq.trans ?_ h
  have hc : ∀ (l : List Nat), (∀ m ∈ l, m < xs.size) → (l.filterMap fun (m : Nat) => xs[(((xs.size : Int) - 1) + (m : Int) * (-1)).toNat]?) = l.filterMap fun m => xs.toList.reverse[m]? := by
    intro l
    induction l with
    | nil => intro _; rfl
    | cons m l ih =>
      intro hl
      have hm := hl m (List.mem_cons_self ..)
      have e : (((xs.size : Int) - 1) + (m : Int) * (-1)).toNat = xs.size - 1 - m := by omega
      have e3 : xs[(((xs.size : Int) - 1) + (m : Int) * (-1)).toNat]? = xs.toList.reverse[m]? := by
        rw [e, List.getElem?_reverse (by simpa using hm)]
        simp
      rw [List.filterMap_cons, List.filterMap_cons, e3, ih (fun x hx => hl x (List.mem_cons_of_mem _ hx))]
  exact hc _ fun m hm => List.mem_range.mp hm
theorem getItem_tuple_rev {t sl : Addr} {items : Array Value} {tk : Tok} {Q : Value → Shared → Prop} (ht : IsTup s.heap t items) (hs : s.heap.IsSliceOf sl .none .none (.int (-1) tk))
    (h : Q (.ref s.heap.objs.size) { s with heap := s.heap.push { cls := .type "tuple", data := .seq items.toList.reverse.toArray } })
    (hsz : items.size ≤ sizeLine) : wpAny (model prog w) A (getItem (.ref t) (.ref sl)) Q E s := by
  have htake : sizeOk (.seq items.toList.reverse.toArray) := by
    show items.toList.reverse.toArray.size ≤ sizeLine
    simpa using hsz
  obtain ⟨os, hos, hcs, hds⟩ := id hs
  have hTs : s.TypeIs (.ref sl) "slice" := ⟨os, hos, hcs⟩
  unfold getItem
  try with_reducible refine wpAny_holding ?_
  first | refine wpAny_bind (wpAny_pure ?_) | skip
  refine wpAny_bind (wpAny_sequenceKey ht.typeIs (by decide) ?_)
  refine wpAny_bind (wpAny_callSpecial?_slot (name := Str.ofString "__getitem__") ht.typeIs PyProof.Rows.slot_tuple_getitem
    (wpAny_call_entry PyProof.Rows.slot_tuple_getitem ht.typeIs entry_tuple_getitem ?_ (args_tuple_getitem _ _)))
  show wpAny _ _ (Builtin.Tuple.tupleItemsOf (.ref t) >>= _) _ _ s
  refine wpAny_bind (tupleItemsOf_ ht ?_)
  refine wpAny_bind (wpAny_typeOf hTs ?_)
  rw [if_pos (by decide)]
  refine wpAny_bind (sliceApplied_rev hs ?_)
  have hno : ¬ ((((items.size : Int) - 1) == 0 && (-1 : Int) == 1 && items.size == items.size) = true) := by
    simp
  show wpAny _ _ (if (((items.size : Int) - 1) == 0 && (-1 : Int) == 1 && items.size == items.size) = true then _ else _) _ _ s
  rw [if_neg hno, pick_rev]
  first
    | exact wpAny_bind (m := Builtin.Tuple.tupleExact _) (wpAny_newObj_type (wpAny_pure ⟨_, rfl, wpAny_pure h⟩) htake)
    | exact wpAny_bind (m := Builtin.Tuple.tupleExact _) (wpAny_newObj_type (wpAny_bind (wpAny_pure (wpAny_pure ⟨_, rfl, wpAny_pure h⟩))) htake)
    | exact wpAny_bind (wpAny_bind (m := Builtin.Tuple.tupleExact _) (wpAny_newObj_type (wpAny_pure (wpAny_pure ⟨_, rfl, wpAny_pure h⟩)) htake))
    | exact wpAny_bind (wpAny_bind (m := Builtin.Tuple.tupleExact _) (wpAny_newObj_type (wpAny_pure ⟨_, rfl, wpAny_pure h⟩) htake))
end
def rRevT (K : PySem.W.Frag) : R2 := fun x y H Q => y = .int (-1) ∧ ∃ a xs, x = .ref a ∧ SqT K H a xs ∧ ∀ p, H p = none → Q (.ref p) (L2.upd H p (.tup xs.reverse))
def pRevT : PyData → PyData → Option (Bool × PyData)
  | .tuple ds, .int i => if i = -1 then some (false, .tuple ds.reverse) else none
  | _, _ => none
section
variable {X : Cx} {e st : Expr} {te ts : TE} {pos p2 : Pos}
theorem pe_revT (he : PE X e te) (hst : PE X st ts) : PE X (.Subscript e (.Slice none none (some st) p2) pos) (fun σ H Q => te σ H fun x H1 => ts σ H1 fun y H2 => rRevT X.K x y H2 Q) := by
  refine ⟨fun pins s σ H Q I h => ?_⟩
  refine Subscript_ (thn (he.run pins s σ H _ I h) fun v s1 ⟨x, H1, I1, r1, q1⟩ => ?_)
  refine wpAny_Slice ?_
  rw [evalPart_none, evalPart_some]
  refine wpAny_pure (wpAny_pure ?_)
  refine thn (hst.run pins s1 σ H1 _ I1 q1) fun u s3 ⟨y, H3, I3, r3, q3⟩ => ?_
  obtain ⟨rfl, a, xs, rfl, hx, q⟩ := q3
  obtain ⟨tk, rfl⟩ := r3
  cases r1
  have I4 : Inv X pins σ H3 { s3 with heap := s3.heap.push { cls := .type "slice", data := .fields #[.none, .none, .int (-1) tk] } } := I3.kept (t' := s3.toks) fun b ob q => Heap.get?_push_of_some _ q
  obtain ⟨its, r, ht, hz⟩ := I4.tuple hx
  have hlen : its.toArray.size = xs.length := by rw [List.size_toArray]; exact r.length.symm
  have hs := Heap.IsSliceOf.new s3.heap .none .none (.int (-1) tk)
  refine tail_any (ops := [.ref a, .ref s3.heap.objs.size]) (ht.typeIs) PyProof.Rows.slot_tuple_getitem.lookup ?_ (by with_unfolding_all rfl)
  refine getItem_tuple_rev ht hs ?_ (by rw [hlen]; exact hz)
  refine ⟨.ref (s3.heap.push { cls := .type "slice", data := .fields #[.none, .none, .int (-1) tk] }).objs.size, _, I4.laid (t' := s3.toks) (o := .tup xs.reverse) (fun b ob q => Heap.get?_push_of_some _ q) (Nat.le_refl _) ?_, rfl, q _ (I4.hok.fresh (Nat.le_refl _))⟩
  refine ⟨by rw [List.length_reverse]; exact hz, _, r.reverse, IsTup.new _ _⟩
end
section
variable {K : PySem.W.Frag}
theorem rpa_rev {F : Hp} : ∀ {xs : List V} {ds : List PyData}, RpA K F xs ds → RpA K F xs.reverse ds.reverse
  | [], ds, r => by cases r; exact .nil
  | x :: xs, ds, r => by
    cases r with
    | cons r1 r2 => rw [List.reverse_cons, List.reverse_cons]; exact (rpa_rev r2).append (.cons r1 .nil)
theorem ok_revT : Ok2 K (rRevT K) pRevT := by
  intro Rf G ρ F σ H v w d e n d' Q R q1 q2 h k
  cases d <;> cases e <;> simp only [pRevT] at h <;> try cases h
  rename_i ds i
  split at h
  · rename_i hi
    cases h
    cases q2
    obtain ⟨a, xs, rfl, e1, z1, r1⟩ := q1
    refine ⟨by rw [hi], a, xs, rfl, SqT.of (R.fz _ _ e1), fun p hp => ?_⟩
    obtain ⟨F2, R2, s2, q2⟩ := R.newTup hp (by rw [List.length_reverse]; exact z1) (rpa_rev r1)
    exact k _ F2 _ R2 s2 q2
  · cases h
end
section
variable {X : Cx} {Φ : Fns} {bf : Nat → Option Nat} {a b : Expr} {x y : Z.X} {pos p2 : Pos}
theorem ce_revT (ha : CE X Φ bf a x) (hb : CE X Φ bf b y) : CE X Φ bf (.Subscript a (.Slice none none (some b) p2) pos) (.op2 pRevT x y) :=
  ce2 ok_revT (fun ta tb h h' => pe_revT h h') ha hb
end
end L2.Z

namespace L2.Z
open PySem PySem.Spec PyProof.Rows
@[simp] theorem z_frz {Φ : Fns} {bf : Nat → Option Nat} {ρ : Ev} {i : Nat} {x : X} : ev Φ bf (.frz i x) ρ = ev Φ bf x (frzE i ρ) := by simp only [ev]
section
variable {X : Cx} {Φ : Fns} {bf : Nat → Option Nat} {e : Expr} {x : Z.X}
theorem ce_frz (i : Nat) (h : CE X Φ bf e x) : CE X Φ bf e (.frz i x) := by
  refine PE.imp h fun σ H Q h => ?_
  obtain ⟨Rf, G, ρ, F, r, ρ', R, e, k⟩ := h
  rw [z_frz] at e
  unfold frzE at e
  split at e
  · rename_i d ei
    obtain ⟨F1, a, R1, s1, _, _⟩ := R.slotFreeze ei
    exact ⟨Rf, G, _, F1, r, ρ', R1, e, fun v F' H' R' s q => k v F' H' R' (s1.trans s) q⟩
  · exact ⟨Rf, G, ρ, F, r, ρ', R, e, k⟩
end
end L2.Z

namespace L2.Z
open PySem PySem.Spec PyProof.Rows L2
section
variable {P : Program} {w : World} {A : Around} {E : Value → Shared → Prop} {s : Shared}
/-- a type is called: __new__ makes the object, then __init__ is called -/
theorem type_call {T newId initId : String} {args : List Value} {Q Q₁ : Value → Shared → Prop} (ft : TypeCalled T newId initId) (hct : checkTypeCall T ⟨args, []⟩ = pure ())
    (hnew : codeAny (model P w) A.in1 (.call (.builtin newId) ⟨.type T :: args, []⟩) (wants Q₁ E) s)
    (hini : ∀ obj s₁, Q₁ obj s₁ → s₁.TypeIs obj T ∧ codeAny (model P w) A.in1 (.call (.builtin initId) ⟨obj :: args, []⟩) (wants (fun r s₂ => r = .none ∧ Q obj s₂) E) s₁) :
    wpAny (model P w) A (call (.type T) args) Q E s := by
  have ⟨h1, h2, ⟨_, _, h3⟩, h4, _, h5, h6⟩ := ft
  have h7 := h6.lookup
  refine wpAny_call (codeAny_of_tree ?_)
  show wpAny _ _ (callAny (.type T) _) _ _ _
  refine wpAny_pure ⟨Code.quiet_builtin _ (by decide +kernel), codeAny_builtin F.entry_type_call ?_⟩
  rw [Around.under_plain (weight_type_call_type T args []) rfl]
  repeat (any_goals (first | assumption | wp_step))
  refine codeAny_mono hnew ?_
  intro r s₁ hr
  match r, hr with
  | .error e, hr => exact hr
  | .ok .next, hr => exact hr.elim
  | .ok .brk, hr => exact hr.elim
  | .ok .cont, hr => exact hr.elim
  | .ok (.ret obj), hr =>
    obtain ⟨hT, k⟩ := hini obj s₁ hr
    have h8 := h6.bind obj
    repeat (any_goals (first | assumption | wp_step))
    refine codeAny_mono k ?_
    intro r₂ s₂ k₂
    match r₂, k₂ with
    | .error e, k₂ => exact k₂
    | .ok .next, k₂ => exact k₂.elim
    | .ok .brk, k₂ => exact k₂.elim
    | .ok .cont, k₂ => exact k₂.elim
    | .ok (.ret r), k₂ =>
      obtain ⟨rfl, q⟩ := k₂
      repeat (any_goals (first | assumption | wp_step))
/-- a set just made -/
abbrev freshSet (w : World) : Obj := { cls := .type "set", dict := none, data := .set #[] 0 (.fresh 0 0 (!w.params.followText "set-order")) }
/-- set.__init__(the set at S, the list at l) -/
theorem set_fill {S l : Addr} {items : Array Value} {ns : List Int} {R : Result → Shared → Prop} (hh : A.handled = none) (hne : S ≠ l) (hS : s.heap.get? S = some (freshSet w)) (hl : s.heap.IsList l items) (hi : IntsAre items.toList ns) (hb : ns.length + 1 < scanBound)
    (h : ∀ (h' : Heap) (tk c : Nat), SetR w h' S (fun j => decide (j ∈ ns)) c → c ≤ ns.length → (∀ b o, b ≠ S → s.heap.get? b = some o → h'.get? b = some o) → R (.ok (.ret .none)) { s with heap := h', toks := tk }) :
    codeAny (model P w) A (.call (.builtin "set.__init__") ⟨[.ref S, .ref l], []⟩) R s := by
  have hT : s.TypeIs (.ref S) "set" := ⟨_, hS, rfl⟩
  refine codeAny_call_builtin F.called_set.init.plain F.entry_set_init (check_set_init_1 hT ?_)
  have hn : items.size = ns.length := by
    have := hi.length
    rwa [Array.length_toList] at this
  have ⟨⟨c0, d0, x0, y0⟩, ho, hc, n0, hd⟩ := hl
  simp only at hc hd
  subst hc hd
  have e1 := F.sub_list_set
  have e2 := F.sub_list_frozenset
  have e3 : (Value.type "list" == Value.type "dict") = false := by decide
  unfold Builtin.«set.__init__» noKeywords Builtin.Frozenset.updateFrom
  generalize hPI : pyIter = PI
  wp_walk
  subst hPI
  refine wpAny_pyIter_list hl ?_
  refine wpAny_bind (wpAny_runValue ?_)
  have hS2 := Heap.get?_push_of_some { cls := .type "list_iterator", data := .fields #[.ref l, .int 0 0] } hS
  have lt1 : S < s.heap.objs.size := Heap.lt_size hS
  have lt2 : l < s.heap.objs.size := Heap.lt_size ho
  have out : S ∉ [s.heap.objs.size, l] := by
    simp only [List.mem_cons, List.not_mem_nil, or_false, not_or]
    exact ⟨Nat.ne_of_lt lt1, hne⟩
  have hval : ∀ (i : Nat) (v : Value), items[i]? = some v → ∃ k t, ns[i]? = some k ∧ v = .int k t := fun i v hv => by
    have hlt : i < ns.length := hn ▸ (Array.getElem?_eq_some_iff.mp hv).1
    obtain ⟨t, e⟩ := IntsAre.int_at hi i v (by rw [Array.getElem?_toList]; exact hv)
    rw [List.getD_eq_getElem?_getD, List.getElem?_eq_getElem hlt] at e
    exact ⟨_, t, List.getElem?_eq_getElem hlt, e⟩
  have W := (Walks.list (prog := P) (w := w) (A := A.in1.in1) (by simp [hh]) s.heap.objs.size l (Nat.ne_of_lt lt2) items).toS
  refine set_update_ints W S out ns hn hb hval _ 0 _ rfl (Nat.zero_le _) ⟨⟨_, Heap.get?_push_size _ rfl, rfl, rfl⟩, hl.push _⟩ ⟨0, Nat.le_refl _, setR_new_at hS2⟩ ?_
  intro s' c hm hc hSR
  rw [hn] at hc
  have k := hm.heap
  obtain ⟨hp, g, d, tk, os⟩ := s'
  cases (show g = s.gens from hm.gens)
  cases (show d = s.drawn from hm.drawn)
  cases (show os = s.os from hm.os)
  refine wpAny_pure ?_
  refine wpAny_pure (h hp tk c hSR hc fun b o hb e => k b o ?_ (Heap.get?_push_of_some _ e))
  simp only [List.mem_cons, List.not_mem_nil, or_false, not_or]
  exact ⟨hb, Nat.ne_of_lt (Heap.lt_size e)⟩
/-- set(a list of ints) -/
theorem set_of_list {l : Addr} {items : Array Value} {ns : List Int} {Q : Value → Shared → Prop} (hh : A.handled = none) (hl : s.heap.IsList l items) (hi : IntsAre items.toList ns) (hb : ns.length + 1 < scanBound)
    (h : ∀ (h' : Heap) (tk c : Nat), SetR w h' s.heap.objs.size (fun j => decide (j ∈ ns)) c → c ≤ ns.length → (∀ b o, s.heap.get? b = some o → h'.get? b = some o) → Q (.ref s.heap.objs.size) { s with heap := h', toks := tk }) :
    wpAny (model P w) A (call (.type "set") [.ref l]) Q E s := by
  have ⟨ol, ho, _⟩ := hl
  have lt : l < s.heap.objs.size := Heap.lt_size ho
  refine type_call F.called_set (F.typeCall_set_1 _) (code_set_led1 (.ref l) (Q₁ := fun obj s₁ => obj = .ref s.heap.objs.size ∧ s₁ = { s with heap := s.heap.push (freshSet w) }) ⟨rfl, rfl⟩) ?_
  rintro _ _ ⟨rfl, rfl⟩
  have hS : (s.heap.push (freshSet w)).get? s.heap.objs.size = some (freshSet w) := Heap.get?_push_size _ rfl
  refine ⟨⟨_, hS, rfl⟩, set_fill (by simp [hh]) (Nat.ne_of_gt lt) hS (hl.push _) hi hb fun h' tk c R hc k => ⟨rfl, ?_⟩⟩
  exact h h' tk c R hc fun b o e => k b o (Nat.ne_of_lt (Heap.lt_size e)) (Heap.get?_push_of_some _ e)
end
/-- rising, with the same members -/
def rSortSet (K : PySem.W.Frag) : V → Hp → VK → Prop := fun x H Q => ∃ (a : Addr) (ns : List Int), x = .ref a ∧ SqL K H a (ns.map V.int) ∧ ns.length < 63 ∧
  ∀ (ms : List Int) (p : Addr), ms.Pairwise (· < ·) → (∀ k, k ∈ ms ↔ k ∈ ns) → H p = none → Q (.ref p) (L2.upd H p (.lst (ms.map V.int)))
section
variable {X : Cx} {a : Expr} {p p2 q pos : Pos} {ta : TE}
theorem pe_sortSet (hc : X.calm = true) (hg : Gl X "sorted") (hm : X.mg "sorted" = none) (hg2 : Gl X "set") (hm2 : X.mg "set" = none) (ha : PE X a ta)
    (n1 : starEach [Expr.Call (.Name "set" p2) [a] [] q] X.env = (false, eval (.Call (.Name "set" p2) [a] [] q) X.env) :: starEach [] X.env := by rfl)
    (n2 : starEach [a] X.env = (false, eval a X.env) :: starEach [] X.env := by rfl) :
    PE X (.Call (.Name "sorted" p) [.Call (.Name "set" p2) [a] [] q] [] pos) (fun σ H Q => ta σ H fun x H1 => rSortSet X.K x H1 Q) := by
  refine ⟨fun pins s σ H Q I h => ?_⟩
  refine Call_ (ld_blt I hg hm (u := .builtin "sorted") (by first | rfl | decide +kernel) (PyProof.Rows.callWith_builtin1 (PyProof.Rows.args_cons (Call_ ?_) n1) rfl rfl))
  refine ld_blt I hg2 hm2 (u := .type "set") (by first | rfl | decide +kernel) (PyProof.Rows.callWith_type1 (PyProof.Rows.args_cons (thn (ha.run pins s σ H _ I h) fun v s1 ⟨x, H1, I1, r1, q1⟩ => PyProof.Rows.args_nil ?_) n2) n2 rfl)
  obtain ⟨l, ns, rfl, hs, hz, k⟩ := q1
  cases r1
  obtain ⟨its, rv, pl, _⟩ := I1.list hs
  have hi : IntsAre its ns := by simpa using rv.ints
  refine set_of_list (I1.ok.hd hc) pl.isList (by simpa using hi) (by unfold scanBound; omega) fun h' tk c R hcn keep => PyProof.Rows.args_nil ?_
  have I2 : Inv X pins σ H1 { s1 with heap := h', toks := tk } := I1.kept keep
  obtain ⟨s2, hs2⟩ : ∃ s2, s2 = ({ s1 with heap := h', toks := tk } : Shared) := ⟨_, rfl⟩
  have R2 : SetR X.w s2.heap s1.heap.objs.size (fun j => decide (j ∈ ns)) c := by rw [hs2]; exact R
  rw [← hs2] at I2 ⊢
  clear hs2 R
  refine sorted_set R2 (I2.ok.hd hc) (by omega) fun s' pp out cc ms kp g o hp hget hints hinc hmem hlen => ?_
  have fresh : H1 pp = none := I2.hok.fresh hp
  have room : (ms.map V.int).length ≤ sizeLine := by rw [List.length_map, hlen, sizeLine_eq]; omega
  have J : Inv X pins σ (L2.upd H1 pp (.lst (ms.map V.int))) { s2 with heap := s'.heap, gens := s'.gens, drawn := s'.drawn, toks := s'.toks } :=
    I2.call (ch := []) (Un.laid kp hp fresh) (I2.hok.laid kp hp ⟨room, out.toList, cc, vals_of_ints hints, hget⟩) (by rw [g]; exact I2.bare) (fun _ z => nomatch z)
  have es : s' = { s2 with heap := s'.heap, gens := s'.gens, drawn := s'.drawn, toks := s'.toks } := by
    obtain ⟨_, _, _, _, _⟩ := s'
    cases o
    rfl
  rw [es]
  exact ⟨.ref pp, _, J, rfl, k ms pp hinc (fun j => by rw [hmem, decide_eq_true_eq]) fresh⟩
end
def srtI (ns : List Int) : List Int := ns.eraseDups.mergeSort fun a b => decide (a ≤ b)
theorem mem_srtI {ns : List Int} {k : Int} : k ∈ srtI ns ↔ k ∈ ns := by
  unfold srtI
  rw [(List.mergeSort_perm _ _).mem_iff, List.mem_eraseDups]
theorem lt_uniq : ∀ {xs ys : List Int}, xs.Pairwise (· < ·) → ys.Pairwise (· < ·) → (∀ k, k ∈ xs ↔ k ∈ ys) → xs = ys
  | [], [], _, _, _ => rfl
  | [], y :: ys, _, _, h => by have := (h y).mpr (by simp); simp at this
  | x :: xs, [], _, _, h => by have := (h x).mp (by simp); simp at this
  | x :: xs, y :: ys, h1, h2, h => by
    obtain ⟨a1, a2⟩ := List.pairwise_cons.mp h1
    obtain ⟨b1, b2⟩ := List.pairwise_cons.mp h2
    have e : x = y := by
      rcases List.mem_cons.mp ((h x).mp (by simp)) with q | q
      · exact q
      · rcases List.mem_cons.mp ((h y).mpr (by simp)) with r | r
        · exact r.symm
        · have := b1 x q
          have := a1 y r
          omega
    subst e
    rw [lt_uniq a2 b2 fun k => ?_]
    constructor
    · intro hk
      rcases List.mem_cons.mp ((h k).mp (by simp [hk])) with q | q
      · have := a1 k hk; omega
      · exact q
    · intro hk
      rcases List.mem_cons.mp ((h k).mpr (by simp [hk])) with q | q
      · have := b1 k hk; omega
      · exact q
theorem eraseDups_nodup : ∀ (n : Nat) (l : List Int), l.length ≤ n → l.eraseDups.Nodup
  | _, [], _ => by simp
  | 0, x :: l, h => by simp at h
  | n + 1, x :: l, h => by
    rw [List.eraseDups_cons, List.nodup_cons]
    refine ⟨fun z => ?_, eraseDups_nodup n _ ?_⟩
    · have := (List.mem_eraseDups.mp z)
      simp at this
    · have := List.length_filter_le (fun b => !b == x) l
      simp at h
      omega
theorem srtI_lt (ns : List Int) : (srtI ns).Pairwise (· < ·) := by
  have hp := List.mergeSort_perm ns.eraseDups fun a b => decide (a ≤ b)
  have nd : (srtI ns).Nodup := hp.nodup_iff.mpr (eraseDups_nodup _ ns (Nat.le_refl _))
  have le : (srtI ns).Pairwise fun a b => decide (a ≤ b) = true := List.pairwise_mergeSort (fun a b c h1 h2 => by simp at *; omega) (fun a b => by simp; omega) _
  refine (le.and nd).imp fun {a b} h => ?_
  have h1 : a ≤ b := of_decide_eq_true h.1
  have h2 : a ≠ b := h.2
  omega
def pSortSet : PyData → Option (Bool × PyData)
  | .list ds => (intsOf ds).bind fun ns => if ns.length < 63 then some (true, .list ((srtI ns).map PyData.int)) else none
  | _ => none
theorem p_sortSet {ns : List Int} (h : ns.length < 63) : pSortSet (.list (ns.map PyData.int)) = some (true, .list ((srtI ns).map PyData.int)) := by
  have : intsOf (ns.map PyData.int) = some ns := by
    induction ns with
    | nil => rfl
    | cons i l ih =>
      rw [List.map_cons, intsOf, ih (by simp at h; omega)]
      rfl
  simp only [pSortSet, this, Option.bind_some, if_pos h]
section
variable {K : PySem.W.Frag}
theorem ok_sortSet : Ok1 K (rSortSet K) pSortSet := by
  intro Rf G ρ F σ H v d n d' Q R q h k
  cases d <;> simp only [pSortSet] at h <;> try cases h
  rename_i ds
  simp only [Option.bind_eq_some_iff] at h
  obtain ⟨is, e1, h⟩ := h
  split at h
  · rename_i hz
    cases h
    obtain ⟨a, xs, rfl, e, z, r⟩ := q
    have e2 := rpa_ints r e1
    subst e2
    refine ⟨a, is, rfl, e, hz, fun ms p h1 h2 hp => ?_⟩
    have em : ms = srtI is := lt_uniq h1 (srtI_lt is) fun j => by rw [h2, mem_srtI]
    have ra : ∀ l : List Int, RpA K F (l.map V.int) (l.map PyData.int) := by
      intro l
      induction l with
      | nil => exact .nil
      | cons i l ih => exact .cons (.int i) ih
    have hl : ms.length ≤ sizeLine := by
      have := List.Nodup.length_le_of_subset (h1.imp fun h => Int.ne_of_lt h) (l₂ := is) fun j hj => (h2 j).mp hj
      rw [sizeLine_eq]; omega
    subst em
    refine k _ F _ (R.laid hp) (Same.refl _) ⟨p, rfl, R.loose_new hp, ⟨_, upd_same, by rw [List.length_map]; exact hl, ra _⟩⟩
  · cases h
end
section
variable {X : Cx} {a : Expr} {p p2 q pos : Pos} {Φ : Fns} {bf : Nat → Option Nat} {x : Z.X}
theorem ce_sortSet (hc : X.calm = true) (hg : Gl X "sorted") (hm : X.mg "sorted" = none) (hg2 : Gl X "set") (hm2 : X.mg "set" = none) (ha : CE X Φ bf a x)
    (n1 : starEach [Expr.Call (.Name "set" p2) [a] [] q] X.env = (false, eval (.Call (.Name "set" p2) [a] [] q) X.env) :: starEach [] X.env := by rfl)
    (n2 : starEach [a] X.env = (false, eval a X.env) :: starEach [] X.env := by rfl) :
    CE X Φ bf (.Call (.Name "sorted" p) [.Call (.Name "set" p2) [a] [] q] [] pos) (.op1 pSortSet x) := ce1 ok_sortSet (fun _ h => pe_sortSet hc hg hm hg2 hm2 h n1 n2) ha
end
end L2.Z

namespace L2.Z
open PySem PySem.Spec PyProof.Rows
open PySem.W (EachIs KdlSrc)

section
variable {prog : Program} {w : World} {A : Around} {E : Value → Shared → Prop} {s : Shared}
theorem rk_iter {d : Addr} {es : Array DictEntry} {ep : Nat} {Q : Value → Shared → Prop} (hd : (d == sysModules) = false) (hm : DT.Raw s.heap d es ep)
    (hQ : Q (.ref s.heap.objs.size) { s with heap := s.heap.push { cls := .type "dict_keyiterator", data := .fields #[.ref d, .int 0 0, .int es.size 0, .int ep 0] } }) :
    wpAny (model prog w) A (pyIter (.ref d)) Q E s := by
  obtain ⟨o, ho, hc, hdat⟩ := id hm
  have hT : s.TypeIs (.ref d) "dict" := hm.typeIs
  refine wpAny_pyIter_slot hT F.slot_dict_iter (wpAny_call_entry F.slot_dict_iter hT F.entry_dict_iter ?_ (F.args_dict_iter_1 _))
  unfold Builtin.«dict.__iter__»
  refine wpAny_bind ?_
  unfold Builtin.Dict.dictSlotNone
  refine wpAny_bind (wpAny_notOrdered_dict hT ?_)
  show wpAny _ _ (pure (Value.ref d)) _ _ s
  refine wpAny_pure ?_
  show wpAny _ _ (Builtin.Dict.showsAll d >>= _) _ _ s
  unfold Builtin.Dict.showsAll
  rw [if_neg (by rw [hd]; exact Bool.false_ne_true)]
  refine wpAny_bind (wpAny_pure ?_)
  refine wpAny_bind (wpAny_dictEntries ho hdat ?_)
  refine wpAny_bind (wpAny_dictEpoch ho hdat ?_)
  refine wpAny_bind (wpAny_newObj_type (wpAny_pure ⟨_, rfl, "dict_keyiterator", _, ⟨_, Heap.get?_push_size _ rfl, rfl⟩, F.slot_dict_keyiterator_next.lookup, ?_⟩))
  simpa [rawInt] using hQ
theorem rk_next {it d : Addr} {i ep : Nat} {es : Array DictEntry} {Q : Option Value → Shared → Prop} (hit : s.heap.IsKeyIter it d i es.size ep) (hm : DT.Raw s.heap d es ep) (hlt' : i < es.size)
    (hQ : ∀ h', h'.IsKeyIter it d (i + 1) es.size ep → Heap.SameBut it s.heap h' → Q (some es[i].key) { s with heap := h' }) :
    wpAny (model prog w) A (pyNext (.ref it)) Q E s := by
  obtain ⟨o, ho, hc, hd⟩ := id hit
  obtain ⟨od, hod, hcd, hdd⟩ := id hm
  unfold pyNext
  refine wpAny_bind (wpAny_attempt (wpAny_callSpecial?_slot (name := Str.ofString "__next__") hit.typeIs F.slot_dict_keyiterator_next
    (wpAny_call_entry F.slot_dict_keyiterator_next hit.typeIs F.entry_dict_keyiterator_next ?_ (F.args_dict_keyiterator_next_1 _))))
  refine wpAny_bind (wpAny_pure ?_)
  refine wpAny_bind ?_
  refine wpAny_bind ?_
  first | refine wpAny_bind (wpAny_typeNameOfWhole_keyiter hit.typeIs (wpAny_pure ?_)) | refine wpAny_bind (wpAny_typeNameOf_keyiter hit.typeIs (wpAny_pure ?_))
  refine wpAny_bind (wpAny_fieldsOf ho hd ?_)
  have hown : Builtin.Dict_items.ownsTuple "dict_keyiterator" = false := by decide
  simp only [hown, Bool.false_eq_true, if_false]
  show wpAny _ _ (if (Value.ref d == Value.none) = true then _ else _) _ _ s
  rw [if_neg (show ¬ ((Value.ref d == Value.none) = true) from Bool.false_ne_true)]
  refine wpAny_bind (wpAny_pure ?_)
  refine wpAny_bind (wpAny_dictEntries hod hdd ?_)
  rw [if_neg (by simp)]
  refine wpAny_bind (wpAny_pure ?_)
  refine wpAny_bind (wpAny_dictEpoch hod hdd ?_)
  rw [if_neg (by simp)]
  refine wpAny_pure ?_
  simp only [show ¬ ((i : Int) < 0) from by omega, if_false, Int.toNat_natCast, Array.getElem?_eq_getElem hlt']
  refine wpAny_bind ?_
  first | refine wpAny_bind (wpAny_typeNameOfWhole_keyiter hit.typeIs (wpAny_pure ?_)) | refine wpAny_bind (wpAny_typeNameOf_keyiter hit.typeIs (wpAny_pure ?_))
  refine wpAny_bind (wpAny_isOneOf_keyiter hit.typeIs ?_)
  show wpAny _ _ (setField (.ref it) 1 (rawInt ((i : Int) + 1)) >>= _) _ _ s
  refine wpAny_bind (wpAny_setField ho hd (by simp) ?_)
  have hit' : (s.heap.update it (Obj.mapFields (·.setIfInBounds 1 (rawInt ((i : Int) + 1))))).IsKeyIter it d (i + 1) es.size ep :=
    ⟨_, Heap.get?_update_self _ ho (Obj.isFreed_of_fields (Obj.data_mapFields hd _)), (Obj.cls_mapFields ..).trans hc, by rw [Obj.data_mapFields hd]; simp [rawInt]⟩
  refine wpAny_bind (wpAny_holding ?_)
  refine wpAny_bind (wpAny_isOneOf_keyiter (s := { s with heap := s.heap.update it (Obj.mapFields (·.setIfInBounds 1 (rawInt ((i : Int) + 1)))) }) hit'.typeIs ?_)
  show wpAny _ _ (pure es[i].key) _ _ _
  exact wpAny_pure (wpAny_pure ⟨_, rfl, wpAny_pure (hQ _ hit' (Heap.SameBut.update ..))⟩)
theorem rk_end {it d : Addr} {i ep : Nat} {es : Array DictEntry} {Q : Option Value → Shared → Prop} (hh : A.handled = none) (hit : s.heap.IsKeyIter it d i es.size ep)
    (hm : DT.Raw s.heap d es ep) (hge : es.size ≤ i)
    (hQ : ∀ h', Heap.ExtBut it s.heap h' → Q none { s with heap := h' }) : wpAny (model prog w) A (pyNext (.ref it)) Q E s := by
  obtain ⟨o, ho, hc, hd⟩ := id hit
  obtain ⟨od, hod, hcd, hdd⟩ := id hm
  unfold pyNext
  refine wpAny_bind (wpAny_attempt (wpAny_callSpecial?_slot (name := Str.ofString "__next__") hit.typeIs F.slot_dict_keyiterator_next
    (wpAny_call_entry F.slot_dict_keyiterator_next hit.typeIs F.entry_dict_keyiterator_next ?_ (F.args_dict_keyiterator_next_1 _))))
  refine wpAny_bind (wpAny_pure ?_)
  refine wpAny_bind ?_
  refine wpAny_bind ?_
  first | refine wpAny_bind (wpAny_typeNameOfWhole_keyiter hit.typeIs (wpAny_pure ?_)) | refine wpAny_bind (wpAny_typeNameOf_keyiter hit.typeIs (wpAny_pure ?_))
  refine wpAny_bind (wpAny_fieldsOf ho hd ?_)
  have hown : Builtin.Dict_items.ownsTuple "dict_keyiterator" = false := by decide
  simp only [hown, Bool.false_eq_true, if_false]
  show wpAny _ _ (if (Value.ref d == Value.none) = true then _ else _) _ _ s
  rw [if_neg (show ¬ ((Value.ref d == Value.none) = true) from Bool.false_ne_true)]
  refine wpAny_bind (wpAny_pure ?_)
  refine wpAny_bind (wpAny_dictEntries hod hdd ?_)
  rw [if_neg (by simp)]
  refine wpAny_bind (wpAny_pure ?_)
  refine wpAny_bind (wpAny_dictEpoch hod hdd ?_)
  rw [if_neg (by simp)]
  refine wpAny_pure ?_
  simp only [show ¬ ((i : Int) < 0) from by omega, if_false, Int.toNat_natCast, Array.getElem?_eq_none hge]
  refine wpAny_bind ?_
  first | refine wpAny_bind (wpAny_typeNameOfWhole_keyiter hit.typeIs (wpAny_pure ?_)) | refine wpAny_bind (wpAny_typeNameOf_keyiter hit.typeIs (wpAny_pure ?_))
  show wpAny _ _ (setField (.ref it) 0 .none >>= _) _ _ s
  refine wpAny_bind (wpAny_setField ho hd (by simp) ?_)
  show wpAny _ _ (newExc (.type "StopIteration") [] >>= _) _ _ _
  refine wpAny_bind ?_
  simp only [newExc, newTuple]
  refine wpAny_bind (wpAny_newObj_type ?_ (by size_fits))
  refine wpAny_bind (m := firstArgMember _ _) (wpAny_of_eq (a := Value.none) (by first | rfl | (simp only [firstArgMember]; rfl)) ?_)
  refine wpAny_newObj_type ?_ (by size_fits)
  simp only [raiseNew]
  refine wpAny_bind (wpAny_handled ?_)
  rw [show A.in1.handled = none from hh]
  refine wpAny_bind (wpAny_pure (wpAny_throw ?_))
  refine wpAny_bind (wpAny_isInstance (T := "StopIteration") (b := true) ⟨_, Heap.get?_push_size _ rfl, rfl⟩ isSubtype_stop ?_)
  exact wpAny_pure (hQ _ (((Heap.SameBut.update ..).extBut.push _).push _))
theorem rk_walks (hh : A.handled = none) (I d : Addr) (hne : d ≠ I) (es : Array DictEntry) (ep : Nat) :
    Walks prog w A I [I, d] [I] es.size (fun i v => ∃ h : i < es.size, v = es[i].key) (fun i h => h.IsKeyIter I d i es.size ep ∧ DT.Raw h d es ep) where
  sub := fun b hb => by simp at hb; simp [hb]
  frame := fun _ _ _ st hk => ⟨st.1.at fun o e => hk I (by simp) o e, st.2.at' fun o e => hk d (by simp) o e⟩
  item := fun i s Q E hi st hQ => rk_next st.1 st.2 hi fun h' hit' hs' =>
    hQ _ h' s.toks ⟨hi, rfl⟩ ⟨hit', st.2.at' fun o e => hs'.extBut d o hne e⟩ fun b o hb e => hs'.extBut b o (fun h => hb (by simp [h])) e
  done := fun s Q E st hQ => rk_end hh st.1 st.2 (Nat.le_refl _) fun h' he' => hQ h' s.toks fun b o hb e => he' b o (fun h => hb (by simp [h])) e
  self := fun _ _ _ _ st hQ => wpAny_pyIter_keyiter st.1 hQ
theorem rk_src {d : Addr} {es : Array DictEntry} {ep : Nat} (lo : (d == sysModules) = false) : KdlSrc prog w "dict" d d es.size (fun i v => ∃ h : i < es.size, v = es[i].key) (fun h => DT.Raw h d es ep) where
  type := fun _ hm => hm.typeIs
  there := fun _ hm => ⟨hm.lt, hm.lt⟩
  keep := fun _ _ hm hk => hm.at' fun o e => hk d (.inl rfl) o e
  notList := by decide
  notTuple := by decide
  hint := fun _ _ _ _ hm hq => PySem.W.kdl_hint_dict hm.typeIs hq
  iter := fun _ _ hh hm => ⟨_, _, (fun _ _ hq => rk_iter lo hm hq), rk_walks hh _ d (Nat.ne_of_lt hm.lt) es ep, ⟨⟨_, Heap.get?_push_size _ rfl, rfl, rfl⟩, hm.push _⟩⟩
end

section
variable {prog : Program} {w : World} {A : Around} {E : Value → Shared → Prop} {s : Shared}
theorem call_tuple_lt {Q : Value → Shared → Prop} {l b : Addr} {items items2 : Array Value} {e r : Nat → Bool} (hl : s.heap.IsTuple l items) (hb : s.heap.IsTuple b items2)
    (he : ∀ j (h1 : j < items.size) (h2 : j < items2.size), SeqAt.EqAt A.in1 s items[j] items2[j] (e j)) (hr : ∀ j (h1 : j < items.size) (h2 : j < items2.size), e j = false → SeqAt.RcLt A.in1 s items[j] items2[j] (r j))
    (h : Q (.bool (SeqAt.firstLt e r (decide (items.size < items2.size)) (List.range (min items.size items2.size)))) s) : wpAny (model prog w) A (call (.builtin "tuple.__lt__") [.ref l, .ref b]) Q E s := by
  obtain ⟨⟨cls, dd, data, sl⟩, ho, hc, n, hd⟩ := id hl
  obtain ⟨⟨cls2, dd2, data2, sl2⟩, ho2, hc2, n2, hd2⟩ := id hb
  simp only at hc hd hc2 hd2
  subst hc hd hc2 hd2
  exact call_meets F.slot_tuple_lt ⟨_, ho, rfl⟩ F.entry_tuple_lt (F.args_tuple_lt_2 _ _) (SeqAt.tuple_ltAt l b items items2 n n2 dd dd2 sl sl2 e r) ⟨ho, ho2, he, hr, h⟩
theorem oneLt_tup {xs ys : List PyData} {a b : Value} {as bs : List Addr} {Q : Bool → Shared → Prop} (ra : Reads s.heap a (.tuple xs) as) (rb : Reads s.heap b (.tuple ys) bs) (hal : PySem.W.alikeAll xs ys = true)
    (hu : A.units + min (PyData.tuple xs).depth (PyData.tuple ys).depth < cLine) (hq : Q (PySem.W.dataLt (.tuple xs) (.tuple ys)) s) : wpAny (model prog w) A (oneLt' true a b) Q E s := by
  cases ra with
  | @tuple l o vs n _ as₁ h1 h2 h3 h4 =>
    cases rb with
    | @tuple l' o' vs' n' _ bs₁ k1 k2 k3 k4 =>
      have n1 : vs.size = xs.length := by simpa using SeqAt.ReadsAll.length _ _ _ h4
      have n2 : vs'.size = ys.length := by simpa using SeqAt.ReadsAll.length _ _ _ k4
      rw [PySem.W.dataLt_tuple, ← PySem.W.firstLt_toks xs ys hal, ← n1, ← n2] at hq
      rw [oneLt'_eq]
      simp only [if_true]
      refine wpAny_bind (wpAny_cRoomFor (SeqAt.room_here hu) ?_)
      refine wpAny_bind (wpAny_callSpecialIfBound?_slot (T := "tuple") ⟨_, h1, h2⟩ F.slot_tuple_lt (call_tuple_lt (e := SeqAt.pairEq xs ys) (r := fun j => PySem.W.dataLt (xs.getD j .none) (ys.getD j .none)) ⟨_, h1, h2, _, h3⟩ ⟨_, k1, k2, _, k3⟩ (fun j j1 j2 => ?_) (fun j j1 j2 hj => ?_) ?_))
      · have := PySem.W.eqAt_alikeAll xs ys A.in1 s vs.toList vs'.toList _ _ h4 k4 hal (SeqAt.room_in hu) j (by simpa using j1) (by simpa using j2)
        simpa using this
      · have := PySem.W.rcLt_alikeAll xs ys A.in1 s vs.toList vs'.toList _ _ h4 k4 hal (SeqAt.room_in hu) j (by simpa using j1) (by simpa using j2) hj
        simpa using this
      · exact wpAny_truthy_bool hq
/-- the first items of tuples, told by the data -/
theorem firsts_any : ∀ {vs : List Value} {ds : List PyData} {Q : List (Option Value) → Shared → Prop}, EachIs (fun v d => ∃ as, Reads s.heap v d as) vs ds → (∀ d ∈ ds, ∃ xs, d = PyData.tuple xs) →
    (∀ fs : List (Option Value), fs.length = vs.length → (∀ (j : Nat) (xs : List PyData), ds[j]? = some (PyData.tuple xs) → ∃ f, fs[j]? = some f ∧ (xs = [] → f = none)) → Q fs s) → wpAny (model prog w) A (vs.mapM firstOfTuple') Q E s
  | _, _, Q, .nil, _, h => by
    rw [List.mapM_nil]
    exact wpAny_pure (h [] rfl fun j xs e => by simp at e)
  | v :: vs, d :: ds, Q, .cons ⟨as, r⟩ t, ht, h => by
    obtain ⟨xs, rfl⟩ := ht d (by simp)
    cases r with
    | @tuple a o ys n _ _ ho hc hd hr =>
      rw [List.mapM_cons]
      refine wpAny_bind ?_
      rw [PySem.W.kas_first_eq]
      refine wpAny_bind (PySem.W.Looks.here (show PySem.W.Looks (model prog w) s.heap (typeOf (.ref a)) o.cls from (PySem.W.Looks.ld ho).andThen .now) ?_)
      rw [hc, if_neg (by first | decide | simp)]
      refine wpAny_bind (listItems_at ho hd (wpAny_pure ?_))
      refine wpAny_bind (firsts_any (Q := fun bs s' => wpAny (model prog w) A (pure (ys[0]? :: bs)) Q E s') t (fun d hd => ht d (by simp [hd])) fun fs hl hf => ?_)
      refine wpAny_pure (h _ (by simp [hl]) fun j zs e => ?_)
      cases j with
      | zero =>
        simp only [List.getElem?_cons_zero, Option.some.injEq, PyData.tuple.injEq] at e
        subst e
        refine ⟨ys[0]?, rfl, fun z => ?_⟩
        subst z
        cases h : ys.toList with
        | nil => rw [← Array.getElem?_toList, h]; rfl
        | cons _ _ => rw [h] at hr; cases hr
      | succ j => simpa using hf j zs (by simpa using e)
theorem tup_kind {vs : List Value} {ds : List PyData} {Q : SortKind → Shared → Prop} (e : EachIs (fun v d => ∃ as, Reads s.heap v d as) vs (.tuple [] :: ds)) (ht : ∀ d ∈ ds, ∃ xs, d = .tuple xs) (hq : Q oneType' s) :
    wpAny (model prog w) A (keyKind' vs.toArray) Q E s := by
  have ht' : ∀ d ∈ PyData.tuple [] :: ds, ∃ xs, d = PyData.tuple xs := by
    intro d hd
    rcases List.mem_cons.mp hd with rfl | hd
    · exact ⟨_, rfl⟩
    · exact ht d hd
  rw [keyKind'_eq, List.mapM_toArray, map_eq_pure_bind]
  refine wpAny_bind (wpAny_bind (firsts_any e ht' fun fs hl hf => wpAny_pure ?_))
  obtain ⟨f, f1, f2⟩ := hf 0 [] rfl
  obtain rfl := f2 rfl
  obtain ⟨fr, rfl⟩ : ∃ fr, fs = none :: fr := by
    cases fs with
    | nil => simp at f1
    | cons a fr => simp at f1; exact ⟨fr, by rw [f1]⟩
  rw [if_neg (by simp), if_neg (by simp)]
  rw [oneTypeOnly'_eq, List.mapM_toArray, map_eq_pure_bind]
  refine wpAny_bind (wpAny_bind (wpAny_bind (PySem.W.kas_mapM (r := Value.type "tuple") _ (fun v hv Q' hq => ?_) (wpAny_pure ?_))))
  · obtain ⟨d, hd, as, r⟩ := e.left v hv
    obtain ⟨xs, rfl⟩ := ht' d hd
    exact (PySem.W.looks_reads r).here hq
  · obtain ⟨v, vr, rfl⟩ : ∃ v vr, vs = v :: vr := by
      cases e with
      | cons a b => exact ⟨_, _, rfl⟩
    have hall : ((List.map (fun _ => Value.type "tuple") (v :: vr)).toArray.all fun x => x == Value.type "tuple") = true := by
      simp only [List.all_toArray, List.all_map, List.all_eq_true]
      intro _ _
      rfl
    have h0 : (List.map (fun _ => Value.type "tuple") (v :: vr)).toArray[0]? = some (Value.type "tuple") := by simp
    rw [h0]
    simp only [hall, if_true]
    exact wpAny_pure (wpAny_pure hq)
theorem sortsAt_tup {vs : List Value} {ds : List PyData} (e : EachIs (fun v d => ∃ as, Reads s.heap v d as) vs (.tuple [] :: ds)) (hal : PySem.W.AllAlike (.tuple [] :: ds)) (ht : ∀ d ∈ ds, ∃ xs, d = .tuple xs)
    (hu : ∀ d, d ∈ PyData.tuple [] :: ds → A.units + d.depth < cLine) : PySem.W.SortsAt prog w A s (PySem.W.dataKind s.heap (.tuple [] :: ds)) vs := by
  have ht' : ∀ d ∈ PyData.tuple [] :: ds, ∃ xs, d = PyData.tuple xs := by
    intro d hd
    rcases List.mem_cons.mp hd with rfl | hd
    · exact ⟨_, rfl⟩
    · exact ht d hd
  refine ⟨fun v hv => ?_, oneType', ?_, fun h2 E Q hq => tup_kind e ht hq⟩
  · obtain ⟨d, hd, as, r⟩ := e.left v hv
    exact ⟨_, PySem.W.dataKind_some hal hd r⟩
  · intro E x y a b Q ha hb hq
    obtain ⟨d, as, hd, ra, rfl⟩ := PySem.W.dataKind_inv ha
    obtain ⟨d', as', hd', rb, rfl⟩ := PySem.W.dataKind_inv hb
    obtain ⟨xs, rfl⟩ := ht' d hd
    obtain ⟨ys, rfl⟩ := ht' d' hd'
    have hroom : A.units + min (PyData.tuple xs).depth (PyData.tuple ys).depth < cLine := Nat.lt_of_le_of_lt (Nat.add_le_add_left (Nat.min_le_left _ _) _) (hu _ hd)
    rw [keyLt'_oneType]
    have hq' : Q (PySem.W.dataLt (.tuple xs) (.tuple ys)) s := hq
    exact oneLt_tup ra rb (by have := hal _ hd _ hd'; simpa [PySem.W.alike] using this) hroom hq'
end

def SortableT (ds : List PyData) : Prop := PySem.W.Sortable ds ∨ ∃ es, ds = .tuple [] :: es ∧ ∀ d ∈ es, ∃ xs, d = PyData.tuple xs
section
variable {prog : Program} {w : World} {A : Around} {E : Value → Shared → Prop} {s : Shared} {β : Type} {vs : List Value} {bs : List β} {enc : β → PyData} {R : Value → β → Prop}
theorem sortsAt_any {ds : List PyData} (e : EachIs (fun v d => ∃ as, Reads s.heap v d as) vs ds) (hal : PySem.W.AllAlike ds) (hk : SortableT ds) (hu : ∀ d, d ∈ ds → A.units + d.depth < cLine) : PySem.W.SortsAt prog w A s (PySem.W.dataKind s.heap ds) vs := by
  rcases hk with hk | ⟨es, rfl, ht⟩
  · exact PySem.W.SortsAt.data e hal hk hu
  · exact sortsAt_tup e hal ht hu
theorem list_sort_tups {a : Addr} {n : Nat} {Q : Value → Shared → Prop} (ho : s.heap.get? a = some (seqObj "list" vs.toArray n)) (e : EachIs R vs bs) (er : EachIs (fun v b => ∃ as, Reads s.heap v (enc b) as ∧ a ∉ as) vs bs) (hal : PySem.W.AllAlike (bs.map enc)) (hk : SortableT (bs.map enc)) (hL : bs.length ≤ sizeLine)
    (hu : ∀ b, b ∈ bs → A.units + 1 + (enc b).depth < cLine) (h : ∀ out, out.length = bs.length → EachIs R out (bs.mergeSort (PySem.W.dataLe false enc)) → Q .none { s with heap := sortedHeap s.heap a vs (List.toArray out) }) :
    wpAny (model prog w) A (call (.builtin "list.sort") [.ref a]) Q E s := by
  have er' : EachIs (fun v b => ∃ as, Reads (PySem.W.sortingHeap s.heap a vs) v (enc b) as) vs bs := PySem.W.each_keepBut (h' := PySem.W.sortingHeap s.heap a vs) (fun _ _ hb q => PySem.W.sortingHeap_old hb q) (fun o q => by rw [ho] at q; rw [← Option.some.inj q] <;> rfl) hal er
  refine wpAny_call_entry PySem.F.slot_list_sort ⟨_, ho, rfl⟩ entry_list_sort (PySem.W.list_sort_vals (κ := PySem.W.dataKind (PySem.W.sortingHeap s.heap a vs) (bs.map enc)) ho (sortsAt_any (s := { s with heap := PySem.W.sortingHeap s.heap a vs }) (PySem.W.each_map (R := fun v d => ∃ as, Reads (PySem.W.sortingHeap s.heap a vs) v d as) enc er') hal hk (PySem.W.bound_map hu)) (by rw [e.length]; exact hL) ⟨.none, rfl, ?_⟩) (args_list_sort _)
  exact h _ (by rw [PySem.W.sortVals_length false rfl]; exact e.length) (PySem.W.sortVals_data false e er' hal)
end

def isTup0 : List PyData → Bool
  | .tuple [] :: _ => true
  | _ => false
def okSortT (ds : List PyData) : Bool := ds.all (fun d => ds.all fun e => PySem.W.alike d e) && (ds.all isTupN || isTup0 ds) && ds.all (fun d => decide (d.depth ≤ 60))
theorem okSortT_iff {kks : List (List Key)} (h : okSortT (kks.map fun k => .tuple (k.map kD)) = true) : PySem.W.AllAlike (kks.map fun k => .tuple (k.map kD)) ∧ SortableT (kks.map fun k => .tuple (k.map kD)) ∧ ∀ d ∈ kks.map (fun k => PyData.tuple (k.map kD)), d.depth ≤ 60 := by
  unfold okSortT at h
  simp only [Bool.and_eq_true, Bool.or_eq_true, List.all_eq_true, decide_eq_true_eq] at h
  obtain ⟨⟨h1, h2⟩, h3⟩ := h
  refine ⟨fun d hd e he => h1 d hd e he, ?_, h3⟩
  rcases h2 with h2 | h2
  · refine .inl (.inl fun d hd => ?_)
    have := h2 d hd
    cases d <;> simp only [isTupN] at this <;> try cases this
    rename_i xs
    cases xs with
    | nil => cases this
    | cons x r => exact ⟨x, r, rfl⟩
  · refine .inr ?_
    cases kks with
    | nil => cases h2
    | cons k kks =>
      cases k with
      | nil =>
        refine ⟨_, rfl, fun d hd => ?_⟩
        obtain ⟨k, _, rfl⟩ := List.mem_map.mp hd
        exact ⟨_, rfl⟩
      | cons x r => simp [isTup0] at h2
def rSortKT : List V → Hp → VK → Prop := fun vs H Q => ∃ (a : Addr) (kvs : List (List Key × V)), vs = [V.ref a] ∧ H a = some (.dT kvs) ∧ okSortT (kvs.map fun p => .tuple (p.1.map kD)) = true ∧
  ∀ (cs : List (Addr × List Key)) (p : Addr), cs.map (fun c => PyData.tuple (c.2.map kD)) = (kvs.map fun p => PyData.tuple (p.1.map kD)).mergeSort leD → (∀ c ∈ cs, H c.1 = some (.tup (c.2.map kV))) → H p = none → Q (.ref p) (L2.upd H p (.lst (cs.map fun c => V.ref c.1)))
theorem dp_keys {K : PySem.W.Frag} {H : Hp} : ∀ ks : List Key, DpAll K H (ks.map kV) (ks.map kD)
  | [] => .nil
  | k :: ks => .cons (by cases k <;> first | exact .int _ | exact .str _) (dp_keys ks)
mutual
theorem reads_kD {h : Heap} : ∀ {ks : List Key} {vs : List Value} {as : List Addr}, ReadsAll h vs (ks.map kD) as → as = []
  | [], _, _, r => by cases r; rfl
  | k :: ks, _, _, r => by
    cases r with
    | cons r1 r2 =>
      rw [reads_kD r2]
      cases k <;> (cases r1; rfl)
end
theorem reads_kT {h : Heap} {ks : List Key} {v : Value} {as : List Addr} (r : Reads h v (.tuple (ks.map kD)) as) : as = [] := by
  cases r with
  | tuple _ _ _ r => exact reads_kD r
theorem each_refs : ∀ {out : List Value} {bs : List (Addr × List Key)}, EachIs (fun v (b : Addr × List Key) => v = .ref b.1) out bs → Vals (bs.map fun b => V.ref b.1) out
  | _, _, .nil => .nil
  | _, _, .cons a b => .cons (show RelV _ _ from a) (each_refs b)
theorem cr_sortKT {X : Cx} (hc : X.calm = true) (hu : X.A.units + 64 < cLine) : CallR X (.builtin "sorted") rSortKT := by
  intro pins s σ H vs us Q I r h
  obtain ⟨a, kvs, rfl, ha, hok, q⟩ := h
  rw [Vals.ref1 r]
  obtain ⟨hz, hsys, xs, rel, o, es, ep, ho, hex, hdat, hes, -, -⟩ := dt_of I.hok ha
  have hraw : DT.Raw s.heap a es ep := ⟨o, ho, hex, hdat⟩
  have hh := I.ok.hd hc
  have l1 : kvs.length = xs.length := Paired.length rel
  have l2 : es.size = xs.length := by rw [← Array.length_toList, hes, List.length_map]
  have hks : kvs.map (fun p => PyData.tuple (p.1.map kD)) = (xs.map fun x => (x.2.1, x.1)).map (fun c => PyData.tuple (c.2.map kD)) := by
    rw [List.map_map]
    clear hok hz q ha l1 l2 hes
    induction rel with
    | nil => rfl
    | @cons p x ps qs h t ih => rw [List.map_cons, List.map_cons, ih, h.1]; rfl
  have hadr : ∀ c ∈ xs.map (fun x => (x.2.1, x.1)), H c.1 = some (.tup (c.2.map kV)) := by
    clear hok hz q ha l1 l2 hes hks
    induction rel with
    | nil => intro c hc; cases hc
    | @cons p x ps qs h t ih =>
      intro c hc
      rw [List.map_cons, List.mem_cons] at hc
      rcases hc with rfl | hc
      · simp only; rw [← h.1]; exact h.2.1
      · exact ih c hc
  obtain ⟨bs, hbs⟩ : ∃ bs : List (Addr × List Key), bs = xs.map (fun x => (x.2.1, x.1)) := ⟨_, rfl⟩
  rw [← hbs] at hks hadr
  have lb : bs.length = xs.length := by rw [hbs, List.length_map]
  have hkk : kvs.map (fun p => PyData.tuple (p.1.map kD)) = (bs.map Prod.snd).map (fun k => PyData.tuple (k.map kD)) := by rw [hks, List.map_map]; rfl
  rw [hkk] at hok
  obtain ⟨k1, k2, k3⟩ := okSortT_iff hok
  rw [← hkk, hks] at k1 k2 k3
  refine PySem.Calls.call_function_entry PyProof.Rows.kind_sorted PyProof.Rows.plain_sorted PyProof.Rows.entry_sorted (PyProof.Rows.args_sorted1 _) ?_
  unfold Builtin.«sorted»
  refine wpAny_bind (m := checkCount "sorted" 1 1 _) (wpAny_pure ?_)
  refine wpAny_bind (PySem.W.kdu_collect (A := X.A.in1) (rk_src (es := es) (ep := ep) hsys) hh hraw (by omega) fun h' tk acc hkeep hacc => ?_)
  have hl : acc.toList.length = bs.length := by rw [Array.length_toList, hacc.1]; omega
  refine wpAny_bind (wpAny_newList ?_ (by rw [hl]; omega))
  have I1 : Inv X pins σ H { s with heap := h', toks := tk } := I.kept hkeep
  have hkeep2 : ∀ b o, h'.get? b = some o → (h'.push (seqObj "list" acc.toList.toArray 0)).get? b = some o := fun b o e => Heap.get?_push_of_some _ e
  have I2 : Inv X pins σ H { s with heap := h'.push (seqObj "list" acc.toList.toArray 0), toks := tk } := I1.kept hkeep2
  have hit : ∀ (j : Nat) (v : Value) (b : Addr × List Key), acc.toList[j]? = some v → bs[j]? = some b → v = .ref b.1 := fun j v b hj hb => by
    obtain ⟨k, e1⟩ := hacc.2 j v (by rw [← Array.getElem?_toList]; exact hj)
    have e2 : es.toList[j]? = some es[j] := by rw [Array.getElem?_toList]; simp [k]
    rw [hes, List.getElem?_map] at e2
    rw [hbs, List.getElem?_map] at hb
    cases hx : xs[j]? with
    | none => rw [hx] at hb; cases hb
    | some x =>
      rw [hx] at hb e2
      simp only [Option.map_some, Option.some.injEq] at hb e2
      rw [e1, ← e2, ← hb]
      rfl
  have hE := each_of (R := fun v (b : Addr × List Key) => v = .ref b.1) hl hit
  have hmem : ∀ b ∈ bs, ∃ as, Reads (h'.push (seqObj "list" acc.toList.toArray 0)) (.ref b.1) (.tuple (b.2.map kD)) as ∧ h'.objs.size ∉ as := fun b hb => by
    obtain ⟨as, r⟩ := Dp.reads I2 (.tuple (b.2.map kD)) (.ref b.1) (.ref b.1) (.tup (SqT.of (hadr b hb)) (dp_keys b.2)) rfl
    refine ⟨as, r, ?_⟩
    rw [reads_kT r]
    simp
  have hg : wpAny (model X.prog X.w) X.A.in1 (call (.builtin "list.sort") [.ref h'.objs.size]) (fun _ s' => EP X pins σ Q (.ref h'.objs.size) s') X.xe { s with heap := h'.push (seqObj "list" acc.toList.toArray 0), toks := tk } := by
    refine list_sort_tups (vs := acc.toList) (bs := bs) (enc := fun c => PyData.tuple (c.2.map kD)) (R := fun v (b : Addr × List Key) => v = .ref b.1) (n := 0) (Heap.get?_push_size _ rfl) hE ((PySem.W.each_mem hE).mono fun v b ⟨e, hb⟩ => by subst e; exact hmem b hb) k1 k2 (by omega) (fun b hb => ?_) fun out hlen ho => ?_
    · have := k3 _ (List.mem_map.mpr ⟨b, hb, rfl⟩)
      have e : X.A.in1.units = X.A.units + 1 := rfl
      omega
    · have ho0 : (h'.push (seqObj "list" acc.toList.toArray 0)).get? h'.objs.size = some (seqObj "list" acc.toList.toArray 0) := Heap.get?_push_size _ rfl
      obtain ⟨ep', he'⟩ := PyProof.Rows.sortedHeap_at (out := out.toArray) ho0
      have hv := each_refs ho
      obtain ⟨cs, hcs⟩ : ∃ cs, cs = bs.mergeSort (PySem.W.dataLe false fun c => PyData.tuple (c.2.map kD)) := ⟨_, rfl⟩
      rw [← hcs] at hv
      have hl2 : cs.length = bs.length := by rw [hcs, List.length_mergeSort]
      refine ⟨.ref h'.objs.size, L2.upd H h'.objs.size (.lst (cs.map fun c => V.ref c.1)), I1.laid (t' := tk) (fun b o e => ?_) (Nat.le_refl _) ⟨by rw [List.length_map, hl2]; omega, out, ep', hv, he'⟩, rfl, q cs _ ?_ (fun c hc => hadr c ?_) (I1.hok.fresh (Nat.le_refl _))⟩
      · have hlt := Heap.lt_size e
        have hlt2 : b < (h'.push (seqObj "list" acc.toList.toArray 0)).objs.size := Heap.lt_size (hkeep2 b o e)
        exact (PyProof.Rows.sortedHeap_old (Nat.ne_of_lt hlt) hlt2).trans (hkeep2 b o e)
      · rw [hcs, hks]
        exact List.map_mergeSort (r := PySem.W.dataLe false fun c : Addr × List Key => PyData.tuple (c.2.map kD)) (s := leD) (f := fun c => PyData.tuple (c.2.map kD)) (fun a _ b _ => rfl)
      · rw [hcs] at hc
        exact List.mem_mergeSort.mp hc
  refine wpAny_bind (wpAny_holding (wpAny_mono hg (fun _ s' x => ?_) fun _ _ e => e))
  exact wpAny_pure ⟨_, rfl, x⟩

section
variable {K : PySem.W.Frag} {Rf : Nat → Option Addr} {G F H : Hp} {ρ : Ev} {σ : St}
/-- a tuple is nobody's container: it can be frozen -/
theorem SR.freezeT (R : SR K Rf G ρ F σ H) {c : Addr} {xs : List V} (h : H c = some (.tup xs)) : ∃ F', SR K Rf G ρ F' σ H ∧ Same F F' ∧ F' c = some (.tup xs) := by
  cases hF : F c with
  | some o =>
    have := R.fz _ _ hF
    rw [h] at this
    cases this
    exact ⟨F, R, Same.refl _, hF⟩
  | none =>
    have l : Loose G ρ F σ c := by
      refine ⟨hF, ?_, fun i mi ei => ?_⟩
      · cases hG : G c with
        | none => rfl
        | some o =>
          have := (R.gs _ _ hG).1
          rw [h] at this
          cases this
          exact (R.gt _ _ hG).elim
      · obtain ⟨d, m⟩ := R.mutAt mi ei
        exact m.noTup h xs rfl
    obtain ⟨R', s⟩ := R.freeze h l
    exact ⟨_, R', s, upd_same⟩
theorem SR.freezeTs : ∀ {F : Hp} (cs : List (Addr × List Key)), SR K Rf G ρ F σ H → (∀ c ∈ cs, H c.1 = some (.tup (c.2.map kV)) ∧ c.2.length ≤ sizeLine) →
    ∃ F', SR K Rf G ρ F' σ H ∧ Same F F' ∧ RpA K F' (cs.map fun c => V.ref c.1) (cs.map fun c => PyData.tuple (c.2.map kD))
  | F, [], R, _ => ⟨F, R, Same.refl _, .nil⟩
  | F, c :: cs, R, h => by
    obtain ⟨F1, R1, s1, e1⟩ := R.freezeT (h c (by simp)).1
    obtain ⟨F2, R2, s2, r⟩ := SR.freezeTs cs R1 fun d hd => h d (by simp [hd])
    refine ⟨F2, R2, s1.trans s2, .cons (.tup (s2 _ _ e1) (by rw [List.length_map]; exact (h c (by simp)).2) ?_) r⟩
    have : ∀ ks : List Key, RpA K F2 (ks.map kV) (ks.map kD) := fun ks => by
      induction ks with
      | nil => exact .nil
      | cons k ks ih => exact .cons (by cases k <;> first | exact .int _ | exact .str _) ih
    exact this _
def keyLen : PyData → Bool
  | .tuple xs => decide (xs.length ≤ sizeLine)
  | _ => true
def isTs (kvs : List (PyData × PyData)) : Bool := kvs.all fun p => isT p.1 && keyLen p.1
def pSortKT : PyData → Option (Bool × PyData)
  | .dict kvs => if kvs ≠ [] ∧ isTs kvs = true ∧ okSortT (kvs.map Prod.fst) = true then some (true, .list ((kvs.map Prod.fst).mergeSort leD)) else none
  | _ => none
theorem ok_sortKT : Ok1 K (r1 rSortKT) pSortKT := by
  intro Rf G ρ F σ H v d n d' Q R q h k
  cases d <;> simp only [pSortKT] at h <;> try cases h
  rename_i kvs
  split at h
  · rename_i hk
    obtain ⟨hne, hks, hok⟩ := hk
    cases h
    obtain ⟨a, rfl, m⟩ := q
    have hT : ∀ p ∈ kvs, isT p.1 = true ∧ keyLen p.1 = true := fun p hp => by
      have := List.all_eq_true.mp hks p hp
      simpa using this
    rcases m with ⟨ps, e, z, ek, r⟩ | ⟨ps, e, z, ek, r⟩
    · cases kvs with
      | nil => exact (hne rfl).elim
      | cons p kvs => cases ps with
        | nil => simp at ek
        | cons q ps =>
          simp only [List.map_cons, List.cons.injEq] at ek
          have := (hT p (by simp)).1
          rw [ek.1, isT_K] at this
          cases this
    · refine ⟨a, ps, rfl, e, by rw [← ek]; exact hok, fun cs p hcs hadr hp => ?_⟩
      rw [← ek] at hcs
      have hlen : cs.length = ps.length := by
        have h1 := congrArg List.length hcs
        rw [List.length_map, List.length_mergeSort, List.length_map] at h1
        have h2 := congrArg List.length ek
        rw [List.length_map, List.length_map] at h2
        omega
      obtain ⟨F', R', s', ra⟩ := SR.freezeTs cs R fun c hc => ⟨hadr c hc, by
        have h1 : PyData.tuple (c.2.map kD) ∈ (kvs.map Prod.fst).mergeSort leD := by rw [← hcs]; exact List.mem_map.mpr ⟨c, hc, rfl⟩
        have h2 := List.mem_mergeSort.mp h1
        obtain ⟨p, hp, e⟩ := List.mem_map.mp h2
        have h3 := (hT p hp).2
        rw [e] at h3
        simpa [keyLen] using h3⟩
      rw [hcs] at ra
      exact k _ F' _ (R'.laid hp) s' ⟨p, rfl, R'.loose_new hp, ⟨_, upd_same, by rw [List.length_map, hlen]; exact z, ra⟩⟩
  · cases h
end

def pDict1 (k v : PyData) : Option (Bool × PyData) := if (isK k || isT k) = true ∧ flat v = true then some (true, .dict [(k, v)]) else none
section
variable {X : Cx} {Φ : Fns} {bf : Nat → Option Nat}
theorem SR.put {K : PySem.W.Frag} {Rf : Nat → Option Addr} {G F H : Hp} {ρ : Ev} {σ : St} (R : SR K Rf G ρ F σ H) {p : Addr} {u : HO} (l : Loose G ρ F σ p) : SR K Rf G ρ F σ (upd H p u) := by
  obtain ⟨l1, l2, l3⟩ := l
  have hb : ∀ i b, MutI ρ i → σ[i]? = some (some (.ref b)) → b ≠ p := fun i b mi ei z => l3 i mi (z ▸ ei)
  have hg : ∀ b o, G b = some o → b ≠ p := fun b o e z => by rw [z, l2] at e; cases e
  refine ⟨R.len, fun b x e => ?_, fun i t e => (R.sl i t e).mono (Same.refl _) (fun b mi ei => ⟨(R.mutNone ⟨t, e, mi⟩ ei).1, upd_ne (hb i b ⟨t, e, mi⟩ ei)⟩) (fun b o e => upd_ne (hg b o e)), R.dis, R.gm, fun b o e => ⟨by rw [upd_ne (hg b o e)]; exact (R.gs b o e).1, (R.gs b o e).2⟩, R.rf, R.gt⟩
  rw [upd_ne (fun z => by rw [z, l1] at e; cases e)]
  exact R.fz b x e
/-- a dict's entry is set -/
theorem d_dictSet {pins : List (Addr × Obj)} {σ : St} {H H' : Hp} {s : Shared} {a : Addr} {y v : V} {u r : Value} {A : Around} {E : Value → Shared → Prop} {Q : Unit → Shared → Prop} (hu : A.units + 1 < cLine) (I : Inv X pins σ H s) (g : DPut H a y v H') (ry : RelV y u) (rv : RelV v r) (h : ∀ s', Inv X pins σ H' s' → Q () s') :
    wpAny (model X.prog X.w) A (dictSet a u r) Q E s := by
  rcases g with ⟨kvs, k, e, ey, l, eH⟩ | ⟨kvs, k, b, e, ey, eb, l, eH⟩
  · subst ey eH
    obtain ⟨z, hd, vs, rel, dd⟩ := dk_of I.hok e
    have hz : vs.length ≤ sizeLine := by rw [← rel.length]; exact z
    have hl : (putK kvs k v).length ≤ sizeLine := by have := length_putK kvs k v; omega
    refine wpAny_dictSet_pairs (hsz := hz) (kV_is ry) dd fun h' dd' hs => h _ ?_
    have he : ∃ q, h'.get? a = some q := let ⟨q, _, _, hq, _⟩ := dd'; ⟨q, hq⟩
    exact d_write I (by rw [e]; exact True.intro) hs he (dk_new hl hd (rel.put k rv) dd')
  · subst ey eH
    cases (show u = Value.ref b from ry)
    obtain ⟨z, hd, xs, rel, dd⟩ := dt_of I.hok e
    have hz : xs.length ≤ sizeLine := by rw [← Paired.length rel]; exact z
    have hl : (putK kvs k v).length ≤ sizeLine := by have := length_putK kvs k v; omega
    refine wpAny_dictSet_heap (hsz := hz) (show (tupleKind (mixKind X.prog X.w)).room A from Nat.lt_of_succ_lt hu) (key_of I.hok eb) dd fun h' dd' hs => h _ ?_
    obtain ⟨q, es, ep, hq, h2, h3, h4, _, h5⟩ := dd'
    refine d_write I (by rw [e]; exact True.intro) hs ⟨q, hq⟩ ⟨hl, hd, _, (rel.put k eb rv).keeps fun c ys ec => ?_, q, es, ep, hq, h2, h3, h4, h5⟩
    rw [upd_ne (ne_of ec e (fun z => nomatch z))]
    exact ec
theorem pe_dict1 {k v : Expr} {pos : Pos} {tk tv : TE} (hu : X.A.units + 64 < cLine) (hk : PE X k tk) (hv : PE X v tv) :
    PE X (.Dict [some k] [v] pos) (fun σ H Q => ∀ p, H p = none → tk σ (upd H p (.dK [])) fun x H1 => tv σ H1 fun y H2 => ∃ H', DPutZ H2 p x y H' ∧ Q (.ref p) H') := by
  refine ⟨fun pins s σ H Q I q => ?_⟩
  have hn := I.hok.fresh (Nat.le_refl s.heap.objs.size)
  have I1 := I.laid (a := s.heap.objs.size) (o := .dK []) (h' := s.heap.push { cls := .type "dict", data := .dict #[] }) (t' := s.toks) (fun _ _ q => Heap.get?_push_of_some _ q) (Nat.le_refl _) (dk_empty s.heap I.big)
  have hs := zip_pairTrees [some k] [v] X.env pos rfl rfl
  rw [arm_eval_Dict, hs, dictDisplay_pairs _ (by simp [pairTrees]) (by simp [pairTrees])]
  refine wpAny_bind (wpAny_standAt (wpAny_bind ?_))
  unfold subDict
  refine wpAny_bind (wpAny_alloc ?_)
  refine wpAny_bind (wpAny_holding ?_)
  rw [if_pos (by simp [pairTrees])]
  refine wpAny_bind (pairTrees_cons_walk (thn (hk.run pins _ σ _ _ I1 (q _ hn)) fun u s1 ⟨x, H1, I2, rx, q1⟩ => thn (hv.run pins s1 σ H1 _ I2 q1) fun w2 s2 ⟨y, H2, I3, ry, H', g, q2⟩ => pairTrees_nil_walk ?_))
  refine wpAny_holding ?_
  obtain ⟨H0, I0, g0⟩ := g.at I3
  simp only [List.forIn_cons, List.forIn_nil]
  refine wpAny_bind (wpAny_bind (wpAny_bind (d_dictSet (by omega) I0 g0 rx ry fun s' I' => wpAny_pure (wpAny_pure ?_))))
  exact wpAny_pure (wpAny_pure (wpAny_pure ⟨.ref _, H', I', rfl, q2⟩))
end

section
variable {X : Cx} {Φ : Fns} {bf : Nat → Option Nat} {k v : Expr} {x y : Z.X} {pos : Pos}
theorem dPutP_one {d e : PyData} (h : (isK d || isT d) = true) : dPutP [] d e = some [(d, e)] := by
  unfold dPutP
  rw [if_pos ⟨by simpa [keyOk] using h, by rw [sizeLine_eq]; simp⟩]
  rfl
theorem ce_dict1 (hu : X.A.units + 64 < cLine) (hk : CE X Φ bf k x) (hv : CE X Φ bf v y) : CE X Φ bf (.Dict [some k] [v] pos) (.op2 pDict1 x y) := by
  refine PE.imp (pe_dict1 hu hk hv) fun σ H Q h => ?_
  intro p hp
  obtain ⟨Rf, G, ρ, F, res, ρ', R, e, kk⟩ := h
  simp only [ev, Option.bind_eq_some_iff] at e
  obtain ⟨⟨ra, ρ1⟩, ea, ⟨rb, ρ2⟩, eb, d, ed, d2, ed2, ⟨n, d'⟩, ef, e⟩ := e
  simp only [Option.some.injEq, Prod.mk.injEq] at e
  obtain ⟨rfl, rfl⟩ := e
  unfold pDict1 at ef
  split at ef
  · rename_i hkv
    obtain ⟨hkk, hfl⟩ := hkv
    cases ef
    have l0 := R.loose_new hp
    have hr0 : ∀ i, Rf i ≠ some p := fun i => l0.rf R
    have R0 : SR X.K Rf (upd G p (.dK [])) ρ F σ (upd H p (.dK [])) := (R.laid hp).guard upd_same (fun _ z => by cases z) l0
    refine tX_opd R0 ea fun v1 F1 H1 R1 s1 o1 => ?_
    refine tX_opd R1 eb fun v2 F2 H2 R2 s2 o2 => ?_
    have q1 := R2.rq (o1.mono s2) ed
    have q2 := R2.rq o2 ed2
    obtain ⟨R3, l3, h3⟩ := R2.unguard l0.2.1 hr0
    have m0 : MutAt X.K F2 H2 p (.dict []) := .inl ⟨[], h3, Nat.zero_le _, rfl, .nil⟩
    obtain ⟨u, g, m⟩ := dput_ok R3.fz l3.1 m0 (rq_keyV q1 (by simpa using hkk)) (q2.flat hfl) (dPutP_one (e := d2) hkk)
    refine ⟨_, g, kk _ F2 _ (R3.put l3) (s1.trans s2) ⟨p, rfl, l3, m⟩⟩
  · cases ef
end
end L2.Z

namespace L2.Z
open PySem PySem.Spec PyProof.Rows L2
def SqA (K : PySem.W.Frag) (H : Hp) (a : Addr) (xs : List V) : Prop := SqL K H a xs ∨ SqT K H a xs
section
variable {X : Cx} {pins : List (Addr × Obj)} {σ : St} {H : Hp} {s : Shared}
/-- set(a list or a tuple of ints) -/
theorem set_of_any {l : Addr} {ns : List Int} {Q : Value → Shared → Prop} (hc : X.calm = true) (I : Inv X pins σ H s) (hs : SqA X.K H l (ns.map V.int)) (hb : ns.length + 1 < scanBound)
    (h : ∀ (h' : Heap) (tk c : Nat), SetR X.w h' s.heap.objs.size (fun j => decide (j ∈ ns)) c → c ≤ ns.length → (∀ b o, s.heap.get? b = some o → h'.get? b = some o) → Q (.ref s.heap.objs.size) { s with heap := h', toks := tk }) :
    wpAny (model X.prog X.w) X.A (call (.type "set") [.ref l]) Q X.xe s := by
  rcases hs with hs | hs
  · obtain ⟨its, rv, pl, _⟩ := I.list hs
    have hi : IntsAre its ns := by simpa using rv.ints
    exact set_of_list (I.ok.hd hc) pl.isList (by simpa using hi) hb h
  · obtain ⟨its, rv, pl, _⟩ := I.tuple hs
    have hi : IntsAre its ns := by simpa using rv.ints
    exact call_set_tupI ns (I.ok.hd hc) pl (by simpa using hi) hb h
end
def rSortSetA (K : PySem.W.Frag) : V → Hp → VK → Prop := fun x H Q => ∃ (a : Addr) (ns : List Int), x = .ref a ∧ SqA K H a (ns.map V.int) ∧ ns.length < 63 ∧
  ∀ (ms : List Int) (p : Addr), ms.Pairwise (· < ·) → (∀ k, k ∈ ms ↔ k ∈ ns) → H p = none → Q (.ref p) (L2.upd H p (.lst (ms.map V.int)))
section
variable {X : Cx} {a : Expr} {p p2 q pos : Pos} {ta : TE}
theorem pe_sortSetA (hc : X.calm = true) (hg : Gl X "sorted") (hm : X.mg "sorted" = none) (hg2 : Gl X "set") (hm2 : X.mg "set" = none) (ha : PE X a ta)
    (n1 : starEach [Expr.Call (.Name "set" p2) [a] [] q] X.env = (false, eval (.Call (.Name "set" p2) [a] [] q) X.env) :: starEach [] X.env := by rfl)
    (n2 : starEach [a] X.env = (false, eval a X.env) :: starEach [] X.env := by rfl) :
    PE X (.Call (.Name "sorted" p) [.Call (.Name "set" p2) [a] [] q] [] pos) (fun σ H Q => ta σ H fun x H1 => rSortSetA X.K x H1 Q) := by
  refine ⟨fun pins s σ H Q I h => ?_⟩
  refine Call_ (ld_blt I hg hm (u := .builtin "sorted") (by first | rfl | decide +kernel) (PyProof.Rows.callWith_builtin1 (PyProof.Rows.args_cons (Call_ ?_) n1) rfl rfl))
  refine ld_blt I hg2 hm2 (u := .type "set") (by first | rfl | decide +kernel) (PyProof.Rows.callWith_type1 (PyProof.Rows.args_cons (thn (ha.run pins s σ H _ I h) fun v s1 ⟨x, H1, I1, r1, q1⟩ => PyProof.Rows.args_nil ?_) n2) n2 rfl)
  obtain ⟨l, ns, rfl, hs, hz, k⟩ := q1
  cases r1
  refine set_of_any hc I1 hs (by unfold scanBound; omega) fun h' tk c R hcn keep => PyProof.Rows.args_nil ?_
  have I2 : Inv X pins σ H1 { s1 with heap := h', toks := tk } := I1.kept keep
  obtain ⟨s2, hs2⟩ : ∃ s2, s2 = ({ s1 with heap := h', toks := tk } : Shared) := ⟨_, rfl⟩
  have R2 : SetR X.w s2.heap s1.heap.objs.size (fun j => decide (j ∈ ns)) c := by rw [hs2]; exact R
  rw [← hs2] at I2 ⊢
  clear hs2 R
  refine sorted_set R2 (I2.ok.hd hc) (by omega) fun s' pp out cc ms kp g o hp hget hints hinc hmem hlen => ?_
  have fresh : H1 pp = none := I2.hok.fresh hp
  have room : (ms.map V.int).length ≤ sizeLine := by rw [List.length_map, hlen, sizeLine_eq]; omega
  have J : Inv X pins σ (L2.upd H1 pp (.lst (ms.map V.int))) { s2 with heap := s'.heap, gens := s'.gens, drawn := s'.drawn, toks := s'.toks } :=
    I2.call (ch := []) (Un.laid kp hp fresh) (I2.hok.laid kp hp ⟨room, out.toList, cc, vals_of_ints hints, hget⟩) (by rw [g]; exact I2.bare) (fun _ z => nomatch z)
  have es : s' = { s2 with heap := s'.heap, gens := s'.gens, drawn := s'.drawn, toks := s'.toks } := by
    obtain ⟨_, _, _, _, _⟩ := s'
    cases o
    rfl
  rw [es]
  exact ⟨.ref pp, _, J, rfl, k ms pp hinc (fun j => by rw [hmem, decide_eq_true_eq]) fresh⟩
def rLenSet (K : PySem.W.Frag) : V → Hp → VK → Prop := fun x H Q => ∃ (a : Addr) (ns : List Int), x = .ref a ∧ SqA K H a (ns.map V.int) ∧ ns.length < 63 ∧ Q (.int (srtI ns).length) H
theorem pe_lenSetI (hc : X.calm = true) (hg : Gl X "len") (hm : X.mg "len" = none) (hg2 : Gl X "set") (hm2 : X.mg "set" = none) (ha : PE X a ta)
    (n1 : starEach [Expr.Call (.Name "set" p2) [a] [] q] X.env = (false, eval (.Call (.Name "set" p2) [a] [] q) X.env) :: starEach [] X.env := by rfl)
    (n2 : starEach [a] X.env = (false, eval a X.env) :: starEach [] X.env := by rfl) :
    PE X (.Call (.Name "len" p) [.Call (.Name "set" p2) [a] [] q] [] pos) (fun σ H Q => ta σ H fun x H1 => rLenSet X.K x H1 Q) := by
  refine ⟨fun pins s σ H Q I h => ?_⟩
  refine Call_ (ld_blt I hg hm (u := .builtin "len") (by first | rfl | decide +kernel) (PyProof.Rows.callWith_builtin1 (PyProof.Rows.args_cons (Call_ ?_) n1) rfl rfl))
  refine ld_blt I hg2 hm2 (u := .type "set") (by first | rfl | decide +kernel) (PyProof.Rows.callWith_type1 (PyProof.Rows.args_cons (thn (ha.run pins s σ H _ I h) fun v s1 ⟨x, H1, I1, r1, q1⟩ => PyProof.Rows.args_nil ?_) n2) n2 rfl)
  obtain ⟨l, ns, rfl, hs, hz, k⟩ := q1
  cases r1
  refine set_of_any hc I1 hs (by unfold scanBound; omega) fun h' tk c R hcn keep => PyProof.Rows.args_nil ?_
  have I2 : Inv X pins σ H1 { s1 with heap := h', toks := tk } := I1.kept keep
  obtain ⟨o, es, ep, t, ho, hex, hd, g, nd, hm', hb, hf, hn, hr, hl⟩ := R
  have hlen : es.size = (srtI ns).length := by
    have n1 : (es.toList.map keyOf).length = es.size := by simp
    have h1 := List.Nodup.length_le_of_subset nd (l₂ := srtI ns) fun j hj => mem_srtI.mpr (of_decide_eq_true ((hm' j).mpr hj))
    have h2 := List.Nodup.length_le_of_subset ((srtI_lt ns).imp fun h => Int.ne_of_lt h) (l₂ := es.toList.map keyOf) fun j hj => (hm' j).mp (decide_eq_true (mem_srtI.mp hj))
    omega
  have I3 : Inv X pins σ H1 { s1 with heap := h', toks := tk + 1 + 1 } := I2.tok _
  exact call_len_set ho hex hd hf (by omega) ⟨.int (srtI ns).length, H1, I3, ⟨_, by rw [hlen]⟩, k⟩
end
def pSortSetA : PyData → Option (Bool × PyData)
  | .list ds => (intsOf ds).bind fun ns => if ns.length < 63 then some (true, .list ((srtI ns).map PyData.int)) else none
  | .tuple ds => (intsOf ds).bind fun ns => if ns.length < 63 then some (true, .list ((srtI ns).map PyData.int)) else none
  | _ => none
def pLenSet : PyData → Option (Bool × PyData)
  | .list ds => (intsOf ds).bind fun ns => if ns.length < 63 then some (false, .int (srtI ns).length) else none
  | .tuple ds => (intsOf ds).bind fun ns => if ns.length < 63 then some (false, .int (srtI ns).length) else none
  | _ => none
theorem intsOf_mapI (ns : List Int) : intsOf (ns.map PyData.int) = some ns := by
  induction ns with
  | nil => rfl
  | cons i l ih =>
    rw [List.map_cons, intsOf, ih]
    rfl
theorem p_sortSetT {ns : List Int} (h : ns.length < 63) : pSortSetA (.tuple (ns.map PyData.int)) = some (true, .list ((srtI ns).map PyData.int)) := by
  simp only [pSortSetA, intsOf_mapI, Option.bind_some, if_pos h]
theorem p_lenSet {ns : List Int} (h : ns.length < 63) : pLenSet (.list (ns.map PyData.int)) = some (false, .int (srtI ns).length) := by
  simp only [pLenSet, intsOf_mapI, Option.bind_some, if_pos h]
section
variable {K : PySem.W.Frag}
theorem ok_sortSetA : Ok1 K (rSortSetA K) pSortSetA := by
  intro Rf G ρ F σ H v d n d' Q R q h k
  have key : ∀ {is : List Int} {a : Addr}, v = .ref a → SqA K H a (is.map V.int) → is.length < 63 → (n, d') = (true, PyData.list ((srtI is).map PyData.int)) → rSortSetA K v H Q := by
    intro is a ev e hz hnd
    cases hnd
    refine ⟨a, is, ev, e, hz, fun ms p h1 h2 hp => ?_⟩
    have em : ms = srtI is := lt_uniq h1 (srtI_lt is) fun j => by rw [h2, mem_srtI]
    have ra : ∀ l : List Int, RpA K F (l.map V.int) (l.map PyData.int) := by
      intro l
      induction l with
      | nil => exact .nil
      | cons i l ih => exact .cons (.int i) ih
    have hl : ms.length ≤ sizeLine := by
      have := List.Nodup.length_le_of_subset (h1.imp fun h => Int.ne_of_lt h) (l₂ := is) fun j hj => (h2 j).mp hj
      rw [sizeLine_eq]; omega
    subst em
    exact k _ F _ (R.laid hp) (Same.refl _) ⟨p, rfl, R.loose_new hp, ⟨_, upd_same, by rw [List.length_map]; exact hl, ra _⟩⟩
  cases d <;> simp only [pSortSetA] at h <;> try cases h
  all_goals
    simp only [Option.bind_eq_some_iff] at h
    obtain ⟨is, e1, h⟩ := h
    split at h
    · rename_i hz
      obtain ⟨a, xs, rfl, e, z, r⟩ := q
      have e2 := rpa_ints r e1
      subst e2
      first
        | exact key rfl (.inl e) hz (Option.some.inj h).symm
        | exact key rfl (.inr (SqT.of (R.fz _ _ e))) hz (Option.some.inj h).symm
    · cases h
theorem ok_lenSet : Ok1 K (rLenSet K) pLenSet := by
  intro Rf G ρ F σ H v d n d' Q R q h k
  cases d <;> simp only [pLenSet] at h <;> try cases h
  all_goals
    simp only [Option.bind_eq_some_iff] at h
    obtain ⟨is, e1, h⟩ := h
    split at h
    · rename_i hz
      cases h
      obtain ⟨a, xs, rfl, e, z, r⟩ := q
      have e2 := rpa_ints r e1
      subst e2
      first
        | exact ⟨a, is, rfl, .inl e, hz, k _ F H R (Same.refl _) (rr_val (.int _))⟩
        | exact ⟨a, is, rfl, .inr (SqT.of (R.fz _ _ e)), hz, k _ F H R (Same.refl _) (rr_val (.int _))⟩
    · cases h
def pSortLT : PyData → Option (Bool × PyData)
  | .tuple ds => pSortT (.tuple ds)
  | .list ds => pSorted (.list ds)
  | _ => none
def rSortLT (K : PySem.W.Frag) : List V → Hp → VK → Prop := fun xs H Q => rSortD K xs H Q ∨ rSortT K xs H Q
theorem cr_sortLT {X : Cx} (hc : X.calm = true) (hu : X.A.units + 64 < cLine) : CallR X (.builtin "sorted") (rSortLT X.K) := by
  intro pins s σ H vs us Q I r h
  rcases h with h | h
  · exact cr_sortD hu pins s σ H vs us Q I r h
  · exact cr_sortT hc hu pins s σ H vs us Q I r h
theorem ok_sortLT : Ok1 K (r1 (rSortLT K)) pSortLT := by
  intro Rf G ρ F σ H v d n d' Q R q h k
  cases d with
  | tuple ds => exact .inr (ok_sortT _ _ _ _ _ _ _ _ _ _ _ R q h k)
  | list ds => exact .inl (ok_sorted _ _ _ _ _ _ _ _ _ _ _ R q h k)
  | _ => cases h
end
section
variable {X : Cx} {a : Expr} {p p2 q pos : Pos} {Φ : Fns} {bf : Nat → Option Nat} {x : Z.X}
theorem ce_sortSetA (hc : X.calm = true) (hg : Gl X "sorted") (hm : X.mg "sorted" = none) (hg2 : Gl X "set") (hm2 : X.mg "set" = none) (ha : CE X Φ bf a x)
    (n1 : starEach [Expr.Call (.Name "set" p2) [a] [] q] X.env = (false, eval (.Call (.Name "set" p2) [a] [] q) X.env) :: starEach [] X.env := by rfl)
    (n2 : starEach [a] X.env = (false, eval a X.env) :: starEach [] X.env := by rfl) :
    CE X Φ bf (.Call (.Name "sorted" p) [.Call (.Name "set" p2) [a] [] q] [] pos) (.op1 pSortSetA x) := ce1 ok_sortSetA (fun _ h => pe_sortSetA hc hg hm hg2 hm2 h n1 n2) ha
theorem ce_lenSet (hc : X.calm = true) (hg : Gl X "len") (hm : X.mg "len" = none) (hg2 : Gl X "set") (hm2 : X.mg "set" = none) (ha : CE X Φ bf a x)
    (n1 : starEach [Expr.Call (.Name "set" p2) [a] [] q] X.env = (false, eval (.Call (.Name "set" p2) [a] [] q) X.env) :: starEach [] X.env := by rfl)
    (n2 : starEach [a] X.env = (false, eval a X.env) :: starEach [] X.env := by rfl) :
    CE X Φ bf (.Call (.Name "len" p) [.Call (.Name "set" p2) [a] [] q] [] pos) (.op1 pLenSet x) := ce1 ok_lenSet (fun _ h => pe_lenSetI hc hg hm hg2 hm2 h n1 n2) ha
end
end L2.Z

namespace L2.Z
open PySem PySem.Spec PyProof.Rows
open PySem.W (EachIs KdlSrc)

def rLstD : List V → Hp → VK → Prop := fun vs H Q => ∃ (a : Addr), vs = [V.ref a] ∧
  ((∃ kvs : List (Key × V), H a = some (.dK kvs) ∧ ∀ p, H p = none → Q (.ref p) (L2.upd H p (.lst (kvs.map fun kv => kV kv.1)))) ∨
   (∃ kvs : List (List Key × V), H a = some (.dT kvs) ∧ ∀ (cs : List (Addr × List Key)) (p : Addr), cs.map (fun c => c.2) = kvs.map (fun q => q.1) → (∀ c ∈ cs, H c.1 = some (.tup (c.2.map kV))) → H p = none → Q (.ref p) (L2.upd H p (.lst (cs.map fun c => V.ref c.1)))))
theorem cr_lstD {X : Cx} (hc : X.calm = true) : CallR X (.type "list") rLstD := by
  intro pins s σ H vs us Q I r h
  obtain ⟨a, rfl, h⟩ := h
  rcases h with ⟨kvs, ha, q⟩ | ⟨kvs, ha, q⟩
  · exact call_listD hc pins s σ H _ us Q I r ⟨a, kvs, rfl, .inl ha, q⟩
  · rw [Vals.ref1 r]
    obtain ⟨hz, hsys, xs, rel, o, es, ep, ho, hex, hdat, hes, -, -⟩ := dt_of I.hok ha
    have hraw : DT.Raw s.heap a es ep := ⟨o, ho, hex, hdat⟩
    have hh := I.ok.hd hc
    have l1 : kvs.length = xs.length := Paired.length rel
    have l2 : es.size = xs.length := by rw [← Array.length_toList, hes, List.length_map]
    have hks : (xs.map fun x => (x.2.1, x.1)).map (fun c => c.2) = kvs.map (fun p => p.1) := by
      rw [List.map_map]
      clear q ha l1 l2 hes hz
      induction rel with
      | nil => rfl
      | @cons p x ps qs h t ih => rw [List.map_cons, List.map_cons, ih, h.1]; rfl
    have hadr : ∀ c ∈ xs.map (fun x => (x.2.1, x.1)), H c.1 = some (.tup (c.2.map kV)) := by
      clear q ha l1 l2 hes hks hz
      induction rel with
      | nil => intro c hc; cases hc
      | @cons p x ps qs h t ih =>
        intro c hc
        rw [List.map_cons, List.mem_cons] at hc
        rcases hc with rfl | hc
        · simp only; rw [← h.1]; exact h.2.1
        · exact ih c hc
    obtain ⟨bs, hbs⟩ : ∃ bs : List (Addr × List Key), bs = xs.map (fun x => (x.2.1, x.1)) := ⟨_, rfl⟩
    rw [← hbs] at hks hadr
    have lb : bs.length = xs.length := by rw [hbs, List.length_map]
    refine PySem.W.kdl_call (rk_src (es := es) (ep := ep) hsys) hh hraw (by omega) fun h' tk acc c' hk hD hacc => ?_
    have hl : acc.toList.length = bs.length := by rw [Array.length_toList, hacc.1]; omega
    have hit : ∀ (j : Nat) (v : Value) (b : Addr × List Key), acc.toList[j]? = some v → bs[j]? = some b → v = .ref b.1 := fun j v b hj hb => by
      obtain ⟨k, e1⟩ := hacc.2 j v (by rw [← Array.getElem?_toList]; exact hj)
      have e2 : es.toList[j]? = some es[j] := by rw [Array.getElem?_toList]; simp [k]
      rw [hes, List.getElem?_map] at e2
      rw [hbs, List.getElem?_map] at hb
      cases hx : xs[j]? with
      | none => rw [hx] at hb; cases hb
      | some x =>
        rw [hx] at hb e2
        simp only [Option.map_some, Option.some.injEq] at hb e2
        rw [e1, ← e2, ← hb]
        rfl
    have hv := each_refs (each_of (R := fun v (b : Addr × List Key) => v = .ref b.1) hl hit)
    exact ⟨.ref s.heap.objs.size, L2.upd H s.heap.objs.size (.lst (bs.map fun c => V.ref c.1)), I.laid (t' := tk) hk (Nat.le_refl _)
      (show ObjOk X.prog X.w _ _ _ (.lst (bs.map fun c => V.ref c.1)) from ⟨by rw [List.length_map]; omega, acc.toList, c', hv, by rw [Array.toArray_toList]; exact hD⟩), rfl, q bs _ hks hadr (I.hok.fresh (Nat.le_refl _))⟩
section
variable {K : PySem.W.Frag}
def isKT (kvs : List (PyData × PyData)) : Bool := kvs.all fun p => isK p.1 || (isT p.1 && keyLen p.1)
def pLstD : PyData → Option (Bool × PyData)
  | .dict kvs => if isKT kvs = true then some (true, .list (kvs.map Prod.fst)) else none
  | _ => none
theorem ok_lstD : Ok1 K (r1 rLstD) pLstD := by
  intro Rf G ρ F σ H v d n d' Q R q h k
  cases d <;> simp only [pLstD] at h <;> try cases h
  rename_i kvs
  split at h
  · rename_i hks
    cases h
    obtain ⟨a, rfl, m⟩ := q
    rcases m with ⟨ps, e, z, ek, r⟩ | ⟨ps, e, z, ek, r⟩
    · refine ⟨a, rfl, .inl ⟨ps, e, fun p hp => ?_⟩⟩
      have ra : RpA K F (ps.map fun kv => kV kv.1) (kvs.map Prod.fst) := by
        rw [ek]
        have : ∀ ps : List (Key × V), RpA K F (ps.map fun kv => kV kv.1) (ps.map fun p => kD p.1) := fun ps => by
          induction ps with
          | nil => exact .nil
          | cons q ps ih => exact .cons (by obtain ⟨k, v⟩ := q; cases k <;> first | exact .int _ | exact .str _) ih
        exact this ps
      exact k _ F _ (R.laid hp) (Same.refl _) ⟨p, rfl, R.loose_new hp, ⟨_, upd_same, by rw [List.length_map]; exact z, ra⟩⟩
    · refine ⟨a, rfl, .inr ⟨ps, e, fun cs p hcs hadr hp => ?_⟩⟩
      have hcs2 : cs.map (fun c => PyData.tuple (c.2.map kD)) = kvs.map Prod.fst := by
        rw [ek]
        have := congrArg (List.map fun k : List Key => PyData.tuple (k.map kD)) hcs
        rw [List.map_map, List.map_map] at this
        exact this
      have hlen : cs.length = ps.length := by
        have h1 := congrArg List.length hcs
        rw [List.length_map, List.length_map] at h1
        exact h1
      obtain ⟨F', R', s', ra⟩ := SR.freezeTs cs R fun c hc => ⟨hadr c hc, by
        have h2 : PyData.tuple (c.2.map kD) ∈ kvs.map Prod.fst := by rw [← hcs2]; exact List.mem_map.mpr ⟨c, hc, rfl⟩
        obtain ⟨p, hp, e⟩ := List.mem_map.mp h2
        have h3 := List.all_eq_true.mp hks p hp
        rw [e, isK_T] at h3
        simp [keyLen] at h3
        exact h3.2⟩
      rw [hcs2] at ra
      exact k _ F' _ (R'.laid hp) s' ⟨p, rfl, R'.loose_new hp, ⟨_, upd_same, by rw [List.length_map, hlen]; exact z, ra⟩⟩
  · cases h
end

section
variable {prog : Program} {w : World} {A : Around} {E : Value → Shared → Prop} {s : Shared} {β : Type} {vs : List Value} {bs : List β} {enc : β → PyData} {R : Value → β → Prop}
theorem sorted_tups {l : Addr} {Q : Value → Shared → Prop} (hl : s.heap.IsList l vs.toArray) (e : EachIs R vs bs) (er : EachIs (fun v b => ∃ as, Reads s.heap v (enc b) as) vs bs) (hal : PySem.W.AllAlike (bs.map enc)) (hk : SortableT (bs.map enc)) (hL : bs.length ≤ sizeLine)
    (hu : ∀ b, b ∈ bs → A.units + 2 + (enc b).depth < cLine) (h : ∀ out, out.length = bs.length → EachIs R out (bs.mergeSort (PySem.W.dataLe false enc)) → Q (.ref (s.heap.objs.size + 1)) { s with heap := PyProof.Rows.sortedAll s.heap vs (List.toArray out) }) :
    wpAny (model prog w) A (call (.builtin "sorted") [.ref l]) Q E s := by
  have er' : EachIs (fun v b => ∃ as, Reads (PySem.W.sortingHeap (PySem.W.copyHeap s.heap vs) (s.heap.objs.size + 1) vs) v (enc b) as) vs bs := er.mono fun _ _ ⟨as, r⟩ => ⟨as, PyProof.Rows.Reads.keeps (fun _ _ => PySem.W.sorting_copy_old) r⟩
  exact PySem.W.sorted_vals hl (sortsAt_any (s := { s with heap := PySem.W.sortingHeap (PySem.W.copyHeap s.heap vs) (s.heap.objs.size + 1) vs }) (PySem.W.each_map (R := fun v d => ∃ as, Reads (PySem.W.sortingHeap (PySem.W.copyHeap s.heap vs) (s.heap.objs.size + 1) vs) v d as) enc er') hal hk (PySem.W.bound_map hu)) (by rw [e.length]; exact hL)
    (h _ (by rw [PySem.W.sortVals_length false rfl]; exact e.length) (PySem.W.sortVals_data false e er' hal))
end
section
variable {K : PySem.W.Frag}
def isTupA : PyData → Bool
  | .tuple _ => true
  | _ => false
def okSort2 (ds : List PyData) : Bool := ds.all (fun d => ds.all fun e => PySem.W.alike d e) && (ds.all isTupN || ds.all isNoT || (isTup0 ds && ds.all isTupA)) && ds.all (fun d => decide (d.depth ≤ 60) && d.plain)
def pSorted2 : PyData → Option (Bool × PyData)
  | .list ds => if okSort2 ds = true then some (true, .list (ds.mergeSort leD)) else none
  | _ => none
theorem okSort2_iff {ds : List PyData} (h : okSort2 ds = true) : PySem.W.AllAlike ds ∧ SortableT ds ∧ ∀ d, d ∈ ds → d.depth ≤ 60 ∧ d.plain = true := by
  unfold okSort2 at h
  simp only [Bool.and_eq_true, Bool.or_eq_true, List.all_eq_true, decide_eq_true_eq] at h
  obtain ⟨⟨h1, h2⟩, h3⟩ := h
  refine ⟨fun d hd e he => h1 d hd e he, ?_, h3⟩
  rcases h2 with (h2 | h2) | ⟨h2, h4⟩
  · refine .inl (.inl fun d hd => ?_)
    have := h2 d hd
    cases d <;> simp only [isTupN] at this <;> try cases this
    rename_i xs
    cases xs with
    | nil => cases this
    | cons x r => exact ⟨x, r, rfl⟩
  · refine .inl (.inr fun d hd => ?_)
    have := h2 d hd
    cases d <;> first | (simp [isNoT] at this; done) | (refine ⟨fun z => ?_, fun xs z => ?_⟩ <;> (cases z))
  · refine .inr ?_
    cases ds with
    | nil => cases h2
    | cons d ds =>
      cases d with
      | tuple xs =>
        cases xs with
        | nil =>
          refine ⟨_, rfl, fun e he => ?_⟩
          have := h4 e (by simp [he])
          cases e <;> first | (simp [isTupA] at this; done) | exact ⟨_, rfl⟩
        | cons x r => simp [isTup0] at h2
      | _ => simp [isTup0] at h2
def rSortD2 (K : PySem.W.Frag) : List V → Hp → VK → Prop := fun vs H Q => ∃ (a : Addr) (xs : List V) (ds : List PyData), vs = [V.ref a] ∧ SqL K H a xs ∧ DpAll K H xs ds ∧ okSort2 ds = true ∧
  ∀ (ys : List V) (p : Addr), (∃ bs : List (V × PyData), bs.map Prod.fst = ys ∧ bs.map Prod.snd = ds.mergeSort leD ∧ ∀ b ∈ bs, b ∈ xs.zip ds) → ys.length = xs.length → H p = none → Q (.ref p) (L2.upd H p (.lst ys))
theorem cr_sortD2 {X : Cx} (hu : X.A.units + 64 < cLine) : CallR X (.builtin "sorted") (rSortD2 X.K) := by
  intro pins s σ H vs us Q I r h
  obtain ⟨a, xs, ds, rfl, hs, hd, ok, q⟩ := h
  obtain ⟨its, rv, hl, hz⟩ := I.list hs
  rw [Vals.ref1 r]
  obtain ⟨k1, k2, k3⟩ := okSort2_iff ok
  obtain ⟨e1, e2⟩ := eachR I hd rv
  have hlen := DpAll.length hd
  have hz2 : (xs.zip ds).map Prod.snd = ds := zip_snd hlen
  have hzl : (xs.zip ds).length = xs.length := by rw [List.length_zip]; omega
  refine sorted_tups (bs := xs.zip ds) (enc := Prod.snd) (R := fun v (b : V × PyData) => RelV b.1 v) hl.isList e1 e2 (by rw [hz2]; exact k1) (by rw [hz2]; exact k2) (by rw [hzl]; exact hz) (fun b hb => ?_) fun out h1 h2 => ?_
  · have : b.2 ∈ ds := by rw [← hz2]; exact List.mem_map.mpr ⟨b, hb, rfl⟩
    have := (k3 _ this).1
    omega
  · obtain ⟨ep, he'⟩ := PyProof.Rows.sortedAll_at s.heap its out.toArray
    have hv := each_vals h2
    have hl2 : (((xs.zip ds).mergeSort (PySem.W.dataLe false Prod.snd)).map Prod.fst).length = xs.length := by
      rw [List.length_map, List.length_mergeSort, hzl]
    refine ⟨.ref _, L2.upd H (s.heap.objs.size + 1) (.lst (((xs.zip ds).mergeSort (PySem.W.dataLe false Prod.snd)).map Prod.fst)), I.laid (t' := s.toks) (fun _ _ => PyProof.Rows.sortedAll_old) (Nat.le_succ _) ⟨by rw [hl2]; exact hz, out, ep, hv, he'⟩, rfl, ?_⟩
    refine q _ _ ⟨(xs.zip ds).mergeSort (PySem.W.dataLe false Prod.snd), rfl, ?_, fun b hb => List.mem_mergeSort.mp hb⟩ hl2 (I.hok.fresh (Nat.le_succ _))
    rw [List.map_mergeSort (r := PySem.W.dataLe false Prod.snd) (s := leD) (f := Prod.snd) (fun a _ b _ => rfl), hz2]
theorem ok_sorted2 : Ok1 K (r1 (rSortD2 K)) pSorted2 := by
  intro Rf G ρ F σ H v d n d' Q R q h k
  cases d <;> simp only [pSorted2] at h <;> try cases h
  rename_i ds
  split at h
  · rename_i ok
    cases h
    obtain ⟨a, xs, rfl, e, z, r⟩ := q
    have hp : PyData.plainAll ds = true := by
      have : ∀ es : List PyData, (∀ d ∈ es, d.plain = true) → PyData.plainAll es = true := fun es => by
        induction es with
        | nil => intro _; simp [PyData.plainAll]
        | cons d es ih => intro h; simp [PyData.plainAll, h d (by simp), ih fun c hc => h c (by simp [hc])]
      exact this ds fun d hd => ((okSort2_iff ok).2.2 d hd).2
    refine ⟨a, xs, ds, rfl, e, (r.mono R.fz).dp hp, ok, fun ys p ⟨bs, h1, h2, h3⟩ hl hp => ?_⟩
    have ra : RpA K F ys (ds.mergeSort leD) := by
      rw [← h1, ← h2]
      exact rpa_unzip fun b hb => rpa_zip r b (h3 b hb)
    exact k _ F _ (R.laid hp) (Same.refl _) ⟨p, rfl, R.loose_new hp, ⟨ys, upd_same, by rw [hl]; exact z, ra⟩⟩
  · cases h
end
end L2.Z

namespace L2.Z
open PySem PySem.Spec PyProof.Rows
section
variable {prog : Program} {w : World} {A : Around} {E : Value → Shared → Prop} {s : Shared}
theorem raw_samePairs0 {nm : String} {a b : Addr} {es es' : Array DictEntry} {ep ep' : Nat} {Q : Bool → Shared → Prop} (ha : (a == sysModules) = false) (hb : (b == sysModules) = false)
    (ra : DT.Raw s.heap a es ep) (rb : DT.Raw s.heap b es' ep') (hz : es'.size = 0) (h : Q (decide (es.size = 0)) s) :
    wpAny (model prog w) A (Builtin.Dict.samePairs nm a b) Q E s := by
  obtain ⟨oa, hoa, _, hda⟩ := id ra
  obtain ⟨ob, hob, _, hdb⟩ := id rb
  unfold Builtin.Dict.samePairs Builtin.Dict.showsAll
  rw [if_neg (show ¬ (a == sysModules) = true by rw [ha]; exact Bool.false_ne_true), if_neg (show ¬ (b == sysModules) = true by rw [hb]; exact Bool.false_ne_true)]
  refine wpAny_bind (wpAny_pure (wpAny_bind (wpAny_pure ?_)))
  refine wpAny_bind (wpAny_dictEntries hoa hda ?_)
  dsimp only
  refine wpAny_bind (wpAny_dictEntries hob hdb ?_)
  by_cases hsz : es.size = 0
  case neg =>
    rw [if_pos (by simpa [hz] using hsz)]
    rw [decide_eq_false hsz] at h
    exact wpAny_bind (wpAny_rule (wpAny_pure h))
  case pos =>
    rw [decide_eq_true hsz] at h
    rw [if_neg (by rw [hsz, hz]; simp)]
    refine wpAny_bind (wpAny_dictEpoch hoa hda ?_)
    rw [hsz]
    refine wpAny_bind ?_
    rw [Std.Legacy.Range.forIn_eq_forIn_range']
    simp only [Std.Legacy.Range.size, Nat.sub_zero, Nat.add_sub_cancel, Nat.div_one, List.range'_zero, List.forIn_nil]
    exact wpAny_pure (wpAny_pure h)
theorem raw_ne0 {a b : Addr} {es es' : Array DictEntry} {ep ep' : Nat} {Q : Value → Shared → Prop} (ha : (a == sysModules) = false) (hb : (b == sysModules) = false)
    (ra : DT.Raw s.heap a es ep) (rb : DT.Raw s.heap b es' ep') (hz : es'.size = 0) (hu : A.units < cLine) (h : Q (.bool (!decide (es.size = 0))) s) :
    wpAny (model prog w) A (compareOp .NotEq (.ref a) (.ref b)) Q E s := by
  refine wpAny_richCompare_same_room (op := .NotEq) ra.typeIs rb.typeIs PySem.F.slot_dict_ne (wpAny_call_entry PySem.F.slot_dict_ne ra.typeIs PySem.F.entry_dict_ne ?_ (PySem.F.args_dict_ne_2 _ _)) hu
  show wpAny _ _ (Builtin.Dict.dictSlotArgs "__ne__" ⟨[.ref a, .ref b], []⟩ >>= _) _ _ s
  refine wpAny_bind ?_
  unfold Builtin.Dict.dictSlotArgs
  refine wpAny_bind (wpAny_notOrdered_dict ra.typeIs ?_)
  show wpAny _ _ (pure (Value.ref a, Value.ref b)) _ _ s
  refine wpAny_pure ?_
  refine wpAny_bind (wpAny_isInstance (T := "dict") rb.typeIs PySem.F.sub_dict_dict ?_)
  simp only [Bool.not_true, Bool.false_eq_true, if_false]
  refine wpAny_bind (wpAny_pure (wpAny_bind (wpAny_pure ?_)))
  refine wpAny_bind (raw_samePairs0 ha hb ra rb hz ?_)
  refine wpAny_pure ⟨_, rfl, ?_, ?_⟩
  · exact fun x => nomatch x
  · simpa using h
end
section
variable {X : Cx} {pins : List (Addr × Obj)} {σ : St} {H : Hp} {s : Shared} {a : Addr}
theorem rawK (I : Inv X pins σ H s) {ps : List (Key × V)} (e : H a = some (.dK ps)) : (a == sysModules) = false ∧ ∃ es ep, DT.Raw s.heap a es ep ∧ es.size = ps.length := by
  obtain ⟨z, hd, vs, rel, o, es, ep, ho, hc, hd2, hk, hp, hn⟩ := dk_of I.hok e
  exact ⟨hd, es, ep, ⟨o, ho, hc, hd2⟩, by rw [rel.length, ← hp.length, Array.length_toList]⟩
theorem rawT (I : Inv X pins σ H s) {ps : List (List Key × V)} (e : H a = some (.dT ps)) : (a == sysModules) = false ∧ ∃ es ep, DT.Raw s.heap a es ep ∧ es.size = ps.length := by
  obtain ⟨z, hd, xs, rel, o, es, ep, ho, hex, hdat, hes, -, -⟩ := dt_of I.hok e
  exact ⟨hd, es, ep, ⟨o, ho, hex, hdat⟩, by rw [← Array.length_toList, hes, List.length_map]; exact (Paired.length rel).symm⟩
def HasN (H : Hp) (a : Addr) (n : Nat) : Prop := (∃ ps : List (Key × V), H a = some (.dK ps) ∧ ps.length = n) ∨ (∃ ps : List (List Key × V), H a = some (.dT ps) ∧ ps.length = n)
theorem rawN (I : Inv X pins σ H s) {n : Nat} (e : HasN H a n) : (a == sysModules) = false ∧ ∃ es ep, DT.Raw s.heap a es ep ∧ es.size = n := by
  rcases e with ⟨ps, e, rfl⟩ | ⟨ps, e, rfl⟩
  · exact rawK I e
  · exact rawT I e
def rNeE : R2 := fun x y H Q => ∃ (a b : Addr) (n : Nat), x = .ref a ∧ y = .ref b ∧ HasN H a n ∧ HasN H b 0 ∧ Q (.bl (!decide (n = 0))) H
theorem op_neE (hu : X.A.units + 64 < cLine) : OpR X (compareOp .NotEq) rNeE := by
  intro pins s σ H x y v u Q I rx ry h
  obtain ⟨a, b, n, rfl, rfl, ea, eb, q⟩ := h
  obtain rfl : v = Value.ref a := rx
  obtain rfl : u = Value.ref b := ry
  obtain ⟨sa, es, ep, ra, la⟩ := rawN I ea
  obtain ⟨sb, es', ep', rb, lb⟩ := rawN I eb
  refine raw_ne0 sa sb ra rb lb (by omega) ?_
  rw [la]
  exact ⟨.bl _, H, I, rfl, q⟩
end
section
variable {K : PySem.W.Frag}
def pNeE : PyData → PyData → Option (Bool × PyData)
  | .dict kvs, .dict [] => some (false, .bool (!kvs.isEmpty))
  | _, _ => none
theorem ok_neE : Ok2 K rNeE pNeE := by
  intro Rf G ρ F σ H v w d e n d' Q R q1 q2 h k
  obtain ⟨kvs, rfl, rfl, rfl, rfl⟩ : ∃ kvs, d = .dict kvs ∧ e = .dict [] ∧ n = false ∧ d' = .bool (!kvs.isEmpty) := by
    unfold pNeE at h
    split at h
    · cases h; exact ⟨_, rfl, rfl, rfl, rfl⟩
    · cases h
  obtain ⟨a, rfl, m⟩ := q1
  obtain ⟨b, rfl, m'⟩ := q2
  have h1 : HasN H a kvs.length := by
    rcases m with ⟨ps, e, z, ek, r⟩ | ⟨ps, e, z, ek, r⟩
    · exact .inl ⟨ps, e, by have := congrArg List.length ek; simpa using this.symm⟩
    · exact .inr ⟨ps, e, by have := congrArg List.length ek; simpa using this.symm⟩
  have h2 : HasN H b 0 := by
    rcases m' with ⟨ps, e, z, ek, r⟩ | ⟨ps, e, z, ek, r⟩
    · exact .inl ⟨ps, e, by have := congrArg List.length ek; simpa using this.symm⟩
    · exact .inr ⟨ps, e, by have := congrArg List.length ek; simpa using this.symm⟩
  refine ⟨a, b, kvs.length, rfl, rfl, h1, h2, ?_⟩
  have h3 : (!decide (kvs.length = 0)) = !kvs.isEmpty := by cases kvs <;> simp
  rw [h3]
  exact k _ F H R (Same.refl _) (rr_val (.bl _))
end
end L2.Z

namespace L2.Z
open PySem PySem.Spec PyProof.Rows
section
variable {K : PySem.W.Frag}
def pIsB : PyData → PyData → Option (Bool × PyData)
  | .bool a, .bool b => some (false, .bool (decide (a = b)))
  | _, _ => none
def pNotB : PyData → PyData → Option (Bool × PyData)
  | .bool a, .bool b => some (false, .bool (!decide (a = b)))
  | _, _ => none
def rIsBB (neg : Bool) : R2 := fun x y H Q => ∃ a b, x = .bl a ∧ y = .bl b ∧ Q (.bl (if neg then !decide (a = b) else decide (a = b))) H
theorem op_isBB {X : Cx} : OpR X (compareOp .Is) (rIsBB false) := op_is_bl
theorem op_notBB {X : Cx} : OpR X (compareOp .IsNot) (rIsBB true) := op_isnot_bl
theorem ok_isB : Ok2 K (rIsBB false) pIsB := by
  intro Rf G ρ F σ H v w d e n d' Q R q1 q2 h k
  obtain ⟨a, b, rfl, rfl, rfl, rfl⟩ : ∃ a b, d = .bool a ∧ e = .bool b ∧ n = false ∧ d' = .bool (decide (a = b)) := by
    unfold pIsB at h
    split at h
    · cases h; exact ⟨_, _, rfl, rfl, rfl, rfl⟩
    · cases h
  cases q1; cases q2
  exact ⟨a, b, rfl, rfl, k _ F H R (Same.refl _) (rr_val (.bl _))⟩
theorem ok_notB : Ok2 K (rIsBB true) pNotB := by
  intro Rf G ρ F σ H v w d e n d' Q R q1 q2 h k
  obtain ⟨a, b, rfl, rfl, rfl, rfl⟩ : ∃ a b, d = .bool a ∧ e = .bool b ∧ n = false ∧ d' = .bool (!decide (a = b)) := by
    unfold pNotB at h
    split at h
    · cases h; exact ⟨_, _, rfl, rfl, rfl, rfl⟩
    · cases h
  cases q1; cases q2
  exact ⟨a, b, rfl, rfl, k _ F H R (Same.refl _) (rr_val (.bl _))⟩
end
@[simp] theorem p_isB (a b : Bool) : pIsB (.bool a) (.bool b) = some (false, .bool (decide (a = b))) := rfl
@[simp] theorem p_notB (a b : Bool) : pNotB (.bool a) (.bool b) = some (false, .bool (!decide (a = b))) := rfl
end L2.Z

namespace L2.Z.K01
open PySem L2.Z
/-- is_int -/
def b_is_int : Ss := .cons (.ret (.and (.op1 pIsInt (.v 0)) (.op1 pNot (.op1 pIsBool (.v 0))))) (.nil)
abbrev f_is_int : Nat := 0
/-- is_from -/
def b_is_from : Ss := .cons (.ret (.and (.call 0 (.cons (.v 0) (.nil))) (.chain pLe pLe (.v 1) (.v 0) (.v 2)))) (.nil)
abbrev f_is_from : Nat := 1
def c_is_place_0 : X := .lc (.call 1 (.cons (.v 1) (.cons (.op1 pNeg (.k (.int 1000))) (.cons (.k (.int 1000)) (.nil))))) (.n 1) gSeq (.cons (.v 0) .nil) (.k (.bool true)) [1]
/-- is_place -/
def b_is_place : Ss := .cons (.ite (.or (.op1 pNot (.op1 pIsTup (.v 0))) (.op2 pNe (.op1 pLen (.v 0)) (.k (.int 2)))) (.cons (.ret (.k (.bool false))) (.nil)) (.nil)) (.cons (.ret (.op1 pAll (c_is_place_0))) (.nil))
abbrev f_is_place : Nat := 2
def c_need_board_0 : X := .lc (.call 2 (.cons (.v 3) (.nil))) (.n 3) gSeq (.cons (.v 2) .nil) (.k (.bool true)) [3]
def w_need_board_0 : S := .frr (.t (.n 1) (.n 2)) gEnum (.cons (.v 0) .nil) (.cons (.ite (.or (.op1 pNot (.op1 pIsTup (.v 2))) (.or (.op1 pNot (.chain pLe pLe (.k (.int 1)) (.op1 pLen (.v 2)) (.k (.int 6)))) (.op2 pNe (.op1 pLen (.v 2)) (.op1 pLen (.op2 pIdx (.v 0) (.k (.int 0))))))) (.cons (.stuck) (.nil)) (.nil)) (.cons (.ite (.op1 pNot (.op1 pAll (c_need_board_0))) (.cons (.stuck) (.nil)) (.nil)) (.nil)))
/-- need_board -/
def b_need_board : Ss := .cons (.ite (.or (.op1 pNot (.op1 pIsTup (.v 0))) (.op1 pNot (.chain pLe pLe (.k (.int 1)) (.op1 pLen (.v 0)) (.k (.int 6))))) (.cons (.stuck) (.nil)) (.nil)) (.cons (w_need_board_0) (.nil))
abbrev f_need_board : Nat := 3
/-- sides -/
def b_sides : Ss := .cons (.ret (.tup (.cons (.op1 pLen (.v 0)) (.cons (.op1 pLen (.op2 pIdx (.v 0) (.k (.int 0)))) (.nil))))) (.nil)
abbrev f_sides : Nat := 4
/-- lines_of -/
def b_lines_of : Ss := .cons (.ret (.op1 pTupRg1 (.op1 pSumA (.call 4 (.cons (.v 0) (.nil)))))) (.nil)
abbrev f_lines_of : Nat := 5
def c_is_lot_0 : X := .lc (.v 5) (.n 5) gSeq (.cons (.v 1) .nil) (.op2 pLt (.v 5) (.op1 pLen (.v 0))) [5]
def c_is_lot_1 : X := .lc (.op2 pGe (.v 3) (.v 4)) (.t (.n 3) (.n 4)) gZip (.cons (.v 1) (.cons (.op2 pSlF (.v 1) (.k (.int 1))) .nil)) (.k (.bool true)) [3, 4]
def c_is_lot_2 : X := .lc (.call 1 (.cons (.v 5) (.cons (.k (.int 0)) (.cons (.op2 pSubI (.op1 pSumA (.call 4 (.cons (.v 0) (.nil)))) (.k (.int 1))) (.nil))))) (.n 5) gSeq (.cons (.v 1) .nil) (.k (.bool true)) [5]
/-- is_lot -/
def b_is_lot : Ss := .cons (.ite (.or (.op1 pNot (.op1 pIsTup (.v 1))) (.op1 pNot (.op1 pAll (c_is_lot_2)))) (.cons (.ret (.k (.bool false))) (.nil)) (.nil)) (.cons (.ite (.op1 pAny (c_is_lot_1)) (.cons (.ret (.k (.bool false))) (.nil)) (.nil)) (.cons (.set 2 (.op1 pLen (c_is_lot_0))) (.cons (.ret (.and (.op2 pLt (.v 2) (.op1 pLen (.v 0))) (.op2 pLt (.op2 pSubI (.op1 pLen (.v 1)) (.v 2)) (.op1 pLen (.op2 pIdx (.v 0) (.k (.int 0))))))) (.nil))))
abbrev f_is_lot : Nat := 6
/-- need_lot -/
def b_need_lot : Ss := .cons (.ite (.op1 pNot (.call 6 (.cons (.v 0) (.cons (.v 1) (.nil))))) (.cons (.stuck) (.nil)) (.nil)) (.nil)
abbrev f_need_lot : Nat := 7
def c_left_of_0 : X := .lc (.v 3) (.n 3) gSeq (.cons (.op2 pSlF (.call 5 (.cons (.v 0) (.nil))) (.op1 pLen (.v 0))) .nil) (.op2 pNotIn (.v 3) (.v 1)) [3]
def c_left_of_1 : X := .lc (.v 3) (.n 3) gRange1 (.cons (.op1 pLen (.v 0)) .nil) (.op2 pNotIn (.v 3) (.v 1)) [3]
/-- left_of -/
def b_left_of : Ss := .cons (.set 2 (.op1 pTup (c_left_of_1))) (.cons (.ret (.tup (.cons (.v 2) (.cons (.op1 pTup (c_left_of_0)) (.nil))))) (.nil))
abbrev f_left_of : Nat := 8
def c_numbers_0 : X := .lc (.op2 pIdx (.op2 pIdx (.op2 pIdx (.v 0) (.v 5)) (.op2 pSubI (.v 2) (.op1 pLen (.v 0)))) (.k (.int 1))) (.n 5) gSeq (.cons (.v 3) .nil) (.k (.bool true)) [5]
def c_numbers_1 : X := .lc (.op2 pIdx (.op2 pIdx (.op2 pIdx (.v 0) (.v 2)) (.op2 pSubI (.v 6) (.op1 pLen (.v 0)))) (.k (.int 0))) (.n 6) gSeq (.cons (.v 4) .nil) (.k (.bool true)) [6]
/-- numbers -/
def b_numbers : Ss := .cons (.put (.t (.n 3) (.n 4)) (.call 8 (.cons (.v 0) (.cons (.v 1) (.nil))))) (.cons (.ite (.op2 pLt (.v 2) (.op1 pLen (.v 0))) (.cons (.ret (c_numbers_1)) (.nil)) (.nil)) (.cons (.ret (c_numbers_0)) (.nil)))
abbrev f_numbers : Nat := 9
/-- same_side -/
def b_same_side : Ss := .cons (.ret (.op2 pEq (.op2 pLt (.v 1) (.op1 pLen (.v 0))) (.op2 pLt (.v 2) (.op1 pLen (.v 0))))) (.nil)
abbrev f_same_side : Nat := 10
def c_is_greater_0 : X := .lc (.op2 pGt (.v 5) (.v 4)) (.t (.n 4) (.n 5)) gZip (.cons (.call 9 (.cons (.v 0) (.cons (.v 1) (.cons (.v 2) (.nil))))) (.cons (.call 9 (.cons (.v 0) (.cons (.v 1) (.cons (.v 3) (.nil))))) .nil)) (.k (.bool true)) [4, 5]
/-- is_greater -/
def b_is_greater : Ss := .cons (.ite (.op1 pNot (.call 10 (.cons (.v 0) (.cons (.v 2) (.cons (.v 3) (.nil)))))) (.cons (.ret (.k (.bool false))) (.nil)) (.nil)) (.cons (.ret (.op1 pAll (c_is_greater_0))) (.nil))
abbrev f_is_greater : Nat := 11
def c_can_fall_0 : X := .lc (.call 11 (.cons (.v 0) (.cons (.v 1) (.cons (.v 2) (.cons (.v 3) (.nil)))))) (.n 3) gSeq (.cons (.call 5 (.cons (.v 0) (.nil))) .nil) (.op2 pNotIn (.v 3) (.tups (.star (.v 1) (.cons (.v 2) (.nil))))) [3]
/-- can_fall -/
def b_can_fall : Ss := .cons (.ret (.op1 pAny (c_can_fall_0))) (.nil)
abbrev f_can_fall : Nat := 12
/-- with_line -/
def b_with_line : Ss := .cons (.ret (.op1 pTup (.op1 pSorted (.lsts (.star (.v 0) (.cons (.v 1) (.nil))))))) (.nil)
abbrev f_with_line : Nat := 13
def w_run_0 : S := .frr (.t (.n 3) (.n 4)) gEnum (.cons (.v 1) .nil) (.cons (.ite (.or (.op1 pNot (.call 1 (.cons (.v 4) (.cons (.k (.int 0)) (.cons (.op2 pSubI (.op1 pSumA (.call 4 (.cons (.v 0) (.nil)))) (.k (.int 1))) (.nil)))))) (.or (.op2 pIn (.v 4) (.v 2)) (.op1 pNot (.call 12 (.cons (.v 0) (.cons (.v 2) (.cons (.v 4) (.nil)))))))) (.cons (.ret (.v 3)) (.nil)) (.nil)) (.cons (.set 2 (.call 13 (.cons (.v 2) (.cons (.v 4) (.nil))))) (.nil)))
/-- run -/
def b_run : Ss := .cons (.set 2 (.tup (.nil))) (.cons (w_run_0) (.cons (.ret (.v 2)) (.nil)))
abbrev f_run : Nat := 14
/-- need_strikes -/
def b_need_strikes : Ss := .cons (.ite (.op1 pNot (.op1 pIsTup (.v 1))) (.cons (.stuck) (.nil)) (.nil)) (.cons (.set 2 (.call 14 (.cons (.v 0) (.cons (.v 1) (.nil))))) (.cons (.ite (.op1 pIsInt (.v 2)) (.cons (.stuck) (.nil)) (.nil)) (.cons (.ret (.v 2)) (.nil))))
abbrev f_need_strikes : Nat := 15
/-- play -/
def b_play : Ss := .cons (.expr (.call 3 (.cons (.v 0) (.nil)))) (.cons (.ret (.call 15 (.cons (.v 0) (.cons (.v 1) (.nil))))) (.nil))
abbrev f_play : Nat := 16
def c_closure_0 : X := .lc (.v 5) (.n 5) gSeq (.cons (.v 1) .nil) (.and (.op2 pNotIn (.v 5) (.v 2)) (.call 12 (.cons (.v 0) (.cons (.v 2) (.cons (.v 5) (.nil)))))) [5]
def w_closure_0 : S := .whl (.op2 pNe (.v 4) (.lst (.nil))) (.cons (.par [2, 3] (.cons (.call 13 (.cons (.v 2) (.cons (.op2 pIdx (.v 4) (.k (.int 0))) (.nil)))) (.cons (.lsts (.star (.v 3) (.cons (.op2 pIdx (.v 4) (.k (.int 0))) (.nil)))) (.nil)))) (.cons (.set 4 (c_closure_0)) (.nil)))
def c_closure_1 : X := .lc (.v 5) (.n 5) gSeq (.cons (.v 1) .nil) (.call 12 (.cons (.v 0) (.cons (.v 2) (.cons (.v 5) (.nil))))) [5]
/-- closure -/
def b_closure : Ss := .cons (.par [2, 3] (.cons (.tup (.nil)) (.cons (.lst (.nil)) (.nil)))) (.cons (.set 4 (c_closure_1)) (.cons (w_closure_0) (.cons (.ret (.v 3)) (.nil))))
abbrev f_closure : Nat := 17
/-- is_reached -/
def b_is_reached : Ss := .cons (.ret (.op2 pEq (.op1 pLen (.call 17 (.cons (.v 0) (.cons (.v 1) (.nil))))) (.op1 pLen (.v 1)))) (.nil)
abbrev f_is_reached : Nat := 18
/-- comes -/
def b_comes : Ss := .cons (.expr (.call 3 (.cons (.v 0) (.nil)))) (.cons (.expr (.call 7 (.cons (.v 0) (.cons (.v 1) (.nil))))) (.cons (.ret (.call 18 (.cons (.v 0) (.cons (.v 1) (.nil))))) (.nil)))
abbrev f_comes : Nat := 19
/-- greatest_within -/
def b_greatest_within : Ss := .cons (.expr (.call 3 (.cons (.v 0) (.nil)))) (.cons (.expr (.call 7 (.cons (.v 0) (.cons (.v 1) (.nil))))) (.cons (.ret (.op1 pTup (.op1 pSorted (.call 17 (.cons (.v 0) (.cons (.v 1) (.nil))))))) (.nil)))
abbrev f_greatest_within : Nat := 20
def c_stuck_0 : X := .lc (.v 3) (.n 3) gSeq (.cons (.v 1) .nil) (.op2 pNotIn (.v 3) (.v 2)) [3]
/-- stuck -/
def b_stuck : Ss := .cons (.expr (.call 3 (.cons (.v 0) (.nil)))) (.cons (.expr (.call 7 (.cons (.v 0) (.cons (.v 1) (.nil))))) (.cons (.set 2 (.call 17 (.cons (.v 0) (.cons (.v 1) (.nil))))) (.cons (.ret (.op1 pTup (c_stuck_0))) (.nil))))
abbrev f_stuck : Nat := 21
/-- some_strikes -/
def b_some_strikes : Ss := .cons (.expr (.call 3 (.cons (.v 0) (.nil)))) (.cons (.expr (.call 7 (.cons (.v 0) (.cons (.v 1) (.nil))))) (.cons (.set 2 (.call 17 (.cons (.v 0) (.cons (.v 1) (.nil))))) (.cons (.ret (.ite (.op2 pEq (.op1 pLen (.v 2)) (.op1 pLen (.v 1))) (.op1 pTup (.v 2)) (.k .none))) (.nil))))
abbrev f_some_strikes : Nat := 22
/-- shows_strikes -/
def b_shows_strikes : Ss := .cons (.expr (.call 3 (.cons (.v 0) (.nil)))) (.cons (.expr (.call 7 (.cons (.v 0) (.cons (.v 1) (.nil))))) (.cons (.ret (.and (.op1 pIsTup (.v 2)) (.op2 pEq (.call 14 (.cons (.v 0) (.cons (.v 2) (.nil)))) (.v 1)))) (.nil)))
abbrev f_shows_strikes : Nat := 23
/-- _law_taken -/
def b__law_taken : Ss := .cons (.ite (.op2 pGt (.op2 pIdx (.v 0) (.k (.int 3))) (.k (.int 0))) (.cons (.set 2 (.op2 pModI (.op1 pInt1 (.op2 pIdx (.v 0) (.k (.int 3)))) (.v 1))) (.cons (.setAt 0 (.k (.int 3)) (.op2 pDivI (.op2 pIdx (.v 0) (.k (.int 3))) (.v 1))) (.cons (.ret (.v 2)) (.nil)))) (.nil)) (.cons (.setAt 0 (.k (.int 1)) (.op2 pAdd (.op2 pIdx (.v 0) (.k (.int 1))) (.k (.int 1)))) (.cons (.ite (.op2 pGt (.op2 pIdx (.v 0) (.k (.int 1))) (.op1 pLen (.op2 pIdx (.v 0) (.k (.int 0))))) (.cons (.setAt 0 (.k (.int 2)) (.op2 pModI (.op1 pInt1 (.op2 pAdd (.op2 pMulI (.op2 pIdx (.v 0) (.k (.int 2))) (.k (.int 48271))) (.k (.int 11)))) (.k (.int 2147483647)))) (.cons (.ret (.op2 pModI (.op1 pInt1 (.op2 pDivI (.op2 pIdx (.v 0) (.k (.int 2))) (.k (.int 7)))) (.v 1))) (.nil))) (.nil)) (.cons (.set 3 (.op2 pIdx (.op2 pIdx (.v 0) (.k (.int 0))) (.op2 pSubI (.op2 pIdx (.v 0) (.k (.int 1))) (.k (.int 1))))) (.cons (.setAt 0 (.k (.int 2)) (.op2 pModI (.op1 pInt1 (.op2 pAdd (.op2 pAdd (.op2 pMulI (.op2 pIdx (.v 0) (.k (.int 2))) (.k (.int 48271))) (.v 3)) (.k (.int 11)))) (.k (.int 2147483647)))) (.cons (.ite (.op2 pGe (.v 3) (.op2 pPowI (.k (.int 10)) (.k (.int 18)))) (.cons (.setAt 0 (.k (.int 3)) (.op2 pDivI (.v 3) (.v 1))) (.nil)) (.nil)) (.cons (.ret (.op2 pModI (.op1 pInt1 (.v 3)) (.v 1))) (.nil)))))))
abbrev f__law_taken : Nat := 24
/-- _law_pick -/
def b__law_pick : Ss := .cons (.ret (.op2 pIdx (.v 1) (.call 24 (.cons (.v 0) (.cons (.op1 pLen (.v 1)) (.nil)))))) (.nil)
abbrev f__law_pick : Nat := 25
def c__law_alike_0 : X := .lc (.v 2) (.n 2) gRange1 (.cons (.op1 pLen (.v 1)) .nil) (.op1 pNot (.call 26 (.cons (.op2 pIdx (.v 0) (.v 2)) (.cons (.op2 pIdx (.v 1) (.v 2)) (.nil))))) [2]
/-- _law_alike -/
def b__law_alike : Ss := .cons (.ite (.op1 pIsTL (.v 1)) (.cons (.ite (.or (.op1 pNot (.op1 pIsTL (.v 0))) (.op2 pNe (.op1 pIsList (.v 0)) (.op1 pIsList (.v 1)))) (.cons (.ret (.k (.bool false))) (.nil)) (.nil)) (.cons (.ite (.op2 pNe (.op1 pLen (.v 0)) (.op1 pLen (.v 1))) (.cons (.ret (.k (.bool false))) (.nil)) (.nil)) (.cons (.ret (.op2 pEq (c__law_alike_0) (.lst (.nil)))) (.nil)))) (.nil)) (.cons (.ite (.or (.op1 pIsN (.v 1)) (.op1 pIsStr (.v 1))) (.cons (.ret (.and (.op2 pEq (.v 0) (.v 1)) (.op2 pEq (.op1 pIsStr (.v 0)) (.op1 pIsStr (.v 1))))) (.nil)) (.nil)) (.cons (.ret (.and (.op1 pIsInt (.v 0)) (.and (.op2 pEq (.op1 pIsBool (.v 0)) (.op1 pIsBool (.v 1))) (.op2 pEq (.v 0) (.v 1))))) (.nil)))
abbrev f__law_alike : Nat := 26
/-- _law_is -/
def b__law_is : Ss := .cons (.ret (.and (.op1 pIsBool (.v 0)) (.op2 pEq (.v 0) (.v 1)))) (.nil)
abbrev f__law_is : Nat := 27
def w__law_board_0 : S := .frr (.n 11) gRange1 (.cons (.v 5) .nil) (.cons (.app 10 (.tup (.cons (.op2 pAdd (.op2 pIdx (.v 7) (.v 9)) (.call 24 (.cons (.v 0) (.cons (.v 3) (.nil))))) (.cons (.op2 pSubI (.op2 pAdd (.op2 pIdx (.v 8) (.v 11)) (.call 24 (.cons (.v 0) (.cons (.v 3) (.nil))))) (.k (.int 1))) (.nil))))) (.nil))
def w__law_board_1 : S := .frr (.n 9) gRange1 (.cons (.v 4) .nil) (.cons (.set 10 (.lst (.nil))) (.cons (w__law_board_0) (.cons (.app 6 (.op1 pTup (.v 10))) (.nil))))
def c__law_board_0 : X := .lc (.op2 pMulI (.k (.int 2)) (.call 24 (.cons (.v 0) (.cons (.k (.int 4)) (.nil))))) (.n 9) gSeq (.cons (.v 8) .nil) (.k (.bool true)) [9]
def c__law_board_1 : X := .lc (.op2 pMulI (.k (.int 2)) (.call 24 (.cons (.v 0) (.cons (.k (.int 4)) (.nil))))) (.n 9) gSeq (.cons (.v 7) .nil) (.k (.bool true)) [9]
/-- _law_board -/
def b__law_board : Ss := .cons (.par [4, 5, 6] (.cons (.op2 pAdd (.k (.int 1)) (.call 24 (.cons (.v 0) (.cons (.v 1) (.nil))))) (.cons (.op2 pAdd (.k (.int 1)) (.call 24 (.cons (.v 0) (.cons (.v 2) (.nil))))) (.cons (.lst (.nil)) (.nil))))) (.cons (.par [7, 8] (.cons (.op2 pMulS (.lst (.cons (.k (.int 0)) (.nil))) (.v 4)) (.cons (.op2 pMulS (.lst (.cons (.k (.int 0)) (.nil))) (.v 5)) (.nil)))) (.cons (.ite (.op2 pGt (.call 24 (.cons (.v 0) (.cons (.k (.int 3)) (.nil)))) (.k (.int 0))) (.cons (.set 7 (c__law_board_1)) (.cons (.set 8 (c__law_board_0)) (.nil))) (.nil)) (.cons (w__law_board_1) (.cons (.ret (.op1 pTup (.v 6))) (.nil)))))
abbrev f__law_board : Nat := 28
def c__law_rows_0 : X := .lc (.v 2) (.n 2) gRange1 (.cons (.op1 pLen (.v 0)) .nil) (.op2 pNotIn (.v 2) (.v 1)) [2]
/-- _law_rows -/
def b__law_rows : Ss := .cons (.ret (c__law_rows_0)) (.nil)
abbrev f__law_rows : Nat := 29
def c__law_columns_0 : X := .lc (.v 2) (.n 2) gRange2 (.cons (.op1 pLen (.v 0)) (.cons (.op2 pAdd (.op1 pLen (.v 0)) (.op1 pLen (.op2 pIdx (.v 0) (.k (.int 0))))) .nil)) (.op2 pNotIn (.v 2) (.v 1)) [2]
/-- _law_columns -/
def b__law_columns : Ss := .cons (.ret (c__law_columns_0)) (.nil)
abbrev f__law_columns : Nat := 30
def c__law_numbers_0 : X := .lc (.op2 pIdx (.op2 pIdx (.op2 pIdx (.v 0) (.v 3)) (.op2 pSubI (.v 2) (.op1 pLen (.v 0)))) (.k (.int 1))) (.n 3) gSeq (.cons (.call 29 (.cons (.v 0) (.cons (.v 1) (.nil)))) .nil) (.k (.bool true)) [3]
def c__law_numbers_1 : X := .lc (.op2 pIdx (.op2 pIdx (.op2 pIdx (.v 0) (.v 2)) (.op2 pSubI (.v 3) (.op1 pLen (.v 0)))) (.k (.int 0))) (.n 3) gSeq (.cons (.call 30 (.cons (.v 0) (.cons (.v 1) (.nil)))) .nil) (.k (.bool true)) [3]
/-- _law_numbers -/
def b__law_numbers : Ss := .cons (.ite (.op2 pLt (.v 2) (.op1 pLen (.v 0))) (.cons (.ret (c__law_numbers_1)) (.nil)) (.nil)) (.cons (.ret (c__law_numbers_0)) (.nil))
abbrev f__law_numbers : Nat := 31
def c__law_over_0 : X := .lc (.v 8) (.n 8) gRange1 (.cons (.op1 pLen (.v 4)) .nil) (.op2 pLe (.op2 pIdx (.v 7) (.v 8)) (.op2 pIdx (.v 4) (.v 8))) [8]
def w__law_over_0 : S := .frr (.n 6) gSeq (.cons (.v 3) .nil) (.cons (.set 7 (.call 31 (.cons (.v 0) (.cons (.v 1) (.cons (.v 6) (.nil)))))) (.cons (.ite (.op2 pEq (c__law_over_0) (.lst (.nil))) (.cons (.app 5 (.v 6)) (.nil)) (.nil)) (.nil)))
/-- _law_over -/
def b__law_over : Ss := .cons (.set 3 (.ite (.op2 pLt (.v 2) (.op1 pLen (.v 0))) (.call 29 (.cons (.v 0) (.cons (.v 1) (.nil)))) (.call 30 (.cons (.v 0) (.cons (.v 1) (.nil)))))) (.cons (.par [4, 5] (.cons (.call 31 (.cons (.v 0) (.cons (.v 1) (.cons (.v 2) (.nil))))) (.cons (.lst (.nil)) (.nil)))) (.cons (w__law_over_0) (.cons (.ret (.v 5)) (.nil))))
abbrev f__law_over : Nat := 32
def c__law_ready_0 : X := .lc (.v 2) (.n 2) gSeq (.cons (.op2 pAdd (.call 29 (.cons (.v 0) (.cons (.v 1) (.nil)))) (.call 30 (.cons (.v 0) (.cons (.v 1) (.nil))))) .nil) (.op2 pNe (.call 32 (.cons (.v 0) (.cons (.v 1) (.cons (.v 2) (.nil))))) (.lst (.nil))) [2]
/-- _law_ready -/
def b__law_ready : Ss := .cons (.ret (c__law_ready_0)) (.nil)
abbrev f__law_ready : Nat := 33
/-- _law_with -/
def b__law_with : Ss := .cons (.ret (.op1 pTup (.op1 pSortT (.op2 pAdd (.v 0) (.tup (.cons (.v 1) (.nil))))))) (.nil)
abbrev f__law_with : Nat := 34
def w__law_all_0 : S := .frr (.n 4) gSeq (.cons (.op1 pLstD (.v 3)) .nil) (.cons (.setAt 1 (.v 4) (.op2 pIdx (.v 3) (.v 4))) (.nil))
def w__law_all_1 : S := .frr (.n 5) gSeq (.cons (.call 33 (.cons (.v 0) (.cons (.v 4) (.nil)))) .nil) (.cons (.set 6 (.call 34 (.cons (.v 4) (.cons (.v 5) (.nil))))) (.cons (.setAt 3 (.v 6) (.op2 pAdd (.meth isDct pGet (.v 3) (.cons (.v 6) (.cons (.k (.int 0)) (.nil)))) (.op2 pIdx (.v 2) (.v 4)))) (.nil)))
def w__law_all_2 : S := .frr (.n 4) gSeq (.cons (.op1 pLstD (.v 2)) .nil) (.cons (w__law_all_1) (.nil))
def w__law_all_3 : S := .whl (.op2 pNeE (.v 2) (.dnew)) (.cons (.set 3 (.dnew)) (.cons (w__law_all_2) (.cons (w__law_all_0) (.cons (.set 2 (.v 3)) (.nil)))))
/-- _law_all -/
def b__law_all : Ss := .cons (.par [1, 2] (.cons (.op2 pDict1 (.tup (.nil)) (.k (.int 1))) (.cons (.op2 pDict1 (.tup (.nil)) (.k (.int 1))) (.nil)))) (.cons (w__law_all_3) (.cons (.ret (.v 1)) (.nil)))
abbrev f__law_all : Nat := 35
def w__law_drawn_0 : S := .frr (.n 5) gRange1 (.cons (.v 2) .nil) (.cons (.set 6 (.call 33 (.cons (.v 1) (.cons (.v 3) (.nil))))) (.cons (.ite (.op2 pNe (.v 6) (.lst (.nil))) (.cons (.set 7 (.call 25 (.cons (.v 0) (.cons (.v 6) (.nil))))) (.cons (.par [3, 4] (.cons (.call 34 (.cons (.v 3) (.cons (.v 7) (.nil)))) (.cons (.op2 pAdd (.v 4) (.tup (.cons (.v 7) (.nil)))) (.nil)))) (.nil))) (.nil)) (.nil)))
/-- _law_drawn -/
def b__law_drawn : Ss := .cons (.par [3, 4] (.cons (.tup (.nil)) (.cons (.tup (.nil)) (.nil)))) (.cons (w__law_drawn_0) (.cons (.ret (.tup (.cons (.v 4) (.cons (.v 3) (.nil))))) (.nil)))
abbrev f__law_drawn : Nat := 36
def c__law_lot_0 : X := .lc (.v 5) (.n 5) gSeq (.cons (.v 4) .nil) (.op2 pLt (.v 5) (.v 2)) [5]
def w__law_lot_0 : S := .frr (.n 5) gRange1 (.cons (.op2 pAdd (.v 2) (.v 3)) .nil) (.cons (.ite (.op2 pEq (.call 24 (.cons (.v 0) (.cons (.k (.int 3)) (.nil)))) (.k (.int 0))) (.cons (.set 4 (.op2 pAdd (.v 4) (.tup (.cons (.v 5) (.nil))))) (.nil)) (.nil)) (.nil))
/-- _law_lot -/
def b__law_lot : Ss := .cons (.ite (.op2 pEq (.call 24 (.cons (.v 0) (.cons (.k (.int 2)) (.nil)))) (.k (.int 0))) (.cons (.ret (.op2 pIdx (.call 36 (.cons (.v 0) (.cons (.v 1) (.cons (.call 24 (.cons (.v 0) (.cons (.k (.int 6)) (.nil)))) (.nil))))) (.k (.int 1)))) (.nil)) (.nil)) (.cons (.par [2, 3, 4] (.cons (.op1 pLen (.v 1)) (.cons (.op1 pLen (.op2 pIdx (.v 1) (.k (.int 0)))) (.cons (.tup (.nil)) (.nil))))) (.cons (w__law_lot_0) (.cons (.set 6 (c__law_lot_0)) (.cons (.ite (.or (.op2 pEq (.op1 pLen (.v 6)) (.v 2)) (.op2 pEq (.op2 pSubI (.op1 pLen (.v 4)) (.op1 pLen (.v 6))) (.v 3))) (.cons (.ret (.tup (.nil))) (.nil)) (.nil)) (.cons (.ret (.v 4)) (.nil))))))
abbrev f__law_lot : Nat := 37
def s_law_18 : S := .ret (.op2 pIsB (.call 23 (.cons (.v 2) (.cons (.v 3) (.cons (.v 11) (.nil))))) (.k (.bool false)))
def s_law_17 : S := .set 11 (.call 25 (.cons (.v 1) (.cons (.lst (.cons (.k .none) (.cons (.k (.int 3)) (.cons (.op2 pAdd (.op1 pLst (.v 8)) (.lst (.cons (.k (.int 0)) (.nil)))) (.cons (.op2 pAdd (.v 8) (.tup (.cons (.k (.bool true)) (.nil)))) (.cons (.op2 pAdd (.v 8) (.tup (.cons (.k (.int 99)) (.nil)))) (.cons (.k (.str "0")) (.cons (.op2 pAdd (.v 8) (.tup (.cons (.tup (.cons (.k (.int 0)) (.nil))) (.nil)))) (.nil))))))))) (.nil))))
def s_law_16 : S := .ite (.op2 pNotB (.call 23 (.cons (.v 2) (.cons (.v 10) (.cons (.v 9) (.nil))))) (.k (.bool true))) (.cons (.ret (.k (.bool false))) (.nil)) (.nil)
def s_law_15 : S := .ite (.op1 pNot (.call 27 (.cons (.call 23 (.cons (.v 2) (.cons (.v 3) (.cons (.v 9) (.nil))))) (.cons (.op2 pEq (.v 10) (.v 3)) (.nil))))) (.cons (.ret (.k (.bool false))) (.nil)) (.nil)
def s_law_14 : S := .put (.t (.n 9) (.n 10)) (.call 36 (.cons (.v 1) (.cons (.v 2) (.cons (.call 24 (.cons (.v 1) (.cons (.k (.int 7)) (.nil)))) (.nil)))))
def s_law_13 : S := .ite (.op2 pNotB (.call 23 (.cons (.v 2) (.cons (.v 3) (.cons (.v 8) (.nil))))) (.k (.bool true))) (.cons (.ret (.k (.bool false))) (.nil)) (.nil)
def s_law_12 : S := .ite (.or (.op1 pNot (.op1 pIsTup (.v 8))) (.op2 pNe (.call 16 (.cons (.v 2) (.cons (.v 8) (.nil)))) (.v 3))) (.cons (.ret (.k (.bool false))) (.nil)) (.nil)
def s_law_11 : S := .ite (.op2 pNotIn (.v 3) (.v 4)) (.cons (.ite (.op1 pNot (.and (.op1 pIsN (.v 8)) (.op2 pIsB (.call 23 (.cons (.v 2) (.cons (.v 3) (.cons (.v 3) (.nil))))) (.k (.bool false))))) (.cons (.ret (.k (.bool false))) (.nil)) (.nil)) (.cons (.ret (.op2 pIsB (.call 23 (.cons (.v 2) (.cons (.v 3) (.cons (.k .none) (.nil))))) (.k (.bool false)))) (.nil))) (.nil)
def s_law_10 : S := .set 8 (.call 22 (.cons (.v 2) (.cons (.v 3) (.nil))))
def s_law_9 : S := .ite (.op1 pNot (.call 26 (.cons (.lst (.cons (.call 20 (.cons (.v 2) (.cons (.v 3) (.nil)))) (.cons (.call 21 (.cons (.v 2) (.cons (.v 3) (.nil)))) (.nil)))) (.cons (.lst (.cons (.v 6) (.cons (.v 7) (.nil)))) (.nil))))) (.cons (.ret (.k (.bool false))) (.nil)) (.nil)
def c_law_0 : X := .lc (.v 13) (.n 13) gSeq (.cons (.v 3) .nil) (.op2 pNotIn (.v 13) (.v 6)) [13]
def s_law_8 : S := .set 7 (.op1 pTup (c_law_0))
def c_law_1 : X := .lc (.v 13) (.n 13) gSeq (.cons (.v 12) .nil) (.op2 pNotIn (.v 13) (.v 6)) [13]
def c_law_2 : X := .lc (.v 12) (.n 12) gSeq (.cons (.v 5) .nil) (.op2 pNe (c_law_1) (.lst (.nil))) [12]
def s_law_7 : S := .ite (.op2 pNe (c_law_2) (.lst (.nil))) (.cons (.ret (.k (.bool false))) (.nil)) (.nil)
def c_law_3 : X := .lc (.tup (.cons (.op1 pLen (.v 12)) (.cons (.v 12) (.nil)))) (.n 12) gSeq (.cons (.v 5) .nil) (.k (.bool true)) [12]
def s_law_6 : S := .set 6 (.op2 pIdx (.op1 pMaxS (c_law_3)) (.k (.int 1)))
def c_law_4 : X := .lc (.v 13) (.n 13) gSeq (.cons (.v 12) .nil) (.op2 pNotIn (.v 13) (.v 3)) [13]
def c_law_5 : X := .lc (.v 12) (.n 12) gSeq (.cons (.op1 pLstD (.v 4)) .nil) (.op2 pEq (c_law_4) (.lst (.nil))) [12]
def s_law_5 : S := .set 5 (c_law_5)
def s_law_4 : S := .ite (.op1 pNot (.call 27 (.cons (.call 19 (.cons (.v 2) (.cons (.v 3) (.nil)))) (.cons (.op2 pIn (.v 3) (.v 4)) (.nil))))) (.cons (.ret (.k (.bool false))) (.nil)) (.nil)
def s_law_3 : S := .par [3, 4] (.cons (.call 37 (.cons (.v 1) (.cons (.v 2) (.nil)))) (.cons (.call 35 (.cons (.v 2) (.nil))) (.nil)))
def s_law_2 : S := .set 2 (.call 28 (.cons (.v 1) (.cons (.k (.int 4)) (.cons (.k (.int 4)) (.cons (.k (.int 3)) (.nil))))))
def s_law_1 : S := .set 1 (.lst (.cons (.v 0) (.cons (.k (.int 0)) (.cons (.k (.int 5201)) (.cons (.k (.int 0)) (.nil))))))
/-- law -/
def b_law : Ss := .cons (s_law_1) (.cons (s_law_2) (.cons (s_law_3) (.cons (s_law_4) (.cons (s_law_5) (.cons (s_law_6) (.cons (s_law_7) (.cons (s_law_8) (.cons (s_law_9) (.cons (s_law_10) (.cons (s_law_11) (.cons (s_law_12) (.cons (s_law_13) (.cons (s_law_14) (.cons (s_law_15) (.cons (s_law_16) (.cons (s_law_17) (.cons (s_law_18) (.nil))))))))))))))))))
abbrev f_law : Nat := 38
def bf : Nat → Option Nat
  | 24 => some 0
  | 25 => some 0
  | 28 => some 0
  | 36 => some 0
  | 37 => some 0
  | _ => none
def MM : Nat := 10 ^ 200
def run : Nat → Fns
  | 0 => fun _ _ => none
  | n + 1 => fun f ds => match f with
    | 0 => callBody (run n) bf MM b_is_int 1 1 none ds
    | 1 => callBody (run n) bf MM b_is_from 3 3 none ds
    | 2 => callBody (run n) bf MM b_is_place 1 2 none ds
    | 3 => callBody (run n) bf MM b_need_board 1 4 none ds
    | 4 => callBody (run n) bf MM b_sides 1 1 none ds
    | 5 => callBody (run n) bf MM b_lines_of 1 1 none ds
    | 6 => callBody (run n) bf MM b_is_lot 2 6 none ds
    | 7 => callBody (run n) bf MM b_need_lot 2 2 none ds
    | 8 => callBody (run n) bf MM b_left_of 2 4 none ds
    | 9 => callBody (run n) bf MM b_numbers 3 7 none ds
    | 10 => callBody (run n) bf MM b_same_side 3 3 none ds
    | 11 => callBody (run n) bf MM b_is_greater 4 6 none ds
    | 12 => callBody (run n) bf MM b_can_fall 3 4 none ds
    | 13 => callBody (run n) bf MM b_with_line 2 2 none ds
    | 14 => callBody (run n) bf MM b_run 2 5 none ds
    | 15 => callBody (run n) bf MM b_need_strikes 2 3 none ds
    | 16 => callBody (run n) bf MM b_play 2 2 none ds
    | 17 => callBody (run n) bf MM b_closure 2 6 none ds
    | 18 => callBody (run n) bf MM b_is_reached 2 2 none ds
    | 19 => callBody (run n) bf MM b_comes 2 2 none ds
    | 20 => callBody (run n) bf MM b_greatest_within 2 2 none ds
    | 21 => callBody (run n) bf MM b_stuck 2 4 none ds
    | 22 => callBody (run n) bf MM b_some_strikes 2 3 none ds
    | 23 => callBody (run n) bf MM b_shows_strikes 3 3 none ds
    | 24 => callBody (run n) bf MM b__law_taken 2 4 (some 0) ds
    | 25 => callBody (run n) bf MM b__law_pick 2 2 (some 0) ds
    | 26 => callBody (run n) bf MM b__law_alike 2 3 none ds
    | 27 => callBody (run n) bf MM b__law_is 2 2 none ds
    | 28 => callBody (run n) bf MM b__law_board 4 12 (some 0) ds
    | 29 => callBody (run n) bf MM b__law_rows 2 3 none ds
    | 30 => callBody (run n) bf MM b__law_columns 2 3 none ds
    | 31 => callBody (run n) bf MM b__law_numbers 3 4 none ds
    | 32 => callBody (run n) bf MM b__law_over 3 9 none ds
    | 33 => callBody (run n) bf MM b__law_ready 2 3 none ds
    | 34 => callBody (run n) bf MM b__law_with 2 2 none ds
    | 35 => callBody (run n) bf MM b__law_all 1 7 none ds
    | 36 => callBody (run n) bf MM b__law_drawn 3 8 (some 0) ds
    | 37 => callBody (run n) bf MM b__law_lot 2 7 (some 0) ds
    | 38 => callBody (run n) bf MM b_law 1 14 none ds
    | _ => none
theorem run_is_int (n : Nat) (ds : List PyData) : run (n + 1) 0 ds = callBody (run n) bf MM b_is_int 1 1 none ds := rfl
theorem run_is_from (n : Nat) (ds : List PyData) : run (n + 1) 1 ds = callBody (run n) bf MM b_is_from 3 3 none ds := rfl
theorem run_is_place (n : Nat) (ds : List PyData) : run (n + 1) 2 ds = callBody (run n) bf MM b_is_place 1 2 none ds := rfl
theorem run_need_board (n : Nat) (ds : List PyData) : run (n + 1) 3 ds = callBody (run n) bf MM b_need_board 1 4 none ds := rfl
theorem run_sides (n : Nat) (ds : List PyData) : run (n + 1) 4 ds = callBody (run n) bf MM b_sides 1 1 none ds := rfl
theorem run_lines_of (n : Nat) (ds : List PyData) : run (n + 1) 5 ds = callBody (run n) bf MM b_lines_of 1 1 none ds := rfl
theorem run_is_lot (n : Nat) (ds : List PyData) : run (n + 1) 6 ds = callBody (run n) bf MM b_is_lot 2 6 none ds := rfl
theorem run_need_lot (n : Nat) (ds : List PyData) : run (n + 1) 7 ds = callBody (run n) bf MM b_need_lot 2 2 none ds := rfl
theorem run_left_of (n : Nat) (ds : List PyData) : run (n + 1) 8 ds = callBody (run n) bf MM b_left_of 2 4 none ds := rfl
theorem run_numbers (n : Nat) (ds : List PyData) : run (n + 1) 9 ds = callBody (run n) bf MM b_numbers 3 7 none ds := rfl
theorem run_same_side (n : Nat) (ds : List PyData) : run (n + 1) 10 ds = callBody (run n) bf MM b_same_side 3 3 none ds := rfl
theorem run_is_greater (n : Nat) (ds : List PyData) : run (n + 1) 11 ds = callBody (run n) bf MM b_is_greater 4 6 none ds := rfl
theorem run_can_fall (n : Nat) (ds : List PyData) : run (n + 1) 12 ds = callBody (run n) bf MM b_can_fall 3 4 none ds := rfl
theorem run_with_line (n : Nat) (ds : List PyData) : run (n + 1) 13 ds = callBody (run n) bf MM b_with_line 2 2 none ds := rfl
theorem run_run (n : Nat) (ds : List PyData) : run (n + 1) 14 ds = callBody (run n) bf MM b_run 2 5 none ds := rfl
theorem run_need_strikes (n : Nat) (ds : List PyData) : run (n + 1) 15 ds = callBody (run n) bf MM b_need_strikes 2 3 none ds := rfl
theorem run_play (n : Nat) (ds : List PyData) : run (n + 1) 16 ds = callBody (run n) bf MM b_play 2 2 none ds := rfl
theorem run_closure (n : Nat) (ds : List PyData) : run (n + 1) 17 ds = callBody (run n) bf MM b_closure 2 6 none ds := rfl
theorem run_is_reached (n : Nat) (ds : List PyData) : run (n + 1) 18 ds = callBody (run n) bf MM b_is_reached 2 2 none ds := rfl
theorem run_comes (n : Nat) (ds : List PyData) : run (n + 1) 19 ds = callBody (run n) bf MM b_comes 2 2 none ds := rfl
theorem run_greatest_within (n : Nat) (ds : List PyData) : run (n + 1) 20 ds = callBody (run n) bf MM b_greatest_within 2 2 none ds := rfl
theorem run_stuck (n : Nat) (ds : List PyData) : run (n + 1) 21 ds = callBody (run n) bf MM b_stuck 2 4 none ds := rfl
theorem run_some_strikes (n : Nat) (ds : List PyData) : run (n + 1) 22 ds = callBody (run n) bf MM b_some_strikes 2 3 none ds := rfl
theorem run_shows_strikes (n : Nat) (ds : List PyData) : run (n + 1) 23 ds = callBody (run n) bf MM b_shows_strikes 3 3 none ds := rfl
theorem run__law_taken (n : Nat) (ds : List PyData) : run (n + 1) 24 ds = callBody (run n) bf MM b__law_taken 2 4 (some 0) ds := rfl
theorem run__law_pick (n : Nat) (ds : List PyData) : run (n + 1) 25 ds = callBody (run n) bf MM b__law_pick 2 2 (some 0) ds := rfl
theorem run__law_alike (n : Nat) (ds : List PyData) : run (n + 1) 26 ds = callBody (run n) bf MM b__law_alike 2 3 none ds := rfl
theorem run__law_is (n : Nat) (ds : List PyData) : run (n + 1) 27 ds = callBody (run n) bf MM b__law_is 2 2 none ds := rfl
theorem run__law_board (n : Nat) (ds : List PyData) : run (n + 1) 28 ds = callBody (run n) bf MM b__law_board 4 12 (some 0) ds := rfl
theorem run__law_rows (n : Nat) (ds : List PyData) : run (n + 1) 29 ds = callBody (run n) bf MM b__law_rows 2 3 none ds := rfl
theorem run__law_columns (n : Nat) (ds : List PyData) : run (n + 1) 30 ds = callBody (run n) bf MM b__law_columns 2 3 none ds := rfl
theorem run__law_numbers (n : Nat) (ds : List PyData) : run (n + 1) 31 ds = callBody (run n) bf MM b__law_numbers 3 4 none ds := rfl
theorem run__law_over (n : Nat) (ds : List PyData) : run (n + 1) 32 ds = callBody (run n) bf MM b__law_over 3 9 none ds := rfl
theorem run__law_ready (n : Nat) (ds : List PyData) : run (n + 1) 33 ds = callBody (run n) bf MM b__law_ready 2 3 none ds := rfl
theorem run__law_with (n : Nat) (ds : List PyData) : run (n + 1) 34 ds = callBody (run n) bf MM b__law_with 2 2 none ds := rfl
theorem run__law_all (n : Nat) (ds : List PyData) : run (n + 1) 35 ds = callBody (run n) bf MM b__law_all 1 7 none ds := rfl
theorem run__law_drawn (n : Nat) (ds : List PyData) : run (n + 1) 36 ds = callBody (run n) bf MM b__law_drawn 3 8 (some 0) ds := rfl
theorem run__law_lot (n : Nat) (ds : List PyData) : run (n + 1) 37 ds = callBody (run n) bf MM b__law_lot 2 7 (some 0) ds := rfl
theorem run_law (n : Nat) (ds : List PyData) : run (n + 1) 38 ds = callBody (run n) bf MM b_law 1 14 none ds := rfl
end L2.Z.K01

namespace L2.Z
open PySem

section
variable {Φ : Fns} {bf : Nat → Option Nat} {ρ : Ev}
@[simp] theorem z_tups {as : Xs} : ev Φ bf (.tups as) ρ = (evv Φ bf as ρ).bind fun p => if p.1.length ≤ sizeLine then some (.val (.tuple p.1), p.2) else none := by simp only [ev]
@[simp] theorem z_lsts {as : Xs} : ev Φ bf (.lsts as) ρ = (evv Φ bf as ρ).bind fun p => if p.1.length ≤ sizeLine then some (.new (.list p.1), p.2) else none := by simp only [ev]
def seqOf : Option PyData → Option (List PyData)
  | some (.list ds) | some (.tuple ds) => some ds
  | _ => none
@[simp] theorem sq_l {ds} : seqOf (some (.list ds)) = some ds := rfl
@[simp] theorem sq_t {ds} : seqOf (some (.tuple ds)) = some ds := rfl
@[simp] theorem z_v2 {x : X} {r : Xs} : evv Φ bf (.star x r) ρ = (ev Φ bf x ρ).bind fun p => (seqOf (p.1.get p.2)).bind fun ds => (evv Φ bf r p.2).bind fun q => some (ds ++ q.1, q.2) := by
  simp only [evv]
  congr 1
  funext p
  cases p.1.get p.2 with
  | none => rfl
  | some d => cases d <;> rfl
end
theorem lcLoop_map {α : Type} {own : List Nat} {t : Tg} {c : Ev → Option (Bool × Ev)} {e : Ev → Option (PyData × Ev)} {ρ : Ev} {enc : α → PyData} {p : α → Bool} {f : α → PyData} :
    ∀ (xs : List α) (acc : List PyData), (∀ x ∈ xs, (t.bind (enc x) ρ).bind (fun ρ => (c ρ).bind fun q => match q.1 with
      | true => (e q.2).bind fun r => (wipeE own r.2).bind fun ρ => some (some r.1, ρ)
      | false => (wipeE own q.2).bind fun ρ => some (none, ρ)) = some (if p x then some (f x) else none, ρ)) →
    lcLoop own t c e (xs.map enc) acc ρ = some (acc ++ (xs.filter p).map f, ρ)
  | [], acc, _ => by simp [lcLoop]
  | x :: xs, acc, h => by
    have h0 := h x (by simp)
    have ih := fun a => lcLoop_map (f := f) xs a fun y hy => h y (by simp [hy])
    rw [List.map_cons, lcLoop]
    simp only [Option.bind_eq_some_iff] at h0
    obtain ⟨ρ1, e1, ⟨b, ρ2⟩, e2, h0⟩ := h0
    rw [e1, Option.bind_some, e2, Option.bind_some]
    cases b with
    | true =>
      simp only [Option.bind_eq_some_iff] at h0
      obtain ⟨⟨d, ρ3⟩, e3, ρ4, e4, h0⟩ := h0
      simp only [Option.some.injEq, Prod.mk.injEq] at h0
      obtain ⟨h1, h2⟩ := h0
      simp only [e3, e4, Option.bind_some]
      rw [h2, ih]
      by_cases q : p x = true
      · rw [if_pos q] at h1
        cases h1
        rw [List.filter_cons_of_pos q, List.map_cons, List.append_assoc]; rfl
      · rw [if_neg q] at h1; cases h1
    | false =>
      simp only [Option.bind_eq_some_iff] at h0
      obtain ⟨ρ4, e4, h0⟩ := h0
      simp only [Option.some.injEq, Prod.mk.injEq] at h0
      obtain ⟨h1, h2⟩ := h0
      simp only [e4, Option.bind_some]
      rw [h2, ih]
      by_cases q : p x = true
      · rw [if_pos q] at h1; cases h1
      · rw [List.filter_cons_of_neg q]
section
variable {Φ : Fns} {bf : Nat → Option Nat} {M : Nat} {ρ ρ1 : Ev}
/-- a comprehension: items, test, item made -/
theorem lc_eval {α : Type} (enc : α → PyData) (xs : List α) (p : α → Bool) (f : α → PyData) {e : X} {t : Tg} {g : List PyData → Option (List PyData)} {as : Xs} {c : X} {own : List Nat} {rs : List Res} {ds : List PyData} (ρ1 : Ev)
    (h1 : evs Φ bf as ρ = some (rs, ρ)) (h2 : getAll ρ rs = some ds) (h3 : g ds = some (xs.map enc)) (h4 : wipeE own (lockAll rs ρ) = some ρ1)
    (h5 : ∀ x ∈ xs, (t.bind (enc x) ρ1).bind (fun ρ => (truth (ev Φ bf c) ρ).bind fun q => match q.1 with
      | true => (valof (ev Φ bf e) q.2).bind fun r => (wipeE own r.2).bind fun ρ => some (some r.1, ρ)
      | false => (wipeE own q.2).bind fun ρ => some (none, ρ)) = some (if p x then some (f x) else none, ρ1))
    (h6 : unlockAll rs ρ (backE (lockAll rs ρ) own ρ1) = some ρ) : ev Φ bf (.lc e t g as c own) ρ = some (.new (.list ((xs.filter p).map f)), ρ) := by
  simp only [ev, h1, h2, h3, h4, h6, Option.bind_some, lcLoop_map xs [] h5, List.nil_append]
/-- a for loop: what holds ahead of each turn -/
theorem fr_eval {α : Type} (enc : α → PyData) (xs : List α) (I : List α → Ev → Prop) (Q : Option Out → Prop) {t : Tg} {g : List PyData → Option (List PyData)} {as : Xs} {b : Ss} {rs : List Res} {ds : List PyData} {ρ0 : Ev}
    (h1 : evs Φ bf as ρ = some (rs, ρ0)) (h2 : getAll ρ0 rs = some ds) (h3 : g ds = some (xs.map enc)) (h4 : I [] (lockAll rs ρ0))
    (h5 : ∀ (ys : List α) (x : α) (zs : List α) (ρ : Ev), xs = ys ++ x :: zs → I ys ρ →
      (∃ ρ' ρ'', t.bind (enc x) ρ = some ρ' ∧ (evSs Φ bf M b ρ' = some (.nx ρ'') ∨ evSs Φ bf M b ρ' = some (.ct ρ'')) ∧ I (ys ++ [x]) ρ'') ∨
      (∃ ρ' d ρ'', t.bind (enc x) ρ = some ρ' ∧ evSs Φ bf M b ρ' = some (.rt d ρ'') ∧ Q ((some (Out.rt d ρ'')).bind fun o => o.mapM (unlockAll rs ρ0))))
    (h6 : ∀ ρ, I xs ρ → Q ((some (Out.nx ρ)).bind fun o => o.mapM (unlockAll rs ρ0))) : Q (evS Φ bf M (.frr t g as b) ρ) := by
  have key : ∀ (zs ys : List α) (ρ : Ev), xs = ys ++ zs → I ys ρ → Q ((frLoop t (evSs Φ bf M b) (zs.map enc) ρ).bind fun o => o.mapM (unlockAll rs ρ0)) := fun zs => by
    induction zs with
    | nil => intro ys ρ e hI; rw [List.append_nil] at e; subst e; exact h6 ρ hI
    | cons x zs ih =>
      intro ys ρ e hI
      rw [List.map_cons, frLoop]
      rcases h5 ys x zs ρ e hI with ⟨ρ', ρ'', e1, e2, e3⟩ | ⟨ρ', d, ρ'', e1, e2, e3⟩
      · have := ih (ys ++ [x]) ρ'' (by rw [List.append_assoc]; exact e) e3
        rcases e2 with e2 | e2 <;> simp only [e1, e2, Option.bind_some] <;> exact this
      · simp only [e1, e2, Option.bind_some]
        exact e3
  simp only [evS, h1, h2, h3, Option.bind_some]
  exact key xs [] _ rfl h4
/-- a while loop by a measure -/
theorem wh_eval (I : Ev → Prop) (m : Ev → Nat) (Q : Option Out → Prop) {c : X} {b : Ss}
    (h0 : I ρ) (hm : m ρ < M)
    (h5 : ∀ ρ, I ρ → (∃ ρ', truth (ev Φ bf c) ρ = some (false, ρ') ∧ Q (some (.nx ρ'))) ∨
      (∃ ρ' ρ'', truth (ev Φ bf c) ρ = some (true, ρ') ∧ (evSs Φ bf M b ρ' = some (.nx ρ'') ∨ evSs Φ bf M b ρ' = some (.ct ρ'')) ∧ I ρ'' ∧ m ρ'' < m ρ) ∨
      (∃ ρ' d ρ'', truth (ev Φ bf c) ρ = some (true, ρ') ∧ evSs Φ bf M b ρ' = some (.rt d ρ'') ∧ Q (some (.rt d ρ'')))) : Q (evS Φ bf M (.whl c b) ρ) := by
  simp only [evS]
  have key : ∀ (k j : Nat) (ρ : Ev), m ρ = k → k < j → I ρ → Q (whLoop (truth (ev Φ bf c)) (evSs Φ bf M b) j ρ) := fun k => by
    induction k using Nat.strongRecOn with
    | ind k ih =>
      intro j ρ e hj hI
      cases j with
      | zero => omega
      | succ j =>
        rw [whLoop]
        rcases h5 ρ hI with ⟨ρ', e1, e2⟩ | ⟨ρ', ρ'', e1, e2, e3, e4⟩ | ⟨ρ', d, ρ'', e1, e2, e3⟩
        · simp only [e1, Option.bind_some, Bool.false_eq_true, if_false]; exact e2
        · have := ih (m ρ'') (by omega) j ρ'' rfl (by omega) e3
          rcases e2 with e2 | e2 <;> simp only [e1, e2, Option.bind_some, if_true] <;> exact this
        · simp only [e1, e2, Option.bind_some, if_true]; exact e3
  exact key _ _ ρ rfl hm h0
end
end L2.Z

namespace L2.Z
open PySem

/-- a way to write values of a type as data -/
structure EncOk {α : Type} [DecidableEq α] (e : α → PyData) (k : Nat) : Prop where
  plain : ∀ a, (e a).plain = true
  depth : ∀ a, (e a).depth ≤ k
  eqv : ∀ a b, PyData.eqv (e a) (e b) = decide (a = b)
section
variable {α β : Type} [DecidableEq α] [DecidableEq β] {e : α → PyData} {e2 : β → PyData} {k j : Nat}
theorem EncOk.mono (h : EncOk e k) (q : k ≤ j) : EncOk e j := ⟨h.plain, fun a => Nat.le_trans (h.depth a) q, h.eqv⟩
theorem EncOk.int : EncOk PyData.int 0 := ⟨fun _ => by simp [PyData.plain], fun _ => by simp [PyData.depth], fun a b => by
  simp only [PyData.eqv]; by_cases h : a = b <;> simp [h]⟩
theorem EncOk.bool : EncOk PyData.bool 0 := ⟨fun _ => by simp [PyData.plain], fun _ => by simp [PyData.depth], fun a b => by
  simp only [PyData.eqv]; by_cases h : a = b <;> simp [h]⟩
theorem EncOk.nat : EncOk (fun n : Nat => PyData.int n) 0 := ⟨fun _ => by simp [PyData.plain], fun _ => by simp [PyData.depth], fun a b => by
  simp only [PyData.eqv]; by_cases h : a = b
  · simp [h]
  · have h' : ¬ ((a : Int) = (b : Int)) := by omega
    simp [h, h']⟩
theorem plainAll_map (h : EncOk e k) : ∀ l : List α, PyData.plainAll (l.map e) = true
  | [] => by simp [PyData.plainAll]
  | a :: l => by simp [PyData.plainAll, h.plain a, plainAll_map h l]
theorem depthAll_map (h : EncOk e k) : ∀ l : List α, PyData.depthAll (l.map e) ≤ k
  | [] => by simp [PyData.depthAll]
  | a :: l => by
    have h1 := h.depth a
    have h2 := depthAll_map h l
    simp only [List.map_cons, PyData.depthAll]
    omega
theorem eqvAll_map (h : EncOk e k) : ∀ l m : List α, PyData.eqvAll (l.map e) (m.map e) = decide (l = m)
  | [], [] => by simp [PyData.eqvAll]
  | [], b :: m => by simp [PyData.eqvAll]
  | a :: l, [] => by simp [PyData.eqvAll]
  | a :: l, b :: m => by
    simp only [List.map_cons, PyData.eqvAll, h.eqv, eqvAll_map h l m]
    by_cases q : a = b <;> by_cases r : l = m <;> simp [q, r]
theorem EncOk.tup (h : EncOk e k) : EncOk (fun l : List α => PyData.tuple (l.map e)) (k + 1) := ⟨fun l => by simp [PyData.plain, plainAll_map h], fun l => by
  have := depthAll_map h l
  simp only [PyData.depth]; omega, fun l m => by simp only [PyData.eqv, eqvAll_map h]⟩
theorem EncOk.lst (h : EncOk e k) : EncOk (fun l : List α => PyData.list (l.map e)) (k + 1) := ⟨fun l => by simp [PyData.plain, plainAll_map h], fun l => by
  have := depthAll_map h l
  simp only [PyData.depth]; omega, fun l m => by simp only [PyData.eqv, eqvAll_map h]⟩
theorem EncOk.pair (h : EncOk e k) (h2 : EncOk e2 k) : EncOk (fun p : α × β => PyData.tuple [e p.1, e2 p.2]) (k + 1) := ⟨fun p => by simp [PyData.plain, PyData.plainAll, h.plain, h2.plain], fun p => by
  have h3 := h.depth p.1
  have h4 := h2.depth p.2
  simp only [PyData.depth, PyData.depthAll]; omega, fun p q => by
  simp only [PyData.eqv, PyData.eqvAll, h.eqv, h2.eqv]
  obtain ⟨a, b⟩ := p; obtain ⟨c, d⟩ := q
  by_cases x : a = c <;> by_cases y : b = d <;> simp [x, y]⟩
theorem okEq_enc (h : EncOk e k) (hk : k ≤ 60) (a b : α) : okEq (e a) (e b) = true := by
  unfold okEq
  have := h.depth a
  simp only [h.plain, Bool.and_true, Bool.true_and, decide_eq_true_eq]
  omega
theorem pEq_enc (h : EncOk e k) (hk : k ≤ 60) (a b : α) : pEq (e a) (e b) = some (false, .bool (decide (a = b))) := by
  unfold pEq
  rw [if_pos (okEq_enc h hk a b), h.eqv]
theorem pNe_enc (h : EncOk e k) (hk : k ≤ 60) (a b : α) : pNe (e a) (e b) = some (false, .bool (!decide (a = b))) := by
  unfold pNe
  rw [if_pos (okEq_enc h hk a b), h.eqv]
theorem any_enc (h : EncOk e k) (a : α) : ∀ l : List α, (l.map e).any (fun y => PyData.eqv y (e a)) = decide (a ∈ l)
  | [] => by simp
  | b :: l => by
    simp only [List.map_cons, List.any_cons, h.eqv, any_enc h a l]
    by_cases q : b = a
    · subst q; simp
    · have : ¬ a = b := fun z => q z.symm
      simp [q, this]
theorem okIn_enc (h : EncOk e k) (hk : k ≤ 60) (a : α) (l : List α) : okIn (e a) (l.map e) = true := by
  have h1 := h.depth a
  exact okIn_iff.mpr ⟨h.plain a, plainAll_map h l, by omega⟩
theorem pIn_tup (h : EncOk e k) (hk : k ≤ 60) (a : α) (l : List α) : pIn (e a) (.tuple (l.map e)) = some (false, .bool (decide (a ∈ l))) := by
  simp only [pIn, itemsOf, Option.bind_some, if_pos (okIn_enc h hk a l), any_enc h]
theorem pIn_lst (h : EncOk e k) (hk : k ≤ 60) (a : α) (l : List α) : pIn (e a) (.list (l.map e)) = some (false, .bool (decide (a ∈ l))) := by
  simp only [pIn, itemsOf, Option.bind_some, if_pos (okIn_enc h hk a l), any_enc h]
theorem pNotIn_tup (h : EncOk e k) (hk : k ≤ 60) (a : α) (l : List α) : pNotIn (e a) (.tuple (l.map e)) = some (false, .bool (!decide (a ∈ l))) := by
  simp only [pNotIn, itemsOf, Option.bind_some, if_pos (okIn_enc h hk a l), any_enc h]
theorem pNotIn_lst (h : EncOk e k) (hk : k ≤ 60) (a : α) (l : List α) : pNotIn (e a) (.list (l.map e)) = some (false, .bool (!decide (a ∈ l))) := by
  simp only [pNotIn, itemsOf, Option.bind_some, if_pos (okIn_enc h hk a l), any_enc h]
end
abbrev eI (n : Nat) : PyData := .int (n : Int)
abbrev eT (l : List Nat) : PyData := .tuple (l.map eI)
abbrev eN (l : List Nat) : PyData := .list (l.map eI)
theorem ok_eI : EncOk eI 0 := EncOk.nat
theorem ok_eT : EncOk eT 1 := ok_eI.tup
theorem ok_eN : EncOk eN 1 := ok_eI.lst
@[simp] theorem in_T (a : Nat) (l : List Nat) : pIn (.int (a : Int)) (.tuple (l.map eI)) = some (false, .bool (decide (a ∈ l))) := pIn_tup ok_eI (by decide) a l
@[simp] theorem in_N (a : Nat) (l : List Nat) : pIn (.int (a : Int)) (.list (l.map eI)) = some (false, .bool (decide (a ∈ l))) := pIn_lst ok_eI (by decide) a l
@[simp] theorem notIn_T (a : Nat) (l : List Nat) : pNotIn (.int (a : Int)) (.tuple (l.map eI)) = some (false, .bool (!decide (a ∈ l))) := pNotIn_tup ok_eI (by decide) a l
@[simp] theorem notIn_N (a : Nat) (l : List Nat) : pNotIn (.int (a : Int)) (.list (l.map eI)) = some (false, .bool (!decide (a ∈ l))) := pNotIn_lst ok_eI (by decide) a l
@[simp] theorem eq_T (l m : List Nat) : pEq (.tuple (l.map eI)) (.tuple (m.map eI)) = some (false, .bool (decide (l = m))) := pEq_enc ok_eT (by decide) l m
@[simp] theorem eq_N (l m : List Nat) : pEq (.list (l.map eI)) (.list (m.map eI)) = some (false, .bool (decide (l = m))) := pEq_enc ok_eN (by decide) l m
@[simp] theorem ne_T (l m : List Nat) : pNe (.tuple (l.map eI)) (.tuple (m.map eI)) = some (false, .bool (!decide (l = m))) := pNe_enc ok_eT (by decide) l m
@[simp] theorem ne_N (l m : List Nat) : pNe (.list (l.map eI)) (.list (m.map eI)) = some (false, .bool (!decide (l = m))) := pNe_enc ok_eN (by decide) l m
theorem ne_N0 (l : List Nat) : pNe (.list (l.map eI)) (.list []) = some (false, .bool (!decide (l = []))) := ne_N l []
theorem ne_T0 (l : List Nat) : pNe (.tuple (l.map eI)) (.tuple []) = some (false, .bool (!decide (l = []))) := ne_T l []
theorem eq_N0 (l : List Nat) : pEq (.list (l.map eI)) (.list []) = some (false, .bool (decide (l = []))) := eq_N l []
theorem eq_T0 (l : List Nat) : pEq (.tuple (l.map eI)) (.tuple []) = some (false, .bool (decide (l = []))) := eq_T l []
theorem okSort_ints (l : List Int) : okSort (l.map .int) = true := by
  unfold okSort
  simp only [Bool.and_eq_true, Bool.or_eq_true, List.all_eq_true, List.mem_map, decide_eq_true_eq]
  refine ⟨⟨?_, .inr ?_⟩, ?_⟩
  · rintro _ ⟨a, _, rfl⟩ _ ⟨b, _, rfl⟩; simp [PySem.W.alike]
  · rintro _ ⟨a, _, rfl⟩; rfl
  · rintro _ ⟨a, _, rfl⟩; exact ⟨by simp [PyData.depth], by simp [PyData.plain]⟩
theorem leD_int (a b : Int) : leD (.int a) (.int b) = decide (a ≤ b) := by
  have h := congrFun (congrFun (PySem.W.dataLe_int (fun x : Int => x)) a) b
  exact h
theorem sorted_ints (l : List Int) : pSorted (.list (l.map .int)) = some (true, .list ((l.mergeSort (fun a b => decide (a ≤ b))).map .int)) := by
  simp only [pSorted, if_pos (okSort_ints l)]
  rw [List.map_mergeSort (r := fun a b : Int => decide (a ≤ b)) (s := leD) (f := PyData.int) (fun a _ b _ => (leD_int a b).symm)]
/-- sorted, of lots -/
def srt (l : List Nat) : List Nat := l.mergeSort (fun a b => decide (a ≤ b))
theorem sorted_N (l : List Nat) : pSorted (.list (l.map eI)) = some (true, .list ((srt l).map eI)) := by
  have e : l.map eI = (l.map (fun n : Nat => (n : Int))).map PyData.int := by rw [List.map_map]; rfl
  have ok : okSort (l.map eI) = true := by rw [e]; exact okSort_ints _
  simp only [pSorted, if_pos ok]
  rw [srt, List.map_mergeSort (r := fun a b : Nat => decide (a ≤ b)) (s := leD) (f := eI) (fun a _ b _ => by rw [leD_int]; simp)]
theorem srt_perm (l : List Nat) : (srt l).Perm l := List.mergeSort_perm l _
theorem mem_srt {a : Nat} {l : List Nat} : a ∈ srt l ↔ a ∈ l := (srt_perm l).mem_iff
theorem srt_sorted (l : List Nat) : (srt l).Pairwise (· ≤ ·) := by
  have := List.pairwise_mergeSort (le := fun a b : Nat => decide (a ≤ b)) (fun a b c h1 h2 => by simp at *; omega) (fun a b => by simp; omega) l
  exact this.imp fun h => by simpa using h
theorem srt_id {l : List Nat} (h : l.Pairwise (· ≤ ·)) : srt l = l := List.mergeSort_of_pairwise (h.imp fun q => by simpa using q)
theorem srt_congr {l m : List Nat} (h : l.Perm m) : srt l = srt m := by
  have h1 : (srt l).Perm (srt m) := (srt_perm l).trans (h.trans (srt_perm m).symm)
  exact h1.eq_of_pairwise (le := (· ≤ ·)) (fun a b _ _ x y => Nat.le_antisymm x y) (srt_sorted l) (srt_sorted m)
theorem srt_length (l : List Nat) : (srt l).length = l.length := (srt_perm l).length_eq
theorem gRange1_nat {n : Nat} (h : n ≤ 1000) : gRange1 [.int (n : Int)] = some ((List.range n).map eI) := by
  have : -(2 ^ 62) ≤ (n : Int) ∧ (n : Int) ≤ sizeLine := ⟨by omega, by have := sizeLine_eq; omega⟩
  simp only [gRange1, if_pos this, Int.toNat_natCast]
theorem gRange2_nat {a n : Nat} (ha : a ≤ 1000) (h : n ≤ 1000) : gRange2 [.int (a : Int), .int (n : Int)] = some ((List.range' a (n - a)).map eI) := by
  have : (n : Int) - a ≤ sizeLine ∧ (-(2 ^ 62) ≤ (a : Int) ∧ (a : Int) < 2 ^ 62) ∧ -(2 ^ 62) ≤ (n : Int) ∧ (n : Int) < 2 ^ 62 := ⟨by have := sizeLine_eq; omega, by omega, by omega⟩
  simp only [gRange2, if_pos this]
  rw [show ((n : Int) - a).toNat = n - a by omega, List.range'_eq_map_range, List.map_map]
  rfl
theorem rgOk_nat {n : Nat} (h : n ≤ 1000) : RgOk 0 (n : Int) := RgOk.of_le (by omega) (by omega) (by omega) (by omega)
theorem rgD_nat (n : Nat) : rgD 0 (n : Int) = (List.range n).map eI := by
  simp only [rgD, Int.sub_zero, Int.toNat_natCast]
  exact List.map_congr_left fun i _ => by simp
theorem tupRg1_nat {n : Nat} (h : n ≤ 1000) : pTupRg1 (.int (n : Int)) = some (false, eT (List.range n)) := by
  rw [p_tupRg1 (rgOk_nat h), rgD_nat]
theorem lstRg1_nat {n : Nat} (h : n ≤ 1000) : pLstRg1 (.int (n : Int)) = some (true, eN (List.range n)) := by
  rw [p_lstRg1 (rgOk_nat h), rgD_nat]
theorem cutD_from {α : Type} (xs : List α) (k : Nat) : cutD xs (some (k : Int)) none = xs.drop k := by
  simp only [cutD, HT.sIx_nat, HT.sIx_none]
  by_cases h : k ≤ xs.length
  · rw [Nat.min_eq_left h, List.take_of_length_le (by simp)]
  · rw [Nat.min_eq_right (by omega), List.drop_of_length_le (Nat.le_refl _), List.drop_of_length_le (by omega)]; simp
theorem cutD_to {α : Type} (xs : List α) (k : Nat) : cutD xs none (some (k : Int)) = xs.take k := by
  simp only [cutD, HT.sIx_nat, HT.sIx_none, List.drop_zero, Nat.sub_zero]
  by_cases h : k ≤ xs.length
  · rw [Nat.min_eq_left h]
  · rw [Nat.min_eq_right (by omega), List.take_of_length_le (Nat.le_refl _), List.take_of_length_le (by omega)]
theorem boolsOf_map {α : Type} (p : α → Bool) : ∀ l : List α, boolsOf (l.map fun x => .bool (p x)) = some (l.map p)
  | [] => rfl
  | a :: l => by simp [boolsOf, boolsOf_map p l]
theorem intsOf_map {α : Type} (p : α → Int) : ∀ l : List α, intsOf (l.map fun x => .int (p x)) = some (l.map p)
  | [] => rfl
  | a :: l => by simp [intsOf, intsOf_map p l]
theorem pAll_map {α : Type} (p : α → Bool) (l : List α) : pAll (.list (l.map fun x => .bool (p x))) = some (false, .bool (l.all p)) := by
  simp [pAll, boolsOf_map, List.all_map, Function.comp_def]
theorem pAny_map {α : Type} (p : α → Bool) (l : List α) : pAny (.list (l.map fun x => .bool (p x))) = some (false, .bool (l.any p)) := by
  simp [pAny, boolsOf_map, List.any_map, Function.comp_def]
theorem zipD_map {α : Type} (f g : α → PyData) : ∀ l : List α, zipD (l.map f) (l.map g) = l.map fun c => .tuple [f c, g c]
  | [] => rfl
  | a :: l => by simp [zipD, zipD_map f g l]
theorem enumD_map {α : Type} (f : α → PyData) : ∀ (l : List α) (k : Nat), enumD k (l.map f) = (l.zipIdx k).map fun p => .tuple [.int (p.2 : Nat), f p.1]
  | [], _ => rfl
  | a :: l, k => by simp [enumD, enumD_map f l (k + 1)]
/-- a slot that may be stored anew -/
def Jk (s : Slot) : Prop := s = .un ∨ (∃ d, s = .dat d) ∨ ∃ d, s = .own d
theorem Jk.un : Jk .un := .inl rfl
theorem Jk.dat (d : PyData) : Jk (.dat d) := .inr (.inl ⟨d, rfl⟩)
theorem Jk.own (d : PyData) : Jk (.own d) := .inr (.inr ⟨d, rfl⟩)
theorem Jk.asg {i : Nat} {s j : Slot} {ρ : Ev} (h : Jk j) (e : ρ[i]? = some j) : asg i s ρ = some (ρ.set i s) := by
  rcases h with rfl | ⟨d, rfl⟩ | ⟨d, rfl⟩ <;> simp [Z.asg, e]
/-- a slot that a comprehension may use -/
def Jd (s : Slot) : Prop := s = .un ∨ ∃ d, s = .dat d
theorem Jd.un : Jd .un := .inl rfl
theorem Jd.dat (d : PyData) : Jd (.dat d) := .inr ⟨d, rfl⟩
theorem Jd.jk {s : Slot} (h : Jd s) : Jk s := h.elim .inl fun h => .inr (.inl h)
theorem Jk.asg0 {s j : Slot} {r : Ev} (h : Jk j) : Z.asg 0 s (j :: r) = some (s :: r) := h.asg rfl
theorem sum2 (a b : Int) : pSumA (.tuple [.int a, .int b]) = some (false, .int (a + b)) := by
  simp [pSumA, itemsOf, intsOf]
theorem okMM_ints (l : List Int) : okMM (l.map .int) = true := by
  unfold okMM
  simp only [Bool.and_eq_true, List.all_eq_true, List.mem_map, decide_eq_true_eq]
  refine ⟨⟨⟨?_, ?_⟩, plainAll_map EncOk.int l⟩, Nat.le_trans (depthAll_map EncOk.int l) (by decide)⟩
  · rintro _ ⟨a, _, rfl⟩ _ ⟨b, _, rfl⟩; simp [PySem.W.alike]
  · rintro _ ⟨a, _, rfl⟩; rfl
theorem foldl_max : ∀ (l : List Int) (a : Int), l.foldl max a ∈ a :: l ∧ ∀ x ∈ a :: l, x ≤ l.foldl max a
  | [], a => by simp
  | b :: l, a => by
    obtain ⟨h1, h2⟩ := foldl_max l (max a b)
    rw [List.foldl_cons]
    have h3 := h2 (max a b) (by simp)
    constructor
    · rcases List.mem_cons.mp h1 with h | h
      · rw [h]
        rcases Int.le_total a b with q | q
        · rw [Int.max_eq_right q]; simp
        · rw [Int.max_eq_left q]; simp
      · simp [h]
    · intro x hx
      simp only [List.mem_cons] at hx
      rcases hx with rfl | rfl | hx
      · omega
      · omega
      · exact h2 x (by simp [hx])
theorem foldl_min : ∀ (l : List Int) (a : Int), l.foldl min a ∈ a :: l ∧ ∀ x ∈ a :: l, l.foldl min a ≤ x
  | [], a => by simp
  | b :: l, a => by
    obtain ⟨h1, h2⟩ := foldl_min l (min a b)
    rw [List.foldl_cons]
    have h3 := h2 (min a b) (by simp)
    constructor
    · rcases List.mem_cons.mp h1 with h | h
      · rw [h]
        rcases Int.le_total a b with q | q
        · rw [Int.min_eq_left q]; simp
        · rw [Int.min_eq_right q]; simp
      · simp [h]
    · intro x hx
      simp only [List.mem_cons] at hx
      rcases hx with rfl | rfl | hx
      · omega
      · omega
      · exact h2 x (by simp [hx])
/-- the greatest, the least of some numbers -/
theorem max_ints (l : List Int) (h : l ≠ []) : ∃ M, M ∈ l ∧ (∀ x ∈ l, x ≤ M) ∧ pMaxS (.list (l.map .int)) = some (false, .int M) ∧ pMaxS (.tuple (l.map .int)) = some (false, .int M) := by
  cases l with
  | nil => exact absurd rfl h
  | cons a l =>
    obtain ⟨h1, h2⟩ := foldl_max l a
    have ok := okMM_ints (a :: l)
    rw [List.map_cons] at ok ⊢
    exact ⟨_, h1, h2, by simp only [pMaxS, itemsOf, if_pos ok, PySem.W.maxD_ints], by simp only [pMaxS, itemsOf, if_pos ok, PySem.W.maxD_ints]⟩
theorem min_ints (l : List Int) (h : l ≠ []) : ∃ M, M ∈ l ∧ (∀ x ∈ l, M ≤ x) ∧ pMinS (.list (l.map .int)) = some (false, .int M) ∧ pMinS (.tuple (l.map .int)) = some (false, .int M) := by
  cases l with
  | nil => exact absurd rfl h
  | cons a l =>
    obtain ⟨h1, h2⟩ := foldl_min l a
    have ok := okMM_ints (a :: l)
    rw [List.map_cons] at ok ⊢
    exact ⟨_, h1, h2, by simp only [pMinS, itemsOf, if_pos ok, PySem.W.minD_ints], by simp only [pMinS, itemsOf, if_pos ok, PySem.W.minD_ints]⟩
theorem filter_true {α : Type} (l : List α) : l.filter (fun _ => true) = l := by simp
end L2.Z

namespace L2.Z
open PySem

abbrev Bd := List (List (Int × Int))
abbrev eP (p : Int × Int) : PyData := .tuple [.int p.1, .int p.2]
abbrev eR (r : List (Int × Int)) : PyData := .tuple (r.map eP)
abbrev eB (b : Bd) : PyData := .tuple (b.map eR)
namespace Bd
def hi (b : Bd) : Nat := b.length
def wi (b : Bd) : Nat := (b.headD []).length
structure Good (b : Bd) : Prop where
  h1 : 1 ≤ b.hi
  h6 : b.hi ≤ 6
  w1 : 1 ≤ b.wi
  w6 : b.wi ≤ 6
  rect : ∀ r ∈ b, r.length = b.wi
  val : ∀ r ∈ b, ∀ p ∈ r, (-1000 ≤ p.1 ∧ p.1 ≤ 1000) ∧ -1000 ≤ p.2 ∧ p.2 ≤ 1000
/-- the number of line x's player where it crosses line y -/
def num (b : Bd) (x y : Nat) : Int := if x < b.hi then ((b[x]?.getD [])[y - b.hi]?.getD (0, 0)).1 else ((b[y]?.getD [])[x - b.hi]?.getD (0, 0)).2
def lns (b : Bd) : List Nat := List.range (b.hi + b.wi)
def rowsL (b : Bd) (l : List Nat) : List Nat := (List.range b.hi).filter fun x => !decide (x ∈ l)
def colsL (b : Bd) (l : List Nat) : List Nat := (List.range' b.hi b.wi).filter fun x => !decide (x ∈ l)
/-- the lines left that cross x -/
def cross (b : Bd) (l : List Nat) (x : Nat) : List Nat := if x < b.hi then b.colsL l else b.rowsL l
def nums (b : Bd) (l : List Nat) (x : Nat) : List Int := (b.cross l x).map (b.num x)
def same (b : Bd) (x y : Nat) : Bool := decide (x < b.hi) == decide (y < b.hi)
def isG (b : Bd) (l : List Nat) (x y : Nat) : Bool := b.same x y && (b.cross l x).all fun c => decide (b.num x c < b.num y c)
def canF (b : Bd) (l : List Nat) (x : Nat) : Bool := (b.lns.filter fun y => !decide (y ∈ l ++ [x])).any fun y => b.isG l x y
def ready (b : Bd) (l : List Nat) : List Nat := b.lns.filter fun x => !decide (x ∈ l) && b.canF l x
/-- the board that is left -/
def shown (b : Bd) (l : List Nat) : Bd := (b.rowsL l).map fun x => (b.colsL l).map fun y => (b.num x y, b.num y x)
def wl (l : List Nat) (x : Nat) : List Nat := srt (l ++ [x])

/-- a row of strikes of some lines, each time the first that can be struck -/
def clo (b : Bd) (ws : List Nat) : Nat → List Nat → List Nat → List Nat
  | 0, _, o => o
  | k + 1, l, o => match ws.filter fun x => !decide (x ∈ l) && b.canF l x with
    | [] => o
    | x :: _ => clo b ws k (wl l x) (o ++ [x])
def closure (b : Bd) (ws : List Nat) : List Nat := b.clo ws 12 [] []
def last (b : Bd) : List Nat := srt (b.closure b.lns)
def rnds (b : Bd) : Nat → List Nat → List (List Nat)
  | 0, _ => []
  | k + 1, l => match b.ready l with
    | [] => []
    | x :: s => (x :: s) :: rnds b k (srt (l ++ x :: s))
def rounds (b : Bd) : List (List Nat) := b.rnds 12 []
theorem mem_lns {b : Bd} {x : Nat} : x ∈ b.lns ↔ x < b.hi + b.wi := List.mem_range
theorem mem_rowsL {b : Bd} {l : List Nat} {x : Nat} : x ∈ b.rowsL l ↔ x < b.hi ∧ x ∉ l := by simp [rowsL]
theorem mem_colsL {b : Bd} {l : List Nat} {x : Nat} : x ∈ b.colsL l ↔ (b.hi ≤ x ∧ x < b.hi + b.wi) ∧ x ∉ l := by simp [colsL, List.mem_range'_1]
theorem mem_wl {l : List Nat} {x y : Nat} : y ∈ wl l x ↔ y ∈ l ∨ y = x := by simp [wl, mem_srt]
theorem wl_length (l : List Nat) (x : Nat) : (wl l x).length = l.length + 1 := by simp [wl, srt_length]
theorem mem_ready {b : Bd} {l : List Nat} {x : Nat} : x ∈ b.ready l ↔ x < b.hi + b.wi ∧ x ∉ l ∧ b.canF l x = true := by
  simp [ready, mem_lns]
theorem canF_iff {b : Bd} {l : List Nat} {x : Nat} : b.canF l x = true ↔ ∃ y, y < b.hi + b.wi ∧ y ∉ l ∧ y ≠ x ∧ b.isG l x y = true := by
  simp [canF, mem_lns, and_assoc]
theorem rect_get {b : Bd} (g : b.Good) {x : Nat} (h : x < b.hi) : ∃ r, b[x]? = some r ∧ r.length = b.wi := by
  have h : x < b.length := h
  exact ⟨b[x], List.getElem?_eq_getElem h, g.rect _ (List.getElem_mem h)⟩
theorem num_row {b : Bd} (g : b.Good) {x y : Nat} (hx : x < b.hi) (hy : y < b.wi) : ∃ r p, b[x]? = some r ∧ r[y]? = some p ∧ b.num x (y + b.hi) = p.1 := by
  obtain ⟨r, h1, h2⟩ := rect_get g hx
  have hy' : y < r.length := by omega
  refine ⟨r, r[y], h1, List.getElem?_eq_getElem hy', ?_⟩
  rw [num, if_pos hx, h1, Nat.add_sub_cancel]
  simp [hy']
theorem num_col {b : Bd} (g : b.Good) {x y : Nat} (hx : x < b.hi) (hy : y < b.wi) : ∃ r p, b[x]? = some r ∧ r[y]? = some p ∧ b.num (y + b.hi) x = p.2 := by
  obtain ⟨r, h1, h2⟩ := rect_get g hx
  have hy' : y < r.length := by omega
  refine ⟨r, r[y], h1, List.getElem?_eq_getElem hy', ?_⟩
  rw [num, if_neg (by omega), h1, Nat.add_sub_cancel]
  simp [hy']
/-- a lot of lines of the board, each once -/
structure Lot (b : Bd) (l : List Nat) : Prop where
  nd : l.Nodup
  lt : ∀ x ∈ l, x < b.hi + b.wi
theorem Lot.nil (b : Bd) : Lot b [] := ⟨List.nodup_nil, fun _ h => by simp at h⟩
theorem nodup_bound {l : List Nat} {n : Nat} (h : l.Nodup) (h2 : ∀ x ∈ l, x < n) : l.length ≤ n := by
  have := List.Nodup.length_le_of_subset h (l₂ := List.range n) fun x hx => List.mem_range.mpr (h2 x hx)
  simpa using this
theorem Lot.len {b : Bd} {l : List Nat} (h : Lot b l) : l.length ≤ b.hi + b.wi := nodup_bound h.nd h.lt
theorem Lot.len12 {b : Bd} (g : b.Good) {l : List Nat} (h : Lot b l) : l.length ≤ 12 := by
  have := h.len
  have := g.h6
  have := g.w6
  omega
theorem Lot.sorted {b : Bd} {l : List Nat} (h : Lot b l) : Lot b (srt l) := ⟨(srt_perm l).nodup_iff.mpr h.nd, fun x hx => h.lt x (mem_srt.mp hx)⟩
theorem Lot.app {b : Bd} {l s : List Nat} (h : Lot b l) (h2 : Lot b s) (h3 : ∀ x ∈ s, x ∉ l) : Lot b (l ++ s) :=
  ⟨List.nodup_append.mpr ⟨h.nd, h2.nd, fun a ha c hc e => h3 c hc (e ▸ ha)⟩, fun x hx => by rcases List.mem_append.mp hx with q | q; exact h.lt x q; exact h2.lt x q⟩
theorem Lot.one {b : Bd} {x : Nat} (h : x < b.hi + b.wi) : Lot b [x] := ⟨by simp, fun y hy => by simp at hy; omega⟩
theorem Lot.withl {b : Bd} {l : List Nat} {x : Nat} (h : Lot b l) (h2 : x < b.hi + b.wi) (h3 : x ∉ l) : Lot b (wl l x) := (h.app (Lot.one h2) fun y hy => by simp at hy; subst hy; exact h3).sorted
theorem lns_nodup (b : Bd) : b.lns.Nodup := List.nodup_range
theorem Lot.ready {b : Bd} {l : List Nat} : Lot b (b.ready l) := ⟨(lns_nodup b).filter _, fun x hx => (mem_ready.mp hx).1⟩
theorem Lot.rd {b : Bd} {l : List Nat} (h : Lot b l) : Lot b (srt (l ++ b.ready l)) := (h.app Lot.ready fun x hx => (mem_ready.mp hx).2.1).sorted
end Bd
end L2.Z

namespace L2.Z.K01
open PySem L2.Z
abbrev sp (a b : Int) : PyData := .tuple [.int a, .int b]
theorem mulOk {i j : Int} (hi : i.natAbs < 10 ^ 200) (hj : j.natAbs < 10 ^ 200) : MulOk i j := .inr ⟨Nat.lt_trans hi (by decide +kernel), Nat.lt_trans hj (by decide +kernel)⟩
theorem r_is_int (n : Nat) (i : Int) : run (n + 1) f_is_int [.int i] = some (.bool true, .none) := by
  simp [run_is_int, callBody, b_is_int, slotsOf, conArg, truth, valof, esc, callArgs, callBack, escAll, asg, asgAll, evst, Tg.bind, getAll, Option.bind_some, Option.bind_none]
theorem r_is_from (n : Nat) (i a b : Int) (h : a ≤ i ∧ i ≤ b) : run (n + 2) f_is_from [.int i, .int a, .int b] = some (.bool true, .none) := by
  simp [run_is_from, callBody, b_is_from, slotsOf, conArg, truth, valof, esc, callArgs, callBack, escAll, asg, asgAll, evst, Tg.bind, getAll, Option.bind_some, Option.bind_none, r_is_int, bf, h.1, h.2]
theorem r_is_place (n : Nat) (p : Int × Int) (h : (-1000 ≤ p.1 ∧ p.1 ≤ 1000) ∧ -1000 ≤ p.2 ∧ p.2 ≤ 1000) : run (n + 3) f_is_place [eP p] = some (.bool true, .none) := by
  have e1 := r_is_from n p.1 (-1000) 1000 h.1
  have e2 := r_is_from n p.2 (-1000) 1000 h.2
  have e3 : pNe (.int 2) (.int 2) = some (false, .bool false) := pNe_enc EncOk.int (by decide) 2 2
  have e4 : ev (run (n + 2)) bf c_is_place_0 [.dat (eP p), .un] = some (.new (.list [.bool true, .bool true]), [.dat (eP p), .un]) := by
    refine (lc_eval PyData.int [p.1, p.2] (fun _ => true) (fun _ => .bool true) (rs := [.slot 0]) (ds := [eP p]) [.dat (eP p), .un] ?_ ?_ rfl ?_ ?_ ?_).trans ?_
    · simp [slotsOf, conArg, truth, valof, esc, callArgs, callBack, escAll, asg, asgAll, evst, Tg.bind, getAll, Option.bind_some, Option.bind_none]
    · simp [slotsOf, conArg, truth, valof, esc, callArgs, callBack, escAll, asg, asgAll, evst, Tg.bind, getAll, Option.bind_some, Option.bind_none]
    · simp [slotsOf, conArg, truth, valof, esc, callArgs, callBack, escAll, asg, asgAll, evst, Tg.bind, getAll, Option.bind_some, Option.bind_none, z_frr, z_lc, gSeq, frLoop, lcLoop, wipeE, backE, lockAll, unlockAll, lockR, unlockR, Out.mapM, pAll, boolsOf]
    · intro y hy
      simp only [List.mem_cons, List.not_mem_nil, or_false] at hy
      rcases hy with rfl | rfl <;> simp [slotsOf, conArg, truth, valof, esc, callArgs, callBack, escAll, asg, asgAll, evst, Tg.bind, getAll, Option.bind_some, Option.bind_none, z_frr, z_lc, gSeq, frLoop, lcLoop, wipeE, backE, lockAll, unlockAll, lockR, unlockR, Out.mapM, pAll, boolsOf, e1, e2, bf]
    · simp [slotsOf, conArg, truth, valof, esc, callArgs, callBack, escAll, asg, asgAll, evst, Tg.bind, getAll, Option.bind_some, Option.bind_none, z_frr, z_lc, gSeq, frLoop, lcLoop, wipeE, backE, lockAll, unlockAll, lockR, unlockR, Out.mapM, pAll, boolsOf]
    · simp
  have e5 : pAll (.list [.bool true, .bool true]) = some (false, .bool true) := rfl
  simp [run_is_place, callBody, b_is_place, slotsOf, conArg, truth, valof, esc, callArgs, callBack, escAll, asg, asgAll, evst, Tg.bind, getAll, Option.bind_some, Option.bind_none, e3, e4, e5]
end L2.Z.K01

namespace L2.Z.K01
open PySem L2.Z
section
variable {b : Bd} (g : b.Good)
include g
theorem r_sides (n : Nat) : run (n + 1) f_sides [eB b] = some (.tuple [.int b.hi, .int b.wi], .none) := by
  have h1 := g.h1
  cases b with
  | nil => simp [Bd.hi] at h1
  | cons r bs => simp [run_sides, callBody, b_sides, slotsOf, conArg, truth, valof, esc, callArgs, callBack, escAll, asg, asgAll, evst, Tg.bind, getAll, Option.bind_some, Option.bind_none, Bd.hi, Bd.wi]
theorem r_lines_of (n : Nat) : run (n + 2) f_lines_of [eB b] = some (eT b.lns, .none) := by
  have h6 := g.h6
  have w6 := g.w6
  obtain ⟨x, hx⟩ : ∃ x, x = (b.hi : Int) + b.wi := ⟨_, rfl⟩
  have e : pTupRg1 (.int x) = some (false, eT b.lns) := by
    rw [hx, ← Int.natCast_add]; exact tupRg1_nat (by omega)
  have s2 : pSumA (.tuple [.int b.hi, .int b.wi]) = some (false, .int x) := by rw [hx]; exact sum2 _ _
  clear hx
  simp [run_lines_of, callBody, b_lines_of, slotsOf, conArg, truth, valof, esc, callArgs, callBack, escAll, asg, asgAll, evst, Tg.bind, getAll, Option.bind_some, Option.bind_none, bf, r_sides g, s2, e]
omit g in
theorem len_B : pLen (eB b) = some (false, .int b.hi) := by simp [Bd.hi]
theorem cols_eq : b.lns.drop b.hi = List.range' b.hi b.wi := by
  rw [Bd.lns, List.range_eq_range', List.drop_range']
  congr 1 <;> omega
theorem c_left_of_1_ev (n : Nat) (l : List Nat) : ev (run n) bf c_left_of_1 [.dat (eB b), .dat (eT l), .un, .un] = some (.new (eN (b.rowsL l)), [.dat (eB b), .dat (eT l), .un, .un]) := by
  have h6 := g.h6
  have e : gRange1 [.int (b.hi : Int)] = some ((List.range b.hi).map eI) := gRange1_nat (by omega)
  refine (lc_eval eI (List.range b.hi) (fun x => !decide (x ∈ l)) eI (rs := [.val (.int b.hi)]) (ds := [.int b.hi]) [.dat (eB b), .dat (eT l), .un, .un] ?_ ?_ e ?_ ?_ ?_).trans ?_
  all_goals (try (simp [slotsOf, conArg, truth, valof, esc, callArgs, callBack, escAll, asg, asgAll, evst, Tg.bind, getAll, Option.bind_some, Option.bind_none, z_frr, z_lc, gSeq, frLoop, lcLoop, wipeE, backE, lockAll, unlockAll, lockR, unlockR, Out.mapM, pAll, boolsOf, Bd.hi]; done))
  · intro x _
    by_cases h : x ∈ l <;> simp [slotsOf, conArg, truth, valof, esc, callArgs, callBack, escAll, asg, asgAll, evst, Tg.bind, getAll, Option.bind_some, Option.bind_none, z_frr, z_lc, gSeq, frLoop, lcLoop, wipeE, backE, lockAll, unlockAll, lockR, unlockR, Out.mapM, pAll, boolsOf, h]
  · simp [Bd.rowsL]
omit g in
theorem slF_T (l : List Nat) (k : Nat) : pSlF (.tuple (l.map eI)) (.int (k : Int)) = some (false, .tuple ((l.drop k).map eI)) := by
  simp [cutD_from, List.map_drop]
theorem c_left_of_0_ev (n : Nat) (l r : List Nat) : ev (run (n + 2)) bf c_left_of_0 [.dat (eB b), .dat (eT l), .dat (eT r), .un] = some (.new (eN (b.colsL l)), [.dat (eB b), .dat (eT l), .dat (eT r), .un]) := by
  have e0 : pLen (.tuple (b.map eR)) = some (false, .int (b.hi : Int)) := len_B
  have e1 := slF_T b.lns b.hi
  rw [cols_eq g] at e1
  refine (lc_eval eI (List.range' b.hi b.wi) (fun x => !decide (x ∈ l)) eI (rs := [.val (eT (List.range' b.hi b.wi))]) (ds := [eT (List.range' b.hi b.wi)]) [.dat (eB b), .dat (eT l), .dat (eT r), .un] ?_ ?_ ?_ ?_ ?_ ?_).trans ?_
  · simp [slotsOf, conArg, truth, valof, esc, callArgs, callBack, escAll, asg, asgAll, evst, Tg.bind, getAll, Option.bind_some, Option.bind_none, bf, r_lines_of g, e0, e1, -p_slF]
  · simp [slotsOf, conArg, truth, valof, esc, callArgs, callBack, escAll, asg, asgAll, evst, Tg.bind, getAll, Option.bind_some, Option.bind_none]
  · rfl
  · simp [slotsOf, conArg, truth, valof, esc, callArgs, callBack, escAll, asg, asgAll, evst, Tg.bind, getAll, Option.bind_some, Option.bind_none, z_frr, z_lc, gSeq, frLoop, lcLoop, wipeE, backE, lockAll, unlockAll, lockR, unlockR, Out.mapM, pAll, boolsOf]
  · intro x _
    by_cases h : x ∈ l <;> simp [slotsOf, conArg, truth, valof, esc, callArgs, callBack, escAll, asg, asgAll, evst, Tg.bind, getAll, Option.bind_some, Option.bind_none, z_frr, z_lc, gSeq, frLoop, lcLoop, wipeE, backE, lockAll, unlockAll, lockR, unlockR, Out.mapM, pAll, boolsOf, h]
  · simp [slotsOf, conArg, truth, valof, esc, callArgs, callBack, escAll, asg, asgAll, evst, Tg.bind, getAll, Option.bind_some, Option.bind_none, z_frr, z_lc, gSeq, frLoop, lcLoop, wipeE, backE, lockAll, unlockAll, lockR, unlockR, Out.mapM, pAll, boolsOf]
  · simp [Bd.colsL]
theorem r_left_of (n : Nat) (l : List Nat) : run (n + 3) f_left_of [eB b, eT l] = some (.tuple [eT (b.rowsL l), eT (b.colsL l)], .none) := by
  have e1 := c_left_of_1_ev g (n + 2) l
  have e2 := c_left_of_0_ev g n l (b.rowsL l)
  simp [run_left_of, callBody, b_left_of, slotsOf, conArg, truth, valof, esc, callArgs, callBack, escAll, asg, asgAll, evst, Tg.bind, getAll, Option.bind_some, Option.bind_none, bf, e1, e2]
def eIs (l : List Int) : PyData := .list (l.map .int)
theorem r_numbers (n : Nat) (l : List Nat) (x : Nat) (hx : x < b.hi + b.wi) : run (n + 4) f_numbers [eB b, eT l, eI x] = some (.list ((b.nums l x).map .int), .none) := by
  have e0 : pLen (.tuple (b.map eR)) = some (false, .int (b.hi : Int)) := len_B
  have e1 := r_left_of g n l
  by_cases h : x < b.hi
  · have e2 : ev (run (n + 3)) bf c_numbers_1 [.dat (eB b), .dat (eT l), .dat (eI x), .dat (eT (b.rowsL l)), .dat (eT (b.colsL l)), .un, .un] = some (.new (.list ((b.nums l x).map .int)), [.dat (eB b), .dat (eT l), .dat (eI x), .dat (eT (b.rowsL l)), .dat (eT (b.colsL l)), .un, .un]) := by
      refine (lc_eval eI (b.colsL l) (fun _ => true) (fun c => .int (b.num x c)) (rs := [.slot 4]) (ds := [eT (b.colsL l)]) [.dat (eB b), .dat (eT l), .dat (eI x), .dat (eT (b.rowsL l)), .dat (eT (b.colsL l)), .un, .un] ?_ ?_ rfl ?_ ?_ ?_).trans ?_
      · simp [slotsOf, conArg, truth, valof, esc, callArgs, callBack, escAll, asg, asgAll, evst, Tg.bind, getAll, Option.bind_some, Option.bind_none]
      · simp [slotsOf, conArg, truth, valof, esc, callArgs, callBack, escAll, asg, asgAll, evst, Tg.bind, getAll, Option.bind_some, Option.bind_none]
      · simp [slotsOf, conArg, truth, valof, esc, callArgs, callBack, escAll, asg, asgAll, evst, Tg.bind, getAll, Option.bind_some, Option.bind_none, z_frr, z_lc, gSeq, frLoop, lcLoop, wipeE, backE, lockAll, unlockAll, lockR, unlockR, Out.mapM, pAll, boolsOf]
      · intro c hc
        obtain ⟨⟨h1, h2⟩, _⟩ := Bd.mem_colsL.mp hc
        obtain ⟨r, p, q1, q2, q3⟩ := Bd.num_row g h (y := c - b.hi) (by omega)
        rw [show c - b.hi + b.hi = c by omega] at q3
        have a1 : atI (b.map eR) (x : Int) = some (eR r) := by
          rw [at_nat (by rw [List.length_map]; exact h), List.getElem?_map, q1]; rfl
        have a2 : atI (r.map eP) ((c : Int) - b.hi) = some (eP p) := by
          rw [show (c : Int) - b.hi = ((c - b.hi : Nat) : Int) by omega, at_nat (by have := (List.getElem?_eq_some_iff.mp q2).1; simpa using this), List.getElem?_map, q2]; rfl
        simp [slotsOf, conArg, truth, valof, esc, callArgs, callBack, escAll, asg, asgAll, evst, Tg.bind, getAll, Option.bind_some, Option.bind_none, z_frr, z_lc, gSeq, frLoop, lcLoop, wipeE, backE, lockAll, unlockAll, lockR, unlockR, Out.mapM, pAll, boolsOf, e0, a1, a2, q3]
      · simp [slotsOf, conArg, truth, valof, esc, callArgs, callBack, escAll, asg, asgAll, evst, Tg.bind, getAll, Option.bind_some, Option.bind_none, z_frr, z_lc, gSeq, frLoop, lcLoop, wipeE, backE, lockAll, unlockAll, lockR, unlockR, Out.mapM, pAll, boolsOf]
      · rw [filter_true]
        simp [Bd.nums, Bd.cross, if_pos h]
    have e3 : ((x : Int) < b.hi) := by omega
    simp [run_numbers, callBody, b_numbers, slotsOf, conArg, truth, valof, esc, callArgs, callBack, escAll, asg, asgAll, evst, Tg.bind, getAll, Option.bind_some, Option.bind_none, bf, e1, e0, e2, e3]
  · have e2 : ev (run (n + 3)) bf c_numbers_0 [.dat (eB b), .dat (eT l), .dat (eI x), .dat (eT (b.rowsL l)), .dat (eT (b.colsL l)), .un, .un] = some (.new (.list ((b.nums l x).map .int)), [.dat (eB b), .dat (eT l), .dat (eI x), .dat (eT (b.rowsL l)), .dat (eT (b.colsL l)), .un, .un]) := by
      refine (lc_eval eI (b.rowsL l) (fun _ => true) (fun c => .int (b.num x c)) (rs := [.slot 3]) (ds := [eT (b.rowsL l)]) [.dat (eB b), .dat (eT l), .dat (eI x), .dat (eT (b.rowsL l)), .dat (eT (b.colsL l)), .un, .un] ?_ ?_ rfl ?_ ?_ ?_).trans ?_
      · simp [slotsOf, conArg, truth, valof, esc, callArgs, callBack, escAll, asg, asgAll, evst, Tg.bind, getAll, Option.bind_some, Option.bind_none]
      · simp [slotsOf, conArg, truth, valof, esc, callArgs, callBack, escAll, asg, asgAll, evst, Tg.bind, getAll, Option.bind_some, Option.bind_none]
      · simp [slotsOf, conArg, truth, valof, esc, callArgs, callBack, escAll, asg, asgAll, evst, Tg.bind, getAll, Option.bind_some, Option.bind_none, z_frr, z_lc, gSeq, frLoop, lcLoop, wipeE, backE, lockAll, unlockAll, lockR, unlockR, Out.mapM, pAll, boolsOf]
      · intro c hc
        obtain ⟨h1, _⟩ := Bd.mem_rowsL.mp hc
        obtain ⟨r, p, q1, q2, q3⟩ := Bd.num_col g h1 (y := x - b.hi) (by omega)
        rw [show x - b.hi + b.hi = x by omega] at q3
        have a1 : atI (b.map eR) (c : Int) = some (eR r) := by
          rw [at_nat (by rw [List.length_map]; exact h1), List.getElem?_map, q1]; rfl
        have a2 : atI (r.map eP) ((x : Int) - b.hi) = some (eP p) := by
          rw [show (x : Int) - b.hi = ((x - b.hi : Nat) : Int) by omega, at_nat (by have := (List.getElem?_eq_some_iff.mp q2).1; simpa using this), List.getElem?_map, q2]; rfl
        simp [slotsOf, conArg, truth, valof, esc, callArgs, callBack, escAll, asg, asgAll, evst, Tg.bind, getAll, Option.bind_some, Option.bind_none, z_frr, z_lc, gSeq, frLoop, lcLoop, wipeE, backE, lockAll, unlockAll, lockR, unlockR, Out.mapM, pAll, boolsOf, e0, a1, a2, q3]
      · simp [slotsOf, conArg, truth, valof, esc, callArgs, callBack, escAll, asg, asgAll, evst, Tg.bind, getAll, Option.bind_some, Option.bind_none, z_frr, z_lc, gSeq, frLoop, lcLoop, wipeE, backE, lockAll, unlockAll, lockR, unlockR, Out.mapM, pAll, boolsOf]
      · rw [filter_true]
        simp [Bd.nums, Bd.cross, if_neg h]
    have e3 : ¬ ((x : Int) < b.hi) := by omega
    simp [run_numbers, callBody, b_numbers, slotsOf, conArg, truth, valof, esc, callArgs, callBack, escAll, asg, asgAll, evst, Tg.bind, getAll, Option.bind_some, Option.bind_none, bf, e1, e0, e2, e3]
omit g in
theorem r_same_side (n x y : Nat) : run (n + 1) f_same_side [eB b, eI x, eI y] = some (.bool (b.same x y), .none) := by
  have e0 : pLen (.tuple (b.map eR)) = some (false, .int (b.hi : Int)) := len_B
  have e1 := pEq_enc EncOk.bool (by decide) (decide (x < b.hi)) (decide (y < b.hi))
  simp [run_same_side, callBody, b_same_side, slotsOf, conArg, truth, valof, esc, callArgs, callBack, escAll, asg, asgAll, evst, Tg.bind, getAll, Option.bind_some, Option.bind_none, e0, e1, Bd.same]
theorem r_is_greater (n : Nat) (l : List Nat) (x y : Nat) (hx : x < b.hi + b.wi) (hy : y < b.hi + b.wi) : run (n + 5) f_is_greater [eB b, eT l, eI x, eI y] = some (.bool (b.isG l x y), .none) := by
  have e1 := r_same_side (b := b) (n + 3) x y
  by_cases h : b.same x y = true
  · have hc : b.cross l y = b.cross l x := by
      unfold Bd.cross Bd.same at *
      by_cases h1 : x < b.hi <;> by_cases h2 : y < b.hi <;> simp [h1, h2] at h ⊢
    have e2 := r_numbers g n l x hx
    have e3 := r_numbers g n l y hy
    have e4 : ev (run (n + 4)) bf c_is_greater_0 [.dat (eB b), .dat (eT l), .dat (eI x), .dat (eI y), .un, .un] = some (.new (.list ((b.cross l x).map fun c => .bool (decide (b.num x c < b.num y c)))), [.dat (eB b), .dat (eT l), .dat (eI x), .dat (eI y), .un, .un]) := by
      refine (lc_eval (fun c => .tuple [.int (b.num x c), .int (b.num y c)]) (b.cross l x) (fun _ => true) (fun c => .bool (decide (b.num x c < b.num y c))) (rs := [.val (.list ((b.nums l x).map .int)), .val (.list ((b.nums l y).map .int))]) (ds := [.list ((b.nums l x).map .int), .list ((b.nums l y).map .int)]) [.dat (eB b), .dat (eT l), .dat (eI x), .dat (eI y), .un, .un] ?_ ?_ ?_ ?_ ?_ ?_).trans ?_
      · simp [slotsOf, conArg, truth, valof, esc, callArgs, callBack, escAll, asg, asgAll, evst, Tg.bind, getAll, Option.bind_some, Option.bind_none, bf, e2, e3]
      · simp [slotsOf, conArg, truth, valof, esc, callArgs, callBack, escAll, asg, asgAll, evst, Tg.bind, getAll, Option.bind_some, Option.bind_none]
      · simp only [gZip, Bd.nums, hc, List.map_map]
        rw [zipD_map]; rfl
      · simp [slotsOf, conArg, truth, valof, esc, callArgs, callBack, escAll, asg, asgAll, evst, Tg.bind, getAll, Option.bind_some, Option.bind_none, z_frr, z_lc, gSeq, frLoop, lcLoop, wipeE, backE, lockAll, unlockAll, lockR, unlockR, Out.mapM, pAll, boolsOf]
      · intro c _
        simp [slotsOf, conArg, truth, valof, esc, callArgs, callBack, escAll, asg, asgAll, evst, Tg.bind, getAll, Option.bind_some, Option.bind_none, z_frr, z_lc, gSeq, frLoop, lcLoop, wipeE, backE, lockAll, unlockAll, lockR, unlockR, Out.mapM, pAll, boolsOf]
      · simp [slotsOf, conArg, truth, valof, esc, callArgs, callBack, escAll, asg, asgAll, evst, Tg.bind, getAll, Option.bind_some, Option.bind_none, z_frr, z_lc, gSeq, frLoop, lcLoop, wipeE, backE, lockAll, unlockAll, lockR, unlockR, Out.mapM, pAll, boolsOf]
      · rw [filter_true]
    simp [run_is_greater, callBody, b_is_greater, slotsOf, conArg, truth, valof, esc, callArgs, callBack, escAll, asg, asgAll, evst, Tg.bind, getAll, Option.bind_some, Option.bind_none, bf, e1, h, e4, pAll_map, Bd.isG]
  · have h' : b.same x y = false := by simpa using h
    simp [run_is_greater, callBody, b_is_greater, slotsOf, conArg, truth, valof, esc, callArgs, callBack, escAll, asg, asgAll, evst, Tg.bind, getAll, Option.bind_some, Option.bind_none, bf, e1, h', Bd.isG]
theorem r_can_fall (n : Nat) (l : List Nat) (x : Nat) (hx : x < b.hi + b.wi) (hl : l.length ≤ 1000) : run (n + 6) f_can_fall [eB b, eT l, eI x] = some (.bool (b.canF l x), .none) := by
  have e0 := r_lines_of g (n + 3)
  have e1 : ev (run (n + 5)) bf c_can_fall_0 [.dat (eB b), .dat (eT l), .dat (eI x), .un] = some (.new (.list ((b.lns.filter fun y => !decide (y ∈ l ++ [x])).map fun y => .bool (b.isG l x y))), [.dat (eB b), .dat (eT l), .dat (eI x), .un]) := by
    refine (lc_eval eI b.lns (fun y => !decide (y ∈ l ++ [x])) (fun y => .bool (b.isG l x y)) (rs := [.val (eT b.lns)]) (ds := [eT b.lns]) [.dat (eB b), .dat (eT l), .dat (eI x), .un] ?_ ?_ rfl ?_ ?_ ?_)
    · simp [slotsOf, conArg, truth, valof, esc, callArgs, callBack, escAll, asg, asgAll, evst, Tg.bind, getAll, Option.bind_some, Option.bind_none, bf, e0]
    · simp [slotsOf, conArg, truth, valof, esc, callArgs, callBack, escAll, asg, asgAll, evst, Tg.bind, getAll, Option.bind_some, Option.bind_none]
    · simp [slotsOf, conArg, truth, valof, esc, callArgs, callBack, escAll, asg, asgAll, evst, Tg.bind, getAll, Option.bind_some, Option.bind_none, z_frr, z_lc, gSeq, frLoop, lcLoop, wipeE, backE, lockAll, unlockAll, lockR, unlockR, Out.mapM, pAll, boolsOf]
    · intro y hy
      have e2 := r_is_greater g n l x y hx (Bd.mem_lns.mp hy)
      have hz : l.length + 1 ≤ sizeLine := by rw [sizeLine_eq]; omega
      have e3 := notIn_T y (l ++ [x])
      simp only [List.map_append, List.map_cons, List.map_nil] at e3
      by_cases h : y ∈ l ++ [x]
      · rw [decide_eq_true h] at e3
        rw [decide_eq_true h]
        simp [slotsOf, conArg, truth, valof, esc, callArgs, callBack, escAll, asg, asgAll, evst, Tg.bind, getAll, Option.bind_some, Option.bind_none, z_frr, z_lc, gSeq, frLoop, lcLoop, wipeE, backE, lockAll, unlockAll, lockR, unlockR, Out.mapM, pAll, boolsOf, hz, e3, -notIn_T]
      · rw [decide_eq_false h] at e3
        rw [decide_eq_false h]
        simp [slotsOf, conArg, truth, valof, esc, callArgs, callBack, escAll, asg, asgAll, evst, Tg.bind, getAll, Option.bind_some, Option.bind_none, z_frr, z_lc, gSeq, frLoop, lcLoop, wipeE, backE, lockAll, unlockAll, lockR, unlockR, Out.mapM, pAll, boolsOf, hz, e3, e2, bf, -notIn_T]
    · simp [slotsOf, conArg, truth, valof, esc, callArgs, callBack, escAll, asg, asgAll, evst, Tg.bind, getAll, Option.bind_some, Option.bind_none, z_frr, z_lc, gSeq, frLoop, lcLoop, wipeE, backE, lockAll, unlockAll, lockR, unlockR, Out.mapM, pAll, boolsOf]
  simp [run_can_fall, callBody, b_can_fall, slotsOf, conArg, truth, valof, esc, callArgs, callBack, escAll, asg, asgAll, evst, Tg.bind, getAll, Option.bind_some, Option.bind_none, bf, e1, pAny_map, Bd.canF]
omit g in
theorem r_with_line (n : Nat) (l : List Nat) (x : Nat) (hl : l.length ≤ 1000) : run (n + 1) f_with_line [eT l, eI x] = some (eT (Bd.wl l x), .none) := by
  have hz : l.length + 1 ≤ sizeLine := by rw [sizeLine_eq]; omega
  have e1 := sorted_N (l ++ [x])
  simp only [List.map_append, List.map_cons, List.map_nil] at e1
  simp [run_with_line, callBody, b_with_line, slotsOf, conArg, truth, valof, esc, callArgs, callBack, escAll, asg, asgAll, evst, Tg.bind, getAll, Option.bind_some, Option.bind_none, hz, e1, Bd.wl]
theorem w_closure_0_ev (n : Nat) (ws : List Nat) (W : PyData) (hW : gSeq [W] = some (ws.map eI)) (hw : ∀ x ∈ ws, x < b.hi + b.wi) :
    ∃ l, evS (run (n + 7)) bf MM w_closure_0 [.dat (eB b), .dat W, .dat (.tuple []), .own (.list []), .own (eN (ws.filter fun x => b.canF [] x)), .un] = some (.nx [.dat (eB b), .dat W, .dat (eT l), .own (eN (b.closure ws)), .own (eN []), .un]) := by
  refine wh_eval (fun ρ => ∃ l o k, ρ = [.dat (eB b), .dat W, .dat (eT l), .own (eN o), .own (eN (ws.filter fun x => !decide (x ∈ l) && b.canF l x)), .un] ∧ Bd.Lot b l ∧ l.length + k = 12 ∧ o.length = l.length ∧ b.clo ws k l o = b.closure ws)
    (fun ρ : Ev => match (ρ[2]? : Option Slot) with | some (.dat (.tuple ds)) => 12 - ds.length | _ => 0) (fun r => ∃ l, r = some (.nx [.dat (eB b), .dat W, .dat (eT l), .own (eN (b.closure ws)), .own (eN []), .un])) ⟨[], [], 12, by simp, Bd.Lot.nil b, rfl, rfl, rfl⟩ ?_ ?_
  · exact Nat.lt_of_le_of_lt (Nat.sub_le _ _) (by unfold MM; exact Nat.lt_of_lt_of_le (by decide : 12 < 10 ^ 2) (Nat.pow_le_pow_right (by decide) (by decide)))
  · rintro ρ ⟨l, o, k, rfl, hl, hk, ho, he⟩
    have len := hl.len12 g
    cases hs : ws.filter fun x => !decide (x ∈ l) && b.canF l x with
    | nil =>
      refine .inl ⟨_, ?_, l, rfl⟩
      have e1 : b.closure ws = o := by
        rw [← he]
        cases k with
        | zero => rfl
        | succ k => rw [Bd.clo, hs]
      rw [e1]
      have e2 := ne_N0 []
      simp [slotsOf, conArg, truth, valof, esc, callArgs, callBack, escAll, asg, asgAll, evst, Tg.bind, getAll, Option.bind_some, Option.bind_none, e2]
    | cons x s =>
      have hx : x ∈ ws.filter fun x => !decide (x ∈ l) && b.canF l x := by rw [hs]; simp
      simp only [List.mem_filter, Bool.and_eq_true, Bool.not_eq_true', decide_eq_false_iff_not] at hx
      obtain ⟨hx1, hx2, hx3⟩ := hx
      have hxl := hw x hx1
      have hl' := hl.withl hxl hx2
      have len' := hl'.len12 g
      have wlen := Bd.wl_length l x
      obtain ⟨k, rfl⟩ : ∃ j, k = j + 1 := ⟨k - 1, by omega⟩
      refine .inr (.inl ⟨[.dat (eB b), .dat W, .dat (eT l), .own (eN o), .own (eN (x :: s)), .un], _, ?_, .inl ?_, ⟨Bd.wl l x, o ++ [x], k, rfl, hl', by omega, by simp [wlen, ho], ?_⟩, ?_⟩)
      · have e2 := ne_N0 (x :: s)
        simp [slotsOf, conArg, truth, valof, esc, callArgs, callBack, escAll, asg, asgAll, evst, Tg.bind, getAll, Option.bind_some, Option.bind_none, e2]
      · have e3 := r_with_line (n + 6) l x (by omega)
        have hz : (o.length + 1) ≤ sizeLine := by rw [sizeLine_eq]; omega
        have e4 : ev (run (n + 7)) bf c_closure_0 [.dat (eB b), .dat W, .dat (eT (Bd.wl l x)), .own (.list (o.map eI ++ [eI x])), .own (eN (x :: s)), .un] = some (.new (eN (ws.filter fun y => !decide (y ∈ Bd.wl l x) && b.canF (Bd.wl l x) y)), [.dat (eB b), .dat W, .dat (eT (Bd.wl l x)), .own (.list (o.map eI ++ [eI x])), .own (eN (x :: s)), .un]) := by
          refine (lc_eval eI ws (fun y => !decide (y ∈ Bd.wl l x) && b.canF (Bd.wl l x) y) eI (rs := [.slot 1]) (ds := [W]) [.dat (eB b), .dat W, .dat (eT (Bd.wl l x)), .own (.list (o.map eI ++ [eI x])), .own (eN (x :: s)), .un] ?_ ?_ hW ?_ ?_ ?_)
          · simp [slotsOf, conArg, truth, valof, esc, callArgs, callBack, escAll, asg, asgAll, evst, Tg.bind, getAll, Option.bind_some, Option.bind_none]
          · simp [slotsOf, conArg, truth, valof, esc, callArgs, callBack, escAll, asg, asgAll, evst, Tg.bind, getAll, Option.bind_some, Option.bind_none]
          · simp [slotsOf, conArg, truth, valof, esc, callArgs, callBack, escAll, asg, asgAll, evst, Tg.bind, getAll, Option.bind_some, Option.bind_none, z_frr, z_lc, gSeq, frLoop, lcLoop, wipeE, backE, lockAll, unlockAll, lockR, unlockR, Out.mapM, pAll, boolsOf]
          · intro y hy
            have e2 := r_can_fall g (n + 1) (Bd.wl l x) y (hw y hy) (by omega)
            by_cases h : y ∈ Bd.wl l x
            · simp [slotsOf, conArg, truth, valof, esc, callArgs, callBack, escAll, asg, asgAll, evst, Tg.bind, getAll, Option.bind_some, Option.bind_none, z_frr, z_lc, gSeq, frLoop, lcLoop, wipeE, backE, lockAll, unlockAll, lockR, unlockR, Out.mapM, pAll, boolsOf, h]
            · by_cases h2 : b.canF (Bd.wl l x) y = true
              · rw [h2] at e2
                simp [slotsOf, conArg, truth, valof, esc, callArgs, callBack, escAll, asg, asgAll, evst, Tg.bind, getAll, Option.bind_some, Option.bind_none, z_frr, z_lc, gSeq, frLoop, lcLoop, wipeE, backE, lockAll, unlockAll, lockR, unlockR, Out.mapM, pAll, boolsOf, h, e2, bf, h2]
              · simp only [Bool.not_eq_true] at h2
                rw [h2] at e2
                simp [slotsOf, conArg, truth, valof, esc, callArgs, callBack, escAll, asg, asgAll, evst, Tg.bind, getAll, Option.bind_some, Option.bind_none, z_frr, z_lc, gSeq, frLoop, lcLoop, wipeE, backE, lockAll, unlockAll, lockR, unlockR, Out.mapM, pAll, boolsOf, h, e2, bf, h2]
          · simp [slotsOf, conArg, truth, valof, esc, callArgs, callBack, escAll, asg, asgAll, evst, Tg.bind, getAll, Option.bind_some, Option.bind_none, z_frr, z_lc, gSeq, frLoop, lcLoop, wipeE, backE, lockAll, unlockAll, lockR, unlockR, Out.mapM, pAll, boolsOf]
        have e5 : eN (o ++ [x]) = .list (o.map eI ++ [eI x]) := by simp [eN]
        simp [slotsOf, conArg, truth, valof, esc, callArgs, callBack, escAll, asg, asgAll, evst, Tg.bind, getAll, Option.bind_some, Option.bind_none, bf, e3, hz, e4, e5]
      · rw [← he, Bd.clo, hs]
      · simp [wlen]; omega
theorem r_closure (n : Nat) (ws : List Nat) (W : PyData) (hW : gSeq [W] = some (ws.map eI)) (hw : ∀ x ∈ ws, x < b.hi + b.wi) : run (n + 8) f_closure [eB b, W] = some (eN (b.closure ws), .none) := by
  obtain ⟨l, e1⟩ := w_closure_0_ev g n ws W hW hw
  have e2 : ev (run (n + 7)) bf c_closure_1 [.dat (eB b), .dat W, .dat (.tuple []), .own (.list []), .un, .un] = some (.new (eN (ws.filter fun x => b.canF [] x)), [.dat (eB b), .dat W, .dat (.tuple []), .own (.list []), .un, .un]) := by
    refine (lc_eval eI ws (fun x => b.canF [] x) eI (rs := [.slot 1]) (ds := [W]) [.dat (eB b), .dat W, .dat (.tuple []), .own (.list []), .un, .un] ?_ ?_ hW ?_ ?_ ?_).trans ?_
    · simp [slotsOf, conArg, truth, valof, esc, callArgs, callBack, escAll, asg, asgAll, evst, Tg.bind, getAll, Option.bind_some, Option.bind_none]
    · simp [slotsOf, conArg, truth, valof, esc, callArgs, callBack, escAll, asg, asgAll, evst, Tg.bind, getAll, Option.bind_some, Option.bind_none]
    · simp [slotsOf, conArg, truth, valof, esc, callArgs, callBack, escAll, asg, asgAll, evst, Tg.bind, getAll, Option.bind_some, Option.bind_none, z_frr, z_lc, gSeq, frLoop, lcLoop, wipeE, backE, lockAll, unlockAll, lockR, unlockR, Out.mapM, pAll, boolsOf]
    · intro y hy
      have e2 := r_can_fall g (n + 1) [] y (hw y hy) (by simp)
      simp only [eT, List.map_nil] at e2
      have e3 := notIn_T y []
      simp only [List.map_nil] at e3
      by_cases h2 : b.canF [] y = true
      · rw [h2] at e2
        simp [slotsOf, conArg, truth, valof, esc, callArgs, callBack, escAll, asg, asgAll, evst, Tg.bind, getAll, Option.bind_some, Option.bind_none, z_frr, z_lc, gSeq, frLoop, lcLoop, wipeE, backE, lockAll, unlockAll, lockR, unlockR, Out.mapM, pAll, boolsOf, e2, bf, h2]
      · simp only [Bool.not_eq_true] at h2
        rw [h2] at e2
        simp [slotsOf, conArg, truth, valof, esc, callArgs, callBack, escAll, asg, asgAll, evst, Tg.bind, getAll, Option.bind_some, Option.bind_none, z_frr, z_lc, gSeq, frLoop, lcLoop, wipeE, backE, lockAll, unlockAll, lockR, unlockR, Out.mapM, pAll, boolsOf, e2, bf, h2]
    · simp [slotsOf, conArg, truth, valof, esc, callArgs, callBack, escAll, asg, asgAll, evst, Tg.bind, getAll, Option.bind_some, Option.bind_none, z_frr, z_lc, gSeq, frLoop, lcLoop, wipeE, backE, lockAll, unlockAll, lockR, unlockR, Out.mapM, pAll, boolsOf]
    · simp
  simp [run_closure, callBody, b_closure, slotsOf, conArg, truth, valof, esc, callArgs, callBack, escAll, asg, asgAll, evst, Tg.bind, getAll, Option.bind_some, Option.bind_none, bf, e1, e2]
theorem c_need_board_0_ev (n : Nat) (r : List (Int × Int)) (hr : r ∈ b) (s1 : Slot) : ev (run (n + 3)) bf c_need_board_0 [.dat (eB b), s1, .dat (eR r), .un] = some (.new (.list (r.map fun _ => .bool true)), [.dat (eB b), s1, .dat (eR r), .un]) := by
  refine (lc_eval eP r (fun _ => true) (fun _ => .bool true) (rs := [.slot 2]) (ds := [eR r]) [.dat (eB b), s1, .dat (eR r), .un] ?_ ?_ rfl ?_ ?_ ?_).trans ?_
  · simp [slotsOf, conArg, truth, valof, esc, callArgs, callBack, escAll, asg, asgAll, evst, Tg.bind, getAll, Option.bind_some, Option.bind_none]
  · simp [slotsOf, conArg, truth, valof, esc, callArgs, callBack, escAll, asg, asgAll, evst, Tg.bind, getAll, Option.bind_some, Option.bind_none]
  · simp [slotsOf, conArg, truth, valof, esc, callArgs, callBack, escAll, asg, asgAll, evst, Tg.bind, getAll, Option.bind_some, Option.bind_none, z_frr, z_lc, gSeq, frLoop, lcLoop, wipeE, backE, lockAll, unlockAll, lockR, unlockR, Out.mapM, pAll, boolsOf]
  · intro p hp
    have e1 := r_is_place n p (g.val r hr p hp)
    simp [slotsOf, conArg, truth, valof, esc, callArgs, callBack, escAll, asg, asgAll, evst, Tg.bind, getAll, Option.bind_some, Option.bind_none, z_frr, z_lc, gSeq, frLoop, lcLoop, wipeE, backE, lockAll, unlockAll, lockR, unlockR, Out.mapM, pAll, boolsOf, e1, bf]
  · simp [slotsOf, conArg, truth, valof, esc, callArgs, callBack, escAll, asg, asgAll, evst, Tg.bind, getAll, Option.bind_some, Option.bind_none, z_frr, z_lc, gSeq, frLoop, lcLoop, wipeE, backE, lockAll, unlockAll, lockR, unlockR, Out.mapM, pAll, boolsOf]
  · rw [filter_true]
theorem r_need_board (n : Nat) : run (n + 4) f_need_board [eB b] = some (.none, .none) := by
  have h1 := g.h1
  have h6 := g.h6
  have w1 := g.w1
  have w6 := g.w6
  have e0 : pLen (.tuple (b.map eR)) = some (false, .int (b.hi : Int)) := len_B
  have c1 : (1 : Int) ≤ b.hi := by omega
  have c2 : (b.hi : Int) ≤ 6 := by omega
  obtain ⟨r0, hr0, hl0⟩ := Bd.rect_get g (x := 0) (by omega)
  have a0 : atI (b.map eR) 0 = some (eR r0) := by
    have := at_nat (xs := b.map eR) (k := 0) (by rw [List.length_map]; exact h1)
    rw [List.getElem?_map, hr0] at this
    simpa using this
  have e2 : ∃ ρ, evS (run (n + 3)) bf MM w_need_board_0 [.dat (eB b), .un, .un, .un] = some (.nx ρ) := by
    refine fr_eval (fun q : List (Int × Int) × Nat => .tuple [.int (q.2 : Nat), eR q.1]) (b.zipIdx 0) (fun _ ρ => ∃ j1 j2, ρ = [.dat (eB b), j1, j2, .un] ∧ Jk j1 ∧ Jk j2) (fun o => ∃ ρ, o = some (.nx ρ)) (rs := [.slot 0]) (ds := [eB b]) (ρ0 := [.dat (eB b), .un, .un, .un]) ?_ ?_ ?_ ?_ ?_ ?_
    · simp [slotsOf, conArg, truth, valof, esc, callArgs, callBack, escAll, asg, asgAll, evst, Tg.bind, getAll, Option.bind_some, Option.bind_none]
    · simp [slotsOf, conArg, truth, valof, esc, callArgs, callBack, escAll, asg, asgAll, evst, Tg.bind, getAll, Option.bind_some, Option.bind_none]
    · simp only [gEnum]
      rw [enumD_map]
    · exact ⟨.un, .un, by simp [z_frr, z_lc, gSeq, frLoop, lcLoop, wipeE, backE, lockAll, unlockAll, lockR, unlockR, Out.mapM, pAll, boolsOf], .un, .un⟩
    · rintro ys ⟨r, i⟩ zs ρ hx ⟨j1, j2, rfl, k1, k2⟩
      have hr : r ∈ b := by
        have : (r, i) ∈ b.zipIdx 0 := by rw [hx]; simp
        exact (List.mem_zipIdx this).2.2 ▸ List.getElem_mem _
      have hl := g.rect r hr
      have d1 : (1 : Int) ≤ r.length := by omega
      have d2 : (r.length : Int) ≤ 6 := by omega
      have d3 : pNe (.int (r.length : Int)) (.int (r0.length : Int)) = some (false, .bool false) := by
        rw [hl, hl0, pNe_enc EncOk.int (by decide)]; simp
      have e4 := c_need_board_0_ev g n r hr (.dat (.int (i : Nat)))
      have e5 := pAll_map (fun _ : Int × Int => true) r
      refine .inl ⟨[.dat (eB b), .dat (.int (i : Nat)), .dat (eR r), .un], [.dat (eB b), .dat (.int (i : Nat)), .dat (eR r), .un], ?_, .inl ?_, _, _, rfl, .dat _, .dat _⟩
      · have f1 : asg 1 (.dat (.int (i : Nat))) [.dat (eB b), j1, j2, .un] = some [.dat (eB b), .dat (.int (i : Nat)), j2, .un] := k1.asg rfl
        have f2 : asg 2 (.dat (eR r)) [.dat (eB b), .dat (.int (i : Nat)), j2, .un] = some [.dat (eB b), .dat (.int (i : Nat)), .dat (eR r), .un] := k2.asg rfl
        simp [Tg.bind, f1, f2]
      · simp [slotsOf, conArg, truth, valof, esc, callArgs, callBack, escAll, asg, asgAll, evst, Tg.bind, getAll, Option.bind_some, Option.bind_none, e0, a0, d1, d2, d3, e4, e5]
    · rintro ρ ⟨j1, j2, rfl, k1, k2⟩
      exact ⟨[.dat (eB b), j1, j2, .un], by simp [z_frr, z_lc, gSeq, frLoop, lcLoop, wipeE, backE, lockAll, unlockAll, lockR, unlockR, Out.mapM, pAll, boolsOf]⟩
  obtain ⟨ρ, e2⟩ := e2
  simp [run_need_board, callBody, b_need_board, slotsOf, conArg, truth, valof, esc, callArgs, callBack, escAll, asg, asgAll, evst, Tg.bind, getAll, Option.bind_some, Option.bind_none, e0, c1, c2, e2]
end
end L2.Z.K01

namespace L2.Z
namespace Bd
def n (b : Bd) : Nat := b.hi + b.wi
inductive Comes (b : Bd) : List Nat → Prop
  | nil : Comes b []
  | step {l m : List Nat} {x : Nat} : Comes b l → x < b.hi + b.wi → x ∉ l → b.canF l x = true → (∀ y, y ∈ m ↔ y ∈ l ∨ y = x) → Comes b m
section
variable {b : Bd} {l m : List Nat} {x y z : Nat}
theorem mem_cross : y ∈ b.cross l x ↔ y ∉ l ∧ ((x < b.hi ∧ b.hi ≤ y ∧ y < b.hi + b.wi) ∨ (b.hi ≤ x ∧ y < b.hi)) := by
  unfold cross
  split
  · rename_i h; rw [mem_colsL]
    exact ⟨fun q => ⟨q.2, .inl ⟨h, q.1⟩⟩, fun q => by rcases q with ⟨q1, q2 | q2⟩; exact ⟨q2.2, q1⟩; omega⟩
  · rename_i h; rw [mem_rowsL]
    exact ⟨fun q => ⟨q.2, .inr ⟨by omega, q.1⟩⟩, fun q => by rcases q with ⟨q1, q2 | q2⟩; omega; exact ⟨q2.2, q1⟩⟩
theorem same_iff : b.same x y = true ↔ (x < b.hi ↔ y < b.hi) := by
  unfold same
  by_cases h : x < b.hi <;> by_cases h2 : y < b.hi <;> simp [h, h2]
theorem isG_iff : b.isG l x y = true ↔ (x < b.hi ↔ y < b.hi) ∧ ∀ c ∈ b.cross l x, b.num x c < b.num y c := by
  unfold isG
  rw [Bool.and_eq_true, same_iff, List.all_eq_true]
  simp
theorem cross_same (h : x < b.hi ↔ y < b.hi) : b.cross l x = b.cross l y := by
  unfold cross
  by_cases q : x < b.hi
  · rw [if_pos q, if_pos (h.mp q)]
  · rw [if_neg q, if_neg fun z => q (h.mpr z)]
theorem isG_mono (s : ∀ x ∈ l, x ∈ m) (h : b.isG l x y = true) : b.isG m x y = true := by
  rw [isG_iff] at *
  refine ⟨h.1, fun c hc => h.2 c ?_⟩
  rw [mem_cross] at *
  exact ⟨fun q => hc.1 (s c q), hc.2⟩
theorem isG_trans (h : b.isG l x y = true) (h2 : b.isG l y z = true) : b.isG l x z = true := by
  rw [isG_iff] at *
  refine ⟨h.1.trans h2.1, fun c hc => Int.lt_trans (h.2 c hc) (h2.2 c ?_)⟩
  rw [← cross_same h.1]; exact hc
theorem isG_congr (s : ∀ x, x ∈ l ↔ x ∈ m) : b.isG l x y = b.isG m x y := by
  cases h : b.isG m x y with
  | true => exact isG_mono (fun x => (s x).mpr) h
  | false =>
    cases h2 : b.isG l x y with
    | false => rfl
    | true => rw [isG_mono (fun x => (s x).mp) h2] at h; cases h
theorem canF_congr (s : ∀ x, x ∈ l ↔ x ∈ m) : b.canF l x = b.canF m x := by
  have key : ∀ {l m : List Nat}, (∀ x, x ∈ l ↔ x ∈ m) → b.canF l x = true → b.canF m x = true := fun s h => by
    rw [canF_iff] at *
    obtain ⟨y, h1, h2, h3, h4⟩ := h
    exact ⟨y, h1, fun q => h2 ((s y).mpr q), h3, by rw [← isG_congr s]; exact h4⟩
  cases h : b.canF m x with
  | true => exact key (fun x => (s x).symm) h
  | false =>
    cases h2 : b.canF l x with
    | false => rfl
    | true => rw [key s h2] at h; cases h
theorem ready_congr (s : ∀ x, x ∈ l ↔ x ∈ m) : b.ready l = b.ready m := by
  unfold ready
  refine List.filter_congr fun x _ => ?_
  rw [canF_congr s]
  have e : decide (x ∈ l) = decide (x ∈ m) := by simp only [s x]
  rw [e]
/-- what is struck is less than something that is left -/
theorem Comes.over (c : Comes b m) : ∀ y ∈ m, ∃ z, z < b.hi + b.wi ∧ z ∉ m ∧ b.isG m y z = true := by
  induction c with
  | nil => intro y h; simp at h
  | @step l m x _ hx hxl hc hm ih =>
    obtain ⟨z0, h1, h2, h3, h4⟩ := canF_iff.mp hc
    have sub : ∀ a ∈ l, a ∈ m := fun a h => (hm a).mpr (.inl h)
    have z0m : z0 ∉ m := fun h => ((hm z0).mp h).elim h2 h3
    have g0 := isG_mono sub h4
    intro y hy
    rcases (hm y).mp hy with h | rfl
    · obtain ⟨z, q1, q2, q3⟩ := ih y h
      have g1 := isG_mono sub q3
      by_cases e : z = x
      · subst e
        exact ⟨z0, h1, z0m, isG_trans g1 g0⟩
      · exact ⟨z, q1, fun h => ((hm z).mp h).elim q2 e, g1⟩
    · exact ⟨z0, h1, z0m, g0⟩
theorem Comes.row (g : b.Good) (c : Comes b m) : ∃ x, x < b.hi ∧ x ∉ m := by
  by_cases h : 0 ∈ m
  · obtain ⟨z, h1, h2, h3⟩ := c.over 0 h
    have := (isG_iff.mp h3).1
    have := g.h1
    exact ⟨z, by omega, h2⟩
  · exact ⟨0, g.h1, h⟩
theorem Comes.col (g : b.Good) (c : Comes b m) : ∃ x, b.hi ≤ x ∧ x < b.hi + b.wi ∧ x ∉ m := by
  by_cases h : b.hi ∈ m
  · obtain ⟨z, h1, h2, h3⟩ := c.over _ h
    have := (isG_iff.mp h3).1
    exact ⟨z, by omega, h1, h2⟩
  · exact ⟨b.hi, by omega, by have := g.w1; omega, h⟩
theorem Comes.cross (g : b.Good) (c : Comes b m) (x : Nat) : ∃ y, y ∈ b.cross m x := by
  by_cases h : x < b.hi
  · obtain ⟨y, h1, h2, h3⟩ := c.col g
    exact ⟨y, mem_cross.mpr ⟨h3, .inl ⟨h, h1, h2⟩⟩⟩
  · obtain ⟨y, h1, h2⟩ := c.row g
    exact ⟨y, mem_cross.mpr ⟨h2, .inr ⟨by omega, h1⟩⟩⟩
theorem Comes.irr (g : b.Good) (c : Comes b m) (x : Nat) : b.isG m x x = false := by
  cases h : b.isG m x x with
  | false => rfl
  | true =>
    obtain ⟨y, hy⟩ := c.cross g x
    have := (isG_iff.mp h).2 y hy
    omega
/-- what may be struck may be struck later -/
theorem Comes.later (g : b.Good) (c : Comes b m) (s : ∀ x ∈ l, x ∈ m) (hx : x ∉ m) (h : b.canF l x = true) : b.canF m x = true := by
  obtain ⟨y, h1, h2, h3, h4⟩ := canF_iff.mp h
  have g1 := isG_mono s h4
  refine canF_iff.mpr ?_
  by_cases hy : y ∈ m
  · obtain ⟨z, q1, q2, q3⟩ := c.over y hy
    have g2 := isG_trans g1 q3
    refine ⟨z, q1, q2, fun e => ?_, g2⟩
    subst e
    rw [c.irr g] at g2; cases g2
  · exact ⟨y, h1, hy, h3, g1⟩
/-- nothing can be struck behind it -/
def Closed (b : Bd) (m : List Nat) : Prop := ∀ x, x < b.hi + b.wi → x ∉ m → b.canF m x = false
theorem Comes.within (g : b.Good) (c : Comes b l) (c2 : Comes b m) (h : Closed b m) : ∀ x ∈ l, x ∈ m := by
  induction c with
  | nil => intro x q; simp at q
  | @step l l' x _ hx hxl hc hm ih =>
    intro y hy
    rcases (hm y).mp hy with q | rfl
    · exact ih y q
    · by_cases q : y ∈ m
      · exact q
      · have := c2.later g ih q hc
        rw [h y hx q] at this; cases this
theorem Comes.uniq (g : b.Good) (c : Comes b l) (h : Closed b l) (c2 : Comes b m) (h2 : Closed b m) (x : Nat) : x ∈ l ↔ x ∈ m := ⟨c.within g c2 h2 x, c2.within g c h x⟩
theorem Comes.congr (c : Comes b l) (s : ∀ x, x ∈ m ↔ x ∈ l) : Comes b m := by
  cases c with
  | nil =>
    have : m = [] := List.eq_nil_iff_forall_not_mem.mpr fun x h => by have := (s x).mp h; simp at this
    subst this; exact .nil
  | step c hx hxl hc hm => exact .step c hx hxl hc fun y => (s y).trans (hm y)
theorem Comes.lt (c : Comes b l) : ∀ x ∈ l, x < b.hi + b.wi := by
  induction c with
  | nil => intro x h; simp at h
  | step c hx hxl hc hm ih =>
    intro y hy
    rcases (hm y).mp hy with q | rfl
    · exact ih y q
    · exact hx
/-- many at once -/
theorem Comes.more (g : b.Good) (c : Comes b l) : ∀ (s : List Nat), (∀ x ∈ s, x < b.hi + b.wi ∧ b.canF l x = true) → Comes b (l ++ s) := by
  have key : ∀ (s m : List Nat), Comes b m → (∀ x ∈ l, x ∈ m) → (∀ x ∈ s, x < b.hi + b.wi ∧ b.canF l x = true) → Comes b (m ++ s) := fun s => by
    induction s with
    | nil => intro m cm _ _; rw [List.append_nil]; exact cm
    | cons x s ih =>
      intro m cm sub h
      have e : m ++ x :: s = (m ++ [x]) ++ s := by simp
      rw [e]
      refine ih (m ++ [x]) ?_ (fun y hy => by simp [sub y hy]) fun y hy => h y (by simp [hy])
      by_cases hx : x ∈ m
      · exact cm.congr fun y => by simp; intro e; subst e; exact hx
      · obtain ⟨h1, h2⟩ := h x (by simp)
        exact .step cm h1 hx (cm.later g sub hx h2) fun y => by simp
  exact fun s => key s l c fun _ h => h
/-- the lot behind the rounds -/
def fin (b : Bd) : Nat → List Nat → List Nat
  | 0, l => l
  | k + 1, l => match b.ready l with
    | [] => l
    | x :: s => fin b k (srt (l ++ x :: s))
theorem ready_nil (h : b.ready l = []) : Closed b l := fun x hx hl => by
  cases q : b.canF l x with
  | false => rfl
  | true => have := (mem_ready (b := b) (l := l) (x := x)).mpr ⟨hx, hl, q⟩; rw [h] at this; simp at this
theorem lot_full (g : b.Good) (h : Lot b l) (hk : 12 ≤ l.length) (hx : x < b.hi + b.wi) : x ∈ l := by
  by_cases q : x ∈ l
  · exact q
  · have := (h.withl hx q).len12 g
    rw [wl_length] at this; omega
theorem fin_ok (g : b.Good) : ∀ (k : Nat) (l : List Nat), Lot b l → Comes b l → 12 ≤ l.length + k → Lot b (b.fin k l) ∧ Comes b (b.fin k l) ∧ Closed b (b.fin k l)
  | 0, l, hl, c, hk => ⟨hl, c, fun x hx h => absurd (lot_full g hl (by omega) hx) h⟩
  | k + 1, l, hl, c, hk => by
    rw [fin]
    cases h : b.ready l with
    | nil => exact ⟨hl, c, ready_nil h⟩
    | cons x s =>
      have hrd := hl.rd
      rw [h] at hrd
      refine fin_ok g k _ hrd ((c.more g (x :: s) fun y hy => ?_).congr fun y => mem_srt) (by rw [srt_length]; simp; omega)
      rw [← h] at hy
      exact ⟨(mem_ready.mp hy).1, (mem_ready.mp hy).2.2⟩
theorem clo_ok (g : b.Good) (ws : List Nat) (hw : ∀ x ∈ ws, x < b.hi + b.wi) : ∀ (k : Nat) (l o : List Nat), Lot b l → Comes b l → (∀ x, x ∈ o ↔ x ∈ l) → o.Nodup → 12 ≤ l.length + k → Comes b (b.clo ws k l o) ∧ (b.clo ws k l o).Nodup ∧ ∀ x ∈ ws, x ∉ b.clo ws k l o → b.canF (b.clo ws k l o) x = false
  | 0, l, o, hl, c, ho, hn, hk => ⟨c.congr ho, hn, fun x hx h => absurd ((ho x).mpr (lot_full g hl (by omega) (hw x hx))) h⟩
  | k + 1, l, o, hl, c, ho, hn, hk => by
    rw [clo]
    cases h : ws.filter fun x => !decide (x ∈ l) && b.canF l x with
    | nil =>
      refine ⟨c.congr ho, hn, fun x hx hxo => ?_⟩
      show b.canF o x = false
      rw [canF_congr ho]
      have := List.filter_eq_nil_iff.mp h x hx
      have hxl : x ∉ l := fun q => hxo ((ho x).mpr q)
      simpa [hxl] using this
    | cons x s =>
      have hx : x ∈ ws.filter fun x => !decide (x ∈ l) && b.canF l x := by rw [h]; simp
      simp only [List.mem_filter, Bool.and_eq_true, Bool.not_eq_true', decide_eq_false_iff_not] at hx
      obtain ⟨hx1, hx2, hx3⟩ := hx
      exact clo_ok g ws hw k _ _ (hl.withl (hw x hx1) hx2) (.step c (hw x hx1) hx2 hx3 fun y => mem_wl) (fun y => by simp [mem_wl, ho y]) (List.nodup_append.mpr ⟨hn, by simp, fun a ha c hc e => by simp at hc; subst hc; subst e; exact hx2 ((ho _).mp ha)⟩) (by rw [wl_length]; omega)
theorem closure_ok (g : b.Good) (ws : List Nat) (hw : ∀ x ∈ ws, x < b.hi + b.wi) : Comes b (b.closure ws) ∧ (b.closure ws).Nodup ∧ ∀ x ∈ ws, x ∉ b.closure ws → b.canF (b.closure ws) x = false :=
  clo_ok g ws hw 12 [] [] (Lot.nil b) .nil (fun _ => Iff.rfl) List.nodup_nil (by simp)
theorem last_ok (g : b.Good) : Comes b b.last ∧ Closed b b.last ∧ Lot b b.last := by
  obtain ⟨h1, h2, h3⟩ := closure_ok g b.lns fun x hx => mem_lns.mp hx
  have e : ∀ x, x ∈ b.last ↔ x ∈ b.closure b.lns := fun x => mem_srt
  refine ⟨h1.congr e, fun x hx hl => ?_, ⟨(srt_perm _).nodup_iff.mpr h2, fun x hx => h1.lt x ((e x).mp hx)⟩⟩
  rw [canF_congr e]
  exact h3 x (mem_lns.mpr hx) fun q => hl ((e x).mpr q)
theorem mem_last_fin (g : b.Good) (x : Nat) : x ∈ b.last ↔ x ∈ b.fin 12 [] := by
  obtain ⟨_, c, h⟩ := fin_ok g 12 [] (Lot.nil b) .nil (by simp)
  obtain ⟨c2, h2, _⟩ := last_ok g
  exact c2.uniq g h2 c h x
end
end Bd
end L2.Z

namespace L2.Z
open PySem
section
variable {α β : Type} [DecidableEq α]
def aGet (ps : List (α × β)) (a : α) : Option β := (ps.find? fun p => decide (p.1 = a)).map (·.2)
def aPut (ps : List (α × β)) (a : α) (b : β) : List (α × β) := if ps.any (fun p => decide (p.1 = a)) then ps.map (fun p => if p.1 = a then (p.1, b) else p) else ps ++ [(a, b)]
/-- how keys are written -/
structure KEnc (ek : α → PyData) : Prop where
  eq : ∀ a b, keyEq (ek a) (ek b) = decide (a = b)
  kind : (∀ a, isK (ek a) = true) ∨ ∀ a, isT (ek a) = true
abbrev eKV (ek : α → PyData) (ev : β → PyData) (p : α × β) : PyData × PyData := (ek p.1, ev p.2)
abbrev eD (ek : α → PyData) (ev : β → PyData) (ps : List (α × β)) : PyData := .dict (ps.map (eKV ek ev))
variable {ek : α → PyData} {ev : β → PyData}
theorem KEnc.ok (h : KEnc ek) (ps : List (α × β)) (a : α) : keyOk (ps.map (eKV ek ev)) (ek a) = true := by
  cases ps with
  | nil =>
    simp only [List.map_nil, keyOk, Bool.or_eq_true]
    rcases h.kind with z | z
    · exact .inl (z a)
    · exact .inr (z a)
  | cons p ps =>
    simp only [List.map_cons, keyOk, Bool.or_eq_true, Bool.and_eq_true]
    rcases h.kind with z | z
    · exact .inl ⟨z a, z _⟩
    · exact .inr ⟨z a, z _⟩
theorem KEnc.find (h : KEnc ek) (a : α) : ∀ ps : List (α × β), dFind (ps.map (eKV ek ev)) (ek a) = (aGet ps a).map ev
  | [] => rfl
  | p :: ps => by
    have ih := KEnc.find h a ps
    unfold dFind aGet at ih ⊢
    rw [List.map_cons, List.find?_cons, List.find?_cons]
    rw [show keyEq (eKV ek ev p).1 (ek a) = decide (p.1 = a) from h.eq _ _]
    by_cases z : p.1 = a
    · simp [z]
    · simp only [z, decide_false]; exact ih
theorem dGetP_enc (h : KEnc ek) (ps : List (α × β)) (a : α) : dGetP (ps.map (eKV ek ev)) (ek a) = some ((aGet ps a).map ev) := by
  unfold dGetP
  rw [if_pos (h.ok ps a), h.find]
theorem dPutP_enc (h : KEnc ek) (ps : List (α × β)) (a : α) (b : β) (hl : ps.length < sizeLine) : dPutP (ps.map (eKV ek ev)) (ek a) (ev b) = some ((aPut ps a b).map (eKV ek ev)) := by
  unfold dPutP
  rw [if_pos ⟨h.ok ps a, by rw [List.length_map]; exact hl⟩]
  congr 1
  unfold dPut aPut
  have e : (ps.map (eKV ek ev)).any (fun p => keyEq p.1 (ek a)) = ps.any fun p => decide (p.1 = a) := by
    rw [List.any_map]
    congr 1
    funext p
    exact h.eq _ _
  rw [e]
  split
  · rw [List.map_map, List.map_map]
    refine List.map_congr_left fun p _ => ?_
    simp only [Function.comp]
    rw [show keyEq (eKV ek ev p).1 (ek a) = decide (p.1 = a) from h.eq _ _]
    by_cases z : p.1 = a <;> simp [z, eKV]
  · simp
theorem aGet_put (ps : List (α × β)) (a : α) (b : β) (c : α) : aGet (aPut ps a b) c = if c = a then some b else aGet ps c := by
  unfold aPut
  split
  · rename_i h
    have : ∀ ps : List (α × β), aGet (ps.map (fun p => if p.1 = a then (p.1, b) else p)) c = if c = a ∧ ps.any (fun p => decide (p.1 = a)) = true then some b else aGet ps c := by
      intro ps
      induction ps with
      | nil => simp [aGet]
      | cons p ps ih =>
        unfold aGet at ih ⊢
        rw [List.map_cons, List.find?_cons, List.find?_cons]
        by_cases z : p.1 = a
        · by_cases y : c = a
          · subst y; simp [z]
          · have : ¬ a = c := fun e => y e.symm
            simp only [z, if_true, this, decide_false, y, false_and, if_false] at ih ⊢
            exact ih
        · by_cases y : c = a
          · subst y
            simp only [z, if_false, decide_false, List.any_cons, Bool.false_or, true_and] at ih ⊢
            exact ih
          · simp only [z, if_false, y, false_and] at ih ⊢
            by_cases w : p.1 = c
            · simp [w]
            · simp only [w, decide_false]; exact ih
    rw [this, h]
    simp
  · rename_i h
    have hn : aGet ps a = none := by
      unfold aGet
      rw [Option.map_eq_none_iff, List.find?_eq_none]
      intro p hp z
      exact h (List.any_eq_true.mpr ⟨p, hp, z⟩)
    have e : aGet (ps ++ [(a, b)]) c = (aGet ps c).or (if a = c then some b else none) := by
      unfold aGet
      rw [List.find?_append]
      cases List.find? (fun p => decide (p.1 = c)) ps with
      | some q => simp
      | none =>
        by_cases z : a = c
        · simp [z]
        · simp [z]
    rw [e]
    by_cases z : c = a
    · subst z; simp [hn]
    · have z' : ¬ a = c := fun e => z e.symm
      simp [z, z']
theorem aPut_length (ps : List (α × β)) (a : α) (b : β) : (aPut ps a b).length ≤ ps.length + 1 := by
  unfold aPut
  split <;> simp
end
theorem kEnc_int : KEnc PyData.int := ⟨fun a b => by simp [keyEq, kEq], .inl fun a => rfl⟩
theorem kEnc_eI : KEnc eI := ⟨fun a b => by simp [keyEq, kEq, eI]; omega, .inl fun a => rfl⟩
theorem kEnc_eT : KEnc eT := by
  have h : ∀ a b : List Nat, ksEq (a.map eI) (b.map eI) = decide (a = b) := by
    intro a
    induction a with
    | nil => intro b; cases b <;> simp [ksEq]
    | cons x a ih =>
      intro b
      cases b with
      | nil => simp [ksEq]
      | cons y b =>
        simp only [List.map_cons, ksEq, ih]
        by_cases z : x = y <;> by_cases w : a = b <;> simp [kEq, eI, z, w] <;> omega
  refine ⟨fun a b => h a b, .inr fun a => ?_⟩
  have : ∀ a : List Nat, (ksOf (a.map eI)).isSome = true := by
    intro a
    induction a with
    | nil => rfl
    | cons x a ih =>
      obtain ⟨ks, e⟩ := Option.isSome_iff_exists.mp ih
      simp [ksOf, kOf, eI, e] at *
  exact this a
section
variable {α β : Type} [DecidableEq α] {ek : α → PyData} {ev : β → PyData} (h : KEnc ek) (ps : List (α × β)) (a : α)
include h
theorem idx_D {b : β} (e : aGet ps a = some b) : pIdx (eD ek ev ps) (ek a) = some (false, ev b) := by
  have : pIdx (eD ek ev ps) (ek a) = (dGetP (ps.map (eKV ek ev)) (ek a)).bind fun o => o.bind fun d => some (false, d) := by
    cases ek a <;> rfl
  rw [this, dGetP_enc h, e]; rfl
theorem in_D : pIn (ek a) (eD ek ev ps) = some (false, .bool (aGet ps a).isSome) := by
  show (dGetP _ _).bind _ = _
  rw [dGetP_enc h]; simp
theorem notIn_D : pNotIn (ek a) (eD ek ev ps) = some (false, .bool (!(aGet ps a).isSome)) := by
  show (dGetP _ _).bind _ = _
  rw [dGetP_enc h]; simp
theorem get1_D : pGet (eD ek ev ps) [ek a] = some (false, ((aGet ps a).map ev).getD .none) := by
  show (dGetP _ _).bind _ = _
  rw [dGetP_enc h]; rfl
theorem get2_D {d : PyData} (hd : flat d = true) : pGet (eD ek ev ps) [ek a, d] = some (false, ((aGet ps a).map ev).getD d) := by
  show (if flat d = true then (dGetP _ _).bind _ else none) = _
  rw [if_pos hd, dGetP_enc h]; rfl
theorem set_D (b : β) (hl : ps.length < sizeLine) : setD (eD ek ev ps) (ek a) (ev b) = some (eD ek ev (aPut ps a b)) := by
  show (dPutP _ _ _).bind _ = _
  rw [dPutP_enc h _ _ _ hl]; rfl
end
theorem z_new0 {Φ : Fns} {bf : Nat → Option Nat} {M i : Nat} {ρ ρ' : Ev} (h : asg i (.own (.list [])) ρ = some ρ') : evS Φ bf M (.set i (.lst .nil)) ρ = some (.nx ρ') := by
  rw [z_set, z_lst, z_v0]
  show (asg i (.own (.list [])) ρ).bind (fun ρ => some (Out.nx ρ)) = _
  rw [h]; rfl
theorem z_iteT {Φ : Fns} {bf : Nat → Option Nat} {M : Nat} {c : X} {a b : Ss} {ρ ρ1 : Ev} {o : Option Out} (h : truth (ev Φ bf c) ρ = some (true, ρ1)) (k : evSs Φ bf M a ρ1 = o) : evS Φ bf M (.ite c a b) ρ = o := by
  simp only [evS, h, Option.bind_some, if_true]; exact k
theorem z_iteF {Φ : Fns} {bf : Nat → Option Nat} {M : Nat} {c : X} {a b : Ss} {ρ ρ1 : Ev} {o : Option Out} (h : truth (ev Φ bf c) ρ = some (false, ρ1)) (k : evSs Φ bf M b ρ1 = o) : evS Φ bf M (.ite c a b) ρ = o := by
  simp only [evS, h, Option.bind_some, Bool.false_eq_true, if_false]; exact k
theorem appD_one {l : List PyData} {e : PyData} (h : l.length + 1 ≤ sizeLine) : appD (.list l) [e] = some (.list (l ++ [e])) := if_pos h
theorem z_app1 {Φ : Fns} {bf : Nat → Option Nat} {M i : Nat} {e : X} {ρ ρ1 ρ' : Ev} {l : List PyData} {d : PyData} (h0 : conOf ρ i = some (.list l)) (h2 : valof (ev Φ bf e) ρ = some (d, ρ1)) (h1 : conOf ρ1 i = some (.list l)) (h3 : l.length + 1 ≤ sizeLine) (h4 : conSet ρ1 i (.list (l ++ [d])) = some ρ') : evS Φ bf M (.app i e) ρ = some (.nx ρ') := by
  simp only [evS, lstAt, h0, h1, h2, Option.bind_some, appD_one h3, h4]
theorem z_tupOf {Φ : Fns} {bf : Nat → Option Nat} {e : X} {ρ ρ1 : Ev} {ds : List PyData} (h : ev Φ bf e ρ = some (.new (.list ds), ρ1)) : valof (ev Φ bf (.op1 pTup e)) ρ = some (.tuple ds, ρ1) := by
  unfold valof
  rw [z_op1, h]; rfl
end L2.Z

namespace L2.Z
open PySem
section
variable (v : Nat → Int)
abbrev eKv (v : Nat → Int) (c : Nat) : PyData := .tuple [eI c, .int (v c)]
theorem pairsD_nat : ∀ cs : List Nat, pairsD (cs.map (eKv v)) = some (cs.map fun c => (eI c, PyData.int (v c)))
  | [] => rfl
  | c :: cs => by
    rw [List.map_cons, List.map_cons]
    unfold pairsD
    rw [pairsD_nat cs]; rfl
theorem dMerge_nat : ∀ (cs acc : List Nat), (acc ++ cs).Nodup → dMerge (acc.map fun c => (eI c, PyData.int (v c))) (cs.map fun c => (eI c, PyData.int (v c))) = (acc ++ cs).map fun c => (eI c, PyData.int (v c))
  | [], acc, _ => by simp [dMerge]
  | c :: cs, acc, h => by
    have e : dPut (acc.map fun c => (eI c, PyData.int (v c))) (eI c) (.int (v c)) = (acc ++ [c]).map fun c => (eI c, PyData.int (v c)) := by
      unfold dPut
      rw [if_neg]
      · simp
      · rw [List.any_map]
        intro q
        obtain ⟨a, ha, hb⟩ := List.any_eq_true.mp q
        have hb' : keyEq (eI a) (eI c) = true := hb
        rw [kEnc_eI.eq] at hb'
        have : a = c := of_decide_eq_true hb'
        subst this
        rw [List.nodup_append] at h
        exact h.2.2 _ ha _ (by simp) rfl
    have : (acc ++ [c]) ++ cs = acc ++ c :: cs := by simp
    have ih := dMerge_nat cs (acc ++ [c]) (by rw [this]; exact h)
    rw [this] at ih
    rw [← ih, ← e]
    rfl
abbrev eDn (v : Nat → Int) (cs : List Nat) : PyData := eD eI PyData.int (cs.map fun c => (c, v c))
theorem dictP_nat {cs : List Nat} (h : cs.Nodup) : pDictP (.list (cs.map (eKv v))) = some (true, eDn v cs) := by
  have := dMerge_nat v cs [] (by simpa using h)
  simp only [List.map_nil, List.nil_append] at this
  simp only [pDictP, pairsD_nat, Option.bind_some, this, eDn, eD, List.map_map]
  rfl
theorem aGet_nat {c : Nat} : ∀ {cs : List Nat}, c ∈ cs → aGet (cs.map fun c => (c, v c)) c = some (v c)
  | a :: cs, h => by
    unfold aGet
    rw [List.map_cons, List.find?_cons]
    by_cases e : a = c
    · subst e; simp
    · have ih := aGet_nat (cs := cs) (List.mem_of_ne_of_mem (fun z => e z.symm) h)
      unfold aGet at ih
      simp only [e, decide_false]
      exact ih
theorem idx_nat {cs : List Nat} {c : Nat} (h : c ∈ cs) : pIdx (eDn v cs) (eI c) = some (false, .int (v c)) := idx_D kEnc_eI _ _ (aGet_nat v h)
theorem maxV_nat {cs : List Nat} (h : cs ≠ []) : ∃ M, (∃ c ∈ cs, v c = M) ∧ (∀ c ∈ cs, v c ≤ M) ∧ pMaxV (eDn v cs) = some (false, .int M) := by
  cases cs with
  | nil => exact absurd rfl h
  | cons a cs =>
    have ok : isKs ((a :: cs).map fun c => (eI c, PyData.int (v c))) = true := by simp [isKs, isK, kOf]
    have e1 : intsOf (((a :: cs).map fun c => (eI c, PyData.int (v c))).map Prod.snd) = some ((a :: cs).map v) := by
      rw [List.map_map]; exact intsOf_map v (a :: cs)
    refine ⟨(cs.map v).foldl max (v a), ?_, ?_, ?_⟩
    · have := fmax_mem (cs.map v) (v a)
      rw [← List.map_cons] at this
      obtain ⟨c, h1, h2⟩ := List.mem_map.mp this
      exact ⟨c, h1, h2⟩
    · obtain ⟨l1, l2⟩ := fmax_le (cs.map v) (v a)
      intro c hc
      rcases List.mem_cons.mp hc with rfl | hc
      · exact l1
      · exact l2 _ (List.mem_map.mpr ⟨c, hc, rfl⟩)
    · have e2 : ((a :: cs).map fun c => (c, v c)).map (eKV eI PyData.int) = (a :: cs).map fun c => (eI c, PyData.int (v c)) := by rw [List.map_map]; rfl
      show pMaxV (.dict (((a :: cs).map fun c => (c, v c)).map (eKV eI PyData.int))) = _
      rw [e2]
      simp only [pMaxV, if_pos ok, e1, Option.bind_some]
      rfl
theorem sortK_nat {cs : List Nat} (h : cs ≠ []) (hs : cs.Pairwise (· ≤ ·)) : pSortK (eDn v cs) = some (true, eN cs) := by
  have e2 : ((cs.map fun c => (c, v c)).map (eKV eI PyData.int)).map Prod.fst = cs.map fun c => .int ((c : Int)) := by rw [List.map_map, List.map_map]; rfl
  have e3 : (cs.map fun c : Nat => (c : Int)) ≠ [] := by simpa using h
  have e4 : (cs.map fun c : Nat => (c : Int)).map PyData.int = cs.map eI := by rw [List.map_map]; rfl
  have e5 : (cs.map eI).mergeSort leD = cs.map eI := by
    have := List.map_mergeSort (r := fun a b : Nat => decide (a ≤ b)) (s := leD) (f := eI) (l := cs) (fun a _ b _ => by rw [leD_int]; simp)
    rw [← this]
    exact congrArg _ (srt_id hs)
  simp only [eDn, eD, pSortK, e2, intsOf_map, Option.bind_some, if_neg e3, e4, e5]
end
namespace Bd
variable {b : Bd} {l : List Nat} {x y : Nat}
theorem rowsL_sorted : (b.rowsL l).Pairwise (· < ·) := List.Pairwise.filter _ List.pairwise_lt_range
theorem colsL_sorted : (b.colsL l).Pairwise (· < ·) := List.Pairwise.filter _ List.pairwise_lt_range'
theorem cross_sorted : (b.cross l x).Pairwise (· < ·) := by
  unfold cross; split
  · exact colsL_sorted
  · exact rowsL_sorted
theorem cross_le : (b.cross l x).Pairwise (· ≤ ·) := cross_sorted.imp fun h => Nat.le_of_lt h
theorem cross_nodup : (b.cross l x).Nodup := cross_sorted.imp fun h => Nat.ne_of_lt h
/-- the best answers to x, of what is left -/
def ans (b : Bd) (l : List Nat) (x : Nat) : List Nat := (b.cross l x).filter fun c => (b.cross l x).all fun d => decide (b.num d x ≤ b.num c x)
theorem mem_ans : y ∈ b.ans l x ↔ y ∈ b.cross l x ∧ ∀ d ∈ b.cross l x, b.num d x ≤ b.num y x := by simp [ans]
/-- the best places -/
def bes (b : Bd) (l : List Nat) : List (Nat × Nat) := (b.rowsL l).flatMap fun x => ((b.colsL l).filter fun y => decide (x ∈ b.ans l y) && decide (y ∈ b.ans l x)).map fun y => (x, y)
theorem mem_bes {p : Nat × Nat} : p ∈ b.bes l ↔ (p.1 ∈ b.rowsL l ∧ p.2 ∈ b.colsL l) ∧ p.1 ∈ b.ans l p.2 ∧ p.2 ∈ b.ans l p.1 := by
  obtain ⟨u, v⟩ := p
  simp only [bes, List.mem_flatMap, List.mem_map, List.mem_filter, Bool.and_eq_true, decide_eq_true_eq, Prod.mk.injEq]
  constructor
  · rintro ⟨a, h1, c, ⟨h2, h3, h4⟩, rfl, rfl⟩; exact ⟨⟨h1, h2⟩, h3, h4⟩
  · rintro ⟨⟨h1, h2⟩, h3, h4⟩; exact ⟨u, h1, v, ⟨h2, h3, h4⟩, rfl, rfl⟩
/-- a best answer against a line left is no line that another one left is greater than -/
theorem ans_stays (hx : x ∈ b.cross l y) (h : y ∈ b.cross l x) (hm : ∀ d, d ∈ b.cross l y → b.num d y ≤ b.num x y) (hb : x < b.hi + b.wi) : b.canF l x = false := by
  cases h0 : b.canF l x with
  | false => rfl
  | true =>
    obtain ⟨z, hz, hzl, _, hg⟩ := canF_iff.mp h0
    obtain ⟨hs, hl⟩ := isG_iff.mp hg
    have h1 := hl y h
    have h2 : z ∈ b.cross l y := by
      rw [mem_cross] at hx ⊢
      exact ⟨hzl, by omega⟩
    have := hm z h2
    omega
theorem num_pair (g : b.Good) {r : List (Int × Int)} {p : Int × Int} (h1 : b[x]? = some r) (h2 : r[y]? = some p) : b.num x (b.hi + y) = p.1 ∧ b.num (b.hi + y) x = p.2 := by
  have hx : x < b.hi := (List.getElem?_eq_some_iff.mp h1).1
  unfold num
  rw [if_pos hx, if_neg (by omega), h1, show b.hi + y - b.hi = y by omega]
  simp [h2]
end Bd
end L2.Z

namespace L2.Z.K01
open PySem L2.Z
section
variable {b : Bd} (g : b.Good)
include g
/-- the place where row x and column y cross -/
theorem at_place {x y : Nat} (hx : x < b.hi) (h1 : b.hi ≤ y) (h2 : y < b.hi + b.wi) : ∃ r, atI (b.map eR) (x : Int) = some (eR r) ∧ atI (r.map eP) ((y : Int) - b.hi) = some (eP (b.num x y, b.num y x)) := by
  obtain ⟨r, p, q1, q2, q3⟩ := Bd.num_row g hx (y := y - b.hi) (by omega)
  obtain ⟨r', p', q1', q2', q3'⟩ := Bd.num_col g hx (y := y - b.hi) (by omega)
  rw [q1] at q1'; cases q1'
  rw [q2] at q2'; cases q2'
  rw [show y - b.hi + b.hi = y by omega] at q3 q3'
  refine ⟨r, ?_, ?_⟩
  · rw [at_nat (by rw [List.length_map]; exact hx), List.getElem?_map, q1]; rfl
  · rw [show (y : Int) - b.hi = ((y - b.hi : Nat) : Int) by omega, at_nat (by have := (List.getElem?_eq_some_iff.mp q2).1; simpa using this), List.getElem?_map, q2, q3, q3']; rfl
/-- a pair of lines -/
abbrev eQ (p : Nat × Nat) : PyData := .tuple [eI p.1, eI p.2]
end
end L2.Z.K01

namespace L2.Z.K01
open PySem L2.Z
section
variable {b : Bd} (g : b.Good)
include g
theorem r_lrows (n : Nat) (l : List Nat) : run (n + 1) f__law_rows [eB b, eT l] = some (eN (b.rowsL l), .none) := by
  have h6 := g.h6
  have e : gRange1 [.int (b.hi : Int)] = some ((List.range b.hi).map eI) := gRange1_nat (by omega)
  have e0 : pLen (.tuple (b.map eR)) = some (false, .int (b.hi : Int)) := len_B
  have e1 : ev (run n) bf c__law_rows_0 [.dat (eB b), .dat (eT l), .un] = some (.new (eN (b.rowsL l)), [.dat (eB b), .dat (eT l), .un]) := by
    refine (lc_eval eI (List.range b.hi) (fun x => !decide (x ∈ l)) eI (rs := [.val (.int b.hi)]) (ds := [.int b.hi]) [.dat (eB b), .dat (eT l), .un] ?_ ?_ e ?_ ?_ ?_).trans ?_
    · simp [slotsOf, conArg, truth, valof, esc, callArgs, callBack, escAll, asg, asgAll, evst, Tg.bind, getAll, Option.bind_some, Option.bind_none, e0]
    · simp [slotsOf, conArg, truth, valof, esc, callArgs, callBack, escAll, asg, asgAll, evst, Tg.bind, getAll, Option.bind_some, Option.bind_none]
    · simp [slotsOf, conArg, truth, valof, esc, callArgs, callBack, escAll, asg, asgAll, evst, Tg.bind, getAll, Option.bind_some, Option.bind_none, z_frr, z_lc, gSeq, frLoop, lcLoop, wipeE, backE, lockAll, unlockAll, lockR, unlockR, Out.mapM, pAll, boolsOf]
    · intro x _
      by_cases h : x ∈ l <;> simp [slotsOf, conArg, truth, valof, esc, callArgs, callBack, escAll, asg, asgAll, evst, Tg.bind, getAll, Option.bind_some, Option.bind_none, z_frr, z_lc, gSeq, frLoop, lcLoop, wipeE, backE, lockAll, unlockAll, lockR, unlockR, Out.mapM, pAll, boolsOf, h]
    · simp [slotsOf, conArg, truth, valof, esc, callArgs, callBack, escAll, asg, asgAll, evst, Tg.bind, getAll, Option.bind_some, Option.bind_none, z_frr, z_lc, gSeq, frLoop, lcLoop, wipeE, backE, lockAll, unlockAll, lockR, unlockR, Out.mapM, pAll, boolsOf]
    · simp [Bd.rowsL]
  simp [run__law_rows, callBody, b__law_rows, slotsOf, conArg, truth, valof, esc, callArgs, callBack, escAll, asg, asgAll, evst, Tg.bind, getAll, Option.bind_some, Option.bind_none, e1]
theorem len_B0 : ∃ r, atI (b.map eR) 0 = some (eR r) ∧ r.length = b.wi := by
  have h1 := g.h1
  obtain ⟨r0, hr0, hl0⟩ := Bd.rect_get g (x := 0) (by omega)
  refine ⟨r0, ?_, hl0⟩
  have := at_nat (xs := b.map eR) (k := 0) (by rw [List.length_map]; exact h1)
  rw [List.getElem?_map, hr0] at this
  simpa using this
theorem r_lcols (n : Nat) (l : List Nat) : run (n + 1) f__law_columns [eB b, eT l] = some (eN (b.colsL l), .none) := by
  have h6 := g.h6
  have w6 := g.w6
  obtain ⟨r0, a0, hl0⟩ := len_B0 g
  have e : gRange2 [.int (b.hi : Int), .int ((b.hi + b.wi : Nat) : Int)] = some ((List.range' b.hi b.wi).map eI) := by
    rw [gRange2_nat (by omega) (by omega)]
    rw [Nat.add_sub_cancel_left]
  have e0 : pLen (.tuple (b.map eR)) = some (false, .int (b.hi : Int)) := len_B
  have e2 : pLen (.tuple (r0.map eP)) = some (false, .int (b.wi : Int)) := by rw [p_lenT, List.length_map, hl0]
  have e1 : ev (run n) bf c__law_columns_0 [.dat (eB b), .dat (eT l), .un] = some (.new (eN (b.colsL l)), [.dat (eB b), .dat (eT l), .un]) := by
    refine (lc_eval eI (List.range' b.hi b.wi) (fun x => !decide (x ∈ l)) eI (rs := [.val (.int b.hi), .val (.int ((b.hi + b.wi : Nat) : Int))]) (ds := [.int b.hi, .int ((b.hi + b.wi : Nat) : Int)]) [.dat (eB b), .dat (eT l), .un] ?_ ?_ e ?_ ?_ ?_).trans ?_
    · simp [slotsOf, conArg, truth, valof, esc, callArgs, callBack, escAll, asg, asgAll, evst, Tg.bind, getAll, Option.bind_some, Option.bind_none, e0, a0, e2]
    · simp [slotsOf, conArg, truth, valof, esc, callArgs, callBack, escAll, asg, asgAll, evst, Tg.bind, getAll, Option.bind_some, Option.bind_none]
    · simp [slotsOf, conArg, truth, valof, esc, callArgs, callBack, escAll, asg, asgAll, evst, Tg.bind, getAll, Option.bind_some, Option.bind_none, z_frr, z_lc, gSeq, frLoop, lcLoop, wipeE, backE, lockAll, unlockAll, lockR, unlockR, Out.mapM, pAll, boolsOf]
    · intro x _
      by_cases h : x ∈ l <;> simp [slotsOf, conArg, truth, valof, esc, callArgs, callBack, escAll, asg, asgAll, evst, Tg.bind, getAll, Option.bind_some, Option.bind_none, z_frr, z_lc, gSeq, frLoop, lcLoop, wipeE, backE, lockAll, unlockAll, lockR, unlockR, Out.mapM, pAll, boolsOf, h]
    · simp [slotsOf, conArg, truth, valof, esc, callArgs, callBack, escAll, asg, asgAll, evst, Tg.bind, getAll, Option.bind_some, Option.bind_none, z_frr, z_lc, gSeq, frLoop, lcLoop, wipeE, backE, lockAll, unlockAll, lockR, unlockR, Out.mapM, pAll, boolsOf]
    · simp [Bd.colsL]
  simp [run__law_columns, callBody, b__law_columns, slotsOf, conArg, truth, valof, esc, callArgs, callBack, escAll, asg, asgAll, evst, Tg.bind, getAll, Option.bind_some, Option.bind_none, e1]
end
end L2.Z.K01

namespace L2.Z
open PySem
section
variable {Φ : Fns} {bf : Nat → Option Nat} {M : Nat}
theorem lcLoop_inv {α : Type} {own : List Nat} {t : Tg} {c : Ev → Option (Bool × Ev)} {e : Ev → Option (PyData × Ev)} {enc : α → PyData} (I : List PyData → Ev → Prop) :
    ∀ (xs : List α) (acc : List PyData) (ρ : Ev), I acc ρ → (∀ acc x ρ, x ∈ xs → I acc ρ → ∃ ρ2 ρ3 ρ4 d, t.bind (enc x) ρ = some ρ2 ∧ c ρ2 = some (true, ρ2) ∧ e ρ2 = some (d, ρ3) ∧ wipeE own ρ3 = some ρ4 ∧ I (acc ++ [d]) ρ4) →
      ∃ acc' ρ', lcLoop own t c e (xs.map enc) acc ρ = some (acc', ρ') ∧ acc'.length = acc.length + xs.length ∧ I acc' ρ'
  | [], acc, ρ, h, _ => ⟨acc, ρ, by simp [lcLoop], by simp, h⟩
  | x :: xs, acc, ρ, h, k => by
    obtain ⟨ρ2, ρ3, ρ4, d, e1, e2, e3, e4, h'⟩ := k acc x ρ (by simp) h
    obtain ⟨acc', ρ', w1, w2, w3⟩ := lcLoop_inv I xs (acc ++ [d]) ρ4 h' fun acc y ρ hy => k acc y ρ (by simp [hy])
    refine ⟨acc', ρ', ?_, by rw [w2]; simp; omega, w3⟩
    rw [List.map_cons, lcLoop]
    simp only [e1, e2, e3, e4, Option.bind_some]
    exact w1
/-- a comprehension whose items change the slots -/
theorem lc_inv {α : Type} (enc : α → PyData) (xs : List α) (I : List PyData → Ev → Prop) {e : X} {t : Tg} {g : List PyData → Option (List PyData)} {as : Xs} {c : X} {own : List Nat} {rs : List Res} {ds : List PyData} {ρ ρ0 ρ1 : Ev}
    (h1 : evs Φ bf as ρ = some (rs, ρ0)) (h2 : getAll ρ0 rs = some ds) (h3 : g ds = some (xs.map enc)) (h4 : wipeE own (lockAll rs ρ0) = some ρ1) (h0 : I [] ρ1)
    (h5 : ∀ acc x ρ, x ∈ xs → I acc ρ → ∃ ρ2 ρ3 ρ4 d, t.bind (enc x) ρ = some ρ2 ∧ truth (ev Φ bf c) ρ2 = some (true, ρ2) ∧ valof (ev Φ bf e) ρ2 = some (d, ρ3) ∧ wipeE own ρ3 = some ρ4 ∧ I (acc ++ [d]) ρ4) :
    ∃ acc ρ', acc.length = xs.length ∧ I acc ρ' ∧ ∀ ρ2, unlockAll rs ρ0 (backE (lockAll rs ρ0) own ρ') = some ρ2 → ev Φ bf (.lc e t g as c own) ρ = some (.new (.list acc), ρ2) := by
  obtain ⟨acc, ρ', w1, w2, w3⟩ := lcLoop_inv I xs [] ρ1 h0 h5
  refine ⟨acc, ρ', by simpa using w2, w3, fun ρ2 h6 => ?_⟩
  simp only [ev, h1, h2, h3, h4, w1, h6, Option.bind_some]
theorem callBody_ref {b : Ss} {np ns : Nat} {ds : List PyData} {d c : PyData} {ρ : Ev} (hl : ds.length = np)
    (h : evSs Φ bf M b (slotsOf ds (conArg ds (some 0)) (some 0) ++ List.replicate (ns - np) .un) = some (.rt d ρ)) (hc : ρ[0]? = some (.ref c)) : callBody Φ bf M b np ns (some 0) ds = some (d, c) := by
  unfold callBody
  rw [if_pos hl, h]
  simp only [outOf, hc]
end
theorem zeros (n : Nat) (h : n ≤ 1000) : pMulS (.list [.int 0]) (.int (n : Int)) = some (true, .list ((List.replicate n (0 : Int)).map .int)) := by
  have : rep (n : Int) [PyData.int 0] = (List.replicate n (0 : Int)).map .int := by rw [rep_one, List.map_replicate]
  simp only [pMulS]
  rw [if_pos ⟨by omega, by omega, by simp⟩, this]
theorem at_ints {l : List Int} {i : Nat} (h : i < l.length) : atI (l.map PyData.int) (i : Int) = some (.int l[i]) := by
  rw [at_nat (by simpa using h), List.getElem?_map, List.getElem?_eq_getElem h]; rfl
end L2.Z
namespace L2.Z
open PySem
theorem z_setN {Φ : Fns} {bf : Nat → Option Nat} {M i : Nat} {e : X} {ρ ρ1 ρ2 : Ev} {d : PyData} (h : ev Φ bf e ρ = some (.new d, ρ1)) (ha : asg i (.own d) ρ1 = some ρ2) : evS Φ bf M (.set i e) ρ = some (.nx ρ2) := by
  simp only [evS, h, Option.bind_some, stored, ha]
theorem z_setV {Φ : Fns} {bf : Nat → Option Nat} {M i : Nat} {e : X} {ρ ρ1 ρ2 : Ev} {d : PyData} (h : ev Φ bf e ρ = some (.val d, ρ1)) (ha : asg i (.dat d) ρ1 = some ρ2) : evS Φ bf M (.set i e) ρ = some (.nx ρ2) := by
  simp only [evS, h, Option.bind_some, stored, esc, ha]
end L2.Z

namespace L2.Z
open PySem
section
theorem dLt_irr (d : PyData) : PySem.W.dataLt d d = false := PyProof.Rows.lex_irrefl _
theorem dLt_tr {a b c : PyData} (h : PySem.W.dataLt a b = true) (h2 : PySem.W.dataLt b c = true) : PySem.W.dataLt a c = true := PyProof.Rows.lex_trans _ _ _ h h2
theorem maxD_top : ∀ (ds : List PyData) (d : PyData), ∀ y ∈ d :: ds, PySem.W.dataLt (PySem.W.maxD d ds) y = false
  | [], d, y, hy => by simp at hy; subst hy; exact dLt_irr _
  | e :: ds, d, y, hy => by
    have ih := maxD_top ds (if PySem.W.dataLt d e then e else d)
    show PySem.W.dataLt (PySem.W.maxD (if PySem.W.dataLt d e then e else d) ds) y = false
    have h0 := ih _ (by simp : (if PySem.W.dataLt d e then e else d) ∈ (if PySem.W.dataLt d e then e else d) :: ds)
    simp only [List.mem_cons] at hy
    cases hy with
    | inr hy => cases hy with
      | inr hy => exact ih y (by simp [hy])
      | inl hy =>
        subst hy
        by_cases c : PySem.W.dataLt d y = true
        · rw [if_pos c] at h0 ⊢; exact h0
        · rw [if_neg c] at h0 ⊢
          cases z : PySem.W.dataLt (PySem.W.maxD d ds) y with
          | false => rfl
          | true =>
            rcases PyProof.Rows.lex_negTrans _ (PySem.W.keyToks d) _ z with q | q
            · exact absurd (show PySem.W.dataLt (PySem.W.maxD d ds) d = true from q) (by rw [h0]; simp)
            · exact absurd q c
    | inl hy =>
      subst hy
      by_cases c : PySem.W.dataLt y e = true
      · rw [if_pos c] at h0 ⊢
        cases z : PySem.W.dataLt (PySem.W.maxD e ds) y with
        | false => rfl
        | true => have := dLt_tr z c; rw [h0] at this; cases this
      · rw [if_neg c] at h0 ⊢; exact h0
theorem minD_low : ∀ (ds : List PyData) (d : PyData), ∀ y ∈ d :: ds, PySem.W.dataLt y (PySem.W.minD d ds) = false
  | [], d, y, hy => by simp at hy; subst hy; exact dLt_irr _
  | e :: ds, d, y, hy => by
    have ih := minD_low ds (if PySem.W.dataLt e d then e else d)
    show PySem.W.dataLt y (PySem.W.minD (if PySem.W.dataLt e d then e else d) ds) = false
    have h0 := ih _ (by simp : (if PySem.W.dataLt e d then e else d) ∈ (if PySem.W.dataLt e d then e else d) :: ds)
    simp only [List.mem_cons] at hy
    cases hy with
    | inr hy => cases hy with
      | inr hy => exact ih y (by simp [hy])
      | inl hy =>
        subst hy
        by_cases c : PySem.W.dataLt y d = true
        · rw [if_pos c] at h0 ⊢; exact h0
        · rw [if_neg c] at h0 ⊢
          cases z : PySem.W.dataLt y (PySem.W.minD d ds) with
          | false => rfl
          | true =>
            rcases PyProof.Rows.lex_negTrans _ (PySem.W.keyToks d) _ z with q | q
            · exact absurd q c
            · exact absurd (show PySem.W.dataLt d (PySem.W.minD d ds) = true from q) (by rw [h0]; simp)
    | inl hy =>
      subst hy
      by_cases c : PySem.W.dataLt e y = true
      · rw [if_pos c] at h0 ⊢
        cases z : PySem.W.dataLt y (PySem.W.minD e ds) with
        | false => rfl
        | true => have := dLt_tr c z; rw [h0] at this; cases this
      · rw [if_neg c] at h0 ⊢; exact h0
end
section
variable {α : Type} {e : α → PyData} {k : Nat}
/-- data that compare with one another -/
structure EncLt (e : α → PyData) : Prop where
  like : ∀ a b, PySem.W.alike (e a) (e b) = true
  some : ∀ a, notNone (e a) = true
theorem okMM_enc [DecidableEq α] (h : EncOk e k) (hk : k < 60) (h2 : EncLt e) (xs : List α) : okMM (xs.map e) = true := by
  unfold okMM
  simp only [Bool.and_eq_true, List.all_eq_true, List.mem_map, decide_eq_true_eq]
  refine ⟨⟨⟨?_, ?_⟩, plainAll_map h xs⟩, Nat.le_trans (depthAll_map h xs) (by omega)⟩
  · rintro _ ⟨a, _, rfl⟩ _ ⟨b, _, rfl⟩; exact h2.like a b
  · rintro _ ⟨a, _, rfl⟩; exact h2.some a
theorem maxS_enc [DecidableEq α] (h : EncOk e k) (hk : k < 60) (h2 : EncLt e) {xs : List α} (hne : xs ≠ []) :
    ∃ m ∈ xs, (∀ y ∈ xs, PySem.W.dataLt (e m) (e y) = false) ∧ pMaxS (.list (xs.map e)) = some (false, e m) ∧ pMaxS (.tuple (xs.map e)) = some (false, e m) := by
  cases xs with
  | nil => exact absurd rfl hne
  | cons a xs =>
    have ok := okMM_enc h hk h2 (a :: xs)
    have mem := maxD_mem (e a) (xs.map e)
    have top := maxD_top (xs.map e) (e a)
    rw [← List.map_cons] at mem top
    obtain ⟨m, hm, e1⟩ := List.mem_map.mp mem
    rw [List.map_cons] at ok ⊢
    refine ⟨m, hm, fun y hy => ?_, by simp only [pMaxS, itemsOf, if_pos ok, e1], by simp only [pMaxS, itemsOf, if_pos ok, e1]⟩
    rw [e1]; exact top _ (List.mem_map.mpr ⟨y, hy, rfl⟩)
theorem minS_enc [DecidableEq α] (h : EncOk e k) (hk : k < 60) (h2 : EncLt e) {xs : List α} (hne : xs ≠ []) :
    ∃ m ∈ xs, (∀ y ∈ xs, PySem.W.dataLt (e y) (e m) = false) ∧ pMinS (.list (xs.map e)) = some (false, e m) ∧ pMinS (.tuple (xs.map e)) = some (false, e m) := by
  cases xs with
  | nil => exact absurd rfl hne
  | cons a xs =>
    have ok := okMM_enc h hk h2 (a :: xs)
    have mem := minD_mem (e a) (xs.map e)
    have top := minD_low (xs.map e) (e a)
    rw [← List.map_cons] at mem top
    obtain ⟨m, hm, e1⟩ := List.mem_map.mp mem
    rw [List.map_cons] at ok ⊢
    refine ⟨m, hm, fun y hy => ?_, by simp only [pMinS, itemsOf, if_pos ok, e1], by simp only [pMinS, itemsOf, if_pos ok, e1]⟩
    rw [e1]; exact top _ (List.mem_map.mpr ⟨y, hy, rfl⟩)
theorem index_enc [DecidableEq α] (h : EncOk e k) (hk : k ≤ 60) {xs : List α} {a : α} (ha : a ∈ xs) : pIndexM (.list (xs.map e)) [e a] = some (false, .int ((xs.idxOf a : Nat) : Int)) := by
  have ok : okFind (e a) (xs.map e) = true := okFind_iff.mpr ⟨h.plain a, plainAll_map h xs, by have := h.depth a; omega⟩
  have : ∀ l : List α, a ∈ l → (l.map e).findIdx? (fun y => PyData.eqv y (e a)) = some (l.idxOf a) := by
    intro l
    induction l with
    | nil => intro h; cases h
    | cons b l ih =>
      intro hm
      rw [List.map_cons, List.findIdx?_cons, h.eqv, List.idxOf_cons]
      by_cases c : b = a
      · subst c; simp
      · have hl : a ∈ l := by
          rcases List.mem_cons.mp hm with z | z
          · exact absurd z.symm c
          · exact z
        have c' : (b == a) = false := by simpa using c
        simp [c, c', ih hl]
  simp only [pIndexM, pIndex, if_pos ok, this xs ha, Option.bind_some]
end
abbrev e2 (p : Int × Int) : PyData := .tuple [.int p.1, .int p.2]
abbrev e3 (p : Int × Int × Int) : PyData := .tuple [.int p.1, .int p.2.1, .int p.2.2]
theorem ok_e2 : EncOk e2 1 := EncOk.int.pair EncOk.int
theorem ok_e3 : EncOk e3 1 := by
  refine ⟨fun p => by simp [PyData.plain, PyData.plainAll], fun p => by simp [PyData.depth, PyData.depthAll], fun p q => ?_⟩
  obtain ⟨a, b, c⟩ := p
  obtain ⟨a', b', c'⟩ := q
  simp only [PyData.eqv, PyData.eqvAll]
  by_cases h1 : a = a' <;> by_cases h2 : b = b' <;> by_cases h3 : c = c' <;> simp [h1, h2, h3]
theorem lt_e2 : EncLt e2 := ⟨fun a b => by simp [PySem.W.alike, PySem.W.alikeAll], fun a => rfl⟩
theorem lt_e3 : EncLt e3 := ⟨fun a b => by simp [PySem.W.alike, PySem.W.alikeAll], fun a => rfl⟩
theorem dLt_e2 (p q : Int × Int) : PySem.W.dataLt (e2 p) (e2 q) = decide (p.1 < q.1 ∨ (p.1 = q.1 ∧ p.2 < q.2)) := PySem.W.dataLt_ii _ _ _ _
theorem dLt_e3 (p q : Int × Int × Int) : PySem.W.dataLt (e3 p) (e3 q) = decide (p.1 < q.1 ∨ (p.1 = q.1 ∧ (p.2.1 < q.2.1 ∨ (p.2.1 = q.2.1 ∧ p.2.2 < q.2.2)))) := by
  obtain ⟨a, b, c⟩ := p
  obtain ⟨a', b', c'⟩ := q
  show PySem.W.dataLt (.tuple [.int a, .int b, .int c]) (.tuple [.int a', .int b', .int c']) = _
  rw [PySem.W.dataLt_tuple, PySem.W.dataLt_cons (by simp [PySem.W.alike]), PySem.W.dataLt_cons (by simp [PySem.W.alike]), PySem.W.dataLt_cons (by simp [PySem.W.alike]), PySem.W.dataLt_int, PySem.W.dataLt_int, PySem.W.dataLt_int]
  have e : PyProof.Rows.lexLt PyProof.Rows.itemOrd (PySem.W.keyToksAll []) (PySem.W.keyToksAll []) = false := PyProof.Rows.lex_irrefl _
  rw [e]
  simp only [PyData.eqv, beq_iff_eq]
  by_cases h1 : a = a' <;> by_cases h2 : b = b' <;> by_cases h3 : c = c' <;> simp [h1, h2, h3]
end L2.Z
namespace L2.Z
theorem index_ex {α : Type} [DecidableEq α] {e : α → PySem.PyData} {k : Nat} (h : EncOk e k) (hk : k ≤ 60) {xs : List α} {a : α} (ha : a ∈ xs) : ∃ i : Nat, i < xs.length ∧ xs[i]? = some a ∧ pIndexM (.list (xs.map e)) [e a] = some (false, .int (i : Int)) := by
  have hl := List.idxOf_lt_length_of_mem ha
  exact ⟨xs.idxOf a, hl, by rw [List.getElem?_eq_getElem hl, List.getElem_idxOf], index_enc h hk ha⟩
end L2.Z

namespace L2.Z.K01
open PySem L2.Z
section
variable {b : Bd} (g : b.Good)
include g
end
end L2.Z.K01

namespace L2.Z
open PySem
theorem sortT_nat (l : List Nat) : pSortT (.tuple (l.map eI)) = some (true, .list ((srt l).map eI)) := by
  have e1 : intsOf (l.map eI) = some (l.map fun n : Nat => (n : Int)) := intsOf_map (fun n : Nat => (n : Int)) l
  have e4 : (l.map fun c : Nat => (c : Int)).map PyData.int = l.map eI := by rw [List.map_map]; rfl
  simp only [pSortT, e1, Option.bind_some, e4]
  rw [srt, List.map_mergeSort (r := fun a b : Nat => decide (a ≤ b)) (s := leD) (f := eI) (fun a _ b _ => by rw [leD_int]; simp)]
theorem addT_nat {l m : List Nat} (h : l.length + m.length ≤ 100000) : pAdd (.tuple (l.map eI)) (.tuple (m.map eI)) = some (false, .tuple ((l ++ m).map eI)) := by
  simp only [pAdd]
  rw [if_pos (by rw [sizeLine_eq]; simp; omega), List.map_append]
theorem addN_nat {l m : List Nat} (h : l.length + m.length ≤ 100000) : pAdd (.list (l.map eI)) (.list (m.map eI)) = some (true, .list ((l ++ m).map eI)) := by
  simp only [pAdd]
  rw [if_pos (by rw [sizeLine_eq]; simp; omega), List.map_append]
abbrev Asc (l : List Nat) : Prop := l.Pairwise (· < ·)
theorem Asc.nodup {l : List Nat} (h : Asc l) : l.Nodup := h.imp fun z => Nat.ne_of_lt z
theorem asc_srt {l : List Nat} (h : l.Nodup) : Asc (srt l) := by
  have h1 := srt_sorted l
  have h2 : (srt l).Nodup := (srt_perm l).nodup_iff.mpr h
  exact (h1.and h2).imp fun ⟨a, b⟩ => by omega
theorem asc_eq {l m : List Nat} (h : Asc l) (h2 : Asc m) (s : ∀ x, x ∈ l ↔ x ∈ m) : l = m := by
  have p : l.Perm m := (List.perm_ext_iff_of_nodup h.nodup h2.nodup).mpr s
  rw [← srt_id (h.imp fun z => Nat.le_of_lt z), ← srt_id (h2.imp fun z => Nat.le_of_lt z)]
  exact srt_congr p
namespace Bd
variable {b : Bd} {l : List Nat} {x y : Nat}
/-- a lot that leaves a row and a column -/
structure Pl (b : Bd) (l : List Nat) : Prop where
  asc : Asc l
  lt : ∀ x ∈ l, x < b.hi + b.wi
  row : ∃ x, x < b.hi ∧ x ∉ l
  col : ∃ x, b.hi ≤ x ∧ x < b.hi + b.wi ∧ x ∉ l
theorem Pl.nil (g : b.Good) : Pl b [] := ⟨List.Pairwise.nil, by simp, ⟨0, g.h1, by simp⟩, ⟨b.hi, Nat.le_refl _, by have := g.w1; omega, by simp⟩⟩
theorem Pl.lot (h : Pl b l) : Lot b l := ⟨h.asc.nodup, h.lt⟩
theorem Pl.len (g : b.Good) (h : Pl b l) : l.length ≤ 12 := h.lot.len12 g
theorem Pl.cross (h : Pl b l) (x : Nat) : b.cross l x ≠ [] := by
  obtain ⟨r, r1, r2⟩ := h.row
  obtain ⟨c, c1, c2, c3⟩ := h.col
  by_cases z : x < b.hi
  · intro w
    have : c ∈ b.cross l x := by rw [mem_cross]; exact ⟨c3, .inl ⟨z, c1, c2⟩⟩
    rw [w] at this; cases this
  · intro w
    have : r ∈ b.cross l x := by rw [mem_cross]; exact ⟨r2, .inr ⟨by omega, r1⟩⟩
    rw [w] at this; cases this
theorem Pl.of_comes (g : b.Good) (a : Asc l) (c : Comes b l) : Pl b l := ⟨a, c.lt, c.row g, c.col g⟩
/-- the lines left -/
def lft (b : Bd) (l : List Nat) : List Nat := b.rowsL l ++ b.colsL l
theorem lft_eq : b.lft l = b.lns.filter fun x => !decide (x ∈ l) := by
  unfold lft rowsL colsL lns
  rw [← List.filter_append]
  congr 1
  rw [List.range_eq_range', List.range_eq_range']
  have := List.range'_append_1 (s := 0) (m := b.hi) (n := b.wi)
  rwa [Nat.zero_add] at this
theorem mem_lft : x ∈ b.lft l ↔ x < b.hi + b.wi ∧ x ∉ l := by
  rw [lft_eq]; simp [mem_lns]
theorem lft_len (g : b.Good) : (b.lft l).length ≤ 12 := by
  rw [lft_eq]
  have h1 := List.length_filter_le (fun x => !decide (x ∈ l)) b.lns
  have := g.h6
  have := g.w6
  have h2 : b.lns.length = b.hi + b.wi := by simp [lns]
  omega
theorem ready_lft : b.ready l = (b.lft l).filter fun x => b.canF l x := by
  rw [lft_eq, List.filter_filter, ready]
  refine List.filter_congr fun x _ => ?_
  rw [Bool.and_comm]
/-- the lines left of x's side that are greater -/
def over (b : Bd) (l : List Nat) (x : Nat) : List Nat := (if x < b.hi then b.rowsL l else b.colsL l).filter fun y => (b.cross l x).all fun c => decide (b.num x c < b.num y c)
theorem over_nil (hc : b.cross l x ≠ []) : decide (b.over l x = []) = !b.canF l x := by
  have key : b.canF l x = true ↔ ∃ y, y ∈ b.over l x := by
    rw [canF_iff]
    constructor
    · rintro ⟨y, h1, h2, h3, h4⟩
      obtain ⟨s, w⟩ := isG_iff.mp h4
      refine ⟨y, List.mem_filter.mpr ⟨?_, List.all_eq_true.mpr fun c hc => decide_eq_true (w c hc)⟩⟩
      by_cases z : x < b.hi
      · rw [if_pos z]; exact mem_rowsL.mpr ⟨s.mp z, h2⟩
      · rw [if_neg z]; exact mem_colsL.mpr ⟨⟨by omega, h1⟩, h2⟩
    · rintro ⟨y, hy⟩
      obtain ⟨h1, h2⟩ := List.mem_filter.mp hy
      rw [List.all_eq_true] at h2
      have w : ∀ c ∈ b.cross l x, b.num x c < b.num y c := fun c hc => of_decide_eq_true (h2 c hc)
      have ne : y ≠ x := by
        rintro rfl
        cases hx : b.cross l y with
        | nil => exact hc hx
        | cons c cs =>
          have := w c (by rw [hx]; simp)
          omega
      by_cases z : x < b.hi
      · rw [if_pos z] at h1
        obtain ⟨a1, a2⟩ := mem_rowsL.mp h1
        exact ⟨y, by omega, a2, ne, isG_iff.mpr ⟨by omega, w⟩⟩
      · rw [if_neg z] at h1
        obtain ⟨⟨a0, a1⟩, a2⟩ := mem_colsL.mp h1
        exact ⟨y, a1, a2, ne, isG_iff.mpr ⟨by omega, w⟩⟩
  cases h : b.over l x with
  | nil =>
    have : ¬ b.canF l x = true := fun z => by
      obtain ⟨y, hy⟩ := key.mp z
      rw [h] at hy; cases hy
    simp [Bool.eq_false_iff.mpr this]
  | cons y ys =>
    have : b.canF l x = true := key.mpr ⟨y, by rw [h]; simp⟩
    simp [this]
/-- struck one by one, each time the last that can be -/
def endL (b : Bd) : Nat → List Nat → List Nat
  | 0, l => l
  | k + 1, l => match (b.ready l).getLast? with
    | none => endL b k l
    | some x => endL b k (wl l x)
theorem comes_wl (g : b.Good) (c : Comes b l) (h : x ∈ b.ready l) : Comes b (wl l x) := by
  obtain ⟨h1, h2, h3⟩ := mem_ready.mp h
  have := c.more g [x] (by simp; exact ⟨h1, h3⟩)
  exact this.congr fun y => by rw [mem_wl]; simp
theorem asc_wl (h : Asc l) (hx : x ∉ l) : Asc (wl l x) := asc_srt (by
  rw [List.nodup_append]
  exact ⟨h.nodup, by simp, fun a ha b hb => by simp at hb; subst hb; exact fun z => hx (z ▸ ha)⟩)
theorem endL_ok (g : b.Good) : ∀ (k : Nat) (l : List Nat), Asc l → Comes b l → Asc (b.endL k l) ∧ Comes b (b.endL k l) ∧ (b.ready (b.endL k l) = [] ∨ l.length + k ≤ (b.endL k l).length)
  | 0, l, a, c => ⟨a, c, .inr (Nat.le_refl _)⟩
  | k + 1, l, a, c => by
    rw [endL]
    cases h : (b.ready l).getLast? with
    | none =>
      have hr : b.ready l = [] := by simpa using h
      obtain ⟨h1, h2, h3⟩ := endL_ok g k l a c
      have hk : ∀ k, b.endL k l = l := by
        intro k
        induction k with
        | zero => rfl
        | succ k ih => rw [endL, h]; exact ih
      simp only
      rw [hk]
      exact ⟨a, c, .inl hr⟩
    | some x =>
      have hx : x ∈ b.ready l := List.mem_of_getLast? h
      obtain ⟨h1, h2, h3⟩ := endL_ok g k (wl l x) (asc_wl a (mem_ready.mp hx).2.1) (comes_wl g c hx)
      refine ⟨h1, h2, ?_⟩
      rw [wl_length] at h3
      rcases h3 with h3 | h3
      · exact .inl h3
      · exact .inr (by simp only; omega)
theorem endL_last (g : b.Good) : b.endL 12 [] = b.last := by
  obtain ⟨h1, h2, h3⟩ := endL_ok g 12 [] List.Pairwise.nil .nil
  obtain ⟨k1, k2, k3⟩ := last_ok g
  have cl : Closed b (b.endL 12 []) := by
    rcases h3 with h3 | h3
    · exact ready_nil h3
    · intro x hx hxl
      exact absurd (lot_full g ⟨h1.nodup, h2.lt⟩ (by simpa using h3) hx) hxl
  refine asc_eq h1 ?_ fun x => h2.uniq g cl k1 k2 x
  exact asc_srt (closure_ok g b.lns (fun x hx => mem_lns.mp hx)).2.1
end Bd
end L2.Z
namespace L2.Z
namespace Bd
variable {b : Bd} {l : List Nat}
theorem some_row (a : Asc l) (h : (l.filter fun x => decide (x < b.hi)).length ≠ b.hi) : ∃ x, x < b.hi ∧ x ∉ l := by
  refine Classical.byContradiction fun z => h ?_
  have p : (l.filter fun x => decide (x < b.hi)).Perm (List.range b.hi) := (List.perm_ext_iff_of_nodup (a.nodup.filter _) List.nodup_range).mpr fun x => by
    simp only [List.mem_filter, decide_eq_true_eq, List.mem_range]
    exact ⟨fun h => h.2, fun h => ⟨Classical.byContradiction fun w => z ⟨x, h, w⟩, h⟩⟩
  rw [p.length_eq, List.length_range]
theorem some_col (a : Asc l) (hl : ∀ x ∈ l, x < b.hi + b.wi) (h : l.length - (l.filter fun x => decide (x < b.hi)).length ≠ b.wi) : ∃ x, b.hi ≤ x ∧ x < b.hi + b.wi ∧ x ∉ l := by
  refine Classical.byContradiction fun z => h ?_
  have p : (l.filter fun x => !decide (x < b.hi)).Perm (List.range' b.hi b.wi) := (List.perm_ext_iff_of_nodup (a.nodup.filter _) List.nodup_range').mpr fun x => by
    simp only [List.mem_filter, Bool.not_eq_true', decide_eq_false_iff_not, List.mem_range'_1]
    exact ⟨fun h => ⟨by omega, hl x h.1⟩, fun h => ⟨Classical.byContradiction fun w => z ⟨x, h.1, h.2, w⟩, by omega⟩⟩
  have e : l.length = (l.filter fun x => decide (x < b.hi)).length + (l.filter fun x => !decide (x < b.hi)).length := by
    have : ∀ l : List Nat, l.length = (l.filter fun x => decide (x < b.hi)).length + (l.filter fun x => !decide (x < b.hi)).length := by
      intro l
      induction l with
      | nil => rfl
      | cons a l ih => by_cases z : a < b.hi <;> simp [z] <;> omega
    exact this l
  rw [p.length_eq, List.length_range'] at e
  omega
end Bd
end L2.Z

namespace L2.Z.K01
open PySem L2.Z
section
variable {b : Bd} (g : b.Good)
include g
theorem r_lnumbers (n : Nat) (l : List Nat) (x : Nat) (hx : x < b.hi + b.wi) : run (n + 2) f__law_numbers [eB b, eT l, eI x] = some (.list ((b.nums l x).map .int), .none) := by
  have e0 : pLen (.tuple (b.map eR)) = some (false, .int (b.hi : Int)) := len_B
  have lr := r_lrows g n l
  have lc := r_lcols g n l
  by_cases h : x < b.hi
  · have e2 : ev (run (n + 1)) bf c__law_numbers_1 [.dat (eB b), .dat (eT l), .dat (eI x), .un] = some (.new (.list ((b.nums l x).map .int)), [.dat (eB b), .dat (eT l), .dat (eI x), .un]) := by
      refine (lc_eval eI (b.colsL l) (fun _ => true) (fun c => .int (b.num x c)) (rs := [.val (eN (b.colsL l))]) (ds := [eN (b.colsL l)]) [.dat (eB b), .dat (eT l), .dat (eI x), .un] ?_ ?_ rfl ?_ ?_ ?_).trans ?_
      · simp [slotsOf, conArg, truth, valof, esc, callArgs, callBack, escAll, asg, asgAll, evst, Tg.bind, getAll, Option.bind_some, Option.bind_none, bf, lc]
      · simp [slotsOf, conArg, truth, valof, esc, callArgs, callBack, escAll, asg, asgAll, evst, Tg.bind, getAll, Option.bind_some, Option.bind_none]
      · simp [slotsOf, conArg, truth, valof, esc, callArgs, callBack, escAll, asg, asgAll, evst, Tg.bind, getAll, Option.bind_some, Option.bind_none, z_frr, z_lc, gSeq, frLoop, lcLoop, wipeE, backE, lockAll, unlockAll, lockR, unlockR, Out.mapM, pAll, boolsOf]
      · intro c hc
        obtain ⟨⟨h1, h2⟩, _⟩ := Bd.mem_colsL.mp hc
        obtain ⟨r, a1, a2⟩ := at_place g h h1 h2
        simp [slotsOf, conArg, truth, valof, esc, callArgs, callBack, escAll, asg, asgAll, evst, Tg.bind, getAll, Option.bind_some, Option.bind_none, z_frr, z_lc, gSeq, frLoop, lcLoop, wipeE, backE, lockAll, unlockAll, lockR, unlockR, Out.mapM, pAll, boolsOf, e0, a1, a2]
      · simp [slotsOf, conArg, truth, valof, esc, callArgs, callBack, escAll, asg, asgAll, evst, Tg.bind, getAll, Option.bind_some, Option.bind_none, z_frr, z_lc, gSeq, frLoop, lcLoop, wipeE, backE, lockAll, unlockAll, lockR, unlockR, Out.mapM, pAll, boolsOf]
      · rw [filter_true]
        simp [Bd.nums, Bd.cross, if_pos h]
    have e3 : ((x : Int) < b.hi) := by omega
    generalize PyData.list ((b.nums l x).map .int) = NL at *
    simp [run__law_numbers, callBody, b__law_numbers, slotsOf, conArg, truth, valof, esc, callArgs, callBack, escAll, asg, asgAll, evst, Tg.bind, getAll, Option.bind_some, Option.bind_none, bf, e0, e2, e3]
  · have e2 : ev (run (n + 1)) bf c__law_numbers_0 [.dat (eB b), .dat (eT l), .dat (eI x), .un] = some (.new (.list ((b.nums l x).map .int)), [.dat (eB b), .dat (eT l), .dat (eI x), .un]) := by
      refine (lc_eval eI (b.rowsL l) (fun _ => true) (fun c => .int (b.num x c)) (rs := [.val (eN (b.rowsL l))]) (ds := [eN (b.rowsL l)]) [.dat (eB b), .dat (eT l), .dat (eI x), .un] ?_ ?_ rfl ?_ ?_ ?_).trans ?_
      · simp [slotsOf, conArg, truth, valof, esc, callArgs, callBack, escAll, asg, asgAll, evst, Tg.bind, getAll, Option.bind_some, Option.bind_none, bf, lr]
      · simp [slotsOf, conArg, truth, valof, esc, callArgs, callBack, escAll, asg, asgAll, evst, Tg.bind, getAll, Option.bind_some, Option.bind_none]
      · simp [slotsOf, conArg, truth, valof, esc, callArgs, callBack, escAll, asg, asgAll, evst, Tg.bind, getAll, Option.bind_some, Option.bind_none, z_frr, z_lc, gSeq, frLoop, lcLoop, wipeE, backE, lockAll, unlockAll, lockR, unlockR, Out.mapM, pAll, boolsOf]
      · intro c hc
        obtain ⟨h1, _⟩ := Bd.mem_rowsL.mp hc
        obtain ⟨r, a1, a2⟩ := at_place g h1 (y := x) (by omega) hx
        simp [slotsOf, conArg, truth, valof, esc, callArgs, callBack, escAll, asg, asgAll, evst, Tg.bind, getAll, Option.bind_some, Option.bind_none, z_frr, z_lc, gSeq, frLoop, lcLoop, wipeE, backE, lockAll, unlockAll, lockR, unlockR, Out.mapM, pAll, boolsOf, e0, a1, a2]
      · simp [slotsOf, conArg, truth, valof, esc, callArgs, callBack, escAll, asg, asgAll, evst, Tg.bind, getAll, Option.bind_some, Option.bind_none, z_frr, z_lc, gSeq, frLoop, lcLoop, wipeE, backE, lockAll, unlockAll, lockR, unlockR, Out.mapM, pAll, boolsOf]
      · rw [filter_true]
        simp [Bd.nums, Bd.cross, if_neg h]
    have e3 : ¬ ((x : Int) < b.hi) := by omega
    generalize PyData.list ((b.nums l x).map .int) = NL at *
    simp [run__law_numbers, callBody, b__law_numbers, slotsOf, conArg, truth, valof, esc, callArgs, callBack, escAll, asg, asgAll, evst, Tg.bind, getAll, Option.bind_some, Option.bind_none, bf, e0, e2, e3]
omit g in
theorem filter_range_nil (n : Nat) (p : Nat → Bool) (q : Bool) (h : q = true ↔ ∀ i, i < n → p i = false) : decide ((List.range n).filter p = []) = q := by
  rw [Bool.eq_iff_iff, decide_eq_true_eq, List.filter_eq_nil_iff, h]
  constructor
  · intro w i hi; simpa using w i (List.mem_range.mpr hi)
  · intro w i hi; simp [w i (List.mem_range.mp hi)]
theorem c__law_over_0_ev (n : Nat) (l : List Nat) (x y : Nat) (hs : x < b.hi ↔ y < b.hi) (s0 s1 s2 s3 s5 s6 : Slot) :
    ∃ L : List Nat, decide (L = []) = (b.cross l x).all (fun c => decide (b.num x c < b.num y c)) ∧ ev (run n) bf c__law_over_0 [s0, s1, s2, s3, .dat (.list ((b.nums l x).map .int)), s5, s6, .dat (.list ((b.nums l y).map .int)), .un] =
      some (.new (eN L), [s0, s1, s2, s3, .dat (.list ((b.nums l x).map .int)), s5, s6, .dat (.list ((b.nums l y).map .int)), .un]) := by
  have hc : b.cross l y = b.cross l x := (Bd.cross_same hs).symm
  have lx : (b.nums l x).length = (b.cross l x).length := by simp [Bd.nums]
  have hl2 : (b.cross l x).length ≤ 6 := by
    have h6 := g.h6
    have w6 := g.w6
    unfold Bd.cross
    split
    · unfold Bd.colsL
      have := List.length_filter_le (fun x => !decide (x ∈ l)) (List.range' b.hi b.wi)
      simp at this; omega
    · unfold Bd.rowsL
      have := List.length_filter_le (fun x => !decide (x ∈ l)) (List.range b.hi)
      simp at this; omega
  refine ⟨(List.range (b.cross l x).length).filter fun i => decide ((b.nums l y)[i]?.getD 0 ≤ (b.nums l x)[i]?.getD 0), ?_, ?_⟩
  · refine filter_range_nil _ _ _ ?_
    rw [List.all_eq_true]
    constructor
    · intro w i hi
      have h1 : (b.cross l x)[i]? = some (b.cross l x)[i] := List.getElem?_eq_getElem hi
      have h2 := of_decide_eq_true (w _ (List.getElem_mem hi))
      rw [decide_eq_false_iff_not]
      unfold Bd.nums
      rw [hc, List.getElem?_map, List.getElem?_map, h1]
      simp only [Option.map_some, Option.getD_some]
      omega
    · intro w c hcm
      obtain ⟨i, hi, rfl⟩ := List.mem_iff_getElem.mp hcm
      have h1 : (b.cross l x)[i]? = some (b.cross l x)[i] := List.getElem?_eq_getElem hi
      have h2 := w i hi
      rw [decide_eq_false_iff_not] at h2
      unfold Bd.nums at h2
      rw [hc, List.getElem?_map, List.getElem?_map, h1] at h2
      simp only [Option.map_some, Option.getD_some] at h2
      exact decide_eq_true (by omega)
  · refine (lc_eval eI (List.range (b.cross l x).length) (fun i => decide ((b.nums l y)[i]?.getD 0 ≤ (b.nums l x)[i]?.getD 0)) eI (rs := [.val (.int ((b.cross l x).length : Int))]) (ds := [.int ((b.cross l x).length : Int)]) [s0, s1, s2, s3, .dat (.list ((b.nums l x).map .int)), s5, s6, .dat (.list ((b.nums l y).map .int)), .un] ?_ ?_ (gRange1_nat (by omega)) ?_ ?_ ?_).trans rfl
    · simp [slotsOf, conArg, truth, valof, esc, callArgs, callBack, escAll, asg, asgAll, evst, Tg.bind, getAll, Option.bind_some, Option.bind_none, lx]
    · simp [slotsOf, conArg, truth, valof, esc, callArgs, callBack, escAll, asg, asgAll, evst, Tg.bind, getAll, Option.bind_some, Option.bind_none]
    · simp [slotsOf, conArg, truth, valof, esc, callArgs, callBack, escAll, asg, asgAll, evst, Tg.bind, getAll, Option.bind_some, Option.bind_none, z_frr, z_lc, gSeq, frLoop, lcLoop, wipeE, backE, lockAll, unlockAll, lockR, unlockR, Out.mapM, pAll, boolsOf]
    · intro i hi
      have hi := List.mem_range.mp hi
      have i1 : i < (b.nums l x).length := by omega
      have i2 : i < (b.nums l y).length := by simp [Bd.nums, hc]; omega
      have a1 := at_ints i1
      have a2 := at_ints i2
      rw [List.getElem?_eq_getElem i1, List.getElem?_eq_getElem i2]
      simp only [Option.getD_some]
      by_cases z : (b.nums l y)[i] ≤ (b.nums l x)[i] <;> simp [slotsOf, conArg, truth, valof, esc, callArgs, callBack, escAll, asg, asgAll, evst, Tg.bind, getAll, Option.bind_some, Option.bind_none, z_frr, z_lc, gSeq, frLoop, lcLoop, wipeE, backE, lockAll, unlockAll, lockR, unlockR, Out.mapM, pAll, boolsOf, a1, a2, z]
    · simp [slotsOf, conArg, truth, valof, esc, callArgs, callBack, escAll, asg, asgAll, evst, Tg.bind, getAll, Option.bind_some, Option.bind_none, z_frr, z_lc, gSeq, frLoop, lcLoop, wipeE, backE, lockAll, unlockAll, lockR, unlockR, Out.mapM, pAll, boolsOf]
theorem r_lover (n : Nat) (l : List Nat) (x : Nat) (hx : x < b.hi + b.wi) : run (n + 3) f__law_over [eB b, eT l, eI x] = some (eN (b.over l x), .none) := by
  have e0 : pLen (.tuple (b.map eR)) = some (false, .int (b.hi : Int)) := len_B
  have lr := r_lrows g (n + 1) l
  have lc := r_lcols g (n + 1) l
  have nx := r_lnumbers g n l x hx
  obtain ⟨sd, hsd⟩ : ∃ sd, sd = if x < b.hi then b.rowsL l else b.colsL l := ⟨_, rfl⟩
  have hside : ∀ y ∈ sd, y < b.hi + b.wi ∧ (x < b.hi ↔ y < b.hi) := fun y hy => by
    rw [hsd] at hy
    split at hy
    · have := Bd.mem_rowsL.mp hy; omega
    · have := Bd.mem_colsL.mp hy; omega
  have hlen : sd.length ≤ 6 := by
    have h6 := g.h6
    have w6 := g.w6
    rw [hsd]
    split
    · unfold Bd.rowsL
      have := List.length_filter_le (fun x => !decide (x ∈ l)) (List.range b.hi)
      simp at this; omega
    · unfold Bd.colsL
      have := List.length_filter_le (fun x => !decide (x ∈ l)) (List.range' b.hi b.wi)
      simp at this; omega
  have s1 : evS (run (n + 2)) bf MM (.set 3 (.ite (.op2 pLt (.v 2) (.op1 pLen (.v 0))) (.call f__law_rows (.cons (.v 0) (.cons (.v 1) (.nil)))) (.call f__law_columns (.cons (.v 0) (.cons (.v 1) (.nil)))))) [.dat (eB b), .dat (eT l), .dat (eI x), .un, .un, .un, .un, .un, .un] = some (.nx [.dat (eB b), .dat (eT l), .dat (eI x), .dat (eN sd), .un, .un, .un, .un, .un]) := by
    rw [hsd]
    by_cases z : x < b.hi
    · have z' : (x : Int) < b.hi := by omega
      simp [slotsOf, conArg, truth, valof, esc, callArgs, callBack, escAll, asg, asgAll, evst, Tg.bind, getAll, Option.bind_some, Option.bind_none, bf, e0, z, z', lr, stored]
    · have z' : ¬ (x : Int) < b.hi := by omega
      simp [slotsOf, conArg, truth, valof, esc, callArgs, callBack, escAll, asg, asgAll, evst, Tg.bind, getAll, Option.bind_some, Option.bind_none, bf, e0, z, z', lc, stored]
  have s2 : evS (run (n + 2)) bf MM (.par [4, 5] (.cons (.call f__law_numbers (.cons (.v 0) (.cons (.v 1) (.cons (.v 2) (.nil))))) (.cons (.lst (.nil)) (.nil)))) [.dat (eB b), .dat (eT l), .dat (eI x), .dat (eN sd), .un, .un, .un, .un, .un] = some (.nx [.dat (eB b), .dat (eT l), .dat (eI x), .dat (eN sd), .dat (.list ((b.nums l x).map .int)), .own (.list []), .un, .un, .un]) := by
    generalize PyData.list ((b.nums l x).map .int) = NL at *
    simp [slotsOf, conArg, truth, valof, esc, callArgs, callBack, escAll, asg, asgAll, evst, Tg.bind, getAll, Option.bind_some, Option.bind_none, bf, nx, stored]
  have s3 : ∃ j6 j7, evS (run (n + 2)) bf MM w__law_over_0 [.dat (eB b), .dat (eT l), .dat (eI x), .dat (eN sd), .dat (.list ((b.nums l x).map .int)), .own (.list []), .un, .un, .un] = some (.nx [.dat (eB b), .dat (eT l), .dat (eI x), .dat (eN sd), .dat (.list ((b.nums l x).map .int)), .own (eN (b.over l x)), j6, j7, .un]) := by
    refine fr_eval eI sd (fun ys ρ => ∃ j6 j7, Jk j6 ∧ Jk j7 ∧ ρ = [.dat (eB b), .dat (eT l), .dat (eI x), .dat (eN sd), .dat (.list ((b.nums l x).map .int)), .own (eN (ys.filter fun y => (b.cross l x).all fun c => decide (b.num x c < b.num y c))), j6, j7, .un])
      (fun o => ∃ j6 j7, o = some (.nx [.dat (eB b), .dat (eT l), .dat (eI x), .dat (eN sd), .dat (.list ((b.nums l x).map .int)), .own (eN (b.over l x)), j6, j7, .un]))
      (rs := [.slot 3]) (ds := [eN sd]) (ρ0 := [.dat (eB b), .dat (eT l), .dat (eI x), .dat (eN sd), .dat (.list ((b.nums l x).map .int)), .own (.list []), .un, .un, .un]) ?_ ?_ rfl ?_ ?_ ?_
    · simp [slotsOf, conArg, truth, valof, esc, callArgs, callBack, escAll, asg, asgAll, evst, Tg.bind, getAll, Option.bind_some, Option.bind_none]
    · simp [slotsOf, conArg, truth, valof, esc, callArgs, callBack, escAll, asg, asgAll, evst, Tg.bind, getAll, Option.bind_some, Option.bind_none]
    · exact ⟨.un, .un, Jk.un, Jk.un, by simp [slotsOf, conArg, truth, valof, esc, callArgs, callBack, escAll, asg, asgAll, evst, Tg.bind, getAll, Option.bind_some, Option.bind_none, z_frr, z_lc, gSeq, frLoop, lcLoop, wipeE, backE, lockAll, unlockAll, lockR, unlockR, Out.mapM, pAll, boolsOf]⟩
    · rintro ys y zs _ e ⟨j6, j7, k6, k7, rfl⟩
      left
      have hy : y ∈ sd := by rw [e]; simp
      have hl : ys.length ≤ 6 := by have := congrArg List.length e; simp at this; omega
      obtain ⟨h1, h2⟩ := hside y hy
      have ny := r_lnumbers g n l y h1
      obtain ⟨L, hL, cv⟩ := c__law_over_0_ev g (n + 2) l x y h2 (.dat (eB b)) (.dat (eT l)) (.dat (eI x)) (.dat (eN sd)) (.own (eN (ys.filter fun y => (b.cross l x).all fun c => decide (b.num x c < b.num y c)))) (.dat (eI y))
      have q1 := eq_N0 L
      have hz : ((ys.filter fun y => (b.cross l x).all fun c => decide (b.num x c < b.num y c)).map eI).length + 1 ≤ sizeLine := by
        have := List.length_filter_le (fun y => (b.cross l x).all fun c => decide (b.num x c < b.num y c)) ys
        rw [sizeLine_eq]; simp; omega
      have hF : (ys ++ [y]).filter (fun y => (b.cross l x).all fun c => decide (b.num x c < b.num y c)) = (ys.filter fun y => (b.cross l x).all fun c => decide (b.num x c < b.num y c)) ++ (if decide (L = []) = true then [y] else []) := by
        rw [hL, List.filter_append]
        congr 1
        by_cases z : ((b.cross l x).all fun c => decide (b.num x c < b.num y c)) = true <;> simp [z]
      rw [hF]
      generalize (ys.filter fun y => (b.cross l x).all fun c => decide (b.num x c < b.num y c)) = FL at *
      generalize hNX : PyData.list ((b.nums l x).map .int) = NX at *
      generalize hNY : PyData.list ((b.nums l y).map .int) = NY at *
      refine ⟨[.dat (eB b), .dat (eT l), .dat (eI x), .dat (eN sd), .dat NX, .own (eN FL), .dat (eI y), j7, .un], [.dat (eB b), .dat (eT l), .dat (eI x), .dat (eN sd), .dat NX, .own (eN (FL ++ (if decide (L = []) = true then [y] else []))), .dat (eI y), .dat NY, .un], ?_, .inl ?_, ⟨_, _, Jk.dat _, Jk.dat _, rfl⟩⟩
      · rcases k6 with rfl | ⟨_, rfl⟩ | ⟨_, rfl⟩ <;> simp [slotsOf, conArg, truth, valof, esc, callArgs, callBack, escAll, asg, asgAll, evst, Tg.bind, getAll, Option.bind_some, Option.bind_none]
      · refine z_step _ (z_setV (d := NY) (ρ1 := [.dat (eB b), .dat (eT l), .dat (eI x), .dat (eN sd), .dat NX, .own (eN FL), .dat (eI y), j7, .un]) (by simp [slotsOf, conArg, truth, valof, esc, callArgs, callBack, escAll, asg, asgAll, evst, Tg.bind, getAll, Option.bind_some, Option.bind_none, bf, ny]) (k7.asg rfl)) ?_
        by_cases z : L = []
        · rw [decide_eq_true z] at q1 ⊢
          rw [if_pos rfl, show eN (FL ++ [y]) = .list (FL.map eI ++ [eI y]) by simp]
          exact z_step _ (z_iteT (ρ1 := [.dat (eB b), .dat (eT l), .dat (eI x), .dat (eN sd), .dat NX, .own (eN FL), .dat (eI y), .dat NY, .un]) (by simp [slotsOf, conArg, truth, valof, esc, callArgs, callBack, escAll, asg, asgAll, evst, Tg.bind, getAll, Option.bind_some, Option.bind_none, cv, q1]) (z_step _ (z_app1 (ρ1 := [.dat (eB b), .dat (eT l), .dat (eI x), .dat (eN sd), .dat NX, .own (eN FL), .dat (eI y), .dat NY, .un]) (d := eI y) rfl (by simp [slotsOf, conArg, truth, valof, esc, callArgs, callBack, escAll, asg, asgAll, evst, Tg.bind, getAll, Option.bind_some, Option.bind_none]) rfl hz rfl) z_n)) z_n
        · rw [decide_eq_false z] at q1 ⊢
          rw [if_neg (by simp), List.append_nil]
          exact z_step _ (z_iteF (ρ1 := [.dat (eB b), .dat (eT l), .dat (eI x), .dat (eN sd), .dat NX, .own (eN FL), .dat (eI y), .dat NY, .un]) (by simp [slotsOf, conArg, truth, valof, esc, callArgs, callBack, escAll, asg, asgAll, evst, Tg.bind, getAll, Option.bind_some, Option.bind_none, cv, q1]) z_n) z_n
    · rintro _ ⟨j6, j7, _, _, rfl⟩
      refine ⟨j6, j7, ?_⟩
      have : sd.filter (fun y => (b.cross l x).all fun c => decide (b.num x c < b.num y c)) = b.over l x := by unfold Bd.over; rw [hsd]
      rw [this]
      simp [slotsOf, conArg, truth, valof, esc, callArgs, callBack, escAll, asg, asgAll, evst, Tg.bind, getAll, Option.bind_some, Option.bind_none, z_frr, z_lc, gSeq, frLoop, lcLoop, wipeE, backE, lockAll, unlockAll, lockR, unlockR, Out.mapM, pAll, boolsOf]
  obtain ⟨j6, j7, s3⟩ := s3
  refine (run__law_over (n + 2) _).trans (callBody_rt rfl (ρ := [.dat (eB b), .dat (eT l), .dat (eI x), .dat (eN sd), .dat (.list ((b.nums l x).map .int)), .dat (eN (b.over l x)), j6, j7, .un]) ?_)
  refine z_step _ s1 (z_step _ s2 (z_step _ s3 ?_))
  simp [slotsOf, conArg, truth, valof, esc, callArgs, callBack, escAll, asg, asgAll, evst, Tg.bind, getAll, Option.bind_some, Option.bind_none]
theorem r_lready (n : Nat) (l : List Nat) (hl : Bd.Pl b l) : run (n + 4) f__law_ready [eB b, eT l] = some (eN (b.ready l), .none) := by
  have lr := r_lrows g (n + 2) l
  have lc := r_lcols g (n + 2) l
  have hlen := Bd.lft_len (l := l) g
  have ad := addN_nat (l := b.rowsL l) (m := b.colsL l) (by
    have : (b.rowsL l ++ b.colsL l).length ≤ 12 := hlen
    rw [List.length_append] at this; omega)
  have e1 : ev (run (n + 3)) bf c__law_ready_0 [.dat (eB b), .dat (eT l), .un] = some (.new (eN (b.ready l)), [.dat (eB b), .dat (eT l), .un]) := by
    refine (lc_eval eI (b.lft l) (fun x => b.canF l x) eI (rs := [.new (eN (b.lft l))]) (ds := [eN (b.lft l)]) [.dat (eB b), .dat (eT l), .un] ?_ ?_ rfl ?_ ?_ ?_).trans ?_
    · show evs _ _ _ _ = some ([.new (.list ((b.rowsL l ++ b.colsL l).map eI))], _)
      generalize (b.rowsL l ++ b.colsL l).map eI = AL at *
      simp [slotsOf, conArg, truth, valof, esc, callArgs, callBack, escAll, asg, asgAll, evst, Tg.bind, getAll, Option.bind_some, Option.bind_none, bf, lr, lc, ad, -p_add]
    · simp [slotsOf, conArg, truth, valof, esc, callArgs, callBack, escAll, asg, asgAll, evst, Tg.bind, getAll, Option.bind_some, Option.bind_none]
    · simp [slotsOf, conArg, truth, valof, esc, callArgs, callBack, escAll, asg, asgAll, evst, Tg.bind, getAll, Option.bind_some, Option.bind_none, z_frr, z_lc, gSeq, frLoop, lcLoop, wipeE, backE, lockAll, unlockAll, lockR, unlockR, Out.mapM, pAll, boolsOf]
    · intro x hx
      obtain ⟨h1, h2⟩ := Bd.mem_lft.mp hx
      have ov := r_lover g n l x h1
      have q1 := ne_N0 (b.over l x)
      rw [Bd.over_nil (hl.cross x)] at q1
      by_cases z : b.canF l x = true <;> simp [slotsOf, conArg, truth, valof, esc, callArgs, callBack, escAll, asg, asgAll, evst, Tg.bind, getAll, Option.bind_some, Option.bind_none, z_frr, z_lc, gSeq, frLoop, lcLoop, wipeE, backE, lockAll, unlockAll, lockR, unlockR, Out.mapM, pAll, boolsOf, bf, ov, q1, z]
    · simp [slotsOf, conArg, truth, valof, esc, callArgs, callBack, escAll, asg, asgAll, evst, Tg.bind, getAll, Option.bind_some, Option.bind_none, z_frr, z_lc, gSeq, frLoop, lcLoop, wipeE, backE, lockAll, unlockAll, lockR, unlockR, Out.mapM, pAll, boolsOf]
    · rw [← Bd.ready_lft]
  simp [run__law_ready, callBody, b__law_ready, slotsOf, conArg, truth, valof, esc, callArgs, callBack, escAll, asg, asgAll, evst, Tg.bind, getAll, Option.bind_some, Option.bind_none, e1]
omit g in
theorem r_lwith (n : Nat) (l : List Nat) (x : Nat) (hl : l.length ≤ 1000) : run (n + 1) f__law_with [eT l, eI x] = some (eT (Bd.wl l x), .none) := by
  have ad := addT_nat (l := l) (m := [x]) (by simp; omega)
  have so := sortT_nat (l ++ [x])
  generalize (l ++ [x]).map eI = AL at *
  have ad' : pAdd (.tuple (l.map eI)) (.tuple [.int (x : Int)]) = some (false, .tuple AL) := ad
  simp [run__law_with, callBody, b__law_with, slotsOf, conArg, truth, valof, esc, callArgs, callBack, escAll, asg, asgAll, evst, Tg.bind, getAll, Option.bind_some, Option.bind_none, ad', so, Bd.wl, -p_add]
omit g in
theorem last_N {l : List Nat} {x : Nat} (h : l.getLast? = some x) : atI (l.map eI) (-1) = some (eI x) := by
  obtain ⟨ys, rfl⟩ := List.getLast?_eq_some_iff.mp h
  unfold atI ixN
  rw [if_neg (by omega), if_pos (by simp; omega)]
  have e : (-1 + ((((ys ++ [x]).map eI).length : Nat) : Int)).toNat = ys.length := by simp; omega
  simp only [Option.bind_some, e]
  simp
end
end L2.Z.K01

namespace L2.Z.K01
open PySem L2.Z
abbrev rowD (ns : List Int) (i a b : Int) : PyData := .list [.list (ns.map .int), .int i, .int a, .int b]
theorem r_taken (n : Nat) (ns : List Int) (i a b m : Int) (hi : 0 ≤ i) (hm : 0 < m ∧ m ≤ 1000000) : ∃ x i' a' b' : Int, 0 ≤ i' ∧ 0 ≤ x ∧ x < m ∧ run (n + 1) f__law_taken [rowD ns i a b, .int m] = some (.int x, rowD ns i' a' b') := by
  have c1 : ∀ u, CDiv u m := fun u => ⟨by omega, by omega⟩
  have c2 : 0 < m := hm.1
  have c3 : MulOk a 48271 := .inl (.inr (by omega))
  have c4 : CPow 10 18 := ⟨by omega, by omega, by decide⟩
  have c5 : ∀ u, CDiv u 7 := fun u => ⟨by omega, by omega⟩
  have m1 : ∀ u : Int, 0 ≤ u % m ∧ u % m < m := fun u => ⟨Int.emod_nonneg _ (by omega), Int.emod_lt_of_pos _ c2⟩
  have c6 : (0 : Int) < 2147483647 := by decide
  by_cases z : 0 < b
  · refine ⟨b % m, i, a, b / m, hi, (m1 b).1, (m1 b).2, ?_⟩
    simp [run__law_taken, callBody, b__law_taken, slotsOf, conArg, truth, valof, esc, callArgs, callBack, escAll, asg, asgAll, evst, Tg.bind, getAll, Option.bind_some, Option.bind_none, outOf, conOf, conSet, setD, p_IC (c1 _), p_IC (C := fun _ j => 0 < j) c2, z, ixN]
  · by_cases y : (ns.length : Int) < i + 1
    · refine ⟨((a * 48271 + 11) % 2147483647 / 7) % m, i + 1, (a * 48271 + 11) % 2147483647, b, by omega, (m1 _).1, (m1 _).2, ?_⟩
      simp [run__law_taken, callBody, b__law_taken, slotsOf, conArg, truth, valof, esc, callArgs, callBack, escAll, asg, asgAll, evst, Tg.bind, getAll, Option.bind_some, Option.bind_none, outOf, conOf, conSet, setD, p_IC c3, p_IC (c5 _), p_IC (C := fun _ j => 0 < j) c2, p_IC (C := fun _ j => 0 < j) c6, z, y, ixN]
    · obtain ⟨k, hk⟩ : ∃ k : Nat, i = k := ⟨i.toNat, by omega⟩
      subst hk
      have hk : k < ns.length := by omega
      have e1 : atI (ns.map PyData.int) (k : Int) = some (.int ns[k]) := by
        rw [at_nat (by rw [List.length_map]; exact hk), List.getElem?_map, List.getElem?_eq_getElem hk]
        rfl
      by_cases w : 1000000000000000000 ≤ ns[k]
      · refine ⟨ns[k] % m, k + 1, (a * 48271 + ns[k] + 11) % 2147483647, ns[k] / m, by omega, (m1 _).1, (m1 _).2, ?_⟩
        simp [run__law_taken, callBody, b__law_taken, slotsOf, conArg, truth, valof, esc, callArgs, callBack, escAll, asg, asgAll, evst, Tg.bind, getAll, Option.bind_some, Option.bind_none, outOf, conOf, conSet, setD, p_IC c3, p_IC c4, p_IC (c1 _), p_IC (C := fun _ j => 0 < j) c2, p_IC (C := fun _ j => 0 < j) c6, z, y, w, e1, ixN]
      · refine ⟨ns[k] % m, k + 1, (a * 48271 + ns[k] + 11) % 2147483647, b, by omega, (m1 _).1, (m1 _).2, ?_⟩
        simp [run__law_taken, callBody, b__law_taken, slotsOf, conArg, truth, valof, esc, callArgs, callBack, escAll, asg, asgAll, evst, Tg.bind, getAll, Option.bind_some, Option.bind_none, outOf, conOf, conSet, setD, p_IC c3, p_IC c4, p_IC (c1 _), p_IC (C := fun _ j => 0 < j) c2, p_IC (C := fun _ j => 0 < j) c6, z, y, w, e1, ixN]
/-- the state of the draws -/
def Rw (R : PyData) : Prop := ∃ ns i a b, 0 ≤ i ∧ R = rowD ns i a b
theorem Rw.first (ns : List Int) (a : Int) : Rw (rowD ns 0 a 0) := ⟨ns, 0, a, 0, by omega, rfl⟩
theorem draw {R : PyData} (h : Rw R) (n : Nat) (m : Int) (hm : 0 < m ∧ m ≤ 1000000) : ∃ x R', Rw R' ∧ (0 ≤ x ∧ x < m) ∧ run (n + 1) f__law_taken [R, .int m] = some (.int x, R') := by
  obtain ⟨ns, i, a, b, hi, rfl⟩ := h
  obtain ⟨x, i', a', b', h1, h2, h3, h4⟩ := r_taken n ns i a b m hi hm
  exact ⟨x, _, ⟨ns, i', a', b', h1, rfl⟩, ⟨h2, h3⟩, h4⟩
theorem drawN {R : PyData} (h : Rw R) (n : Nat) (m : Nat) (hm : 0 < m ∧ m ≤ 1000000) : ∃ (x : Nat) (R' : PyData), Rw R' ∧ x < m ∧ run (n + 1) f__law_taken [R, .int m] = some (.int x, R') := by
  obtain ⟨x, R', h1, h2, h3⟩ := draw h n m (by omega)
  obtain ⟨k, rfl⟩ : ∃ k : Nat, x = k := ⟨x.toNat, by omega⟩
  exact ⟨k, R', h1, by omega, h3⟩
theorem pickL {R : PyData} (h : Rw R) (n : Nat) (ds : List PyData) (hm : 0 < ds.length ∧ ds.length ≤ 1000000) : ∃ d R', Rw R' ∧ d ∈ ds ∧ run (n + 2) f__law_pick [R, .list ds] = some (d, R') := by
  obtain ⟨x, R', h1, h2, h3⟩ := drawN h n ds.length hm
  have e1 : atI ds (x : Int) = some ds[x] := by rw [at_nat h2]; exact List.getElem?_eq_getElem h2
  exact ⟨ds[x], R', h1, List.getElem_mem h2, by simp [run__law_pick, callBody, b__law_pick, slotsOf, conArg, truth, valof, esc, callArgs, callBack, escAll, asg, asgAll, evst, Tg.bind, getAll, Option.bind_some, Option.bind_none, outOf, bf, Res.ix, conOf, conSet, h3, e1]⟩
/-- what is alike itself -/
def al : Nat → PyData → Bool
  | _, .none => true
  | _, .bool _ => true
  | _, .int _ => true
  | _, .str _ => true
  | k + 1, .tuple ds => ds.all (al k) && decide (ds.length ≤ 1000)
  | k + 1, .list ds => ds.all (al k) && decide (ds.length ≤ 1000)
  | _, _ => false
theorem ne_ii0 (m : Nat) : pNe (.int (m : Int)) (.int (m : Int)) = some (false, .bool false) := by rw [pNe_enc EncOk.int (by decide)]; simp
theorem pEq_bb (a b : Bool) : pEq (.bool a) (.bool b) = some (false, .bool (decide (a = b))) := pEq_enc EncOk.bool (by decide) a b
theorem pNe_bb (a b : Bool) : pNe (.bool a) (.bool b) = some (false, .bool (!decide (a = b))) := pNe_enc EncOk.bool (by decide) a b
theorem r_alike : ∀ (k : Nat) (d : PyData), al k d = true → ∀ n, run (n + k + 1) f__law_alike [d, d] = some (.bool true, .none) := by
  have base : ∀ (n : Nat) (d : PyData), (d = .none ∨ (∃ b, d = .bool b) ∨ (∃ i, d = .int i) ∨ ∃ x, d = .str x) → run (n + 1) f__law_alike [d, d] = some (.bool true, .none) := by
    rintro n d (rfl | ⟨b, rfl⟩ | ⟨i, rfl⟩ | ⟨x, rfl⟩)
    · have e : pEq .none .none = some (false, .bool true) := by simp [pEq, okEq, PyData.plain, PyData.depth, PyData.eqv]
      simp [run__law_alike, callBody, b__law_alike, slotsOf, conArg, truth, valof, esc, callArgs, callBack, escAll, asg, asgAll, evst, Tg.bind, getAll, Option.bind_some, Option.bind_none, bf, e, pEq_bb, pIsN, isNone, pIsTL, pIsStr]
    · simp [run__law_alike, callBody, b__law_alike, slotsOf, conArg, truth, valof, esc, callArgs, callBack, escAll, asg, asgAll, evst, Tg.bind, getAll, Option.bind_some, Option.bind_none, bf, pEq_bb, pIsN, isNone, pIsTL, pIsStr, pIsInt, pIsBool]
    · simp [run__law_alike, callBody, b__law_alike, slotsOf, conArg, truth, valof, esc, callArgs, callBack, escAll, asg, asgAll, evst, Tg.bind, getAll, Option.bind_some, Option.bind_none, bf, peq_int, pEq_bb, pIsN, isNone]
    · have e : pEq (.str x) (.str x) = some (false, .bool true) := by simp [pEq, okEq, PyData.plain, PyData.depth, PyData.eqv]
      simp [run__law_alike, callBody, b__law_alike, slotsOf, conArg, truth, valof, esc, callArgs, callBack, escAll, asg, asgAll, evst, Tg.bind, getAll, Option.bind_some, Option.bind_none, bf, e, pEq_bb, pIsN, isNone, pIsTL, pIsStr]
  have lc : ∀ (n : Nat) (ds : List PyData) (d : PyData), (d = .tuple ds ∨ d = .list ds) → ds.length ≤ 1000 → (∀ e ∈ ds, run n f__law_alike [e, e] = some (.bool true, .none)) →
      ev (run n) bf c__law_alike_0 [.dat d, .dat d, .un] = some (.new (.list []), [.dat d, .dat d, .un]) := fun n ds d hd hz h => by
    have e0 : gRange1 [.int (ds.length : Int)] = some ((List.range ds.length).map eI) := gRange1_nat hz
    have e2 : pLen d = some (false, .int ds.length) := by rcases hd with rfl | rfl <;> rfl
    refine (lc_eval eI (List.range ds.length) (fun _ => false) eI (rs := [.val (.int ds.length)]) (ds := [.int ds.length]) [.dat d, .dat d, .un] ?_ ?_ e0 ?_ ?_ ?_).trans ?_
    · simp [slotsOf, conArg, truth, valof, esc, callArgs, callBack, escAll, asg, asgAll, evst, Tg.bind, getAll, Option.bind_some, Option.bind_none, e2]
    · simp [slotsOf, conArg, truth, valof, esc, callArgs, callBack, escAll, asg, asgAll, evst, Tg.bind, getAll, Option.bind_some, Option.bind_none]
    · simp [slotsOf, conArg, truth, valof, esc, callArgs, callBack, escAll, asg, asgAll, evst, Tg.bind, getAll, Option.bind_some, Option.bind_none, z_frr, z_lc, gSeq, frLoop, lcLoop, wipeE, backE, lockAll, unlockAll, lockR, unlockR, Out.mapM, pAll, boolsOf]
    · intro k hk
      have hk := List.mem_range.mp hk
      have e1 : atI ds (k : Int) = some ds[k] := by rw [at_nat hk]; exact List.getElem?_eq_getElem hk
      have e3 : pIdx d (.int k) = some (false, ds[k]) := by rcases hd with rfl | rfl <;> simp [e1]
      have e4 := h _ (List.getElem_mem hk)
      simp [slotsOf, conArg, truth, valof, esc, callArgs, callBack, escAll, asg, asgAll, evst, Tg.bind, getAll, Option.bind_some, Option.bind_none, z_frr, z_lc, gSeq, frLoop, lcLoop, wipeE, backE, lockAll, unlockAll, lockR, unlockR, Out.mapM, pAll, boolsOf, e3, e4, bf]
    · simp [slotsOf, conArg, truth, valof, esc, callArgs, callBack, escAll, asg, asgAll, evst, Tg.bind, getAll, Option.bind_some, Option.bind_none, z_frr, z_lc, gSeq, frLoop, lcLoop, wipeE, backE, lockAll, unlockAll, lockR, unlockR, Out.mapM, pAll, boolsOf]
    · simp
  intro k
  induction k with
  | zero =>
    intro d h n
    cases d <;> simp only [al] at h <;> first | (cases h; done) | (apply base; simp; done)
  | succ k ih =>
    intro d h n
    have e0 := eq_N0 []
    simp only [List.map_nil] at e0
    cases d with
    | tuple ds =>
      simp only [al, Bool.and_eq_true, List.all_eq_true, decide_eq_true_eq] at h
      have e1 := lc (n + k + 1) ds (.tuple ds) (.inl rfl) h.2 fun e he => ih e (h.1 e he) n
      have e2 := ne_ii0 ds.length
      rw [show n + (k + 1) + 1 = (n + k + 1) + 1 by omega]
      simp [run__law_alike, callBody, b__law_alike, slotsOf, conArg, truth, valof, esc, callArgs, callBack, escAll, asg, asgAll, evst, Tg.bind, getAll, Option.bind_some, Option.bind_none, bf, e0, e1, e2, pNe_bb]
    | list ds =>
      simp only [al, Bool.and_eq_true, List.all_eq_true, decide_eq_true_eq] at h
      have e1 := lc (n + k + 1) ds (.list ds) (.inr rfl) h.2 fun e he => ih e (h.1 e he) n
      have e2 := ne_ii0 ds.length
      rw [show n + (k + 1) + 1 = (n + k + 1) + 1 by omega]
      simp [run__law_alike, callBody, b__law_alike, slotsOf, conArg, truth, valof, esc, callArgs, callBack, escAll, asg, asgAll, evst, Tg.bind, getAll, Option.bind_some, Option.bind_none, bf, e0, e1, e2, pNe_bb]
    | dict kvs => simp only [al] at h; cases h
    | none => exact base _ _ (by simp)
    | bool b => exact base _ _ (by simp)
    | int i => exact base _ _ (by simp)
    | str x => exact base _ _ (by simp)
theorem r_is (n : Nat) (b : Bool) : run (n + 1) f__law_is [.bool b, .bool b] = some (.bool true, .none) := by
  simp [run__law_is, callBody, b__law_is, slotsOf, conArg, truth, valof, esc, callArgs, callBack, escAll, asg, asgAll, evst, Tg.bind, getAll, Option.bind_some, Option.bind_none, pEq_bb, pIsBool]
end L2.Z.K01

namespace L2.Z.K01
open PySem L2.Z
section
variable {b : Bd} (g : b.Good)
include g
theorem r_ldrawn (n : Nat) {R : PyData} (h : Rw R) (m : Nat) (hm : m ≤ 100) : ∃ (st l : List Nat) (R' : PyData), Rw R' ∧ Asc l ∧ Bd.Comes b l ∧ st.length ≤ m ∧ run (n + 5) f__law_drawn [R, eB b, eI m] = some (.tuple [eT st, eT l], R') := by
  have s1 : ∃ (st l : List Nat) (R' : PyData) (j5 j6 j7 : Slot), Rw R' ∧ Asc l ∧ Bd.Comes b l ∧ st.length ≤ m ∧ evS (run (n + 4)) bf MM w__law_drawn_0 [.ref R, .dat (eB b), .dat (eI m), .dat (eT []), .dat (eT []), .un, .un, .un] = some (.nx [.ref R', .dat (eB b), .dat (eI m), .dat (eT l), .dat (eT st), j5, j6, j7]) := by
    refine fr_eval eI (List.range m) (fun ys ρ => ∃ (st l : List Nat) (R' : PyData) (j5 j6 j7 : Slot), Rw R' ∧ Asc l ∧ Bd.Comes b l ∧ st.length ≤ ys.length ∧ Jk j5 ∧ Jk j6 ∧ Jk j7 ∧ ρ = [.ref R', .dat (eB b), .dat (eI m), .dat (eT l), .dat (eT st), j5, j6, j7])
      (fun o => ∃ (st l : List Nat) (R' : PyData) (j5 j6 j7 : Slot), Rw R' ∧ Asc l ∧ Bd.Comes b l ∧ st.length ≤ m ∧ o = some (.nx [.ref R', .dat (eB b), .dat (eI m), .dat (eT l), .dat (eT st), j5, j6, j7]))
      (rs := [.slot 2]) (ds := [eI m]) (ρ0 := [.ref R, .dat (eB b), .dat (eI m), .dat (eT []), .dat (eT []), .un, .un, .un]) ?_ ?_ (gRange1_nat (by omega)) ?_ ?_ ?_
    · simp [slotsOf, conArg, truth, valof, esc, callArgs, callBack, escAll, asg, asgAll, evst, Tg.bind, getAll, Option.bind_some, Option.bind_none]
    · simp [slotsOf, conArg, truth, valof, esc, callArgs, callBack, escAll, asg, asgAll, evst, Tg.bind, getAll, Option.bind_some, Option.bind_none]
    · exact ⟨[], [], R, .un, .un, .un, h, List.Pairwise.nil, .nil, Nat.le_refl _, Jk.un, Jk.un, Jk.un, by simp [slotsOf, conArg, truth, valof, esc, callArgs, callBack, escAll, asg, asgAll, evst, Tg.bind, getAll, Option.bind_some, Option.bind_none, z_frr, z_lc, gSeq, frLoop, lcLoop, wipeE, backE, lockAll, unlockAll, lockR, unlockR, Out.mapM, pAll, boolsOf]⟩
    · rintro ys x zs _ e ⟨st, l, R1, j5, j6, j7, hR, ha, hc, hs, k5, k6, k7, rfl⟩
      left
      have hlen : ys.length < m := by have := congrArg List.length e; simp at this; omega
      have P := Bd.Pl.of_comes g ha hc
      have rd := r_lready g n l P
      have hl12 := P.len g
      have q1 := ne_N0 (b.ready l)
      have w1 : evS (run (n + 4)) bf MM (.set 6 (.call f__law_ready (.cons (.v 1) (.cons (.v 3) (.nil))))) [.ref R1, .dat (eB b), .dat (eI m), .dat (eT l), .dat (eT st), .dat (eI x), j6, j7] = some (.nx [.ref R1, .dat (eB b), .dat (eI m), .dat (eT l), .dat (eT st), .dat (eI x), .dat (eN (b.ready l)), j7]) :=
        z_setV (d := eN (b.ready l)) (ρ1 := [.ref R1, .dat (eB b), .dat (eI m), .dat (eT l), .dat (eT st), .dat (eI x), j6, j7]) (by simp [slotsOf, conArg, truth, valof, esc, callArgs, callBack, escAll, asg, asgAll, evst, Tg.bind, getAll, Option.bind_some, Option.bind_none, bf, rd]) (k6.asg rfl)
      have hbd : (Tg.n 5).bind (eI x) [.ref R1, .dat (eB b), .dat (eI m), .dat (eT l), .dat (eT st), j5, j6, j7] = some [.ref R1, .dat (eB b), .dat (eI m), .dat (eT l), .dat (eT st), .dat (eI x), j6, j7] := by
        rcases k5 with rfl | ⟨_, rfl⟩ | ⟨_, rfl⟩ <;> simp [slotsOf, conArg, truth, valof, esc, callArgs, callBack, escAll, asg, asgAll, evst, Tg.bind, getAll, Option.bind_some, Option.bind_none]
      by_cases hr : b.ready l = []
      · rw [decide_eq_true hr] at q1
        refine ⟨_, [.ref R1, .dat (eB b), .dat (eI m), .dat (eT l), .dat (eT st), .dat (eI x), .dat (eN (b.ready l)), j7], hbd, .inl (z_step _ w1 (z_step _ (z_iteF (ρ1 := [.ref R1, .dat (eB b), .dat (eI m), .dat (eT l), .dat (eT st), .dat (eI x), .dat (eN (b.ready l)), j7]) ?_ z_n) z_n)), ⟨st, l, R1, _, _, j7, hR, ha, hc, by simp; omega, Jk.dat _, Jk.dat _, k7, rfl⟩⟩
        simp [slotsOf, conArg, truth, valof, esc, callArgs, callBack, escAll, asg, asgAll, evst, Tg.bind, getAll, Option.bind_some, Option.bind_none, q1]
      · rw [decide_eq_false hr] at q1
        obtain ⟨d, R2, hR2, hd, dp⟩ := pickL hR (n + 2) ((b.ready l).map eI) (by
          have h1 := List.length_pos_iff.mpr hr
          have h2 : (b.ready l).length ≤ 12 := by rw [Bd.ready_lft]; exact Nat.le_trans (List.length_filter_le _ _) (Bd.lft_len g)
          simp; omega)
        obtain ⟨y, hy, rfl⟩ := List.mem_map.mp hd
        have wt := r_lwith (n + 3) l y (by omega)
        have ad := addT_nat (l := st) (m := [y]) (by simp; omega)
        have ad' : pAdd (.tuple (st.map eI)) (.tuple [.int (y : Int)]) = some (false, eT (st ++ [y])) := ad
        refine ⟨_, [.ref R2, .dat (eB b), .dat (eI m), .dat (eT (Bd.wl l y)), .dat (eT (st ++ [y])), .dat (eI x), .dat (eN (b.ready l)), .dat (eI y)], hbd, .inl (z_step _ w1 (z_step _ (z_iteT (ρ1 := [.ref R1, .dat (eB b), .dat (eI m), .dat (eT l), .dat (eT st), .dat (eI x), .dat (eN (b.ready l)), j7]) ?_ (z_step _ (z_setV (d := eI y) (ρ1 := [.ref R2, .dat (eB b), .dat (eI m), .dat (eT l), .dat (eT st), .dat (eI x), .dat (eN (b.ready l)), j7]) ?_ (k7.asg rfl)) (z_step _ ?_ z_n))) z_n)), ⟨st ++ [y], Bd.wl l y, R2, _, _, _, hR2, Bd.asc_wl ha (Bd.mem_ready.mp hy).2.1, Bd.comes_wl g hc hy, by simp; omega, Jk.dat _, Jk.dat _, Jk.dat _, rfl⟩⟩
        · simp [slotsOf, conArg, truth, valof, esc, callArgs, callBack, escAll, asg, asgAll, evst, Tg.bind, getAll, Option.bind_some, Option.bind_none, q1]
        · simp [slotsOf, conArg, truth, valof, esc, callArgs, callBack, escAll, asg, asgAll, evst, Tg.bind, getAll, Option.bind_some, Option.bind_none, bf, Res.ix, conOf, conSet, dp]
        · generalize hST : eT (st ++ [y]) = ST at *
          simp [slotsOf, conArg, truth, valof, esc, callArgs, callBack, escAll, asg, asgAll, evst, Tg.bind, getAll, Option.bind_some, Option.bind_none, bf, wt, ad', stored, -p_add]
    · rintro _ ⟨st, l, R1, j5, j6, j7, hR, ha, hc, hs, _, _, _, rfl⟩
      rw [List.length_range] at hs
      exact ⟨st, l, R1, j5, j6, j7, hR, ha, hc, hs, by simp [slotsOf, conArg, truth, valof, esc, callArgs, callBack, escAll, asg, asgAll, evst, Tg.bind, getAll, Option.bind_some, Option.bind_none, z_frr, z_lc, gSeq, frLoop, lcLoop, wipeE, backE, lockAll, unlockAll, lockR, unlockR, Out.mapM, pAll, boolsOf]⟩
  obtain ⟨st, l, R', j5, j6, j7, hR, ha, hc, hs, s1⟩ := s1
  refine ⟨st, l, R', hR, ha, hc, hs, (run__law_drawn (n + 4) _).trans (callBody_ref rfl (ρ := [.ref R', .dat (eB b), .dat (eI m), .dat (eT l), .dat (eT st), j5, j6, j7]) ?_ rfl)⟩
  refine z_step [.ref R, .dat (eB b), .dat (eI m), .dat (eT []), .dat (eT []), .un, .un, .un] (by simp [slotsOf, conArg, truth, valof, esc, callArgs, callBack, escAll, asg, asgAll, evst, Tg.bind, getAll, Option.bind_some, Option.bind_none, stored]) (z_step _ s1 ?_)
  simp [slotsOf, conArg, truth, valof, esc, callArgs, callBack, escAll, asg, asgAll, evst, Tg.bind, getAll, Option.bind_some, Option.bind_none]
theorem r_llot (n : Nat) {R : PyData} (h : Rw R) : ∃ (l : List Nat) (R' : PyData), Rw R' ∧ Bd.Pl b l ∧ run (n + 6) f__law_lot [R, eB b] = some (eT l, R') := by
  obtain ⟨x1, R1, h1, q1, d1⟩ := draw h (n + 4) 2 (by decide)
  have e0 : pLen (.tuple (b.map eR)) = some (false, .int (b.hi : Int)) := len_B
  by_cases c : x1 = 0
  · subst c
    obtain ⟨x2, R2, h2, q2, d2⟩ := drawN h1 (n + 4) 6 (by decide)
    rw [show ((6 : Nat) : Int) = 6 from rfl] at d2
    obtain ⟨st, l, R3, h3, ha, hc, hs, dr⟩ := r_ldrawn g n h2 x2 (by omega)
    refine ⟨l, R3, h3, Bd.Pl.of_comes g ha hc, ?_⟩
    have q : pEq (.int 0) (.int 0) = some (false, .bool true) := rfl
    generalize eT st = ST at *
    generalize eT l = LT at *
    simp [run__law_lot, callBody, b__law_lot, slotsOf, conArg, truth, valof, esc, callArgs, callBack, escAll, asg, asgAll, evst, Tg.bind, getAll, Option.bind_some, Option.bind_none, outOf, bf, Res.ix, conOf, conSet, d1, d2, dr, q]
  · obtain ⟨r0, hr1, hr2⟩ := Bd.rect_get g g.h1
    have a0 : atI (b.map eR) 0 = some (eR r0) := by
      have : atI (b.map eR) ((0 : Nat) : Int) = some (eR r0) := by
        rw [at_nat (by rw [List.length_map]; exact g.h1), List.getElem?_map, hr1]; rfl
      exact this
    have hr3 : (r0.length : Int) = b.wi := by rw [hr2]
    have h6 := g.h6
    have w6 := g.w6
    have qc : pEq (.int x1) (.int 0) = some (false, .bool false) := by rw [pEq_enc EncOk.int (by decide)]; simp [c]
    have s2 : ∃ (l : List Nat) (R' : PyData) (j5 : Slot), Rw R' ∧ Asc l ∧ (∀ x ∈ l, x < b.hi + b.wi) ∧ Jd j5 ∧ evS (run (n + 5)) bf MM w__law_lot_0 [.ref R1, .dat (eB b), .dat (eI b.hi), .dat (eI b.wi), .dat (eT []), .un, .un] = some (.nx [.ref R', .dat (eB b), .dat (eI b.hi), .dat (eI b.wi), .dat (eT l), j5, .un]) := by
      refine fr_eval eI (List.range (b.hi + b.wi)) (fun ys ρ => ∃ (l : List Nat) (R' : PyData) (j5 : Slot), Rw R' ∧ Asc l ∧ (∀ x ∈ l, x < ys.length) ∧ Jd j5 ∧ ρ = [.ref R', .dat (eB b), .dat (eI b.hi), .dat (eI b.wi), .dat (eT l), j5, .un])
        (fun o => ∃ (l : List Nat) (R' : PyData) (j5 : Slot), Rw R' ∧ Asc l ∧ (∀ x ∈ l, x < b.hi + b.wi) ∧ Jd j5 ∧ o = some (.nx [.ref R', .dat (eB b), .dat (eI b.hi), .dat (eI b.wi), .dat (eT l), j5, .un]))
        (rs := [.val (.int ((b.hi : Int) + b.wi))]) (ds := [.int ((b.hi : Int) + b.wi)]) (ρ0 := [.ref R1, .dat (eB b), .dat (eI b.hi), .dat (eI b.wi), .dat (eT []), .un, .un]) ?_ ?_ ?_ ?_ ?_ ?_
      · simp [slotsOf, conArg, truth, valof, esc, callArgs, callBack, escAll, asg, asgAll, evst, Tg.bind, getAll, Option.bind_some, Option.bind_none]
      · simp [slotsOf, conArg, truth, valof, esc, callArgs, callBack, escAll, asg, asgAll, evst, Tg.bind, getAll, Option.bind_some, Option.bind_none]
      · have := gRange1_nat (n := b.hi + b.wi) (by omega)
        rwa [Int.natCast_add] at this
      · exact ⟨[], R1, .un, h1, List.Pairwise.nil, by simp, Jd.un, by simp [slotsOf, conArg, truth, valof, esc, callArgs, callBack, escAll, asg, asgAll, evst, Tg.bind, getAll, Option.bind_some, Option.bind_none, z_frr, z_lc, gSeq, frLoop, lcLoop, wipeE, backE, lockAll, unlockAll, lockR, unlockR, Out.mapM, pAll, boolsOf]⟩
      · rintro ys x zs _ e ⟨l, R2, j5, hR, ha, hl, k5, rfl⟩
        left
        have hlen : ys.length < b.hi + b.wi := by have := congrArg List.length e; simp at this; omega
        have hxl : x = ys.length := by
          have h1 : (List.range (b.hi + b.wi))[ys.length]? = some x := by rw [e]; simp
          rw [List.getElem?_range hlen] at h1
          exact (Option.some.inj h1).symm
        have hll : l.length ≤ 12 := by
          have := Bd.nodup_bound ha.nodup hl
          omega
        obtain ⟨x3, R3, h3, q3, d3⟩ := draw hR (n + 4) 3 (by decide)
        have hbd : (Tg.n 5).bind (eI x) [.ref R2, .dat (eB b), .dat (eI b.hi), .dat (eI b.wi), .dat (eT l), j5, .un] = some [.ref R2, .dat (eB b), .dat (eI b.hi), .dat (eI b.wi), .dat (eT l), .dat (eI x), .un] := by
          rcases k5 with rfl | ⟨_, rfl⟩ <;> simp [slotsOf, conArg, truth, valof, esc, callArgs, callBack, escAll, asg, asgAll, evst, Tg.bind, getAll, Option.bind_some, Option.bind_none]
        have hl2 : (ys ++ [x]).length = ys.length + 1 := by simp
        rw [hl2]
        by_cases z : x3 = 0
        · subst z
          have q : pEq (.int 0) (.int 0) = some (false, .bool true) := rfl
          have ad := addT_nat (l := l) (m := [x]) (by simp; omega)
          have ad' : pAdd (.tuple (l.map eI)) (.tuple [.int (x : Int)]) = some (false, eT (l ++ [x])) := ad
          refine ⟨_, [.ref R3, .dat (eB b), .dat (eI b.hi), .dat (eI b.wi), .dat (eT (l ++ [x])), .dat (eI x), .un], hbd, .inl ?_, ⟨l ++ [x], R3, _, h3, ?_, ?_, Jd.dat _, rfl⟩⟩
          · generalize eT (l ++ [x]) = LX at *
            simp [slotsOf, conArg, truth, valof, esc, callArgs, callBack, escAll, asg, asgAll, evst, Tg.bind, getAll, Option.bind_some, Option.bind_none, bf, Res.ix, conOf, conSet, d3, q, ad', stored, -p_add]
          · rw [Asc, List.pairwise_append]
            exact ⟨ha, by simp, fun a ha' b hb => by simp at hb; subst hb; have := hl a ha'; omega⟩
          · intro y hy
            rcases List.mem_append.mp hy with hy | hy
            · have := hl y hy; omega
            · simp at hy; omega
        · have q : pEq (.int x3) (.int 0) = some (false, .bool false) := by rw [pEq_enc EncOk.int (by decide)]; simp [z]
          refine ⟨_, [.ref R3, .dat (eB b), .dat (eI b.hi), .dat (eI b.wi), .dat (eT l), .dat (eI x), .un], hbd, .inl ?_, ⟨l, R3, _, h3, ha, fun y hy => by have := hl y hy; omega, Jd.dat _, rfl⟩⟩
          simp [slotsOf, conArg, truth, valof, esc, callArgs, callBack, escAll, asg, asgAll, evst, Tg.bind, getAll, Option.bind_some, Option.bind_none, bf, Res.ix, conOf, conSet, d3, q]
      · rintro _ ⟨l, R2, j5, hR, ha, hl, k5, rfl⟩
        rw [List.length_range] at hl
        exact ⟨l, R2, j5, hR, ha, hl, k5, by simp [slotsOf, conArg, truth, valof, esc, callArgs, callBack, escAll, asg, asgAll, evst, Tg.bind, getAll, Option.bind_some, Option.bind_none, z_frr, z_lc, gSeq, frLoop, lcLoop, wipeE, backE, lockAll, unlockAll, lockR, unlockR, Out.mapM, pAll, boolsOf]⟩
    obtain ⟨l, R2, j5, h2, ha, hl, k5, s2⟩ := s2
    have s3 : ev (run (n + 5)) bf c__law_lot_0 [.ref R2, .dat (eB b), .dat (eI b.hi), .dat (eI b.wi), .dat (eT l), j5, .un] = some (.new (eN (l.filter fun x => decide (x < b.hi))), [.ref R2, .dat (eB b), .dat (eI b.hi), .dat (eI b.wi), .dat (eT l), j5, .un]) := by
      refine (lc_eval eI l (fun x => decide (x < b.hi)) eI (rs := [.slot 4]) (ds := [eT l]) [.ref R2, .dat (eB b), .dat (eI b.hi), .dat (eI b.wi), .dat (eT l), .un, .un] ?_ ?_ rfl ?_ ?_ ?_).trans rfl
      · simp [slotsOf, conArg, truth, valof, esc, callArgs, callBack, escAll, asg, asgAll, evst, Tg.bind, getAll, Option.bind_some, Option.bind_none]
      · simp [slotsOf, conArg, truth, valof, esc, callArgs, callBack, escAll, asg, asgAll, evst, Tg.bind, getAll, Option.bind_some, Option.bind_none]
      · rcases k5 with rfl | ⟨_, rfl⟩ <;> simp [slotsOf, conArg, truth, valof, esc, callArgs, callBack, escAll, asg, asgAll, evst, Tg.bind, getAll, Option.bind_some, Option.bind_none, z_frr, z_lc, gSeq, frLoop, lcLoop, wipeE, backE, lockAll, unlockAll, lockR, unlockR, Out.mapM, pAll, boolsOf]
      · intro x _
        by_cases z : x < b.hi <;> simp [slotsOf, conArg, truth, valof, esc, callArgs, callBack, escAll, asg, asgAll, evst, Tg.bind, getAll, Option.bind_some, Option.bind_none, z_frr, z_lc, gSeq, frLoop, lcLoop, wipeE, backE, lockAll, unlockAll, lockR, unlockR, Out.mapM, pAll, boolsOf, z]
      · rcases k5 with rfl | ⟨_, rfl⟩ <;> simp [slotsOf, conArg, truth, valof, esc, callArgs, callBack, escAll, asg, asgAll, evst, Tg.bind, getAll, Option.bind_some, Option.bind_none, z_frr, z_lc, gSeq, frLoop, lcLoop, wipeE, backE, lockAll, unlockAll, lockR, unlockR, Out.mapM, pAll, boolsOf]
    obtain ⟨fl, hfl⟩ : ∃ fl, fl = l.filter fun x => decide (x < b.hi) := ⟨_, rfl⟩
    rw [← hfl] at s3
    have hfle : fl.length ≤ l.length := by rw [hfl]; exact List.length_filter_le _ _
    have qa : pEq (.int (fl.length : Int)) (.int (b.hi : Int)) = some (false, .bool (decide (fl.length = b.hi))) := by
      rw [pEq_enc EncOk.int (by decide)]; congr 4; exact propext (by omega)
    have qb : pEq (.int ((l.length : Int) - (fl.length : Int))) (.int (b.wi : Int)) = some (false, .bool (decide (l.length - fl.length = b.wi))) := by
      rw [pEq_enc EncOk.int (by decide)]; congr 4; exact propext (by omega)
    have lenF : pLen (eN fl) = some (false, .int (fl.length : Int)) := by simp
    have lenL : pLen (eT l) = some (false, .int (l.length : Int)) := by simp
    have st1 : evS (run (n + 5)) bf MM (.ite (.op2 pEq (.call f__law_taken (.cons (.v 0) (.cons (.k (.int 2)) (.nil)))) (.k (.int 0))) (.cons (.ret (.op2 pIdx (.call f__law_drawn (.cons (.v 0) (.cons (.v 1) (.cons (.call f__law_taken (.cons (.v 0) (.cons (.k (.int 6)) (.nil)))) (.nil))))) (.k (.int 1)))) (.nil)) (.nil)) [.ref R, .dat (eB b), .un, .un, .un, .un, .un] = some (.nx [.ref R1, .dat (eB b), .un, .un, .un, .un, .un]) := by
      simp [slotsOf, conArg, truth, valof, esc, callArgs, callBack, escAll, asg, asgAll, evst, Tg.bind, getAll, Option.bind_some, Option.bind_none, bf, Res.ix, conOf, conSet, d1, qc]
    have st2 : evS (run (n + 5)) bf MM (.par [2, 3, 4] (.cons (.op1 pLen (.v 1)) (.cons (.op1 pLen (.op2 pIdx (.v 1) (.k (.int 0)))) (.cons (.tup (.nil)) (.nil))))) [.ref R1, .dat (eB b), .un, .un, .un, .un, .un] = some (.nx [.ref R1, .dat (eB b), .dat (eI b.hi), .dat (eI b.wi), .dat (eT []), .un, .un]) := by
      simp [slotsOf, conArg, truth, valof, esc, callArgs, callBack, escAll, asg, asgAll, evst, Tg.bind, getAll, Option.bind_some, Option.bind_none, stored, e0, a0, hr3]
    have st4 : evS (run (n + 5)) bf MM (.set 6 (c__law_lot_0)) [.ref R2, .dat (eB b), .dat (eI b.hi), .dat (eI b.wi), .dat (eT l), j5, .un] = some (.nx [.ref R2, .dat (eB b), .dat (eI b.hi), .dat (eI b.wi), .dat (eT l), j5, .own (eN fl)]) := z_setN s3 rfl
    by_cases z : fl.length = b.hi ∨ l.length - fl.length = b.wi
    · refine ⟨[], R2, h2, Bd.Pl.nil g, (run__law_lot (n + 5) _).trans (callBody_ref rfl (ρ := [.ref R2, .dat (eB b), .dat (eI b.hi), .dat (eI b.wi), .dat (eT l), j5, .own (eN fl)]) ?_ rfl)⟩
      refine z_step _ st1 (z_step _ st2 (z_step _ s2 (z_step _ st4 ?_)))
      generalize eN fl = FL at *
      generalize eT l = LT at *
      by_cases z1 : fl.length = b.hi
      · rw [decide_eq_true z1] at qa
        simp [slotsOf, conArg, truth, valof, esc, callArgs, callBack, escAll, asg, asgAll, evst, Tg.bind, getAll, Option.bind_some, Option.bind_none, lenF, qa]
      · rw [decide_eq_false z1] at qa
        rw [decide_eq_true (show l.length - fl.length = b.wi by omega)] at qb
        simp [slotsOf, conArg, truth, valof, esc, callArgs, callBack, escAll, asg, asgAll, evst, Tg.bind, getAll, Option.bind_some, Option.bind_none, lenF, lenL, qa, qb]
    · have P : Bd.Pl b l := ⟨ha, hl, Bd.some_row ha (by rw [← hfl]; omega), Bd.some_col ha hl (by rw [← hfl]; omega)⟩
      refine ⟨l, R2, h2, P, (run__law_lot (n + 5) _).trans (callBody_ref rfl (ρ := [.ref R2, .dat (eB b), .dat (eI b.hi), .dat (eI b.wi), .dat (eT l), j5, .own (eN fl)]) ?_ rfl)⟩
      refine z_step _ st1 (z_step _ st2 (z_step _ s2 (z_step _ st4 ?_)))
      generalize eN fl = FL at *
      generalize eT l = LT at *
      rw [decide_eq_false (show ¬ fl.length = b.hi by omega)] at qa
      rw [decide_eq_false (show ¬ l.length - fl.length = b.wi by omega)] at qb
      simp [slotsOf, conArg, truth, valof, esc, callArgs, callBack, escAll, asg, asgAll, evst, Tg.bind, getAll, Option.bind_some, Option.bind_none, lenF, lenL, qa, qb]
end
end L2.Z.K01

namespace L2.Z
open PySem
def top : List Int → Int
  | [] => 0
  | a :: l => l.foldl max a
def bot : List Int → Int
  | [] => 0
  | a :: l => l.foldl min a
section
variable {l : List Int} (h : l ≠ [])
include h
theorem top_S : pMaxS (.list (l.map .int)) = some (false, .int (top l)) := by
  cases l with
  | nil => exact absurd rfl h
  | cons a l =>
    have ok := okMM_ints (a :: l)
    rw [List.map_cons] at ok ⊢
    simp only [pMaxS, itemsOf, if_pos ok, PySem.W.maxD_ints, top]
theorem bot_S : pMinS (.list (l.map .int)) = some (false, .int (bot l)) := by
  cases l with
  | nil => exact absurd rfl h
  | cons a l =>
    have ok := okMM_ints (a :: l)
    rw [List.map_cons] at ok ⊢
    simp only [pMinS, itemsOf, if_pos ok, PySem.W.minD_ints, bot]
theorem top_mem : top l ∈ l := by
  cases l with
  | nil => exact absurd rfl h
  | cons a l => exact (foldl_max l a).1
theorem bot_mem : bot l ∈ l := by
  cases l with
  | nil => exact absurd rfl h
  | cons a l => exact (foldl_min l a).1
theorem top_le : ∀ x ∈ l, x ≤ top l := by
  cases l with
  | nil => exact absurd rfl h
  | cons a l => exact (foldl_max l a).2
theorem bot_le : ∀ x ∈ l, bot l ≤ x := by
  cases l with
  | nil => exact absurd rfl h
  | cons a l => exact (foldl_min l a).2
end
abbrev eQ2 (p : Nat × Nat) : PyData := .tuple [eI p.1, eI p.2]
theorem ok_eQ2 : EncOk eQ2 1 := ok_eI.pair ok_eI
theorem lt_eQ2 : EncLt eQ2 := ⟨fun a b => by simp [PySem.W.alike, PySem.W.alikeAll], fun a => rfl⟩
def lt2 (p q : Nat × Nat) : Prop := p.1 < q.1 ∨ (p.1 = q.1 ∧ p.2 < q.2)
instance (p q : Nat × Nat) : Decidable (lt2 p q) := by unfold lt2; infer_instance
theorem dLt_eQ2 (p q : Nat × Nat) : PySem.W.dataLt (eQ2 p) (eQ2 q) = decide (lt2 p q) := by
  have := PySem.W.dataLt_ii (p.1 : Int) (p.2 : Int) (q.1 : Int) (q.2 : Int)
  rw [this]
  congr 1
  unfold lt2
  exact propext (by omega)
/-- the least pair -/
theorem min_pairs {xs : List (Nat × Nat)} (h : xs ≠ []) : ∃ m ∈ xs, (∀ y ∈ xs, ¬ lt2 y m) ∧ pMinS (.list (xs.map eQ2)) = some (false, eQ2 m) := by
  obtain ⟨m, h1, h2, h3, _⟩ := minS_enc ok_eQ2 (by decide) lt_eQ2 h
  refine ⟨m, h1, fun y hy z => ?_, h3⟩
  have := h2 y hy
  rw [dLt_eQ2, decide_eq_false_iff_not] at this
  exact this z
theorem lt2_total {p q : Nat × Nat} (h1 : ¬ lt2 p q) (h2 : ¬ lt2 q p) : p = q := by
  unfold lt2 at *
  obtain ⟨a, b⟩ := p
  obtain ⟨c, d⟩ := q
  simp only at *
  have : a = c := by omega
  have : b = d := by omega
  subst_vars; rfl
section
variable (f : Nat × Nat → Nat × Nat)
def orb (s : Nat × Nat) : Nat → Nat × Nat
  | 0 => s
  | i + 1 => f (orb s i)
theorem orb_add (s : Nat × Nat) (i : Nat) : ∀ j, orb f s (i + j) = orb f (orb f s i) j
  | 0 => rfl
  | j + 1 => by rw [← Nat.add_assoc, orb, orb_add s i j]; rfl
variable {f} {s : Nat × Nat}
theorem orb_next {i j : Nat} (h : orb f s i = orb f s j) (k : Nat) : orb f s (i + k) = orb f s (j + k) := by rw [orb_add, orb_add, h]
/-- small values: two of the first 37 are the same -/
theorem orb_twice (hb : ∀ i, (orb f s i).1 < 6 ∧ (orb f s i).2 < 6) : ∃ i p, i ≤ 35 ∧ 1 ≤ p ∧ p ≤ 36 ∧ ∀ t, i ≤ t → orb f s (t + p) = orb f s t := by
  have key : ∃ i j, i < j ∧ j ≤ 36 ∧ orb f s i = orb f s j := by
    refine Classical.byContradiction fun h => ?_
    have nd : ((List.range 37).map fun i => (orb f s i).1 * 6 + (orb f s i).2).Nodup := by
      rw [List.nodup_iff_pairwise_ne, List.pairwise_map]
      refine List.Pairwise.imp_of_mem (fun {a b} ha hb' hab z => ?_) List.pairwise_lt_range
      have h1 := hb a
      have h2 := hb b
      have : (orb f s a).1 = (orb f s b).1 := by omega
      have : (orb f s a).2 = (orb f s b).2 := by omega
      exact h ⟨a, b, hab, by have := List.mem_range.mp hb'; omega, Prod.ext (by omega) (by omega)⟩
    have := Bd.nodup_bound (n := 36) nd (by
      intro x hx
      obtain ⟨i, _, rfl⟩ := List.mem_map.mp hx
      have := hb i
      omega)
    simp at this
  obtain ⟨i, j, hij, hj, e⟩ := key
  refine ⟨i, j - i, by omega, by omega, by omega, fun t ht => ?_⟩
  have := orb_next e (t - i)
  rw [show i + (t - i) = t by omega, show j + (t - i) = t + (j - i) by omega] at this
  exact this.symm
theorem orb_many {i p : Nat} (h : ∀ t, i ≤ t → orb f s (t + p) = orb f s t) : ∀ (k t : Nat), i ≤ t → orb f s (t + k * p) = orb f s t
  | 0, t, _ => by simp
  | k + 1, t, ht => by
    rw [Nat.succ_mul, ← Nat.add_assoc, h _ (by omega), orb_many h k t ht]
/-- the ring: its length, that it comes from 36 on, its items differ -/
structure Ring (f : Nat × Nat → Nat × Nat) (s : Nat × Nat) (p : Nat) : Prop where
  p1 : 1 ≤ p
  p2 : p ≤ 36
  per : ∀ t, 35 ≤ t → orb f s (t + p) = orb f s t
  dif : ∀ d, 1 ≤ d → d < p → ∀ t, orb f s (t + d) ≠ orb f s t
theorem ring_ex (hb : ∀ i, (orb f s i).1 < 6 ∧ (orb f s i).2 < 6) : ∃ p, Ring f s p := by
  obtain ⟨i, p0, h1, h2, h3, h4⟩ := orb_twice hb
  have ex : ∃ p, 1 ≤ p ∧ ∃ t, orb f s (t + p) = orb f s t := ⟨p0, h2, i, h4 i (Nat.le_refl _)⟩
  obtain ⟨p, ⟨q1, t, q2⟩, least⟩ : ∃ p, (1 ≤ p ∧ ∃ t, orb f s (t + p) = orb f s t) ∧ ∀ m, m < p → ¬ (1 ≤ m ∧ ∃ t, orb f s (t + m) = orb f s t) := by
    have : ∀ n, (∃ p, p ≤ n ∧ (1 ≤ p ∧ ∃ t, orb f s (t + p) = orb f s t)) → ∃ p, (1 ≤ p ∧ ∃ t, orb f s (t + p) = orb f s t) ∧ ∀ m, m < p → ¬ (1 ≤ m ∧ ∃ t, orb f s (t + m) = orb f s t) := by
      intro n
      induction n with
      | zero => rintro ⟨p, hp, h, _⟩; omega
      | succ n ih =>
        rintro ⟨p, hp, h⟩
        by_cases c : ∃ p, p ≤ n ∧ (1 ≤ p ∧ ∃ t, orb f s (t + p) = orb f s t)
        · exact ih c
        · exact ⟨p, h, fun m hm z => c ⟨m, by omega, z⟩⟩
    obtain ⟨p, hp⟩ := ex
    exact this p ⟨p, Nat.le_refl _, hp⟩
  refine ⟨p, q1, ?_, fun u hu => ?_, fun d d1 d2 t z => least d d2 ⟨d1, t, z⟩⟩
  · refine Classical.byContradiction fun z => least p0 (by omega) ⟨h2, i, h4 i (Nat.le_refl _)⟩
  · have e1 := orb_many h4 t u (by omega)
    have e2 := orb_many h4 t (u + p) (by omega)
    rw [← e1, ← e2]
    have hge : t ≤ u + t * p0 := by
      have : t * 1 ≤ t * p0 := Nat.mul_le_mul_left _ h2
      omega
    have := orb_next q2 (u + t * p0 - t)
    rw [show t + p + (u + t * p0 - t) = u + p + t * p0 by omega, show t + (u + t * p0 - t) = u + t * p0 by omega] at this
    exact this
/-- a stretch of the ring, turned round until the item at a comes first -/
theorem ring_turn {p : Nat} (R : Ring f s p) {t a : Nat} (ht : 35 ≤ t) (ha : a < p) :
    ((List.range p).map fun i => orb f s (t + i)).drop a ++ ((List.range p).map fun i => orb f s (t + i)).take a = (List.range p).map fun i => orb f (orb f s (t + a)) i := by
  apply List.ext_getElem?
  intro j
  rw [List.getElem?_append]
  simp only [List.length_drop, List.length_map, List.length_range]
  by_cases h : j < p - a
  · rw [if_pos h, List.getElem?_drop, List.getElem?_map, List.getElem?_map, List.getElem?_range (by omega), List.getElem?_range (by omega)]
    simp only [Option.map_some]
    rw [← orb_add, Nat.add_assoc]
  · rw [if_neg h]
    by_cases h2 : j < p
    · rw [List.getElem?_take_of_lt (by omega), List.getElem?_map, List.getElem?_map, List.getElem?_range (by omega), List.getElem?_range h2]
      simp only [Option.map_some]
      rw [← orb_add, ← R.per (t + (j - (p - a))) (by omega)]
      congr 2
      omega
    · rw [List.getElem?_eq_none (by simp; omega), List.getElem?_eq_none (by simp; omega)]
theorem ring_nodup {p : Nat} (R : Ring f s p) (t : Nat) : ((List.range p).map fun i => orb f s (t + i)).Nodup := by
  rw [List.nodup_iff_pairwise_ne, List.pairwise_map]
  refine List.Pairwise.imp_of_mem (fun {a b} ha hb hab z => ?_) List.pairwise_lt_range
  have := List.mem_range.mp hb
  refine R.dif (b - a) (by omega) (by omega) (t + a) ?_
  rw [show t + a + (b - a) = t + b by omega]
  exact z.symm
/-- all that comes late is in any stretch -/
theorem ring_mem {p : Nat} (R : Ring f s p) {t u : Nat} (ht : 35 ≤ t) (hu : t ≤ u) : orb f s u ∈ (List.range p).map fun i => orb f s (t + i) := by
  have e := orb_many R.per ((u - t) / p) (t + (u - t) % p) (by omega)
  have e2 : t + (u - t) % p + (u - t) / p * p = u := by
    have := Nat.mod_add_div (u - t) p
    rw [Nat.mul_comm p] at this
    omega
  rw [e2] at e
  exact List.mem_map.mpr ⟨(u - t) % p, List.mem_range.mpr (Nat.mod_lt _ (by have := R.p1; omega)), e.symm⟩
/-- two stretches hold the same items -/
theorem ring_same {p : Nat} (R : Ring f s p) {t u : Nat} (ht : 35 ≤ t) (hu : 35 ≤ u) (x : Nat × Nat) : x ∈ ((List.range p).map fun i => orb f s (t + i)) ↔ x ∈ ((List.range p).map fun i => orb f s (u + i)) := by
  have key : ∀ t u, 35 ≤ t → 35 ≤ u → x ∈ ((List.range p).map fun i => orb f s (t + i)) → x ∈ ((List.range p).map fun i => orb f s (u + i)) := by
    intro t u ht hu h
    obtain ⟨i, _, rfl⟩ := List.mem_map.mp h
    rw [← orb_many R.per u (t + i) (by omega)]
    have : u * 1 ≤ u * p := Nat.mul_le_mul_left _ R.p1
    exact ring_mem R hu (by omega)
  exact ⟨key t u ht hu, key u t hu ht⟩
/-- it comes to rest, seen late, or early -/
theorem rest_iff {p : Nat} (R : Ring f s p) {t : Nat} (ht : 35 ≤ t) : orb f s (t + 1) = orb f s t ↔ p = 1 := by
  constructor
  · intro h
    refine Classical.byContradiction fun z => R.dif 1 (by omega) (by have := R.p1; omega) t h
  · rintro rfl
    exact R.per t ht
end
end L2.Z

namespace L2.Z
open PySem
namespace Bd
variable {b : Bd}
def trn (b : Bd) : Bd := (List.range b.wi).map fun a => b.map fun r => ((r[a]?.getD (0, 0)).2, (r[a]?.getD (0, 0)).1)
theorem trn_hi : b.trn.hi = b.wi := by simp [trn, hi]
theorem trn_wi (g : b.Good) : b.trn.wi = b.hi := by
  have := g.w1
  unfold trn wi hi
  cases h : List.range (b.headD []).length with
  | nil =>
    have : (b.headD []).length = 0 := by
      have := congrArg List.length h
      simpa using this
    have w := g.w1
    unfold wi at w
    omega
  | cons a as => simp
theorem trn_good (g : b.Good) : b.trn.Good := by
  refine ⟨by rw [trn_hi]; exact g.w1, by rw [trn_hi]; exact g.w6, by rw [trn_wi g]; exact g.h1, by rw [trn_wi g]; exact g.h6, fun r hr => ?_, fun r hr p hp => ?_⟩
  · obtain ⟨a, _, rfl⟩ := List.mem_map.mp hr
    rw [trn_wi g, List.length_map]; rfl
  · obtain ⟨a, ha, rfl⟩ := List.mem_map.mp hr
    obtain ⟨r, hr, rfl⟩ := List.mem_map.mp hp
    have hl := g.rect r hr
    have ha := List.mem_range.mp ha
    have e : r[a]? = some r[a] := List.getElem?_eq_getElem (by omega)
    rw [e]
    have := g.val r hr r[a] (List.getElem_mem (by omega))
    simp only [Option.getD_some]
    omega
theorem cross_ne (g : b.Good) (x : Nat) : b.cross [] x ≠ [] := by
  have h1 := g.h1
  have w1 := g.w1
  by_cases h : x < b.hi
  · intro z
    have : b.hi ∈ b.cross [] x := by rw [mem_cross]; exact ⟨by simp, .inl ⟨h, by omega, by omega⟩⟩
    rw [z] at this; cases this
  · intro z
    have : 0 ∈ b.cross [] x := by rw [mem_cross]; exact ⟨by simp, .inr ⟨by omega, by omega⟩⟩
    rw [z] at this; cases this
theorem ans_ne' {l : List Nat} {x : Nat} (hc : b.cross l x ≠ []) : b.ans l x ≠ [] := by
  have hn : (b.cross l x).map (fun c => b.num c x) ≠ [] := by simpa using hc
  obtain ⟨c, hc, e⟩ := List.mem_map.mp (top_mem hn)
  intro z
  have : c ∈ b.ans l x := by
    rw [mem_ans]
    refine ⟨hc, fun d hd => ?_⟩
    rw [e]
    exact top_le hn _ (List.mem_map.mpr ⟨d, hd, rfl⟩)
  rw [z] at this; cases this
theorem ans_ne (g : b.Good) (x : Nat) : b.ans [] x ≠ [] := ans_ne' (cross_ne g x)
theorem ans_row {x y : Nat} (hx : x < b.hi) (h : y ∈ b.ans [] x) : b.hi ≤ y ∧ y < b.hi + b.wi := by
  have := (mem_ans.mp h).1
  rw [mem_cross] at this
  omega
theorem ans_col {x y : Nat} (hx : b.hi ≤ x) (h : y ∈ b.ans [] x) : y < b.hi := by
  have := (mem_ans.mp h).1
  rw [mem_cross] at this
  omega
def lnums (b : Bd) (x : Nat) : List Int := (b.ans [] x).map (b.num x)
def bn (b : Bd) (k : Bool) (x : Nat) : Int := if k = true then top (b.lnums x) else bot (b.lnums x)
def cl (b : Bd) (k : Bool) (x : Nat) : Nat := (b.ans [] x)[(b.lnums x).idxOf (b.bn k x)]?.getD 0
theorem lnums_ne (g : b.Good) (x : Nat) : b.lnums x ≠ [] := by
  unfold lnums
  simpa using ans_ne g x
theorem bn_mem (g : b.Good) (k : Bool) (x : Nat) : b.bn k x ∈ b.lnums x := by
  unfold bn
  split
  · exact top_mem (lnums_ne g x)
  · exact bot_mem (lnums_ne g x)
theorem cl_get (g : b.Good) (k : Bool) (x : Nat) : (b.ans [] x)[(b.lnums x).idxOf (b.bn k x)]? = some (b.cl k x) := by
  have h := List.idxOf_lt_length_of_mem (bn_mem g k x)
  unfold lnums at h
  rw [List.length_map] at h
  unfold cl
  rw [show (b.lnums x) = (b.ans [] x).map (b.num x) from rfl, List.getElem?_eq_getElem h]
  rfl
theorem cl_mem (g : b.Good) (k : Bool) (x : Nat) : b.cl k x ∈ b.ans [] x := List.mem_of_getElem? (cl_get g k x)
theorem cl_num (g : b.Good) (k : Bool) (x : Nat) : b.num x (b.cl k x) = b.bn k x := by
  have h := List.idxOf_lt_length_of_mem (bn_mem g k x)
  have e := List.getElem_idxOf h
  have e2 := cl_get g k x
  have : (b.lnums x)[(b.lnums x).idxOf (b.bn k x)]? = some (b.num x (b.cl k x)) := by
    conv => lhs; rw [show b.lnums x = (b.ans [] x).map (b.num x) from rfl]
    rw [List.getElem?_map]
    have e3 : ((b.ans [] x).map (b.num x)).idxOf (b.bn k x) = (b.lnums x).idxOf (b.bn k x) := rfl
    rw [e3, e2]; rfl
  rw [List.getElem?_eq_getElem h, e] at this
  exact (Option.some.inj this).symm
/-- the first item with a value -/
theorem filter_first {α : Type} (f : α → Int) (v : Int) : ∀ l : List α, v ∈ l.map f → (l.filter fun y => decide (f y = v)).head? = l[(l.map f).idxOf v]?
  | [], h => by cases h
  | a :: l, h => by
    by_cases c : f a = v
    · simp [c]
    · have c' : (f a == v) = false := by simpa using c
      have hl : v ∈ l.map f := by
        simp only [List.map_cons, List.mem_cons] at h
        rcases h with h | h
        · exact absurd h.symm c
        · exact h
      rw [List.filter_cons_of_neg (by simpa using c), filter_first f v l hl, List.map_cons, List.idxOf_cons, c', cond_false, List.getElem?_cons_succ]
structure First (b : Bd) (k : Bool) (r : Nat) : Prop where
  lt : r < b.hi
  le : ∀ x, x < b.hi → b.bn k x ≤ b.bn k r
  fi : ∀ x, x < r → b.bn k x < b.bn k r
theorem First.uniq {k : Bool} {r q : Nat} (h : First b k r) (h' : First b k q) : r = q := by
  rcases Nat.lt_trichotomy r q with z | z | z
  · have := h'.fi r z
    have := h.le q h'.lt
    omega
  · exact z
  · have := h.fi q z
    have := h'.le r h.lt
    omega
def rsL (b : Bd) : List Int := b.map fun r => (r.map Prod.fst).sum
def csL (b : Bd) : List Int := (List.range b.wi).map fun c => (b.map fun r => (r[c]?.getD (0, 0)).2).sum
def start (b : Bd) : Nat × Nat := (b.rsL.idxOf (top b.rsL), b.csL.idxOf (top b.csL))
def step (b : Bd) (p : Nat × Nat) : Nat × Nat := ((b.ans [] (b.hi + p.2)).headD 0, (b.ans [] p.1).headD 0 - b.hi)
abbrev think (b : Bd) (i : Nat) : Nat × Nat := orb b.step b.start i
theorem rsL_ne (g : b.Good) : b.rsL ≠ [] := by
  have h1 := g.h1
  intro z
  have := congrArg List.length z
  simp [rsL] at this
  simp [hi, this] at h1
theorem csL_ne (g : b.Good) : b.csL ≠ [] := by
  have h1 := g.w1
  intro z
  have := congrArg List.length z
  simp [csL] at this
  omega
theorem start_lt (g : b.Good) : b.start.1 < b.hi ∧ b.start.2 < b.wi := by
  have h1 := List.idxOf_lt_length_of_mem (top_mem (rsL_ne g))
  have h2 := List.idxOf_lt_length_of_mem (top_mem (csL_ne g))
  constructor
  · show b.rsL.idxOf (top b.rsL) < b.hi
    have : b.rsL.length = b.hi := by simp [rsL, hi]
    omega
  · show b.csL.idxOf (top b.csL) < b.wi
    have : b.csL.length = b.wi := by simp [csL]
    omega
theorem head_mem {l : List Nat} (h : l ≠ []) : l.headD 0 ∈ l := by
  cases l with
  | nil => exact absurd rfl h
  | cons a l => simp
theorem head_get {l : List Nat} (h : l ≠ []) : l[0]? = some (l.headD 0) := by
  cases l with
  | nil => exact absurd rfl h
  | cons a l => simp
theorem step_lt (g : b.Good) {p : Nat × Nat} (h : p.1 < b.hi ∧ p.2 < b.wi) : (b.step p).1 < b.hi ∧ (b.step p).2 < b.wi := by
  have h1 := ans_col (b := b) (x := b.hi + p.2) (by omega) (head_mem (ans_ne g (b.hi + p.2)))
  have h2 := ans_row h.1 (head_mem (ans_ne g p.1))
  exact ⟨h1, by show (b.ans [] p.1).headD 0 - b.hi < b.wi; omega⟩
theorem think_lt (g : b.Good) : ∀ i, (b.think i).1 < b.hi ∧ (b.think i).2 < b.wi
  | 0 => start_lt g
  | i + 1 => step_lt g (think_lt g i)
theorem think_small (g : b.Good) (i : Nat) : (b.think i).1 < 6 ∧ (b.think i).2 < 6 := by
  have := think_lt g i
  have := g.h6
  have := g.w6
  omega
end Bd
end L2.Z
namespace L2.Z
open PySem
namespace Bd
/-- the first number at row x, column y -/
def at1 (b : Bd) (x y : Nat) : Int := ((b[x]?.getD [])[y]?.getD (0, 0)).1
def tps (b : Bd) : List Int := (List.range b.wi).map fun c => top (b.map fun r => (r[c]?.getD (0, 0)).1)
theorem tps_ne {b : Bd} (g : b.Good) : b.tps ≠ [] := by
  have h1 := g.w1
  intro z
  have := congrArg List.length z
  simp [tps] at this
  omega
end Bd
theorem atI_neg {α : Type} {l : List α} {k : Nat} (h : k < l.length) : atI l (-1 - (k : Int)) = l[l.length - 1 - k]? := by
  unfold atI ixN
  rw [if_neg (by omega), if_pos (by omega)]
  have e : (-1 - (k : Int) + (l.length : Int)).toNat = l.length - 1 - k := by omega
  simp [e]
theorem atI_rg {α : Type} (f : Nat → α) {n i : Nat} (h : i < n) : atI ((List.range n).map f) (i : Int) = some (f i) := by
  rw [at_nat (by simpa using h), List.getElem?_map, List.getElem?_range h]; rfl
theorem atI_rgn {α : Type} (f : Nat → α) {n k : Nat} (h : k < n) : atI ((List.range n).map f) (-1 - (k : Int)) = some (f (n - 1 - k)) := by
  rw [atI_neg (by simpa using h), List.length_map, List.length_range, List.getElem?_map, List.getElem?_range (by omega)]; rfl
end L2.Z

namespace L2.Z
open PySem
namespace Bd
variable {b : Bd} {l m : List Nat} {x y z : Nat}
/-- x is a best answer to a line left -/
def goodD (b : Bd) (l : List Nat) (x : Nat) : Bool := (b.lft l).any fun y => decide (x ∈ b.ans l y)
def drp (b : Bd) (l : List Nat) : List Nat := (b.lft l).filter fun x => !b.goodD l x
theorem mem_drp : x ∈ b.drp l ↔ (x < b.hi + b.wi ∧ x ∉ l) ∧ ∀ y, y < b.hi + b.wi → y ∉ l → x ∉ b.ans l y := by
  unfold drp goodD
  rw [List.mem_filter, mem_lft, Bool.not_eq_true', List.any_eq_false]
  constructor
  · rintro ⟨h1, h2⟩
    exact ⟨h1, fun y hy hyl hx => h2 y (mem_lft.mpr ⟨hy, hyl⟩) (decide_eq_true hx)⟩
  · rintro ⟨h1, h2⟩
    refine ⟨h1, fun y hy hx => ?_⟩
    obtain ⟨a, c⟩ := mem_lft.mp hy
    exact h2 y a c (of_decide_eq_true hx)
/-- lots that come by leaving out lines that are no best answer: all best answers to lines left are left -/
structure Dl (b : Bd) (l : List Nat) : Prop where
  asc : Asc l
  lt : ∀ x ∈ l, x < b.hi + b.wi
  ans : ∀ y, y < b.hi + b.wi → y ∉ l → ∀ z ∈ b.ans [] y, z ∉ l
  some : ∃ y, y < b.hi + b.wi ∧ y ∉ l
theorem Dl.nil (g : b.Good) : Dl b [] := ⟨List.Pairwise.nil, by simp, by simp, ⟨0, by have := g.h1; omega, by simp⟩⟩
theorem ans_lt (hy : y < b.hi + b.wi) (h : z ∈ b.ans [] y) : z < b.hi + b.wi ∧ (z < b.hi ↔ ¬ y < b.hi) := by
  have := (mem_ans.mp h).1
  rw [mem_cross] at this
  omega
theorem Dl.pl (g : b.Good) (h : Dl b l) : Pl b l := by
  obtain ⟨y, hy, hyl⟩ := h.some
  obtain ⟨z, hz⟩ := List.exists_mem_of_ne_nil _ (ans_ne g y)
  have h1 := h.ans y hy hyl z hz
  have h2 := ans_lt hy hz
  by_cases c : y < b.hi
  · exact ⟨h.asc, h.lt, ⟨y, c, hyl⟩, ⟨z, by omega, by omega, h1⟩⟩
  · exact ⟨h.asc, h.lt, ⟨z, by omega, h1⟩, ⟨y, by omega, by omega, hyl⟩⟩
/-- what is left has the same best answers -/
theorem Dl.same (g : b.Good) (h : Dl b l) (hy : y < b.hi + b.wi) (hyl : y ∉ l) : x ∈ b.ans l y ↔ x ∈ b.ans [] y := by
  obtain ⟨z, hz⟩ := List.exists_mem_of_ne_nil _ (ans_ne g y)
  have hzl := h.ans y hy hyl z hz
  have hzm := mem_ans.mp hz
  have sub : ∀ c, c ∈ b.cross l y → c ∈ b.cross [] y := fun c hc => by
    rw [mem_cross] at hc ⊢; exact ⟨by simp, hc.2⟩
  have zc : z ∈ b.cross l y := by
    have := hzm.1
    rw [mem_cross] at this ⊢; exact ⟨hzl, this.2⟩
  rw [mem_ans, mem_ans]
  constructor
  · rintro ⟨h1, h2⟩
    refine ⟨sub x h1, fun d hd => ?_⟩
    have := h2 z zc
    have := hzm.2 d hd
    omega
  · rintro ⟨h1, h2⟩
    have hx := h.ans y hy hyl x (mem_ans.mpr ⟨h1, h2⟩)
    refine ⟨?_, fun d hd => h2 d (sub d hd)⟩
    rw [mem_cross] at h1 ⊢; exact ⟨hx, h1.2⟩
theorem Dl.drp_iff (g : b.Good) (h : Dl b l) : x ∈ b.drp l ↔ (x < b.hi + b.wi ∧ x ∉ l) ∧ ∀ y, y < b.hi + b.wi → y ∉ l → x ∉ b.ans [] y := by
  rw [mem_drp]
  constructor
  · rintro ⟨h1, h2⟩; exact ⟨h1, fun y hy hyl => fun w => h2 y hy hyl ((h.same g hy hyl).mpr w)⟩
  · rintro ⟨h1, h2⟩; exact ⟨h1, fun y hy hyl => fun w => h2 y hy hyl ((h.same g hy hyl).mp w)⟩
/-- some of them more -/
theorem Dl.more (g : b.Good) (h : Dl b l) {s : List Nat} (hs : ∀ x ∈ s, x ∈ b.drp l) (a : Asc m) (hm : ∀ x, x ∈ m ↔ x ∈ l ∨ x ∈ s) : Dl b m := by
  obtain ⟨y, hy, hyl⟩ := h.some
  obtain ⟨z, hz⟩ := List.exists_mem_of_ne_nil _ (ans_ne g y)
  refine ⟨a, fun x hx => ?_, fun y hy hym z hz => ?_, ⟨z, (ans_lt hy hz).1, fun w => ?_⟩⟩
  · rcases (hm x).mp hx with w | w
    · exact h.lt x w
    · exact (mem_drp.mp (hs x w)).1.1
  · have hyl : y ∉ l := fun w => hym ((hm y).mpr (.inl w))
    intro w
    rcases (hm z).mp w with w | w
    · exact h.ans y hy hyl z hz w
    · exact ((h.drp_iff g).mp (hs z w)).2 y hy hyl hz
  · rcases (hm z).mp w with w | w
    · exact h.ans y hy hyl z hz w
    · exact ((h.drp_iff g).mp (hs z w)).2 y hy hyl hz
/-- later it can still be left out -/
theorem Dl.later (g : b.Good) (h : Dl b l) (h' : Dl b m) (s : ∀ x ∈ l, x ∈ m) (hx : x ∈ b.drp l) (hm : x ∉ m) : x ∈ b.drp m := by
  obtain ⟨h1, h2⟩ := (h.drp_iff g).mp hx
  exact (h'.drp_iff g).mpr ⟨⟨h1.1, hm⟩, fun y hy hym => h2 y hy fun w => hym (s y w)⟩
/-- one row of leaving out -/
inductive Way (b : Bd) : List Nat → Prop
  | nil : Way b []
  | more {l m s : List Nat} : Way b l → (∀ x ∈ s, x ∈ b.drp l) → Asc m → (∀ x, x ∈ m ↔ x ∈ l ∨ x ∈ s) → Way b m
theorem Way.dl (g : b.Good) (w : Way b l) : Dl b l := by
  induction w with
  | nil => exact Dl.nil g
  | more _ hs a hm ih => exact ih.more g hs a hm
theorem Way.within (g : b.Good) (w : Way b l) (h : Dl b m) (c : b.drp m = []) : ∀ x ∈ l, x ∈ m := by
  induction w with
  | nil => simp
  | more w hs a hm ih =>
    intro x hx
    rcases (hm x).mp hx with z | z
    · exact ih x z
    · refine Classical.byContradiction fun q => ?_
      have := (w.dl g).later g h ih (hs x z) q
      rw [c] at this; cases this
theorem Way.uniq (g : b.Good) (w : Way b l) (c : b.drp l = []) (w' : Way b m) (c' : b.drp m = []) : l = m :=
  asc_eq (w.dl g).asc (w'.dl g).asc fun x => ⟨w.within g (w'.dl g) c' x, w'.within g (w.dl g) c x⟩
theorem Way.one (g : b.Good) (w : Way b l) (hx : x ∈ b.drp l) : Way b (wl l x) := by
  have := (mem_drp.mp hx).1.2
  exact .more w (s := [x]) (by simpa using hx) (asc_wl (w.dl g).asc this) fun y => by rw [mem_wl]; simp
theorem drp_asc : Asc (b.drp l) := by
  unfold drp
  rw [lft_eq]
  exact (List.Pairwise.filter _ (List.Pairwise.filter _ List.pairwise_lt_range))
theorem asc_all (a : Asc l) (s : List Nat) (hs : s.Nodup) (hd : ∀ x ∈ s, x ∉ l) : Asc (srt (l ++ s)) := asc_srt (by
  rw [List.nodup_append]
  exact ⟨a.nodup, hs, fun a ha b hb z => hd b hb (z ▸ ha)⟩)
theorem Way.all (g : b.Good) (w : Way b l) : Way b (srt (l ++ b.drp l)) :=
  .more w (s := b.drp l) (fun _ h => h) (asc_all (w.dl g).asc _ drp_asc.nodup fun x hx => (mem_drp.mp hx).1.2) fun y => by rw [mem_srt, List.mem_append]
theorem drp_len (g : b.Good) : (b.drp l).length ≤ 12 := by
  unfold drp
  exact Nat.le_trans (List.length_filter_le _ _) (lft_len g)
theorem Way.len (g : b.Good) (w : Way b l) : l.length ≤ 12 := ((w.dl g).pl g).len g
/-- one by one, the first each time -/
def drF (b : Bd) : Nat → List Nat → List Nat
  | 0, l => l
  | k + 1, l => match b.drp l with
    | [] => l
    | x :: _ => drF b k (wl l x)
def dropped (b : Bd) : List Nat := b.drF 13 []
theorem drF_ok (g : b.Good) : ∀ (k : Nat) (l : List Nat), Way b l → 13 ≤ l.length + k → Way b (b.drF k l) ∧ b.drp (b.drF k l) = []
  | 0, l, w, h => by have := w.len g; omega
  | k + 1, l, w, h => by
    rw [drF]
    cases hd : b.drp l with
    | nil => exact ⟨w, hd⟩
    | cons x s =>
      exact drF_ok g k (wl l x) (w.one g (by rw [hd]; simp)) (by rw [wl_length]; omega)
theorem dropped_ok (g : b.Good) : Way b b.dropped ∧ b.drp b.dropped = [] := drF_ok g 13 [] .nil (by simp)
/-- round by round -/
def drR (b : Bd) : Nat → List Nat → List (List Nat)
  | 0, _ => []
  | k + 1, l => match b.drp l with
    | [] => []
    | x :: s => (x :: s) :: drR b k (srt (l ++ x :: s))
def drE (b : Bd) : Nat → List Nat → List Nat
  | 0, l => l
  | k + 1, l => match b.drp l with
    | [] => l
    | x :: s => drE b k (srt (l ++ x :: s))
theorem drE_ok (g : b.Good) : ∀ (k : Nat) (l : List Nat), Way b l → 13 ≤ l.length + k → Way b (b.drE k l) ∧ b.drp (b.drE k l) = []
  | 0, l, w, h => by have := w.len g; omega
  | k + 1, l, w, h => by
    rw [drE]
    cases hd : b.drp l with
    | nil => exact ⟨w, hd⟩
    | cons x s =>
      have := w.all g
      rw [hd] at this
      exact drE_ok g k _ this (by rw [srt_length]; simp; omega)
/-- how many rounds at most -/
theorem drR_len (g : b.Good) : ∀ (k : Nat) (l : List Nat), Way b l → (b.drR k l).length + l.length ≤ 12
  | 0, l, w => by have := w.len g; simp [drR]; omega
  | k + 1, l, w => by
    rw [drR]
    cases hd : b.drp l with
    | nil => have := w.len g; simp; omega
    | cons x s =>
      have := w.all g
      rw [hd] at this
      have := drR_len g k _ this
      rw [srt_length] at this
      simp at this ⊢; omega
theorem drR_more (g : b.Good) : ∀ (k j : Nat) (l : List Nat), Way b l → 13 ≤ l.length + k → 13 ≤ l.length + j → b.drR k l = b.drR j l
  | 0, _, l, w, h, _ => by have := w.len g; omega
  | _ + 1, 0, l, w, _, h => by have := w.len g; omega
  | k + 1, j + 1, l, w, h, h' => by
    rw [drR, drR]
    cases hd : b.drp l with
    | nil => rfl
    | cons x s =>
      have := w.all g
      rw [hd] at this
      simp only
      rw [drR_more g k j _ this (by rw [srt_length]; simp; omega) (by rw [srt_length]; simp; omega)]
theorem bes_stay (g : b.Good) {p : Nat × Nat} (h : p ∈ b.bes []) : p.1 ∉ b.dropped ∧ p.2 ∉ b.dropped := by
  obtain ⟨⟨h1, h2⟩, h3, h4⟩ := mem_bes.mp h
  have h1 := (mem_rowsL.mp h1).1
  have h2 := (mem_colsL.mp h2).1
  have key : ∀ l, Way b l → p.1 ∉ l ∧ p.2 ∉ l := by
    intro l w
    induction w with
    | nil => simp
    | more w hs a hm ih =>
      refine ⟨fun z => ?_, fun z => ?_⟩
      · rcases (hm _).mp z with z | z
        · exact ih.1 z
        · exact (((w.dl g).drp_iff g).mp (hs _ z)).2 p.2 (by omega) ih.2 h3
      · rcases (hm _).mp z with z | z
        · exact ih.2 z
        · exact (((w.dl g).drp_iff g).mp (hs _ z)).2 p.1 (by omega) ih.1 h4
  exact key _ (dropped_ok g).1
theorem last_drop (g : b.Good) : ∀ x ∈ b.last, x ∈ b.dropped := by
  have d := (dropped_ok g).1.dl g
  have c := (dropped_ok g).2
  have key : ∀ l, Comes b l → ∀ x ∈ l, x ∈ b.dropped := by
    intro l h
    induction h with
    | nil => simp
    | @step l m x hl hn hxl hc hm ih =>
      intro u hu
      rcases (hm u).mp hu with hu | rfl
      · exact ih u hu
      · refine Classical.byContradiction fun q => ?_
        have nd : u ∉ b.drp b.dropped := by rw [c]; simp
        rw [d.drp_iff g] at nd
        obtain ⟨y, hy, hyl, hxa⟩ : ∃ y, y < b.hi + b.wi ∧ y ∉ b.dropped ∧ u ∈ b.ans [] y := Classical.byContradiction fun z => nd ⟨⟨hn, q⟩, fun y hy hyl hx => z ⟨y, hy, hyl, hx⟩⟩
        obtain ⟨z, hz, hzl, _, hg⟩ := canF_iff.mp hc
        obtain ⟨hs, hw⟩ := isG_iff.mp hg
        have xm := mem_ans.mp hxa
        have yl : y ∉ l := fun w => hyl (ih y w)
        have yc : y ∈ b.cross l u := by
          have := xm.1
          rw [mem_cross] at this ⊢
          exact ⟨yl, by omega⟩
        have := hw y yc
        have zc : z ∈ b.cross [] y := by
          have := xm.1
          rw [mem_cross] at this ⊢
          exact ⟨by simp, by omega⟩
        have := xm.2 z zc
        omega
  exact key _ (last_ok g).1
theorem flatMap_filter' {α β : Type} (p : α → Bool) (f : α → List β) : ∀ L : List α, (L.filter p).flatMap f = L.flatMap fun x => if p x = true then f x else []
  | [] => rfl
  | a :: L => by
    by_cases c : p a = true
    · simp [c, flatMap_filter' p f L]
    · simp [c, flatMap_filter' p f L]
theorem bes_all : b.bes l = (List.range b.hi).flatMap fun x => ((List.range' b.hi b.wi).filter fun y => !decide (x ∈ l) && (!decide (y ∈ l) && (decide (x ∈ b.ans l y) && decide (y ∈ b.ans l x)))).map fun y => (x, y) := by
  unfold bes rowsL colsL
  rw [flatMap_filter']
  congr 1
  funext x
  by_cases c : x ∈ l
  · simp [c]
  · simp only [c, decide_false, Bool.not_false, if_true, Bool.true_and]
    rw [List.filter_filter]
    congr 1
    refine List.filter_congr fun y _ => ?_
    rw [Bool.and_comm]
theorem comes_stay (g : b.Good) (hx : x < b.hi) (h1 : b.hi ≤ y) (h2 : y < b.hi + b.wi) (h3 : x ∈ b.ans [] y) (h4 : y ∈ b.ans [] x) : ∀ l, Comes b l → x ∉ l ∧ y ∉ l := by
  intro l h
  have sub : ∀ l u v, u ∈ b.cross l v → u ∈ b.cross [] v := fun l u v h => by
    rw [mem_cross] at h ⊢; exact ⟨by simp, h.2⟩
  induction h with
  | nil => simp
  | @step l m u hl hn hul hc hm ih =>
    have cx : x ∈ b.cross l y := by rw [mem_cross]; exact ⟨ih.1, .inr ⟨h1, hx⟩⟩
    have cy : y ∈ b.cross l x := by rw [mem_cross]; exact ⟨ih.2, .inl ⟨hx, h1, h2⟩⟩
    have s1 := ans_stays cx cy (fun d hd => (mem_ans.mp h3).2 d (sub l d y hd)) (by omega)
    have s2 := ans_stays cy cx (fun d hd => (mem_ans.mp h4).2 d (sub l d x hd)) h2
    refine ⟨fun z => ?_, fun z => ?_⟩
    · rcases (hm _).mp z with z | z
      · exact ih.1 z
      · rw [z, hc] at s1; cases s1
    · rcases (hm _).mp z with z | z
      · exact ih.2 z
      · rw [z, hc] at s2; cases s2
theorem ans_up (c : Comes b l) (hyn : y < b.hi + b.wi) (hyl : y ∉ l) (h : x ∈ b.ans l y) : x ∈ b.ans [] y := by
  obtain ⟨h1, h2⟩ := mem_ans.mp h
  refine mem_ans.mpr ⟨by rw [mem_cross] at h1 ⊢; exact ⟨by simp, h1.2⟩, fun d hd => ?_⟩
  by_cases z : d ∈ l
  · obtain ⟨u, u1, u2, u3⟩ := c.over d z
    obtain ⟨s, w⟩ := isG_iff.mp u3
    have hd' := hd
    rw [mem_cross] at hd'
    have dl := c.lt d z
    have yc : y ∈ b.cross l d := by
      rw [mem_cross]
      refine ⟨hyl, ?_⟩
      rw [mem_cross] at h1
      by_cases q : d < b.hi
      · left
        exact ⟨q, by omega, hyn⟩
      · right; omega
    have := w y yc
    have uc : u ∈ b.cross l y := by rw [mem_cross]; exact ⟨u2, by omega⟩
    have := h2 u uc
    omega
  · exact h2 d (by rw [mem_cross] at hd ⊢; exact ⟨z, hd.2⟩)
theorem bes_last (g : b.Good) : b.bes b.last = b.bes [] := by
  rw [bes_all, bes_all]
  have c := (last_ok g).1
  have sub : ∀ l u v, u ∈ b.cross l v → u ∈ b.cross [] v := fun l u v h => by
    rw [mem_cross] at h ⊢; exact ⟨by simp, h.2⟩
  congr 1
  funext x
  by_cases hx : x < b.hi
  · congr 1
    refine List.filter_congr fun y hy => ?_
    have hy := List.mem_range'_1.mp hy
    rw [Bool.eq_iff_iff]
    simp only [Bool.and_eq_true, Bool.not_eq_true', decide_eq_false_iff_not, decide_eq_true_eq, List.not_mem_nil, not_false_eq_true, true_and]
    constructor
    · rintro ⟨h1, h2, h3, h4⟩
      exact ⟨ans_up c (by omega) h2 h3, ans_up c (by omega) h1 h4⟩
    · rintro ⟨h3, h4⟩
      obtain ⟨h1, h2⟩ := comes_stay g hx hy.1 hy.2 h3 h4 _ c
      have cx : x ∈ b.cross b.last y := by rw [mem_cross]; exact ⟨h1, .inr ⟨hy.1, hx⟩⟩
      have cy : y ∈ b.cross b.last x := by rw [mem_cross]; exact ⟨h2, .inl ⟨hx, hy.1, hy.2⟩⟩
      exact ⟨h1, h2, mem_ans.mpr ⟨cx, fun d hd => (mem_ans.mp h3).2 d (sub _ d y hd)⟩, mem_ans.mpr ⟨cy, fun d hd => (mem_ans.mp h4).2 d (sub _ d x hd)⟩⟩
  · congr 1
    refine List.filter_congr fun y hy => ?_
    have hy := List.mem_range'_1.mp hy
    rw [Bool.eq_iff_iff]
    simp only [Bool.and_eq_true, Bool.not_eq_true', decide_eq_false_iff_not, decide_eq_true_eq, List.not_mem_nil, not_false_eq_true, true_and]
    constructor
    · rintro ⟨h1, h2, h3, h4⟩
      have := (mem_ans.mp h3).1
      rw [mem_cross] at this; omega
    · rintro ⟨h3, h4⟩
      have := (mem_ans.mp h3).1
      rw [mem_cross] at this; omega
/-- all best answers to lines left are left -/
def cloB (b : Bd) (l : List Nat) : Bool := b.lns.all fun x => decide (x ∈ l) || (b.ans [] x).all fun z => !decide (z ∈ l)
end Bd
end L2.Z

namespace L2.Z.K01
open PySem L2.Z
section
variable {b : Bd} (g : b.Good)
include g
theorem pl_count {l : List Nat} (P : Bd.Pl b l) : (l.filter fun x => decide (x < b.hi)).length < b.hi ∧ l.length - (l.filter fun x => decide (x < b.hi)).length < b.wi := by
  obtain ⟨a, lt, ⟨r, r1, r2⟩, ⟨c, c1, c2, c3⟩⟩ := P
  have e : l.length = (l.filter fun x => decide (x < b.hi)).length + (l.filter fun x => !decide (x < b.hi)).length := by
    have : ∀ l : List Nat, l.length = (l.filter fun x => decide (x < b.hi)).length + (l.filter fun x => !decide (x < b.hi)).length := by
      intro l
      induction l with
      | nil => rfl
      | cons a l ih => by_cases z : a < b.hi <;> simp [z] <;> omega
    exact this l
  constructor
  · have nd : (r :: l.filter fun x => decide (x < b.hi)).Nodup := List.nodup_cons.mpr ⟨fun w => r2 (List.mem_filter.mp w).1, a.nodup.filter _⟩
    have := Bd.nodup_bound (n := b.hi) nd (fun x hx => by
      rcases List.mem_cons.mp hx with rfl | hx
      · exact r1
      · exact of_decide_eq_true (List.mem_filter.mp hx).2)
    simp at this; omega
  · have nd : (List.range b.hi ++ c :: l.filter fun x => !decide (x < b.hi)).Nodup := by
      rw [List.nodup_append]
      refine ⟨List.nodup_range, List.nodup_cons.mpr ⟨fun w => c3 (List.mem_filter.mp w).1, a.nodup.filter _⟩, fun x hx y hy => ?_⟩
      have hx := List.mem_range.mp hx
      rcases List.mem_cons.mp hy with rfl | hy
      · omega
      · have := (List.mem_filter.mp hy).2
        simp at this; omega
    have := Bd.nodup_bound (n := b.hi + b.wi) nd (fun x hx => by
      rcases List.mem_append.mp hx with hx | hx
      · have := List.mem_range.mp hx; omega
      · rcases List.mem_cons.mp hx with rfl | hx
        · exact c2
        · exact lt x (List.mem_filter.mp hx).1)
    simp at this; omega
theorem sum_sides : pSumA (.tuple [.int (b.hi : Int), .int (b.wi : Int)]) = some (false, .int ((b.hi : Int) + b.wi)) := sum2 _ _
theorem r_is_lot (n : Nat) {l : List Nat} (P : Bd.Pl b l) : run (n + 3) f_is_lot [eB b, eT l] = some (.bool true, .none) := by
  have e0 : pLen (.tuple (b.map eR)) = some (false, .int (b.hi : Int)) := len_B
  obtain ⟨r0, hr1, hr2⟩ := Bd.rect_get g g.h1
  have a0 : atI (b.map eR) 0 = some (eR r0) := by
    have : atI (b.map eR) ((0 : Nat) : Int) = some (eR r0) := by
      rw [at_nat (by rw [List.length_map]; exact g.h1), List.getElem?_map, hr1]; rfl
    exact this
  have hr3 : (r0.length : Int) = b.wi := by rw [hr2]
  have sd := r_sides g (n + 1)
  have ss := sum_sides g
  have c2 : ev (run (n + 2)) bf c_is_lot_2 [.dat (eB b), .dat (eT l), .un, .un, .un, .un] = some (.new (.list (l.map fun x => .bool true)), [.dat (eB b), .dat (eT l), .un, .un, .un, .un]) := by
    refine (lc_eval eI l (fun _ => true) (fun _ => .bool true) (rs := [.slot 1]) (ds := [eT l]) [.dat (eB b), .dat (eT l), .un, .un, .un, .un] ?_ ?_ rfl ?_ ?_ ?_).trans ?_
    · simp [slotsOf, conArg, truth, valof, esc, callArgs, callBack, escAll, asg, asgAll, evst, Tg.bind, getAll, Option.bind_some, Option.bind_none]
    · simp [slotsOf, conArg, truth, valof, esc, callArgs, callBack, escAll, asg, asgAll, evst, Tg.bind, getAll, Option.bind_some, Option.bind_none]
    · simp [slotsOf, conArg, truth, valof, esc, callArgs, callBack, escAll, asg, asgAll, evst, Tg.bind, getAll, Option.bind_some, Option.bind_none, z_frr, z_lc, gSeq, frLoop, lcLoop, wipeE, backE, lockAll, unlockAll, lockR, unlockR, Out.mapM, pAll, boolsOf]
    · intro x hx
      have := P.lt x hx
      have isf := r_is_from n (x : Int) 0 ((b.hi : Int) + b.wi - 1) ⟨by omega, by omega⟩
      simp [slotsOf, conArg, truth, valof, esc, callArgs, callBack, escAll, asg, asgAll, evst, Tg.bind, getAll, Option.bind_some, Option.bind_none, z_frr, z_lc, gSeq, frLoop, lcLoop, wipeE, backE, lockAll, unlockAll, lockR, unlockR, Out.mapM, pAll, boolsOf, bf, sd, ss, isf]
    · simp [slotsOf, conArg, truth, valof, esc, callArgs, callBack, escAll, asg, asgAll, evst, Tg.bind, getAll, Option.bind_some, Option.bind_none, z_frr, z_lc, gSeq, frLoop, lcLoop, wipeE, backE, lockAll, unlockAll, lockR, unlockR, Out.mapM, pAll, boolsOf]
    · rw [filter_true]
  have p2 : pAll (.list (l.map fun x => .bool true)) = some (false, .bool true) := by
    have := pAll_map (fun _ : Nat => true) l
    rw [this]; simp
  have s1 : pSlF (eT l) (.int 1) = some (false, .tuple ((l.drop 1).map eI)) := by
    have := cutD_from (l.map eI) 1
    simp only [Int.ofNat_eq_natCast, Int.cast_ofNat_Int] at this
    simp [List.map_drop, this]
  have c1 : ev (run (n + 2)) bf c_is_lot_1 [.dat (eB b), .dat (eT l), .un, .un, .un, .un] = some (.new (.list ((l.zip (l.drop 1)).map fun p => .bool (decide (p.2 ≤ p.1)))), [.dat (eB b), .dat (eT l), .un, .un, .un, .un]) := by
    refine (lc_eval (fun p : Nat × Nat => .tuple [eI p.1, eI p.2]) (l.zip (l.drop 1)) (fun _ => true) (fun p => .bool (decide (p.2 ≤ p.1))) (rs := [.slot 1, .val (.tuple ((l.drop 1).map eI))]) (ds := [eT l, .tuple ((l.drop 1).map eI)]) [.dat (eB b), .dat (eT l), .un, .un, .un, .un] ?_ ?_ ?_ ?_ ?_ ?_).trans ?_
    · simp [slotsOf, conArg, truth, valof, esc, callArgs, callBack, escAll, asg, asgAll, evst, Tg.bind, getAll, Option.bind_some, Option.bind_none, s1, -p_slF]
    · simp [slotsOf, conArg, truth, valof, esc, callArgs, callBack, escAll, asg, asgAll, evst, Tg.bind, getAll, Option.bind_some, Option.bind_none]
    · simp only [gZip]
      have : ∀ (xs ys : List Nat), zipD (xs.map eI) (ys.map eI) = (xs.zip ys).map fun p => .tuple [eI p.1, eI p.2] := by
        intro xs
        induction xs with
        | nil => intro ys; rfl
        | cons x xs ih =>
          intro ys
          cases ys with
          | nil => rfl
          | cons y ys => simp [zipD, ih ys]
      rw [this]
    · simp [slotsOf, conArg, truth, valof, esc, callArgs, callBack, escAll, asg, asgAll, evst, Tg.bind, getAll, Option.bind_some, Option.bind_none, z_frr, z_lc, gSeq, frLoop, lcLoop, wipeE, backE, lockAll, unlockAll, lockR, unlockR, Out.mapM, pAll, boolsOf]
    · rintro ⟨u, v⟩ _
      simp [slotsOf, conArg, truth, valof, esc, callArgs, callBack, escAll, asg, asgAll, evst, Tg.bind, getAll, Option.bind_some, Option.bind_none, z_frr, z_lc, gSeq, frLoop, lcLoop, wipeE, backE, lockAll, unlockAll, lockR, unlockR, Out.mapM, pAll, boolsOf]
    · simp [slotsOf, conArg, truth, valof, esc, callArgs, callBack, escAll, asg, asgAll, evst, Tg.bind, getAll, Option.bind_some, Option.bind_none, z_frr, z_lc, gSeq, frLoop, lcLoop, wipeE, backE, lockAll, unlockAll, lockR, unlockR, Out.mapM, pAll, boolsOf]
    · rw [filter_true]
  have p1 : pAny (.list ((l.zip (l.drop 1)).map fun p => .bool (decide (p.2 ≤ p.1)))) = some (false, .bool false) := by
    have := pAny_map (fun p : Nat × Nat => decide (p.2 ≤ p.1)) (l.zip (l.drop 1))
    rw [this]
    have : (l.zip (l.drop 1)).any (fun p => decide (p.2 ≤ p.1)) = false := by
      have key : ∀ l : List Nat, Asc l → (l.zip (l.drop 1)).any (fun p => decide (p.2 ≤ p.1)) = false := by
        intro l
        induction l with
        | nil => intro _; rfl
        | cons a l ih =>
          intro h
          cases l with
          | nil => rfl
          | cons c l =>
            have h1 := (List.pairwise_cons.mp h).1 c (by simp)
            have h2 := ih (List.pairwise_cons.mp h).2
            simp only [List.drop_succ_cons, List.drop_zero, List.zip_cons_cons, List.any_cons] at h2 ⊢
            rw [h2]
            simp; omega
      exact key l P.asc
    rw [this]
  have c0 : ev (run (n + 2)) bf c_is_lot_0 [.dat (eB b), .dat (eT l), .un, .un, .un, .un] = some (.new (eN (l.filter fun x => decide (x < b.hi))), [.dat (eB b), .dat (eT l), .un, .un, .un, .un]) := by
    refine (lc_eval eI l (fun x => decide (x < b.hi)) eI (rs := [.slot 1]) (ds := [eT l]) [.dat (eB b), .dat (eT l), .un, .un, .un, .un] ?_ ?_ rfl ?_ ?_ ?_).trans rfl
    · simp [slotsOf, conArg, truth, valof, esc, callArgs, callBack, escAll, asg, asgAll, evst, Tg.bind, getAll, Option.bind_some, Option.bind_none]
    · simp [slotsOf, conArg, truth, valof, esc, callArgs, callBack, escAll, asg, asgAll, evst, Tg.bind, getAll, Option.bind_some, Option.bind_none]
    · simp [slotsOf, conArg, truth, valof, esc, callArgs, callBack, escAll, asg, asgAll, evst, Tg.bind, getAll, Option.bind_some, Option.bind_none, z_frr, z_lc, gSeq, frLoop, lcLoop, wipeE, backE, lockAll, unlockAll, lockR, unlockR, Out.mapM, pAll, boolsOf]
    · intro x _
      by_cases z : x < b.hi <;> simp [slotsOf, conArg, truth, valof, esc, callArgs, callBack, escAll, asg, asgAll, evst, Tg.bind, getAll, Option.bind_some, Option.bind_none, z_frr, z_lc, gSeq, frLoop, lcLoop, wipeE, backE, lockAll, unlockAll, lockR, unlockR, Out.mapM, pAll, boolsOf, e0, z]
    · simp [slotsOf, conArg, truth, valof, esc, callArgs, callBack, escAll, asg, asgAll, evst, Tg.bind, getAll, Option.bind_some, Option.bind_none, z_frr, z_lc, gSeq, frLoop, lcLoop, wipeE, backE, lockAll, unlockAll, lockR, unlockR, Out.mapM, pAll, boolsOf]
  obtain ⟨k1, k2⟩ := pl_count g P
  have hfle : (l.filter fun x => decide (x < b.hi)).length ≤ l.length := List.length_filter_le _ _
  generalize (l.filter fun x => decide (x < b.hi)) = fl at *
  have lenF : pLen (eN fl) = some (false, .int (fl.length : Int)) := by simp
  have lenL : pLen (eT l) = some (false, .int (l.length : Int)) := by simp
  have d1 : decide ((fl.length : Int) < b.hi) = true := decide_eq_true (by omega)
  have d2 : decide ((l.length : Int) - fl.length < b.wi) = true := decide_eq_true (by omega)
  have it : pIsTup (eT l) = some (false, .bool true) := rfl
  generalize eN fl = FL at *
  generalize (PyData.list (l.map fun x => PyData.bool true)) = AL at *
  generalize (PyData.list ((l.zip (l.drop 1)).map fun p => PyData.bool (decide (p.2 ≤ p.1)))) = ZL at *
  generalize eT l = LT at *
  simp [run_is_lot, callBody, b_is_lot, slotsOf, conArg, truth, valof, esc, callArgs, callBack, escAll, asg, asgAll, evst, Tg.bind, getAll, Option.bind_some, Option.bind_none, e0, a0, hr3, c2, p2, c1, p1, c0, lenF, lenL, d1, d2, it, stored, k1]
theorem r_need_lot (n : Nat) {l : List Nat} (P : Bd.Pl b l) : run (n + 4) f_need_lot [eB b, eT l] = some (.none, .none) := by
  simp [run_need_lot, callBody, b_need_lot, slotsOf, conArg, truth, valof, esc, callArgs, callBack, escAll, asg, asgAll, evst, Tg.bind, getAll, Option.bind_some, Option.bind_none, bf, r_is_lot g n P]
theorem ans_len (l : List Nat) (x : Nat) : (b.ans l x).length ≤ 12 := by
  have h6 := g.h6
  have w6 := g.w6
  unfold Bd.ans
  refine Nat.le_trans (List.length_filter_le _ _) ?_
  unfold Bd.cross
  split
  · unfold Bd.colsL
    have := List.length_filter_le (fun x => !decide (x ∈ l)) (List.range' b.hi b.wi)
    simp at this; omega
  · unfold Bd.rowsL
    have := List.length_filter_le (fun x => !decide (x ∈ l)) (List.range b.hi)
    simp at this; omega
theorem ev_lines (n : Nat) (l : List Nat) (s0 s1 s4 s5 s6 : Slot) : ev (run n) bf (.tups (.star (.v 2) (.star (.v 3) (.nil)))) [s0, s1, .dat (eT (b.rowsL l)), .dat (eT (b.colsL l)), s4, s5, s6] = some (.val (eT (b.lft l)), [s0, s1, .dat (eT (b.rowsL l)), .dat (eT (b.colsL l)), s4, s5, s6]) := by
  have hl := Bd.lft_len (l := l) g
  have hl2 : (b.rowsL l).length + (b.colsL l).length ≤ sizeLine := by
    rw [sizeLine_eq]
    have : (b.rowsL l ++ b.colsL l).length ≤ 12 := hl
    rw [List.length_append] at this; omega
  simp [slotsOf, conArg, truth, valof, esc, callArgs, callBack, escAll, asg, asgAll, evst, Tg.bind, getAll, Option.bind_some, Option.bind_none, hl2, Bd.lft]
/-- the dict of good lines holds just these -/
def Gd (kvs : List (Nat × Bool)) (p : Nat → Prop) : Prop := ∀ x, (aGet kvs x).isSome = true ↔ p x
def lotLeft (ρ : Ev) : Nat := match (ρ[1]? : Option Slot) with
  | some (.dat (.tuple ds)) => 20 - ds.length
  | _ => 0
end
end L2.Z.K01

namespace L2.Z
open PySem
theorem ne_LL (K L : List (List Nat)) : pNe (.list (K.map eT)) (.list (L.map eT)) = some (false, .bool (!decide (K = L))) := pNe_enc ok_eT.lst (by decide) K L
theorem ne_L0 (K : List (List Nat)) : pNe (.list (K.map eT)) (.list []) = some (false, .bool (!decide (K = []))) := ne_LL K []
theorem eq_LL (K L : List (List Nat)) : pEq (.list (K.map eT)) (.list (L.map eT)) = some (false, .bool (decide (K = L))) := pEq_enc ok_eT.lst (by decide) K L
/-- e.pop() -/
theorem z_pop1 {Φ : Fns} {bf : Nat → Option Nat} {i : Nat} {ρ ρ' : Ev} {ds : List PyData} {d : PyData} (h : conOf ρ i = some (.list (ds ++ [d]))) (h2 : conSet ρ i (.list ds) = some ρ') : ev Φ bf (.pop i) ρ = some (.val d, ρ') := by
  simp only [ev, h, Option.bind_some]
  have e1 : (ds ++ [d])[(ds ++ [d]).length - 1]? = some d := by simp
  have e2 : (ds ++ [d]).dropLast = ds := by simp
  rw [e1, e2, Option.bind_some, h2]
  rfl
def leL (a b : List Nat) : Bool := leD (eT a) (eT b)
abbrev iL (a : List Nat) : List Int := a.map fun x : Nat => (x : Int)
theorem eT_iL (a : List Nat) : eT a = .tuple ((iL a).map .int) := by simp [eT, eI, List.map_map]
theorem leL_eq (a b : List Nat) : leL a b = !decide (iL b < iL a) := by
  show (!PySem.W.dataLt (eT b) (eT a)) = _
  rw [eT_iL, eT_iL, PySem.W.dataLt_tuple]
  show (!PySem.W.rowLt ((iL b).map .int) ((iL a).map .int)) = _
  rw [PySem.W.dataLt_ints]
theorem leL_iff {a b : List Nat} : leL a b = true ↔ iL a ≤ iL b := by
  rw [leL_eq]
  simp [List.not_lt]
theorem iL_inj {a b : List Nat} (h : iL a = iL b) : a = b := by
  have : ∀ {a b : List Nat}, iL a = iL b → a = b := by
    intro a
    induction a with
    | nil => intro b h; cases b with
      | nil => rfl
      | cons _ _ => simp at h
    | cons x a ih => intro b h; cases b with
      | nil => simp at h
      | cons y b =>
        simp only [iL, List.map_cons, List.cons.injEq] at h
        rw [ih h.2, show x = y by omega]
  exact this h
theorem leL_trans (a b c : List Nat) (h1 : leL a b = true) (h2 : leL b c = true) : leL a c = true := leL_iff.mpr (List.le_trans (leL_iff.mp h1) (leL_iff.mp h2))
theorem leL_total (a b : List Nat) : (leL a b || leL b a) = true := by
  rw [Bool.or_eq_true, leL_iff, leL_iff]
  exact List.le_total _ _
theorem leL_anti {a b : List Nat} (h1 : leL a b = true) (h2 : leL b a = true) : a = b := iL_inj (List.le_antisymm (leL_iff.mp h1) (leL_iff.mp h2))
theorem pw_uniq {α : Type} {r : α → α → Prop} (as : ∀ a b, r a b → ¬ r b a) : ∀ {xs ys : List α}, xs.Pairwise r → ys.Pairwise r → (∀ k, k ∈ xs ↔ k ∈ ys) → xs = ys
  | [], [], _, _, _ => rfl
  | [], y :: ys, _, _, h => by have := (h y).mpr (by simp); simp at this
  | x :: xs, [], _, _, h => by have := (h x).mp (by simp); simp at this
  | x :: xs, y :: ys, h1, h2, h => by
    obtain ⟨a1, a2⟩ := List.pairwise_cons.mp h1
    obtain ⟨b1, b2⟩ := List.pairwise_cons.mp h2
    have irr : ∀ a, ¬ r a a := fun a z => as a a z z
    have e : x = y := by
      rcases List.mem_cons.mp ((h x).mp (by simp)) with q | q
      · exact q
      · rcases List.mem_cons.mp ((h y).mpr (by simp)) with t | t
        · exact t.symm
        · exact absurd (a1 y t) (as _ _ (b1 x q))
    subst e
    rw [pw_uniq as a2 b2 fun k => ?_]
    constructor
    · intro hk
      rcases List.mem_cons.mp ((h k).mp (by simp [hk])) with q | q
      · subst q; exact absurd (a1 k hk) (irr k)
      · exact q
    · intro hk
      rcases List.mem_cons.mp ((h k).mpr (by simp [hk])) with q | q
      · subst q; exact absurd (b1 k hk) (irr k)
      · exact q
def ltL (a b : List Nat) : Prop := leL a b = true ∧ a ≠ b
theorem ltL_asymm (a b : List Nat) (h : ltL a b) : ¬ ltL b a := fun z => h.2 (leL_anti h.1 z.1)
def srtL (K : List (List Nat)) : List (List Nat) := K.mergeSort leL
theorem mem_srtL {K : List (List Nat)} {l : List Nat} : l ∈ srtL K ↔ l ∈ K := List.mem_mergeSort
theorem srtL_pw {K : List (List Nat)} (h : K.Nodup) : (srtL K).Pairwise ltL := by
  have hp := List.mergeSort_perm K leL
  have nd : (srtL K).Nodup := hp.nodup_iff.mpr h
  have le : (srtL K).Pairwise fun a b => leL a b = true := List.pairwise_mergeSort leL_trans leL_total K
  exact (le.and nd).imp fun {a b} h => ⟨h.1, h.2⟩
theorem srtL_eq {K L : List (List Nat)} (h : K.Nodup) (h2 : L.Pairwise ltL) (s : ∀ l, l ∈ K ↔ l ∈ L) : srtL K = L := pw_uniq ltL_asymm (srtL_pw h) h2 fun l => by rw [mem_srtL, s]
theorem srtL_enc (K : List (List Nat)) : (K.map eT).mergeSort leD = (srtL K).map eT := (List.map_mergeSort (r := leL) (s := leD) (f := eT) (fun _ _ _ _ => rfl)).symm
def subs : List Nat → List (List Nat)
  | [] => [[]]
  | x :: xs => (subs xs).map (x :: ·) ++ subs xs
theorem mem_subs : ∀ {xs l : List Nat}, l ∈ subs xs ↔ l.Sublist xs
  | [], l => by simp [subs]
  | x :: xs, l => by
    rw [subs, List.mem_append, List.mem_map]
    constructor
    · rintro (⟨m, hm, rfl⟩ | h)
      · exact (mem_subs.mp hm).cons_cons x
      · exact (mem_subs.mp h).cons x
    · intro h
      cases h with
      | cons _ h => exact .inr (mem_subs.mpr h)
      | cons_cons _ h => exact .inl ⟨_, mem_subs.mpr h, rfl⟩
theorem subs_length : ∀ xs : List Nat, (subs xs).length = 2 ^ xs.length
  | [] => rfl
  | x :: xs => by simp [subs, subs_length xs, Nat.pow_succ]; omega
theorem subs_nodup : ∀ {xs : List Nat}, xs.Nodup → (subs xs).Nodup
  | [], _ => by simp [subs]
  | x :: xs, h => by
    obtain ⟨h1, h2⟩ := List.nodup_cons.mp h
    rw [subs, List.nodup_append]
    refine ⟨?_, subs_nodup h2, fun a ha b hb e => ?_⟩
    · rw [List.Nodup, List.pairwise_map]
      exact (subs_nodup h2).imp fun h e => h (List.cons.inj e).2
    · subst e
      obtain ⟨m, _, rfl⟩ := List.mem_map.mp ha
      exact h1 ((mem_subs.mp hb).subset (by simp))
theorem asc_sub {n : Nat} {l : List Nat} (h : Asc l) (hl : ∀ x ∈ l, x < n) : l.Sublist (List.range n) := by
  have e : l = (List.range n).filter fun x => decide (x ∈ l) := asc_eq h (List.Pairwise.filter _ List.pairwise_lt_range) fun x => by
    simp only [List.mem_filter, List.mem_range, decide_eq_true_eq]
    exact ⟨fun hx => ⟨hl x hx, hx⟩, fun hx => hx.2⟩
  rw [e]
  exact List.filter_sublist
namespace Bd
variable {b : Bd} {l m ws : List Nat} {x y : Nat}
theorem clo_sub : ∀ (k : Nat) (l o : List Nat), (∀ x ∈ o, x ∈ ws) → ∀ x ∈ b.clo ws k l o, x ∈ ws
  | 0, l, o, h => h
  | k + 1, l, o, h => by
    rw [clo]
    cases hs : ws.filter fun x => !decide (x ∈ l) && b.canF l x with
    | nil => exact h
    | cons x s =>
      refine clo_sub k _ _ fun y hy => ?_
      rcases List.mem_append.mp hy with q | q
      · exact h y q
      · have : x ∈ ws.filter fun x => !decide (x ∈ l) && b.canF l x := by rw [hs]; simp
        simp at q
        subst q
        exact (List.mem_filter.mp this).1
theorem closure_sub : ∀ x ∈ b.closure ws, x ∈ ws := clo_sub 12 [] [] (fun _ h => by simp at h)
theorem Comes.withinR (g : b.Good) (c : Comes b l) (hl : ∀ x ∈ l, x ∈ ws) (c2 : Comes b m) (h : ∀ x ∈ ws, x ∉ m → b.canF m x = false) : ∀ x ∈ l, x ∈ m := by
  induction c with
  | nil => intro x q; simp at q
  | @step l l' x _ hx hxl hc hm ih =>
    have ih := ih fun y hy => hl y ((hm y).mpr (.inl hy))
    intro y hy
    rcases (hm y).mp hy with q | rfl
    · exact ih y q
    · by_cases q : y ∈ m
      · exact q
      · have := c2.later g ih q hc
        rw [h y (hl y hy) q] at this; cases this
/-- the closure is the greatest lot within -/
theorem closure_top (g : b.Good) (hw : ∀ x ∈ ws, x < b.hi + b.wi) (c : Comes b l) (hl : ∀ x ∈ l, x ∈ ws) : ∀ x ∈ l, x ∈ b.closure ws := by
  obtain ⟨h1, _, h3⟩ := closure_ok g ws hw
  exact c.withinR g hl h1 h3
theorem reached_iff (g : b.Good) (h : l.Nodup) (hl : ∀ x ∈ l, x < b.hi + b.wi) : (b.closure l).length = l.length ↔ Comes b l := by
  obtain ⟨h1, h2, h3⟩ := closure_ok g l hl
  constructor
  · intro e
    refine h1.congr fun x => ⟨fun hx => ?_, fun hx => closure_sub x hx⟩
    by_cases q : x ∈ b.closure l
    · exact q
    · exfalso
      have := List.Nodup.length_le_of_subset (List.nodup_cons.mpr ⟨q, h2⟩) (l₂ := l) (fun y hy => by
        rcases List.mem_cons.mp hy with rfl | hy
        · exact hx
        · exact closure_sub y hy)
      simp at this
      omega
  · intro c
    have a1 := List.Nodup.length_le_of_subset h (l₂ := b.closure l) fun x hx => closure_top g hl c (fun _ h => h) x hx
    have a2 := List.Nodup.length_le_of_subset h2 (l₂ := l) fun x hx => closure_sub x hx
    omega
/-- all lots, ascending -/
def alls (b : Bd) : List (List Nat) := srtL ((subs b.lns).filter fun l => decide ((b.closure l).length = l.length))
theorem alls0_nodup : ((subs b.lns).filter fun l => decide ((b.closure l).length = l.length)).Nodup := (subs_nodup (lns_nodup b)).filter _
theorem alls_pw : b.alls.Pairwise ltL := srtL_pw alls0_nodup
theorem mem_alls (g : b.Good) : l ∈ b.alls ↔ Asc l ∧ Comes b l := by
  unfold alls
  rw [mem_srtL, List.mem_filter, decide_eq_true_eq, mem_subs]
  constructor
  · rintro ⟨h1, h2⟩
    have a : Asc l := List.Pairwise.sublist h1 List.pairwise_lt_range
    exact ⟨a, (reached_iff g a.nodup fun x hx => mem_lns.mp (h1.subset hx)).mp h2⟩
  · rintro ⟨a, c⟩
    exact ⟨asc_sub a c.lt, (reached_iff g a.nodup c.lt).mpr c⟩
theorem alls_length (g : b.Good) : b.alls.length ≤ 4096 := by
  unfold alls srtL
  rw [List.length_mergeSort]
  refine Nat.le_trans (List.length_filter_le _ _) ?_
  rw [subs_length]
  have h6 := g.h6
  have w6 := g.w6
  have : b.lns.length ≤ 12 := by unfold lns; rw [List.length_range]; omega
  calc 2 ^ b.lns.length ≤ 2 ^ 12 := Nat.pow_le_pow_right (by decide) this
    _ = 4096 := by decide
theorem nil_alls (g : b.Good) : [] ∈ b.alls := (mem_alls g).mpr ⟨List.Pairwise.nil, .nil⟩
theorem last_alls (g : b.Good) : b.last ∈ b.alls := by
  obtain ⟨c, _, lt⟩ := last_ok g
  refine (mem_alls g).mpr ⟨?_, c⟩
  unfold last
  exact asc_srt (closure_ok g b.lns fun x hx => mem_lns.mp hx).2.1
/-- what is closed under strikes holds all lots -/
theorem all_of_closed (g : b.Good) {K : List (List Nat)} (h0 : [] ∈ K) (h : ∀ l ∈ K, ∀ x ∈ b.ready l, wl l x ∈ K) (hA : ∀ l ∈ K, Asc l) (c : Comes b m) : ∀ l, Asc l → (∀ x, x ∈ l ↔ x ∈ m) → l ∈ K := by
  induction c with
  | nil =>
    intro l _ s
    have : l = [] := List.eq_nil_iff_forall_not_mem.mpr fun x hx => by have := (s x).mp hx; simp at this
    subst this; exact h0
  | @step m m' x c hx hxm hc hm ih =>
    intro l al s
    obtain ⟨k, hk⟩ : ∃ k, k = b.lns.filter fun y => decide (y ∈ m) := ⟨_, rfl⟩
    have ka : Asc k := by rw [hk]; exact List.Pairwise.filter _ List.pairwise_lt_range
    have ks : ∀ y, y ∈ k ↔ y ∈ m := fun y => by
      rw [hk, List.mem_filter, decide_eq_true_eq, mem_lns]
      exact ⟨fun q => q.2, fun q => ⟨c.lt y q, q⟩⟩
    have kK := ih k ka ks
    have xr : x ∈ b.ready k := mem_ready.mpr ⟨hx, fun q => hxm ((ks x).mp q), by rw [canF_congr ks]; exact hc⟩
    have e : l = wl k x := asc_eq al (asc_wl ka fun q => hxm ((ks x).mp q)) fun y => by rw [s, hm, mem_wl, ks]
    rw [e]
    exact h k kK x xr
theorem alls_of (g : b.Good) {K : List (List Nat)} (hn : K.Nodup) (h0 : [] ∈ K) (h : ∀ l ∈ K, ∀ x ∈ b.ready l, wl l x ∈ K) (hA : ∀ l ∈ K, Asc l ∧ Comes b l) : srtL K = b.alls :=
  srtL_eq hn alls_pw fun l => by
    rw [mem_alls g]
    exact ⟨hA l, fun q => all_of_closed g h0 h (fun l hl => (hA l hl).1) q.2 l q.1 fun _ => Iff.rfl⟩
theorem step_ok (g : b.Good) (hl : Asc l ∧ Comes b l) (hx : x ∈ b.ready l) : Asc (wl l x) ∧ Comes b (wl l x) := ⟨asc_wl hl.1 (mem_ready.mp hx).2.1, comes_wl g hl.2 hx⟩
theorem known_length (g : b.Good) {K : List (List Nat)} (hn : K.Nodup) (hA : ∀ l ∈ K, Asc l ∧ Comes b l) : K.length ≤ 4096 :=
  Nat.le_trans (List.Nodup.length_le_of_subset hn (l₂ := b.alls) fun l hl => (mem_alls g).mpr (hA l hl)) (alls_length g)
end Bd
end L2.Z

namespace L2.Z
open PySem
section
variable {α : Type} [DecidableEq α]
def pushA (p : List α × List α) (m : α) : List α × List α := if m ∈ p.1 then p else (p.1 ++ [m], p.2 ++ [m])
def pushes (p : List α × List α) (ms : List α) : List α × List α := ms.foldl pushA p
theorem pushes_snoc (p : List α × List α) (ms : List α) (m : α) : pushes p (ms ++ [m]) = pushA (pushes p ms) m := by simp [pushes]
theorem pushA_len (p : List α × List α) (m : α) : (pushA p m).1.length ≤ p.1.length + 1 ∧ (pushA p m).2.length + p.1.length = p.2.length + (pushA p m).1.length ∧ p.1.length ≤ (pushA p m).1.length := by
  unfold pushA
  split
  · refine ⟨by omega, by omega, by omega⟩
  · simp; omega
theorem pushes_len : ∀ (ms : List α) (p : List α × List α), (pushes p ms).1.length ≤ p.1.length + ms.length ∧ (pushes p ms).2.length + p.1.length = p.2.length + (pushes p ms).1.length ∧ p.1.length ≤ (pushes p ms).1.length
  | [], p => ⟨by simp [pushes], by simp [pushes], by simp [pushes]⟩
  | m :: ms, p => by
    have a := pushA_len p m
    have b := pushes_len ms (pushA p m)
    simp only [pushes, List.foldl_cons, List.length_cons] at *
    omega
/-- the state of a search -/
structure Srch (next : α → List α) (ok : α → Prop) (s : α) (kn ed : List α) : Prop where
  nd : kn.Nodup
  ok : ∀ l ∈ kn, ok l
  hd : ∃ r, kn = s :: r
  nde : ed.Nodup
  sub : ∀ l ∈ ed, l ∈ kn
  cl : ∀ l ∈ kn, l ∉ ed → ∀ m ∈ next l, m ∈ kn
variable {next : α → List α} {ok : α → Prop} {s : α} {kn ed : List α}
theorem Srch.start (h : ok s) : Srch next ok s [s] [s] where
  nd := by simp
  ok := fun l hl => by simp at hl; subst hl; exact h
  hd := ⟨[], rfl⟩
  nde := by simp
  sub := fun l hl => hl
  cl := fun l hl h => absurd hl h
/-- while one, l, is looked at -/
structure SrchM (next : α → List α) (ok : α → Prop) (s l : α) (kn ed : List α) : Prop where
  nd : kn.Nodup
  ok : ∀ l ∈ kn, ok l
  hd : ∃ r, kn = s :: r
  nde : ed.Nodup
  sub : ∀ l ∈ ed, l ∈ kn
  cl : ∀ k ∈ kn, k ∉ ed → k ≠ l → ∀ m ∈ next k, m ∈ kn
theorem SrchM.push {l m : α} (S : SrchM next ok s l kn ed) (hm : ok m) : SrchM next ok s l (pushA (kn, ed) m).1 (pushA (kn, ed) m).2 ∧ m ∈ (pushA (kn, ed) m).1 ∧ ∀ k ∈ kn, k ∈ (pushA (kn, ed) m).1 := by
  unfold pushA
  split
  · rename_i h
    exact ⟨S, h, fun _ h => h⟩
  · rename_i h
    simp only at h
    refine ⟨⟨?_, ?_, ?_, ?_, ?_, ?_⟩, by simp, fun k hk => by simp [hk]⟩
    · exact List.nodup_append.mpr ⟨S.nd, by simp, fun a ha b hb e => by simp at hb; subst hb; subst e; exact h ha⟩
    · intro k hk
      rcases List.mem_append.mp hk with q | q
      · exact S.ok k q
      · simp at q; subst q; exact hm
    · obtain ⟨r, e⟩ := S.hd
      exact ⟨r ++ [m], by simp [e]⟩
    · exact List.nodup_append.mpr ⟨S.nde, by simp, fun a ha b hb e => by simp at hb; subst hb; subst e; exact h (S.sub _ ha)⟩
    · intro k hk
      rcases List.mem_append.mp hk with q | q
      · simp [S.sub k q]
      · simp [q]
    · intro k hk hke hkl y hy
      simp only [List.mem_append, List.mem_singleton, not_or] at hk hke ⊢
      rcases hk with q | q
      · exact .inl (S.cl k q hke.1 hkl y hy)
      · exact absurd q hke.2
theorem SrchM.pushes {l : α} : ∀ (ms : List α) {kn ed : List α}, SrchM next ok s l kn ed → (∀ m ∈ ms, ok m) → SrchM next ok s l (pushes (kn, ed) ms).1 (pushes (kn, ed) ms).2 ∧ (∀ m ∈ ms, m ∈ (pushes (kn, ed) ms).1) ∧ ∀ k ∈ kn, k ∈ (pushes (kn, ed) ms).1
  | [], kn, ed, S, _ => ⟨S, fun _ h => by simp at h, fun _ h => h⟩
  | m :: ms, kn, ed, S, h => by
    obtain ⟨S1, h1, h2⟩ := S.push (h m (by simp))
    obtain ⟨S2, h3, h4⟩ := SrchM.pushes ms S1 fun k hk => h k (by simp [hk])
    refine ⟨S2, fun k hk => ?_, fun k hk => h4 k (h2 k hk)⟩
    rcases List.mem_cons.mp hk with rfl | hk
    · exact h4 _ h1
    · exact h3 k hk
theorem Srch.step {ed' : List α} {l : α} (S : Srch next ok s kn ed) (e : ed = ed' ++ [l]) (hok : ∀ l, ok l → ∀ m ∈ next l, ok m) : Srch next ok s (L2.Z.pushes (kn, ed') (next l)).1 (L2.Z.pushes (kn, ed') (next l)).2 := by
  subst e
  have hl := S.sub l (by simp)
  have nde := List.nodup_append.mp S.nde
  have M : SrchM next ok s l kn ed' := ⟨S.nd, S.ok, S.hd, nde.1, fun k hk => S.sub k (by simp [hk]), fun k hk hke hkl => S.cl k hk (by simp [hke, hkl])⟩
  obtain ⟨M2, h1, h2⟩ := M.pushes (next l) (hok l (S.ok l hl))
  refine ⟨M2.nd, M2.ok, M2.hd, M2.nde, M2.sub, fun k hk hke => ?_⟩
  by_cases z : k = l
  · subst z; exact h1
  · exact M2.cl k hk hke z
abbrev eU (_ : Unit) : PyData := .bool true
abbrev eKn (ek : α → PyData) (kn : List α) : PyData := eD ek eU (kn.map fun l => (l, ()))
theorem kn_get (kn : List α) (l : α) : (aGet (kn.map fun l => (l, ())) l).isSome = decide (l ∈ kn) := by
  unfold aGet
  induction kn with
  | nil => simp
  | cons k kn ih =>
    rw [List.map_cons, List.find?_cons]
    by_cases h : k = l
    · simp [h]
    · have h2 : ¬ l = k := fun z => h z.symm
      rw [Option.isSome_map] at ih ⊢
      simp only [h, decide_false]
      rw [ih]
      simp [h2]
theorem kn_put {kn : List α} {l : α} (h : l ∉ kn) : aPut (kn.map fun l => (l, ())) l () = (kn ++ [l]).map fun l => (l, ()) := by
  unfold aPut
  rw [if_neg, List.map_append]; rfl
  simp only [List.any_map, List.any_eq_true, Function.comp, decide_eq_true_eq, not_exists, not_and]
  intro k hk e
  subst e
  exact h hk
variable {ek : α → PyData} (h : KEnc ek)
include h
theorem notIn_Kn (kn : List α) (l : α) : pNotIn (ek l) (eKn ek kn) = some (false, .bool (!decide (l ∈ kn))) := by
  rw [notIn_D h, kn_get]
theorem in_Kn (kn : List α) (l : α) : pIn (ek l) (eKn ek kn) = some (false, .bool (decide (l ∈ kn))) := by
  rw [in_D h, kn_get]
theorem set_Kn {kn : List α} {l : α} (hl : kn.length < sizeLine) (hn : l ∉ kn) : setD (eKn ek kn) (ek l) (.bool true) = some (eKn ek (kn ++ [l])) := by
  have := set_D (ev := eU) h (kn.map fun l => (l, ())) l () (by rw [List.length_map]; exact hl)
  rw [kn_put hn] at this
  exact this
end
end L2.Z

namespace L2.Z.K01
open PySem L2.Z
section
variable {b : Bd} (g : b.Good)
include g
omit g in
theorem okSort_kn {kn : List (List Nat)} (hd : ∃ r, kn = [] :: r) : okSortT (kn.map eT) = true := by
  obtain ⟨r, rfl⟩ := hd
  have al : ∀ a b : List Nat, PySem.W.alike (eT a) (eT b) = true := fun a b => by
    rw [eT_iL, eT_iL]
    unfold PySem.W.alike
    exact PySem.W.alike_ints _ _
  have de : ∀ a : List Nat, (eT a).depth ≤ 60 := fun a => Nat.le_trans (ok_eT.depth a) (by decide)
  unfold okSortT
  simp only [Bool.and_eq_true, Bool.or_eq_true, List.all_eq_true, decide_eq_true_eq]
  refine ⟨⟨fun x hx y hy => ?_, .inr rfl⟩, fun x hx => ?_⟩
  · obtain ⟨a, _, rfl⟩ := List.mem_map.mp hx
    obtain ⟨c, _, rfl⟩ := List.mem_map.mp hy
    exact al a c
  · obtain ⟨a, _, rfl⟩ := List.mem_map.mp hx
    exact de a
omit g in
theorem sort_kn {kn : List (List Nat)} (hd : ∃ r, kn = [] :: r) (hl : ∀ l ∈ kn, l.length ≤ 1000) : pSortKT (eKn eT kn) = some (true, .list ((srtL kn).map eT)) := by
  have e : ((kn.map fun l => (l, ())).map (eKV eT eU)).map Prod.fst = kn.map eT := by rw [List.map_map, List.map_map]; rfl
  have h1 : isTs ((kn.map fun l => (l, ())).map (eKV eT eU)) = true := by
    unfold isTs
    rw [List.all_eq_true]
    intro p hp
    obtain ⟨q, hq, rfl⟩ := List.mem_map.mp hp
    obtain ⟨l, hl', rfl⟩ := List.mem_map.mp hq
    have := hl l hl'
    have hT : isT (eT l) = true := by
      rcases kEnc_eT.kind with z | z
      · have := z l; simp [isK, kOf] at this
      · exact z l
    simp only [eKV, hT, Bool.true_and, keyLen, List.length_map, decide_eq_true_eq]
    rw [sizeLine_eq]; omega
  have h2 : (kn.map fun l => (l, ())).map (eKV eT eU) ≠ [] := by
    obtain ⟨r, rfl⟩ := hd
    simp
  show (if ((kn.map fun l => (l, ())).map (eKV eT eU)) ≠ [] ∧ isTs ((kn.map fun l => (l, ())).map (eKV eT eU)) = true ∧ okSortT (((kn.map fun l => (l, ())).map (eKV eT eU)).map Prod.fst) = true then some (true, PyData.list ((((kn.map fun l => (l, ())).map (eKV eT eU)).map Prod.fst).mergeSort leD)) else none) = _
  rw [e, if_pos ⟨h2, h1, okSort_kn hd⟩, srtL_enc]
end
end L2.Z.K01

namespace L2.Z
open PySem
/-- the lines of one or the other -/
def tog (l m : List Nat) : List Nat := srt (l ++ m.filter fun x => !decide (x ∈ l))
theorem mem_tog {l m : List Nat} {x : Nat} : x ∈ tog l m ↔ x ∈ l ∨ x ∈ m := by
  unfold tog
  rw [mem_srt, List.mem_append, List.mem_filter]
  simp only [Bool.not_eq_true', decide_eq_false_iff_not]
  by_cases h : x ∈ l <;> simp [h]
theorem tog_asc {l m : List Nat} (h : l.Nodup) (h2 : m.Nodup) : Asc (tog l m) := asc_srt (List.nodup_append.mpr ⟨h, h2.filter _, fun a ha c hc e => by
  subst e
  have := (List.mem_filter.mp hc).2
  simp [ha] at this⟩)
theorem asc_iL {l : List Nat} (h : Asc l) : (iL l).Pairwise (· < ·) := by
  rw [List.pairwise_map]
  exact h.imp fun h => by omega
theorem p_tog {l m : List Nat} (h : l.Nodup) (h2 : m.Nodup) (hl : l.length + m.length < 63) : pSortSetA (.tuple ((l ++ m).map eI)) = some (true, .list ((tog l m).map eI)) := by
  have e : (l ++ m).map eI = (iL (l ++ m)).map .int := by rw [List.map_map]; rfl
  have e2 : srtI (iL (l ++ m)) = iL (tog l m) := lt_uniq (srtI_lt _) (asc_iL (tog_asc h h2)) fun k => by
    rw [mem_srtI]
    simp only [iL, List.mem_map, List.mem_append, mem_tog]
  rw [e, p_sortSetT (by simp; omega), e2]
  congr 3
  rw [List.map_map]; rfl
theorem count_sum : ∀ (n : Nat) (l : List Nat), (∀ x ∈ l, x < n) → ((List.range n).map fun k => l.count k).sum = l.length
  | n, [], _ => by
    have : ∀ l : List Nat, (l.map fun _ => 0).sum = 0 := fun l => by induction l with
      | nil => rfl
      | cons a l ih => rw [List.map_cons, List.sum_cons, ih]
    simpa using this (List.range n)
  | n, x :: l, h => by
    have ih := count_sum n l fun y hy => h y (by simp [hy])
    have hx := h x (by simp)
    have key : ∀ (r : List Nat), r.Nodup → (r.map fun k => (x :: l).count k).sum = (r.map fun k => l.count k).sum + if x ∈ r then 1 else 0 := by
      intro r
      induction r with
      | nil => intro _; simp
      | cons k r ih2 =>
        intro hn
        obtain ⟨h1, h2⟩ := List.nodup_cons.mp hn
        have i := ih2 h2
        simp only [List.map_cons, List.sum_cons, List.count_cons] at i ⊢
        by_cases z : x = k
        · subst z
          rw [if_neg h1] at i
          simp at i ⊢
          omega
        · have z2 : (x == k) = false := by simp [z]
          rw [z2]
          simp only [List.mem_cons, z, false_or]
          simp at i ⊢
          omega
    rw [key _ List.nodup_range, ih, if_pos (List.mem_range.mpr hx)]
    simp
theorem count_N (ns : List Nat) (k : Nat) : pCountM (eN ns) [eI k] = some (false, eI (ns.count k)) := by
  have ok : okFind (eI k) (ns.map eI) = true := okFind_iff.mpr ⟨ok_eI.plain k, plainAll_map ok_eI ns, by have := ok_eI.depth k; omega⟩
  have : ∀ l : List Nat, (l.map eI).countP (fun y => PyData.eqv y (eI k)) = l.count k := by
    intro l
    induction l with
    | nil => rfl
    | cons b l ih =>
      rw [List.map_cons, List.countP_cons, List.count_cons, ih, ok_eI.eqv]
      by_cases c : b = k <;> simp [c]
  simp only [pCountM, pCount, if_pos ok, this]
theorem max_N {ns : List Nat} {m : Nat} (h : m ∈ ns) (h2 : ∀ x ∈ ns, x ≤ m) : pMaxS (eN ns) = some (false, eI m) := by
  obtain ⟨M, h3, h4, h5, _⟩ := max_ints (iL ns) (by intro e; rw [List.map_eq_nil_iff] at e; rw [e] at h; cases h)
  have e : (iL ns).map PyData.int = ns.map eI := by rw [List.map_map]; rfl
  rw [e] at h5
  obtain ⟨x, hx, rfl⟩ := List.mem_map.mp h3
  have a1 := h2 x hx
  have a2 := h4 m (List.mem_map.mpr ⟨m, h, rfl⟩)
  have : x = m := by omega
  subst this
  exact h5
namespace Bd
variable {b : Bd} {l m k ws : List Nat} {x y : Nat}
theorem Comes.union (g : b.Good) (c : Comes b l) (d : Comes b m) : Comes b (l ++ m) := by
  induction d with
  | nil => rw [List.append_nil]; exact c
  | @step m m' x d hx hxm hc hm ih =>
    by_cases h : x ∈ l
    · refine ih.congr fun y => ?_
      simp only [List.mem_append, hm]
      constructor
      · rintro (q | q | rfl)
        · exact .inl q
        · exact .inr q
        · exact .inl h
      · rintro (q | q)
        · exact .inl q
        · exact .inr (.inl q)
    · have hn : x ∉ l ++ m := by simp [h, hxm]
      refine .step ih hx hn (ih.later g (fun y hy => by simp [hy]) hn hc) fun y => ?_
      simp only [List.mem_append, hm, or_assoc]
theorem tog_alls (g : b.Good) (h : l ∈ b.alls) (h2 : m ∈ b.alls) : tog l m ∈ b.alls := by
  obtain ⟨a1, c1⟩ := (mem_alls g).mp h
  obtain ⟨a2, c2⟩ := (mem_alls g).mp h2
  exact (mem_alls g).mpr ⟨tog_asc a1.nodup a2.nodup, (c1.union g c2).congr fun x => by rw [mem_tog, List.mem_append]⟩
/-- the greatest lot within -/
def top (b : Bd) (ws : List Nat) : List Nat := srt (b.closure ws)
theorem mem_top : x ∈ b.top ws ↔ x ∈ b.closure ws := mem_srt
theorem top_alls (g : b.Good) (hw : ∀ x ∈ ws, x < b.hi + b.wi) : b.top ws ∈ b.alls := by
  obtain ⟨c, nd, _⟩ := closure_ok g ws hw
  exact (mem_alls g).mpr ⟨asc_srt nd, c.congr fun x => mem_srt⟩
theorem top_sub : ∀ x ∈ b.top ws, x ∈ ws := fun x hx => closure_sub x (mem_top.mp hx)
theorem top_top (g : b.Good) (hw : ∀ x ∈ ws, x < b.hi + b.wi) (h : l ∈ b.alls) (hl : ∀ x ∈ l, x ∈ ws) : ∀ x ∈ l, x ∈ b.top ws := fun x hx => mem_top.mpr (closure_top g hw ((mem_alls g).mp h).2 hl x hx)
theorem top_self (g : b.Good) (h : l ∈ b.alls) : b.top l = l := by
  obtain ⟨a, c⟩ := (mem_alls g).mp h
  exact asc_eq ((mem_alls g).mp (top_alls g c.lt)).1 a fun x => ⟨top_sub x, top_top g c.lt h (fun _ h => h) x⟩
theorem top_len : (b.top l).length = (b.closure l).length := srt_length _
theorem top_iff (g : b.Good) (a : Asc l) (hl : ∀ x ∈ l, x < b.hi + b.wi) : (b.closure l).length = l.length ↔ b.top l = l := by
  rw [reached_iff g a.nodup hl]
  exact ⟨fun c => top_self g ((mem_alls g).mpr ⟨a, c⟩), fun e => by have := top_alls g hl; rw [e] at this; exact ((mem_alls g).mp this).2⟩
/-- the lines that two lots have in common, as far as they come -/
def cmn (b : Bd) (l m : List Nat) : List Nat := b.top (l.filter fun x => decide (x ∈ m))
theorem mem_f {l m : List Nat} : x ∈ l.filter (fun x => decide (x ∈ m)) ↔ x ∈ l ∧ x ∈ m := by rw [List.mem_filter, decide_eq_true_eq]
theorem cmn_alls (g : b.Good) (h : l ∈ b.alls) : b.cmn l m ∈ b.alls := top_alls g fun x hx => ((mem_alls g).mp h).2.lt x (mem_f.mp hx).1
theorem cmn_sub : ∀ x ∈ b.cmn l m, x ∈ l ∧ x ∈ m := fun x hx => mem_f.mp (top_sub x hx)
theorem cmn_top (g : b.Good) (h : l ∈ b.alls) (hk : k ∈ b.alls) (h1 : ∀ x ∈ k, x ∈ l) (h2 : ∀ x ∈ k, x ∈ m) : ∀ x ∈ k, x ∈ b.cmn l m :=
  top_top g (fun x hx => ((mem_alls g).mp h).2.lt x (mem_f.mp hx).1) hk fun x hx => mem_f.mpr ⟨h1 x hx, h2 x hx⟩
theorem alls_eq (g : b.Good) (h : l ∈ b.alls) (h2 : m ∈ b.alls) (s : ∀ x, x ∈ l ↔ x ∈ m) : l = m := asc_eq ((mem_alls g).mp h).1 ((mem_alls g).mp h2).1 s
theorem tog_comm (g : b.Good) (h : l ∈ b.alls) (h2 : m ∈ b.alls) : tog m l = tog l m := alls_eq g (tog_alls g h2 h) (tog_alls g h h2) fun x => by rw [mem_tog, mem_tog]; exact Or.comm
theorem cmn_comm (g : b.Good) (h : l ∈ b.alls) (h2 : m ∈ b.alls) : b.cmn m l = b.cmn l m := alls_eq g (cmn_alls g h2) (cmn_alls g h) fun x =>
  ⟨fun q => cmn_top g h (cmn_alls g h2) (fun y hy => (cmn_sub y hy).2) (fun y hy => (cmn_sub y hy).1) x q, fun q => cmn_top g h2 (cmn_alls g h) (fun y hy => (cmn_sub y hy).2) (fun y hy => (cmn_sub y hy).1) x q⟩
theorem tog_self (g : b.Good) (h : l ∈ b.alls) : tog l l = l := alls_eq g (tog_alls g h h) h fun x => by rw [mem_tog]; simp
theorem sub_last (g : b.Good) (h : l ∈ b.alls) : ∀ x ∈ l, x ∈ b.last := by
  obtain ⟨c, cl, _⟩ := last_ok g
  exact ((mem_alls g).mp h).2.within g c cl
theorem cmn_last (g : b.Good) (h : l ∈ b.alls) : b.cmn l b.last = l := alls_eq g (cmn_alls g h) h fun x => ⟨fun q => (cmn_sub x q).1, cmn_top g h h (fun _ h => h) (sub_last g h) x⟩
theorem tog_last (g : b.Good) (h : l ∈ b.alls) : tog l b.last = b.last := alls_eq g (tog_alls g h (last_alls g)) (last_alls g) fun x => by
  rw [mem_tog]
  exact ⟨fun q => q.elim (sub_last g h x) id, .inr⟩
theorem distr (g : b.Good) (h : l ∈ b.alls) (h2 : m ∈ b.alls) (h3 : k ∈ b.alls) : ∀ x ∈ tog (b.cmn l m) k, x ∈ b.cmn (tog l k) (tog m k) := by
  refine cmn_top g (tog_alls g h h3) (tog_alls g (cmn_alls g h) h3) (fun x hx => ?_) (fun x hx => ?_)
  · rcases mem_tog.mp hx with q | q
    · exact mem_tog.mpr (.inl (cmn_sub x q).1)
    · exact mem_tog.mpr (.inr q)
  · rcases mem_tog.mp hx with q | q
    · exact mem_tog.mpr (.inl (cmn_sub x q).2)
    · exact mem_tog.mpr (.inr q)
/-- what is left of a lot behind its greatest part -/
def stk (b : Bd) (l : List Nat) : List Nat := l.filter fun x => !decide (x ∈ b.closure l)
theorem top_stk (a : Asc l) (hl : ∀ x ∈ l, x < b.hi + b.wi) (g : b.Good) : srt (b.top l ++ b.stk l) = l := by
  have ta := ((mem_alls g).mp (top_alls g hl)).1
  refine asc_eq (asc_srt (List.nodup_append.mpr ⟨ta.nodup, a.nodup.filter _, fun x hx y hy e => ?_⟩)) a fun x => ?_
  · subst e
    have := (List.mem_filter.mp hy).2
    simp [mem_top.mp hx] at this
  · rw [mem_srt, List.mem_append, stk, List.mem_filter]
    simp only [Bool.not_eq_true', decide_eq_false_iff_not]
    constructor
    · rintro (q | q)
      · exact top_sub x q
      · exact q.1
    · intro q
      by_cases z : x ∈ b.closure l
      · exact .inl (mem_top.mpr z)
      · exact .inr ⟨q, z⟩
theorem stk_nil (g : b.Good) (h : l ∈ b.alls) : b.stk l = [] := by
  obtain ⟨a, c⟩ := (mem_alls g).mp h
  refine List.filter_eq_nil_iff.mpr fun x hx => ?_
  have := closure_top g c.lt c (fun _ h => h) x hx
  simp [this]
/-- how many lots have 0, 1, .. lines -/
def szs (b : Bd) : List Nat := (List.range (b.last.length + 1)).map fun k => (b.alls.map List.length).count k
theorem alls_len_le (g : b.Good) (h : l ∈ b.alls) : l.length ≤ b.last.length := List.Nodup.length_le_of_subset ((mem_alls g).mp h).1.nodup fun x hx => sub_last g h x hx
theorem szs_sum (g : b.Good) : b.szs.sum = b.alls.length := by
  unfold szs
  rw [count_sum _ _ fun x hx => ?_, List.length_map]
  obtain ⟨l, hl, rfl⟩ := List.mem_map.mp hx
  have := alls_len_le g hl
  omega
theorem alls_nodup : b.alls.Nodup := alls_pw.imp fun h => h.2
theorem szs_last (g : b.Good) : (b.alls.map List.length).count b.last.length = 1 := by
  have h : ∀ (L : List (List Nat)), L.Nodup → (∀ l ∈ L, l.length = b.last.length → l = b.last) → (L.map List.length).count b.last.length = if b.last ∈ L then 1 else 0 := by
    intro L
    induction L with
    | nil => intro _ _; simp
    | cons l L ih =>
      intro hn hh
      obtain ⟨h1, h2⟩ := List.nodup_cons.mp hn
      have i := ih h2 fun k hk => hh k (by simp [hk])
      rw [List.map_cons, List.count_cons, i]
      by_cases z : l.length = b.last.length
      · have e := hh l (by simp) z
        subst e
        simp [h1]
      · have : b.last ≠ l := fun e => z (by rw [e])
        simp [z, this]
  rw [h _ alls_nodup fun l hl e => ?_, if_pos (last_alls g)]
  obtain ⟨a, c⟩ := (mem_alls g).mp hl
  refine alls_eq g hl (last_alls g) fun x => ⟨sub_last g hl x, fun hx => ?_⟩
  by_cases q : x ∈ l
  · exact q
  · exfalso
    have := List.Nodup.length_le_of_subset (List.nodup_cons.mpr ⟨q, a.nodup⟩) (l₂ := b.last) (fun y hy => by
      rcases List.mem_cons.mp hy with rfl | hy
      · exact hx
      · exact sub_last g hl y hy)
    simp at this
    omega
/-- the lots with a line -/
def wth (b : Bd) (x : Nat) : List (List Nat) := b.alls.filter fun l => decide (x ∈ l)
theorem wth_pos (g : b.Good) (hx : x ∈ b.last) : 1 ≤ (b.wth x).length ∧ (b.wth x).length < b.alls.length := by
  constructor
  · exact List.length_pos_of_mem (List.mem_filter.mpr ⟨last_alls g, by simpa using hx⟩)
  · refine Nat.lt_of_le_of_ne (List.length_filter_le _ _) fun e => ?_
    have := List.length_filter_eq_length_iff.mp e [] (nil_alls g)
    simp at this
end Bd
end L2.Z

namespace L2.Z.K01
open PySem L2.Z
section
variable {b : Bd} (g : b.Good)
include g
theorem pl_alls {l : List Nat} (h : l ∈ b.alls) : Bd.Pl b l := Bd.Pl.of_comes g ((Bd.mem_alls g).mp h).1 ((Bd.mem_alls g).mp h).2
theorem reached_alls {l : List Nat} (h : l ∈ b.alls) : (b.closure l).length = l.length := (Bd.reached_iff g ((Bd.mem_alls g).mp h).1.nodup ((Bd.mem_alls g).mp h).2.lt).mpr ((Bd.mem_alls g).mp h).2
theorem r_is_reached (n : Nat) (l : List Nat) (hl : ∀ x ∈ l, x < b.hi + b.wi) : run (n + 9) f_is_reached [eB b, eT l] = some (.bool (decide ((b.closure l).length = l.length)), .none) := by
  have e1 := r_closure g n l (eT l) rfl hl
  have e2 : pEq (.int ((b.closure l).length : Int)) (.int (l.length : Int)) = some (false, .bool (decide ((b.closure l).length = l.length))) := pEq_enc ok_eI (by decide) _ _
  simp [run_is_reached, callBody, b_is_reached, slotsOf, conArg, truth, valof, esc, callArgs, callBack, escAll, asg, asgAll, evst, Tg.bind, getAll, Option.bind_some, Option.bind_none, bf, e1, e2]
theorem r_comes (n : Nat) {l : List Nat} (P : Bd.Pl b l) : run (n + 10) f_comes [eB b, eT l] = some (.bool (decide ((b.closure l).length = l.length)), .none) := by
  simp [run_comes, callBody, b_comes, slotsOf, conArg, truth, valof, esc, callArgs, callBack, escAll, asg, asgAll, evst, Tg.bind, getAll, Option.bind_some, Option.bind_none, bf, r_need_board g (n + 5), r_need_lot g (n + 5) P, r_is_reached g n l P.lt]
theorem r_greatest_within (n : Nat) {l : List Nat} (P : Bd.Pl b l) : run (n + 9) f_greatest_within [eB b, eT l] = some (eT (b.top l), .none) := by
  have e1 := r_closure g n l (eT l) rfl P.lt
  simp [run_greatest_within, callBody, b_greatest_within, slotsOf, conArg, truth, valof, esc, callArgs, callBack, escAll, asg, asgAll, evst, Tg.bind, getAll, Option.bind_some, Option.bind_none, bf, r_need_board g (n + 4), r_need_lot g (n + 4) P, e1, sorted_N, Bd.top]
theorem r_stuck (n : Nat) {l : List Nat} (P : Bd.Pl b l) : run (n + 9) f_stuck [eB b, eT l] = some (eT (b.stk l), .none) := by
  have e1 := r_closure g n l (eT l) rfl P.lt
  have e2 : ev (run (n + 8)) bf c_stuck_0 [.dat (eB b), .dat (eT l), .dat (eN (b.closure l)), .un] = some (.new (eN (b.stk l)), [.dat (eB b), .dat (eT l), .dat (eN (b.closure l)), .un]) := by
    refine (lc_eval eI l (fun x => !decide (x ∈ b.closure l)) eI (rs := [.slot 1]) (ds := [eT l]) [.dat (eB b), .dat (eT l), .dat (eN (b.closure l)), .un] ?_ ?_ rfl ?_ ?_ ?_)
    · simp [slotsOf, conArg, truth, valof, esc, callArgs, callBack, escAll, asg, asgAll, evst, Tg.bind, getAll, Option.bind_some, Option.bind_none]
    · simp [slotsOf, conArg, truth, valof, esc, callArgs, callBack, escAll, asg, asgAll, evst, Tg.bind, getAll, Option.bind_some, Option.bind_none]
    · simp [slotsOf, conArg, truth, valof, esc, callArgs, callBack, escAll, asg, asgAll, evst, Tg.bind, getAll, Option.bind_some, Option.bind_none, z_frr, z_lc, gSeq, frLoop, lcLoop, wipeE, backE, lockAll, unlockAll, lockR, unlockR, Out.mapM, pAll, boolsOf]
    · intro x hx
      have e3 : pNotIn (eI x) (eN (b.closure l)) = some (false, .bool (!decide (x ∈ b.closure l))) := pNotIn_lst ok_eI (by decide) _ _
      by_cases z : x ∈ b.closure l <;> simp [slotsOf, conArg, truth, valof, esc, callArgs, callBack, escAll, asg, asgAll, evst, Tg.bind, getAll, Option.bind_some, Option.bind_none, z_frr, z_lc, gSeq, frLoop, lcLoop, wipeE, backE, lockAll, unlockAll, lockR, unlockR, Out.mapM, pAll, boolsOf, e3, z]
    · simp [slotsOf, conArg, truth, valof, esc, callArgs, callBack, escAll, asg, asgAll, evst, Tg.bind, getAll, Option.bind_some, Option.bind_none, z_frr, z_lc, gSeq, frLoop, lcLoop, wipeE, backE, lockAll, unlockAll, lockR, unlockR, Out.mapM, pAll, boolsOf]
  simp [run_stuck, callBody, b_stuck, slotsOf, conArg, truth, valof, esc, callArgs, callBack, escAll, asg, asgAll, evst, Tg.bind, getAll, Option.bind_some, Option.bind_none, bf, r_need_board g (n + 4), r_need_lot g (n + 4) P, e1, e2, stored]
end
end L2.Z.K01

namespace L2.Z
open PySem
namespace Bd
variable {b : Bd} {l m st ws : List Nat} {x y : Nat}
/-- the lot behind a row of strikes -/
def gone (st : List Nat) : List Nat := st.foldl wl []
theorem gone_nil : gone [] = [] := rfl
theorem gone_snoc (st : List Nat) (x : Nat) : gone (st ++ [x]) = wl (gone st) x := by simp [gone, List.foldl_append]
theorem snoc_ind {P : List Nat → Prop} (h0 : P []) (h : ∀ ys x, P ys → P (ys ++ [x])) (st : List Nat) : P st := by
  have : ∀ n (st : List Nat), st.length = n → P st := by
    intro n
    induction n with
    | zero => intro st h; rw [List.length_eq_zero_iff.mp h]; exact h0
    | succ n ih =>
      intro st hl
      rcases List.eq_nil_or_concat st with rfl | ⟨ys, x, rfl⟩
      · simp at hl
      · rw [List.concat_eq_append] at hl ⊢
        exact h ys x (ih ys (by simpa using hl))
  exact this _ st rfl
theorem mem_gone : x ∈ gone st ↔ x ∈ st := by
  revert x
  refine snoc_ind (P := fun st => ∀ {x}, x ∈ gone st ↔ x ∈ st) (by simp [gone]) (fun ys z ih => ?_) st
  intro x
  rw [gone_snoc, mem_wl, ih]
  simp
theorem gone_length : (gone st).length = st.length := by
  refine snoc_ind (P := fun st => (gone st).length = st.length) rfl (fun ys z ih => ?_) st
  rw [gone_snoc, wl_length, ih]; simp
/-- each strike of a row can be done where it stands -/
def RowOk (b : Bd) (st : List Nat) : Prop := ∀ ys x zs, st = ys ++ x :: zs → x ∈ b.ready (gone ys)
theorem RowOk.nil (b : Bd) : RowOk b [] := fun ys x zs h => by simp at h
theorem RowOk.pre (h : RowOk b (st ++ ws)) : RowOk b st := fun ys x zs e => h ys x (zs ++ ws) (by simp [e])
theorem RowOk.lastR (h : RowOk b (st ++ [x])) : x ∈ b.ready (gone st) := h st x [] rfl
theorem RowOk.snoc (h : RowOk b st) (hx : x ∈ b.ready (gone st)) : RowOk b (st ++ [x]) := by
  intro ys y zs e
  rcases List.eq_nil_or_concat zs with rfl | ⟨zs, z, rfl⟩
  · have := List.append_inj' e rfl
    obtain ⟨rfl, h2⟩ := this
    simp at h2; subst h2; exact hx
  · rw [List.concat_eq_append] at e
    have : st ++ [x] = (ys ++ y :: zs) ++ [z] := by simp [e]
    exact h ys y zs (List.append_inj' this rfl).1
theorem RowOk.ok (g : b.Good) (h : RowOk b st) : Asc (gone st) ∧ Comes b (gone st) := by
  revert h
  refine snoc_ind (P := fun st => RowOk b st → Asc (gone st) ∧ Comes b (gone st)) (fun _ => ⟨List.Pairwise.nil, .nil⟩) (fun ys x ih h => ?_) st
  rw [gone_snoc]
  exact step_ok g (ih h.pre) h.lastR
theorem RowOk.alls (g : b.Good) (h : RowOk b st) : gone st ∈ b.alls := (mem_alls g).mpr (h.ok g)
theorem RowOk.len (g : b.Good) (h : RowOk b st) : st.length ≤ 12 := by
  obtain ⟨a, c⟩ := h.ok g
  rw [← gone_length]
  exact (⟨a.nodup, c.lt⟩ : Lot b (gone st)).len12 g
theorem closed_last (g : b.Good) (a : Asc l) (c : Comes b l) (h : Closed b l) : l = b.last := by
  obtain ⟨k1, k2, k3⟩ := last_ok g
  exact asc_eq a (asc_srt (closure_ok g b.lns (fun x hx => mem_lns.mp hx)).2.1) fun x => c.uniq g h k1 k2 x
theorem RowOk.full (g : b.Good) (h : RowOk b st) (h2 : b.ready (gone st) = []) : gone st = b.last := closed_last g (h.ok g).1 (h.ok g).2 (ready_nil h2)
theorem ready_last (g : b.Good) : b.ready b.last = [] := by
  refine List.eq_nil_iff_forall_not_mem.mpr fun x hx => ?_
  obtain ⟨h1, h2, h3⟩ := mem_ready.mp hx
  rw [(last_ok g).2.1 x h1 h2] at h3
  cases h3
theorem clo_row (hw : ∀ x ∈ ws, x < b.hi + b.wi) : ∀ (k : Nat) (o : List Nat), RowOk b o → RowOk b (b.clo ws k (gone o) o)
  | 0, o, h => h
  | k + 1, o, h => by
    rw [clo]
    cases hs : ws.filter fun x => !decide (x ∈ gone o) && b.canF (gone o) x with
    | nil => exact h
    | cons x s =>
      have hx : x ∈ ws.filter fun x => !decide (x ∈ gone o) && b.canF (gone o) x := by rw [hs]; simp
      simp only [List.mem_filter, Bool.and_eq_true, Bool.not_eq_true', decide_eq_false_iff_not] at hx
      have := clo_row hw k (o ++ [x]) (h.snoc (mem_ready.mpr ⟨hw x hx.1, hx.2.1, hx.2.2⟩))
      rw [gone_snoc] at this
      exact this
theorem closure_row (hw : ∀ x ∈ ws, x < b.hi + b.wi) : RowOk b (b.closure ws) := clo_row hw 12 [] (RowOk.nil b)
theorem closure_gone (g : b.Good) (hw : ∀ x ∈ ws, x < b.hi + b.wi) : gone (b.closure ws) = b.top ws :=
  asc_eq ((closure_row hw).ok g).1 (asc_srt (closure_ok g ws hw).2.1) fun x => by rw [mem_gone, mem_top]
/-- the lot behind some rounds -/
def LrF (b : Bd) (l : List Nat) : Nat → List Nat
  | 0 => l
  | i + 1 => LrF b (srt (l ++ b.ready l)) i
theorem LrF_succ : ∀ (i : Nat) (l : List Nat), b.LrF l (i + 1) = srt (b.LrF l i ++ b.ready (b.LrF l i))
  | 0, l => rfl
  | i + 1, l => LrF_succ i (srt (l ++ b.ready l))
def Lr (b : Bd) (i : Nat) : List Nat := b.LrF [] i
theorem Lr_succ (i : Nat) : b.Lr (i + 1) = srt (b.Lr i ++ b.ready (b.Lr i)) := LrF_succ i []
theorem Lr_ok (g : b.Good) : ∀ i, Asc (b.Lr i) ∧ Comes b (b.Lr i)
  | 0 => ⟨List.Pairwise.nil, .nil⟩
  | i + 1 => by
    obtain ⟨a, c⟩ := Lr_ok g i
    rw [Lr_succ]
    exact ⟨asc_srt (List.nodup_append.mpr ⟨a.nodup, (lns_nodup b).filter _, fun x hx y hy e => (mem_ready.mp hy).2.1 (e ▸ hx)⟩),
      (c.more g _ fun x hx => ⟨(mem_ready.mp hx).1, (mem_ready.mp hx).2.2⟩).congr fun x => mem_srt⟩
theorem mem_Lr_succ {i : Nat} : x ∈ b.Lr (i + 1) ↔ x ∈ b.Lr i ∨ x ∈ b.ready (b.Lr i) := by rw [Lr_succ, mem_srt, List.mem_append]
theorem Lr_mono {i j : Nat} (h : i ≤ j) : ∀ x ∈ b.Lr i, x ∈ b.Lr j := by
  intro x hx
  induction j with
  | zero => have : i = 0 := by omega
            subst this; exact hx
  | succ j ih =>
    by_cases e : i = j + 1
    · subst e; exact hx
    · exact mem_Lr_succ.mpr (.inl (ih (by omega)))
theorem rnds_len (g : b.Good) : ∀ (k : Nat) (l : List Nat), Lot b l → 12 ≤ l.length + k →
    b.rnds k l = (List.range (b.rnds k l).length).map (fun i => b.ready (b.LrF l i)) ∧ b.ready (b.LrF l (b.rnds k l).length) = [] ∧ (b.rnds k l).length ≤ k ∧ ∀ i < (b.rnds k l).length, b.ready (b.LrF l i) ≠ []
  | 0, l, hl, hk => by
    refine ⟨rfl, ?_, Nat.le_refl _, fun i hi => by simp [rnds] at hi⟩
    refine List.eq_nil_iff_forall_not_mem.mpr fun x hx => ?_
    obtain ⟨h1, h2, h3⟩ := mem_ready.mp hx
    have h2 : x ∉ l := h2
    exact h2 (lot_full g hl (by omega) h1)
  | k + 1, l, hl, hk => by
    cases h : b.ready l with
    | nil =>
      have e : b.rnds (k + 1) l = [] := by rw [rnds, h]
      rw [e]
      exact ⟨rfl, h, Nat.zero_le _, fun i hi => by simp at hi⟩
    | cons x s =>
      have e : b.rnds (k + 1) l = (x :: s) :: b.rnds k (srt (l ++ x :: s)) := by rw [rnds, h]
      have hrd := hl.rd
      rw [h] at hrd
      obtain ⟨h1, h2, h3, h4⟩ := rnds_len g k (srt (l ++ x :: s)) hrd (by rw [srt_length]; simp; omega)
      rw [e]
      have es : srt (l ++ x :: s) = srt (l ++ b.ready l) := by rw [h]
      refine ⟨?_, ?_, ?_, ?_⟩
      · rw [List.length_cons, List.range_succ_eq_map, List.map_cons, List.map_map]
        show _ = b.ready l :: _
        rw [h]
        congr 1
        rw [es] at h1 ⊢
        exact h1
      · rw [List.length_cons]
        show b.ready (b.LrF (srt (l ++ b.ready l)) _) = []
        rw [← es]
        exact h2
      · rw [List.length_cons]; omega
      · intro i hi
        cases i with
        | zero => show b.ready l ≠ []; rw [h]; simp
        | succ i =>
          show b.ready (b.LrF (srt (l ++ b.ready l)) i) ≠ []
          rw [← es]
          exact h4 i (by simpa using hi)
/-- how many rounds -/
def nr (b : Bd) : Nat := b.rounds.length
theorem rounds_ok (g : b.Good) : b.rounds = (List.range b.nr).map (fun i => b.ready (b.Lr i)) ∧ b.ready (b.Lr b.nr) = [] ∧ b.nr ≤ 12 ∧ ∀ i < b.nr, b.ready (b.Lr i) ≠ [] := rnds_len g 12 [] (Lot.nil b) (by simp)
theorem Lr_last (g : b.Good) : b.Lr b.nr = b.last := closed_last g (Lr_ok g _).1 (Lr_ok g _).2 (ready_nil (rounds_ok g).2.1)
theorem round_once {i j : Nat} (h : x ∈ b.ready (b.Lr i)) (h2 : x ∈ b.ready (b.Lr j)) : i = j := by
  have key : ∀ {i j}, x ∈ b.ready (b.Lr i) → x ∈ b.ready (b.Lr j) → ¬ i < j := fun {i j} h h2 hl =>
    (mem_ready.mp h2).2.1 (Lr_mono (by omega : i + 1 ≤ j) x (mem_Lr_succ.mpr (.inr h)))
  have a := key h h2
  have c := key h2 h
  omega
theorem in_round : ∀ {n : Nat}, x ∈ b.Lr n → ∃ i < n, x ∈ b.ready (b.Lr i)
  | 0, h => by simp [Lr, LrF] at h
  | n + 1, h => by
    rcases mem_Lr_succ.mp h with h | h
    · obtain ⟨i, hi, h2⟩ := in_round h
      exact ⟨i, by omega, h2⟩
    · exact ⟨n, by omega, h⟩
theorem row_slow (g : b.Good) (h : RowOk b st) : ∀ x ∈ gone st, x ∈ b.Lr st.length := by
  revert h
  refine snoc_ind (P := fun st => RowOk b st → ∀ x ∈ gone st, x ∈ b.Lr st.length) (fun _ x hx => by simp [gone] at hx) (fun ys y ih h => ?_) st
  intro x hx
  have ih := ih h.pre
  rw [List.length_append, List.length_singleton]
  rw [gone_snoc, mem_wl] at hx
  rcases hx with hx | rfl
  · exact mem_Lr_succ.mpr (.inl (ih x hx))
  · by_cases q : x ∈ b.Lr ys.length
    · exact mem_Lr_succ.mpr (.inl q)
    · obtain ⟨h1, _, h3⟩ := mem_ready.mp h.lastR
      exact mem_Lr_succ.mpr (.inr (mem_ready.mpr ⟨h1, q, (Lr_ok g _).2.later g ih q h3⟩))
end Bd
end L2.Z

namespace L2.Z.K01
open PySem L2.Z
section
variable {b : Bd} (g : b.Good)
include g
theorem w_run_0_ev (n : Nat) {st : List Nat} (h : Bd.RowOk b st) : ∃ j3 j4, evS (run (n + 6)) bf MM w_run_0 [.dat (eB b), .dat (eT st), .dat (eT []), .un, .un] = some (.nx [.dat (eB b), .dat (eT st), .dat (eT (Bd.gone st)), j3, j4]) := by
  refine fr_eval (fun q : Nat × Nat => .tuple [.int (q.2 : Nat), eI q.1]) (st.zipIdx 0) (fun ys ρ => ∃ j3 j4, ρ = [.dat (eB b), .dat (eT st), .dat (eT (Bd.gone (ys.map Prod.fst))), j3, j4] ∧ Jk j3 ∧ Jk j4) (fun o => ∃ j3 j4, o = some (.nx [.dat (eB b), .dat (eT st), .dat (eT (Bd.gone st)), j3, j4])) (rs := [.slot 1]) (ds := [eT st]) (ρ0 := [.dat (eB b), .dat (eT st), .dat (eT []), .un, .un]) ?_ ?_ ?_ ?_ ?_ ?_
  · simp [slotsOf, conArg, truth, valof, esc, callArgs, callBack, escAll, asg, asgAll, evst, Tg.bind, getAll, Option.bind_some, Option.bind_none]
  · simp [slotsOf, conArg, truth, valof, esc, callArgs, callBack, escAll, asg, asgAll, evst, Tg.bind, getAll, Option.bind_some, Option.bind_none]
  · simp only [gEnum]
    rw [enumD_map]
  · exact ⟨.un, .un, by simp [z_frr, z_lc, gSeq, frLoop, lcLoop, wipeE, backE, lockAll, unlockAll, lockR, unlockR, Out.mapM, pAll, boolsOf, Bd.gone], .un, .un⟩
  · rintro ys ⟨x, i⟩ zs ρ hx ⟨j3, j4, rfl, k3, k4⟩
    have hst : st = ys.map Prod.fst ++ x :: zs.map Prod.fst := by
      have := congrArg (List.map Prod.fst) hx
      rw [List.map_append, List.map_cons, List.zipIdx_map_fst] at this
      exact this
    have hr := h _ _ _ hst
    have hp : Bd.RowOk b (ys.map Prod.fst) := Bd.RowOk.pre (ws := x :: zs.map Prod.fst) (hst ▸ h)
    rw [List.map_append, List.map_cons, List.map_nil, Bd.gone_snoc]
    obtain ⟨l, hl⟩ : ∃ l, l = Bd.gone (ys.map Prod.fst) := ⟨_, rfl⟩
    have l12 : l.length ≤ 12 := by rw [hl, Bd.gone_length]; exact hp.len g
    rw [← hl] at hr ⊢
    obtain ⟨h1, h2, h3⟩ := Bd.mem_ready.mp hr
    have sd := r_sides g (n + 5)
    have ss := sum_sides g
    have isf := r_is_from (n + 4) (x : Int) 0 ((b.hi : Int) + b.wi - 1) ⟨by omega, by omega⟩
    have q : pIn (eI x) (eT l) = some (false, .bool false) := (pIn_tup ok_eI (by decide) x l).trans (by simp [h2])
    have cf := r_can_fall g n l x h1 (by omega)
    rw [h3] at cf
    have wt := r_with_line (n + 5) l x (by omega)
    refine .inl ⟨[.dat (eB b), .dat (eT st), .dat (eT l), .dat (.int (i : Nat)), .dat (eI x)], [.dat (eB b), .dat (eT st), .dat (eT (Bd.wl l x)), .dat (.int (i : Nat)), .dat (eI x)], ?_, .inl ?_, _, _, rfl, .dat _, .dat _⟩
    · have f1 : asg 3 (.dat (.int (i : Nat))) [.dat (eB b), .dat (eT st), .dat (eT l), j3, j4] = some [.dat (eB b), .dat (eT st), .dat (eT l), .dat (.int (i : Nat)), j4] := k3.asg rfl
      have f2 : asg 4 (.dat (eI x)) [.dat (eB b), .dat (eT st), .dat (eT l), .dat (.int (i : Nat)), j4] = some [.dat (eB b), .dat (eT st), .dat (eT l), .dat (.int (i : Nat)), .dat (eI x)] := k4.asg rfl
      simp [Tg.bind, f1, f2]
    · obtain ⟨W, hW⟩ : ∃ W, W = eT (Bd.wl l x) := ⟨_, rfl⟩
      rw [← hW] at wt ⊢
      obtain ⟨S, hS⟩ : ∃ S, S = eT st := ⟨_, rfl⟩
      rw [← hS]
      obtain ⟨L, hL⟩ : ∃ L, L = eT l := ⟨_, rfl⟩
      rw [← hL] at wt cf q ⊢
      simp [slotsOf, conArg, truth, valof, esc, callArgs, callBack, escAll, asg, asgAll, evst, Tg.bind, getAll, Option.bind_some, Option.bind_none, bf, sd, ss, isf, q, cf, wt]
  · rintro ρ ⟨j3, j4, rfl, k3, k4⟩
    exact ⟨j3, j4, by simp [z_frr, z_lc, gSeq, frLoop, lcLoop, wipeE, backE, lockAll, unlockAll, lockR, unlockR, Out.mapM, pAll, boolsOf, List.zipIdx_map_fst]⟩
theorem r_run (n : Nat) {st : List Nat} (h : Bd.RowOk b st) : run (n + 7) f_run [eB b, eT st] = some (eT (Bd.gone st), .none) := by
  obtain ⟨j3, j4, e⟩ := w_run_0_ev g n h
  refine (run_run (n + 6) _).trans (callBody_rt rfl (ρ := [.dat (eB b), .dat (eT st), .dat (eT (Bd.gone st)), j3, j4]) ?_)
  refine z_step [.dat (eB b), .dat (eT st), .dat (eT []), .un, .un] (by simp [slotsOf, conArg, truth, valof, esc, callArgs, callBack, escAll, asg, asgAll, evst, Tg.bind, getAll, Option.bind_some, Option.bind_none, stored]) (z_step _ e ?_)
  simp [slotsOf, conArg, truth, valof, esc, callArgs, callBack, escAll, asg, asgAll, evst, Tg.bind, getAll, Option.bind_some, Option.bind_none]
theorem r_need_strikes (n : Nat) {st : List Nat} (h : Bd.RowOk b st) : run (n + 8) f_need_strikes [eB b, eT st] = some (eT (Bd.gone st), .none) := by
  have e := r_run g n h
  obtain ⟨D, hD⟩ : ∃ D, D = Bd.gone st := ⟨_, rfl⟩
  rw [← hD] at e ⊢
  have i1 : pIsTup (eT st) = some (false, .bool true) := rfl
  have i2 : pIsInt (eT D) = some (false, .bool false) := rfl
  simp [run_need_strikes, callBody, b_need_strikes, slotsOf, conArg, truth, valof, esc, callArgs, callBack, escAll, asg, asgAll, evst, Tg.bind, getAll, Option.bind_some, Option.bind_none, bf, e, i1, i2, stored]
theorem r_play (n : Nat) {st : List Nat} (h : Bd.RowOk b st) : run (n + 9) f_play [eB b, eT st] = some (eT (Bd.gone st), .none) := by
  have e := r_need_strikes g n h
  simp [run_play, callBody, b_play, slotsOf, conArg, truth, valof, esc, callArgs, callBack, escAll, asg, asgAll, evst, Tg.bind, getAll, Option.bind_some, Option.bind_none, bf, r_need_board g (n + 4), e]
theorem r_shows_strikes (n : Nat) {st l : List Nat} (P : Bd.Pl b l) (h : Bd.RowOk b st) : run (n + 9) f_shows_strikes [eB b, eT l, eT st] = some (.bool (decide (Bd.gone st = l)), .none) := by
  have e := r_run g (n + 1) h
  have q := eq_T (Bd.gone st) l
  have i1 : pIsTup (eT st) = some (false, .bool true) := rfl
  simp [run_shows_strikes, callBody, b_shows_strikes, slotsOf, conArg, truth, valof, esc, callArgs, callBack, escAll, asg, asgAll, evst, Tg.bind, getAll, Option.bind_some, Option.bind_none, bf, r_need_board g (n + 4), r_need_lot g (n + 4) P, e, i1, q]
/-- the boards on the way -/
def bow (b : Bd) (st : List Nat) : List Bd := b :: (List.range st.length).map fun i => b.shown (Bd.gone (st.take (i + 1)))
omit g in
theorem bow_snoc {st : List Nat} {x : Nat} {zs : List Nat} : bow b (st ++ [x]) = bow b st ++ [b.shown (Bd.gone (st ++ [x]))] := by
  unfold bow
  rw [List.length_append, List.length_singleton, List.range_succ, List.map_append, List.cons_append]
  congr 2
  · refine List.map_congr_left fun i hi => ?_
    have := List.mem_range.mp hi
    rw [List.take_append_of_le_length (by omega)]
  · simp only [List.map_cons, List.map_nil]
    rw [List.take_of_length_le (by simp)]
theorem r_some_strikes (n : Nat) {l : List Nat} (h : l ∈ b.alls) : run (n + 9) f_some_strikes [eB b, eT l] = some (eT (b.closure l), .none) := by
  have P := pl_alls g h
  have e1 := r_closure g n l (eT l) rfl P.lt
  have e2 : pEq (.int ((b.closure l).length : Int)) (.int (l.length : Int)) = some (false, .bool true) := (pEq_enc ok_eI (by decide) _ _).trans (by rw [reached_alls g h]; simp)
  obtain ⟨C, hC⟩ : ∃ C, C = b.closure l := ⟨_, rfl⟩
  rw [← hC] at e1 e2 ⊢
  simp [run_some_strikes, callBody, b_some_strikes, slotsOf, conArg, truth, valof, esc, callArgs, callBack, escAll, asg, asgAll, evst, Tg.bind, getAll, Option.bind_some, Option.bind_none, bf, r_need_board g (n + 4), r_need_lot g (n + 4) P, e1, e2, stored]
end
end L2.Z.K01

namespace L2.Z.K01
open PySem L2.Z
/-- numbers from 0 to 6 -/
def Lo (n : Nat) (l : List Int) : Prop := l.length = n ∧ ∀ x ∈ l, 0 ≤ x ∧ x ≤ 6
theorem lboard_lc (n : Nat) {R : PyData} (h : Rw R) (l : List Int) (p1 p2 p3 p4 p5 p6 p8 p10 p11 : Slot) :
    ∃ (l' : List Int) (R' : PyData), Rw R' ∧ Lo l.length l' ∧ ev (run (n + 1)) bf c__law_board_1 [.ref R, p1, p2, p3, p4, p5, p6, .own (.list (l.map .int)), p8, .un, p10, p11] = some (.new (.list (l'.map .int)), [.ref R', p1, p2, p3, p4, p5, p6, .own (.list (l.map .int)), p8, .un, p10, p11]) := by
  obtain ⟨acc, ρ', ha, ⟨l', R', hR, hl, e1, e2⟩, w⟩ := lc_inv (Φ := run (n + 1)) (bf := bf) (e := .op2 pMulI (.k (.int 2)) (.call f__law_taken (.cons (.v 0) (.cons (.k (.int 4)) .nil)))) (t := .n 9) (g := gSeq) (as := .cons (.v 7) .nil) (c := .k (.bool true)) (own := [9]) PyData.int l
    (fun acc ρ => ∃ (l' : List Int) (R' : PyData), Rw R' ∧ Lo acc.length l' ∧ acc = l'.map .int ∧ ρ = [.ref R', p1, p2, p3, p4, p5, p6, .lok false (.list (l.map .int)), p8, .un, p10, p11])
    (ρ := [.ref R, p1, p2, p3, p4, p5, p6, .own (.list (l.map .int)), p8, .un, p10, p11]) (ρ0 := [.ref R, p1, p2, p3, p4, p5, p6, .own (.list (l.map .int)), p8, .un, p10, p11]) (rs := [.slot 7]) (ds := [.list (l.map .int)]) (ρ1 := [.ref R, p1, p2, p3, p4, p5, p6, .lok false (.list (l.map .int)), p8, .un, p10, p11])
    (by simp [slotsOf, conArg, truth, valof, esc, callArgs, callBack, escAll, asg, asgAll, evst, Tg.bind, getAll, Option.bind_some, Option.bind_none]) (by simp [slotsOf, conArg, truth, valof, esc, callArgs, callBack, escAll, asg, asgAll, evst, Tg.bind, getAll, Option.bind_some, Option.bind_none]) rfl (by simp [slotsOf, conArg, truth, valof, esc, callArgs, callBack, escAll, asg, asgAll, evst, Tg.bind, getAll, Option.bind_some, Option.bind_none, z_frr, z_lc, gSeq, frLoop, lcLoop, wipeE, backE, lockAll, unlockAll, lockR, unlockR, Out.mapM, pAll, boolsOf]) ⟨[], R, h, ⟨rfl, by simp⟩, rfl, rfl⟩ (by
      rintro acc x _ hx ⟨l', R1, hR, ⟨hl1, hl2⟩, rfl, rfl⟩
      obtain ⟨y, R2, hR2, hy, d⟩ := draw hR n 4 (by decide)
      have m1 : MulOk 2 y := mulOk (by omega) (by omega)
      refine ⟨[.ref R1, p1, p2, p3, p4, p5, p6, .lok false (.list (l.map .int)), p8, .dat (.int x), p10, p11], [.ref R2, p1, p2, p3, p4, p5, p6, .lok false (.list (l.map .int)), p8, .dat (.int x), p10, p11], [.ref R2, p1, p2, p3, p4, p5, p6, .lok false (.list (l.map .int)), p8, .un, p10, p11], .int (2 * y), ?_, ?_, ?_, ?_, l' ++ [2 * y], R2, hR2, ⟨by simp, ?_⟩, by simp, rfl⟩
      · simp [slotsOf, conArg, truth, valof, esc, callArgs, callBack, escAll, asg, asgAll, evst, Tg.bind, getAll, Option.bind_some, Option.bind_none]
      · simp [slotsOf, conArg, truth, valof, esc, callArgs, callBack, escAll, asg, asgAll, evst, Tg.bind, getAll, Option.bind_some, Option.bind_none]
      · simp [slotsOf, conArg, truth, valof, esc, callArgs, callBack, escAll, asg, asgAll, evst, Tg.bind, getAll, Option.bind_some, Option.bind_none, bf, Res.ix, conOf, conSet, d, p_IC m1]
      · simp [slotsOf, conArg, truth, valof, esc, callArgs, callBack, escAll, asg, asgAll, evst, Tg.bind, getAll, Option.bind_some, Option.bind_none, z_frr, z_lc, gSeq, frLoop, lcLoop, wipeE, backE, lockAll, unlockAll, lockR, unlockR, Out.mapM, pAll, boolsOf]
      · intro z hz
        rcases List.mem_append.mp hz with hz | hz
        · exact hl2 z hz
        · simp at hz; omega)
  subst e2
  rw [ha] at hl
  refine ⟨l', R', hR, hl, ?_⟩
  rw [e1] at w
  exact w _ (by simp [slotsOf, conArg, truth, valof, esc, callArgs, callBack, escAll, asg, asgAll, evst, Tg.bind, getAll, Option.bind_some, Option.bind_none, z_frr, z_lc, gSeq, frLoop, lcLoop, wipeE, backE, lockAll, unlockAll, lockR, unlockR, Out.mapM, pAll, boolsOf])
theorem lboard_lc0 (n : Nat) {R : PyData} (h : Rw R) (l : List Int) (p1 p2 p3 p4 p5 p6 p7 p10 p11 : Slot) :
    ∃ (l' : List Int) (R' : PyData), Rw R' ∧ Lo l.length l' ∧ ev (run (n + 1)) bf c__law_board_0 [.ref R, p1, p2, p3, p4, p5, p6, p7, .own (.list (l.map .int)), .un, p10, p11] = some (.new (.list (l'.map .int)), [.ref R', p1, p2, p3, p4, p5, p6, p7, .own (.list (l.map .int)), .un, p10, p11]) := by
  obtain ⟨acc, ρ', ha, ⟨l', R', hR, hl, e1, e2⟩, w⟩ := lc_inv (Φ := run (n + 1)) (bf := bf) (e := .op2 pMulI (.k (.int 2)) (.call f__law_taken (.cons (.v 0) (.cons (.k (.int 4)) .nil)))) (t := .n 9) (g := gSeq) (as := .cons (.v 8) .nil) (c := .k (.bool true)) (own := [9]) PyData.int l
    (fun acc ρ => ∃ (l' : List Int) (R' : PyData), Rw R' ∧ Lo acc.length l' ∧ acc = l'.map .int ∧ ρ = [.ref R', p1, p2, p3, p4, p5, p6, p7, .lok false (.list (l.map .int)), .un, p10, p11])
    (ρ := [.ref R, p1, p2, p3, p4, p5, p6, p7, .own (.list (l.map .int)), .un, p10, p11]) (ρ0 := [.ref R, p1, p2, p3, p4, p5, p6, p7, .own (.list (l.map .int)), .un, p10, p11]) (rs := [.slot 8]) (ds := [.list (l.map .int)]) (ρ1 := [.ref R, p1, p2, p3, p4, p5, p6, p7, .lok false (.list (l.map .int)), .un, p10, p11])
    (by simp [slotsOf, conArg, truth, valof, esc, callArgs, callBack, escAll, asg, asgAll, evst, Tg.bind, getAll, Option.bind_some, Option.bind_none]) (by simp [slotsOf, conArg, truth, valof, esc, callArgs, callBack, escAll, asg, asgAll, evst, Tg.bind, getAll, Option.bind_some, Option.bind_none]) rfl (by simp [slotsOf, conArg, truth, valof, esc, callArgs, callBack, escAll, asg, asgAll, evst, Tg.bind, getAll, Option.bind_some, Option.bind_none, z_frr, z_lc, gSeq, frLoop, lcLoop, wipeE, backE, lockAll, unlockAll, lockR, unlockR, Out.mapM, pAll, boolsOf]) ⟨[], R, h, ⟨rfl, by simp⟩, rfl, rfl⟩ (by
      rintro acc x _ hx ⟨l', R1, hR, ⟨hl1, hl2⟩, rfl, rfl⟩
      obtain ⟨y, R2, hR2, hy, d⟩ := draw hR n 4 (by decide)
      have m1 : MulOk 2 y := mulOk (by omega) (by omega)
      refine ⟨[.ref R1, p1, p2, p3, p4, p5, p6, p7, .lok false (.list (l.map .int)), .dat (.int x), p10, p11], [.ref R2, p1, p2, p3, p4, p5, p6, p7, .lok false (.list (l.map .int)), .dat (.int x), p10, p11], [.ref R2, p1, p2, p3, p4, p5, p6, p7, .lok false (.list (l.map .int)), .un, p10, p11], .int (2 * y), ?_, ?_, ?_, ?_, l' ++ [2 * y], R2, hR2, ⟨by simp, ?_⟩, by simp, rfl⟩
      · simp [slotsOf, conArg, truth, valof, esc, callArgs, callBack, escAll, asg, asgAll, evst, Tg.bind, getAll, Option.bind_some, Option.bind_none]
      · simp [slotsOf, conArg, truth, valof, esc, callArgs, callBack, escAll, asg, asgAll, evst, Tg.bind, getAll, Option.bind_some, Option.bind_none]
      · simp [slotsOf, conArg, truth, valof, esc, callArgs, callBack, escAll, asg, asgAll, evst, Tg.bind, getAll, Option.bind_some, Option.bind_none, bf, Res.ix, conOf, conSet, d, p_IC m1]
      · simp [slotsOf, conArg, truth, valof, esc, callArgs, callBack, escAll, asg, asgAll, evst, Tg.bind, getAll, Option.bind_some, Option.bind_none, z_frr, z_lc, gSeq, frLoop, lcLoop, wipeE, backE, lockAll, unlockAll, lockR, unlockR, Out.mapM, pAll, boolsOf]
      · intro z hz
        rcases List.mem_append.mp hz with hz | hz
        · exact hl2 z hz
        · simp at hz; omega)
  subst e2
  rw [ha] at hl
  refine ⟨l', R', hR, hl, ?_⟩
  rw [e1] at w
  exact w _ (by simp [slotsOf, conArg, truth, valof, esc, callArgs, callBack, escAll, asg, asgAll, evst, Tg.bind, getAll, Option.bind_some, Option.bind_none, z_frr, z_lc, gSeq, frLoop, lcLoop, wipeE, backE, lockAll, unlockAll, lockR, unlockR, Out.mapM, pAll, boolsOf])
/-- a place of the law's boards -/
def PlOk (p : Int × Int) : Prop := (0 ≤ p.1 ∧ p.1 ≤ 106) ∧ -1 ≤ p.2 ∧ p.2 ≤ 106
theorem lboard_row (n : Nat) {R : PyData} (h : Rw R) {W : Nat} (hW : W ≤ 6) {m : Int} (hm : 1 ≤ m ∧ m ≤ 100) {l1 l2 : List Int} {H : Nat} (k1 : Lo H l1) (k2 : Lo W l2) {i : Nat} (hi : i < H) (p1 p2 p4 p6 : Slot) (j11 : Slot) (hj : Jk j11) :
    ∃ (row : List (Int × Int)) (R' : PyData) (j' : Slot), Rw R' ∧ row.length = W ∧ (∀ p ∈ row, PlOk p) ∧ Jk j' ∧ evS (run (n + 1)) bf MM w__law_board_0 [.ref R, p1, p2, .dat (.int m), p4, .dat (eI W), p6, .own (.list (l1.map .int)), .own (.list (l2.map .int)), .dat (eI i), .own (.list []), j11] =
      some (.nx [.ref R', p1, p2, .dat (.int m), p4, .dat (eI W), p6, .own (.list (l1.map .int)), .own (.list (l2.map .int)), .dat (eI i), .own (.list (row.map eP)), j']) := by
  refine fr_eval eI (List.range W) (fun ys ρ => ∃ (row : List (Int × Int)) (R' : PyData) (j' : Slot), Rw R' ∧ row.length = ys.length ∧ (∀ p ∈ row, PlOk p) ∧ Jk j' ∧ ρ = [.ref R', p1, p2, .dat (.int m), p4, .dat (eI W), p6, .own (.list (l1.map .int)), .own (.list (l2.map .int)), .dat (eI i), .own (.list (row.map eP)), j'])
    (fun o => ∃ (row : List (Int × Int)) (R' : PyData) (j' : Slot), Rw R' ∧ row.length = W ∧ (∀ p ∈ row, PlOk p) ∧ Jk j' ∧ o = some (.nx [.ref R', p1, p2, .dat (.int m), p4, .dat (eI W), p6, .own (.list (l1.map .int)), .own (.list (l2.map .int)), .dat (eI i), .own (.list (row.map eP)), j']))
    (rs := [.slot 5]) (ds := [eI W]) (ρ0 := [.ref R, p1, p2, .dat (.int m), p4, .dat (eI W), p6, .own (.list (l1.map .int)), .own (.list (l2.map .int)), .dat (eI i), .own (.list []), j11]) ?_ ?_ (gRange1_nat (by omega)) ?_ ?_ ?_
  · simp [slotsOf, conArg, truth, valof, esc, callArgs, callBack, escAll, asg, asgAll, evst, Tg.bind, getAll, Option.bind_some, Option.bind_none]
  · simp [slotsOf, conArg, truth, valof, esc, callArgs, callBack, escAll, asg, asgAll, evst, Tg.bind, getAll, Option.bind_some, Option.bind_none]
  · exact ⟨[], R, j11, h, rfl, by simp, hj, by simp [slotsOf, conArg, truth, valof, esc, callArgs, callBack, escAll, asg, asgAll, evst, Tg.bind, getAll, Option.bind_some, Option.bind_none, z_frr, z_lc, gSeq, frLoop, lcLoop, wipeE, backE, lockAll, unlockAll, lockR, unlockR, Out.mapM, pAll, boolsOf]⟩
  · rintro ys a zs _ e ⟨row, R1, j', hR, hlen, hp, hj', rfl⟩
    left
    have ha : a < W := by
      have : a ∈ List.range W := by rw [e]; simp
      exact List.mem_range.mp this
    have hya : ys.length ≤ 6 := by
      have := congrArg List.length e
      simp at this; omega
    obtain ⟨y1, R2, hR2, hy1, d1⟩ := draw hR n m (by omega)
    obtain ⟨y2, R3, hR3, hy2, d2⟩ := draw hR2 n m (by omega)
    have i1 : i < l1.length := by rw [k1.1]; exact hi
    have i2 : a < l2.length := by rw [k2.1]; exact ha
    have a1 := at_ints i1
    have a2 := at_ints i2
    have b1 := k1.2 _ (List.getElem_mem i1)
    have b2 := k2.2 _ (List.getElem_mem i2)
    generalize l1[i] = u at *
    generalize l2[a] = v at *
    have hz : (row.map eP).length + 1 ≤ sizeLine := by rw [sizeLine_eq]; simp; omega
    refine ⟨[.ref R1, p1, p2, .dat (.int m), p4, .dat (eI W), p6, .own (.list (l1.map .int)), .own (.list (l2.map .int)), .dat (eI i), .own (.list (row.map eP)), .dat (eI a)], [.ref R3, p1, p2, .dat (.int m), p4, .dat (eI W), p6, .own (.list (l1.map .int)), .own (.list (l2.map .int)), .dat (eI i), .own (.list ((row ++ [(u + y1, v + y2 - 1)]).map eP)), .dat (eI a)], ?_, .inl ?_, ⟨row ++ [(u + y1, v + y2 - 1)], R3, _, hR3, by simp [hlen], ?_, Jk.dat _, rfl⟩⟩
    · rcases hj' with rfl | ⟨_, rfl⟩ | ⟨_, rfl⟩ <;> simp [slotsOf, conArg, truth, valof, esc, callArgs, callBack, escAll, asg, asgAll, evst, Tg.bind, getAll, Option.bind_some, Option.bind_none]
    · rw [List.map_append]
      refine z_step _ (z_app1 (ρ1 := [.ref R3, p1, p2, .dat (.int m), p4, .dat (eI W), p6, .own (.list (l1.map .int)), .own (.list (l2.map .int)), .dat (eI i), .own (.list (row.map eP)), .dat (eI a)]) (d := eP (u + y1, v + y2 - 1)) rfl ?_ rfl hz rfl) z_n
      simp [slotsOf, conArg, truth, valof, esc, callArgs, callBack, escAll, asg, asgAll, evst, Tg.bind, getAll, Option.bind_some, Option.bind_none, bf, Res.ix, conOf, conSet, d1, d2, a1, a2]
    · intro p hp'
      rcases List.mem_append.mp hp' with hp' | hp'
      · exact hp p hp'
      · simp at hp'
        subst hp'
        exact ⟨⟨by show 0 ≤ u + y1; omega, by show u + y1 ≤ 106; omega⟩, by show -1 ≤ v + y2 - 1; omega, by show v + y2 - 1 ≤ 106; omega⟩
  · rintro _ ⟨row, R1, j', hR, hlen, hp, hj', rfl⟩
    rw [List.length_range] at hlen
    exact ⟨row, R1, j', hR, hlen, hp, hj', by simp [slotsOf, conArg, truth, valof, esc, callArgs, callBack, escAll, asg, asgAll, evst, Tg.bind, getAll, Option.bind_some, Option.bind_none, z_frr, z_lc, gSeq, frLoop, lcLoop, wipeE, backE, lockAll, unlockAll, lockR, unlockR, Out.mapM, pAll, boolsOf]⟩
theorem lboard_rows (n : Nat) {R : PyData} (h : Rw R) {H W : Nat} (hH : H ≤ 6) (hW : W ≤ 6) {m : Int} (hm : 1 ≤ m ∧ m ≤ 100) {l1 l2 : List Int} (k1 : Lo H l1) (k2 : Lo W l2) (p1 p2 : Slot) :
    ∃ (b : Bd) (R' : PyData) (j9 j10 j11 : Slot), Rw R' ∧ b.length = H ∧ (∀ row ∈ b, row.length = W ∧ ∀ p ∈ row, PlOk p) ∧ evS (run (n + 1)) bf MM w__law_board_1 [.ref R, p1, p2, .dat (.int m), .dat (eI H), .dat (eI W), .own (.list []), .own (.list (l1.map .int)), .own (.list (l2.map .int)), .un, .un, .un] =
      some (.nx [.ref R', p1, p2, .dat (.int m), .dat (eI H), .dat (eI W), .own (.list (b.map eR)), .own (.list (l1.map .int)), .own (.list (l2.map .int)), j9, j10, j11]) := by
  refine fr_eval eI (List.range H) (fun ys ρ => ∃ (b : Bd) (R' : PyData) (j9 j10 j11 : Slot), Rw R' ∧ b.length = ys.length ∧ (∀ row ∈ b, row.length = W ∧ ∀ p ∈ row, PlOk p) ∧ Jk j9 ∧ Jk j10 ∧ Jk j11 ∧ ρ = [.ref R', p1, p2, .dat (.int m), .dat (eI H), .dat (eI W), .own (.list (b.map eR)), .own (.list (l1.map .int)), .own (.list (l2.map .int)), j9, j10, j11])
    (fun o => ∃ (b : Bd) (R' : PyData) (j9 j10 j11 : Slot), Rw R' ∧ b.length = H ∧ (∀ row ∈ b, row.length = W ∧ ∀ p ∈ row, PlOk p) ∧ o = some (.nx [.ref R', p1, p2, .dat (.int m), .dat (eI H), .dat (eI W), .own (.list (b.map eR)), .own (.list (l1.map .int)), .own (.list (l2.map .int)), j9, j10, j11]))
    (rs := [.slot 4]) (ds := [eI H]) (ρ0 := [.ref R, p1, p2, .dat (.int m), .dat (eI H), .dat (eI W), .own (.list []), .own (.list (l1.map .int)), .own (.list (l2.map .int)), .un, .un, .un]) ?_ ?_ (gRange1_nat (by omega)) ?_ ?_ ?_
  · simp [slotsOf, conArg, truth, valof, esc, callArgs, callBack, escAll, asg, asgAll, evst, Tg.bind, getAll, Option.bind_some, Option.bind_none]
  · simp [slotsOf, conArg, truth, valof, esc, callArgs, callBack, escAll, asg, asgAll, evst, Tg.bind, getAll, Option.bind_some, Option.bind_none]
  · exact ⟨[], R, .un, .un, .un, h, rfl, by simp, Jk.un, Jk.un, Jk.un, by simp [slotsOf, conArg, truth, valof, esc, callArgs, callBack, escAll, asg, asgAll, evst, Tg.bind, getAll, Option.bind_some, Option.bind_none, z_frr, z_lc, gSeq, frLoop, lcLoop, wipeE, backE, lockAll, unlockAll, lockR, unlockR, Out.mapM, pAll, boolsOf]⟩
  · rintro ys i zs _ e ⟨b, R1, j9, j10, j11, hR, hlen, hp, hj9, hj10, hj11, rfl⟩
    left
    have hi : i < H := by
      have : i ∈ List.range H := by rw [e]; simp
      exact List.mem_range.mp this
    have hya : ys.length ≤ 6 := by
      have := congrArg List.length e
      simp at this; omega
    obtain ⟨row, R2, j', hR2, hrow, hpl, hj', w⟩ := lboard_row n hR hW hm k1 k2 hi p1 p2 (.dat (eI H)) (.own (.list (b.map eR))) j11 hj11
    have hz : (b.map eR).length + 1 ≤ sizeLine := by rw [sizeLine_eq]; simp; omega
    refine ⟨[.ref R1, p1, p2, .dat (.int m), .dat (eI H), .dat (eI W), .own (.list (b.map eR)), .own (.list (l1.map .int)), .own (.list (l2.map .int)), .dat (eI i), j10, j11], [.ref R2, p1, p2, .dat (.int m), .dat (eI H), .dat (eI W), .own (.list ((b ++ [row]).map eR)), .own (.list (l1.map .int)), .own (.list (l2.map .int)), .dat (eI i), .own (.list (row.map eP)), j'], ?_, .inl ?_, ⟨b ++ [row], R2, _, _, _, hR2, by simp [hlen], ?_, Jk.dat _, Jk.own _, hj', rfl⟩⟩
    · rcases hj9 with rfl | ⟨_, rfl⟩ | ⟨_, rfl⟩ <;> simp [slotsOf, conArg, truth, valof, esc, callArgs, callBack, escAll, asg, asgAll, evst, Tg.bind, getAll, Option.bind_some, Option.bind_none]
    · rw [List.map_append]
      refine z_step _ (z_new0 (hj10.asg rfl)) (z_step _ w (z_step _ (z_app1 (ρ1 := [.ref R2, p1, p2, .dat (.int m), .dat (eI H), .dat (eI W), .own (.list (b.map eR)), .own (.list (l1.map .int)), .own (.list (l2.map .int)), .dat (eI i), .own (.list (row.map eP)), j']) (d := eR row) rfl ?_ rfl hz rfl) z_n))
      simp [slotsOf, conArg, truth, valof, esc, callArgs, callBack, escAll, asg, asgAll, evst, Tg.bind, getAll, Option.bind_some, Option.bind_none]
    · intro r hr
      rcases List.mem_append.mp hr with hr | hr
      · exact hp r hr
      · simp at hr
        subst hr
        exact ⟨hrow, hpl⟩
  · rintro _ ⟨b, R1, j9, j10, j11, hR, hlen, hp, _, _, _, rfl⟩
    rw [List.length_range] at hlen
    exact ⟨b, R1, j9, j10, j11, hR, hlen, hp, by simp [slotsOf, conArg, truth, valof, esc, callArgs, callBack, escAll, asg, asgAll, evst, Tg.bind, getAll, Option.bind_some, Option.bind_none, z_frr, z_lc, gSeq, frLoop, lcLoop, wipeE, backE, lockAll, unlockAll, lockR, unlockR, Out.mapM, pAll, boolsOf]⟩
theorem r_lboardP {R : PyData} (h : Rw R) (n : Nat) {H W m : Int} (hH : 1 ≤ H ∧ H ≤ 6) (hW : 1 ≤ W ∧ W ≤ 6) (hm : 1 ≤ m ∧ m ≤ 100) :
    ∃ (b : Bd) (R' : PyData), Rw R' ∧ Bd.Good b ∧ (∀ r ∈ b, ∀ p ∈ r, (0 ≤ p.1 ∧ p.1 ≤ 106) ∧ -1 ≤ p.2 ∧ p.2 ≤ 106) ∧ (b.hi : Int) ≤ H ∧ (b.wi : Int) ≤ W ∧ run (n + 2) f__law_board [R, .int H, .int W, .int m] = some (eB b, R') := by
  obtain ⟨x1, R1, h1, q1, d1⟩ := drawN h n H.toNat (by omega)
  obtain ⟨x2, R2, h2, q2, d2⟩ := drawN h1 n W.toNat (by omega)
  rw [show ((H.toNat : Nat) : Int) = H by omega] at d1
  rw [show ((W.toNat : Nat) : Int) = W by omega] at d2
  obtain ⟨x3, R3, h3, q3, d3⟩ := draw h2 n 3 (by decide)
  obtain ⟨hi, hhi⟩ : ∃ hi : Nat, hi = x1 + 1 := ⟨_, rfl⟩
  obtain ⟨wi, hwi⟩ : ∃ wi : Nat, wi = x2 + 1 := ⟨_, rfl⟩
  have ehi : (1 : Int) + (x1 : Int) = (hi : Int) := by omega
  have ewi : (1 : Int) + (x2 : Int) = (wi : Int) := by omega
  have z1 := zeros hi (by omega)
  have z2 := zeros wi (by omega)
  have lo0 : ∀ k : Nat, Lo k (List.replicate k 0) := fun k => ⟨by simp, fun x hx => by have := (List.mem_replicate.mp hx).2; omega⟩
  have s1 : evS (run (n + 1)) bf MM (.par [4, 5, 6] (.cons (.op2 pAdd (.k (.int 1)) (.call f__law_taken (.cons (.v 0) (.cons (.v 1) (.nil))))) (.cons (.op2 pAdd (.k (.int 1)) (.call f__law_taken (.cons (.v 0) (.cons (.v 2) (.nil))))) (.cons (.lst (.nil)) (.nil))))) [.ref R, .dat (.int H), .dat (.int W), .dat (.int m), .un, .un, .un, .un, .un, .un, .un, .un] =
      some (.nx [.ref R2, .dat (.int H), .dat (.int W), .dat (.int m), .dat (eI hi), .dat (eI wi), .own (.list []), .un, .un, .un, .un, .un]) := by
    simp [slotsOf, conArg, truth, valof, esc, callArgs, callBack, escAll, asg, asgAll, evst, Tg.bind, getAll, Option.bind_some, Option.bind_none, bf, Res.ix, conOf, conSet, stored, d1, d2, ehi, ewi]
  have s2 : evS (run (n + 1)) bf MM (.par [7, 8] (.cons (.op2 pMulS (.lst (.cons (.k (.int 0)) (.nil))) (.v 4)) (.cons (.op2 pMulS (.lst (.cons (.k (.int 0)) (.nil))) (.v 5)) (.nil)))) [.ref R2, .dat (.int H), .dat (.int W), .dat (.int m), .dat (eI hi), .dat (eI wi), .own (.list []), .un, .un, .un, .un, .un] =
      some (.nx [.ref R2, .dat (.int H), .dat (.int W), .dat (.int m), .dat (eI hi), .dat (eI wi), .own (.list []), .own (.list ((List.replicate hi (0 : Int)).map .int)), .own (.list ((List.replicate wi (0 : Int)).map .int)), .un, .un, .un]) := by
    generalize (List.replicate hi (0 : Int)).map PyData.int = A at *
    generalize (List.replicate wi (0 : Int)).map PyData.int = B at *
    simp [slotsOf, conArg, truth, valof, esc, callArgs, callBack, escAll, asg, asgAll, evst, Tg.bind, getAll, Option.bind_some, Option.bind_none, bf, stored, z1, z2]
  have s3 : ∃ (l1 l2 : List Int) (R4 : PyData), Rw R4 ∧ Lo hi l1 ∧ Lo wi l2 ∧ evS (run (n + 1)) bf MM (.ite (.op2 pGt (.call f__law_taken (.cons (.v 0) (.cons (.k (.int 3)) (.nil)))) (.k (.int 0))) (.cons (.set 7 (c__law_board_1)) (.cons (.set 8 (c__law_board_0)) (.nil))) (.nil)) [.ref R2, .dat (.int H), .dat (.int W), .dat (.int m), .dat (eI hi), .dat (eI wi), .own (.list []), .own (.list ((List.replicate hi (0 : Int)).map .int)), .own (.list ((List.replicate wi (0 : Int)).map .int)), .un, .un, .un] =
      some (.nx [.ref R4, .dat (.int H), .dat (.int W), .dat (.int m), .dat (eI hi), .dat (eI wi), .own (.list []), .own (.list (l1.map .int)), .own (.list (l2.map .int)), .un, .un, .un]) := by
    by_cases c : 0 < x3
    · obtain ⟨l1, R4, h4, k1, w1⟩ := lboard_lc n h3 (List.replicate hi 0) (.dat (.int H)) (.dat (.int W)) (.dat (.int m)) (.dat (eI hi)) (.dat (eI wi)) (.own (.list [])) (.own (.list ((List.replicate wi (0 : Int)).map .int))) .un .un
      obtain ⟨l2, R5, h5, k2, w2⟩ := lboard_lc0 n h4 (List.replicate wi 0) (.dat (.int H)) (.dat (.int W)) (.dat (.int m)) (.dat (eI hi)) (.dat (eI wi)) (.own (.list [])) (.own (.list (l1.map .int))) .un .un
      rw [List.length_replicate] at k1 k2
      refine ⟨l1, l2, R5, h5, k1, k2, ?_⟩
      generalize (List.replicate hi (0 : Int)).map PyData.int = A at *
      generalize (List.replicate wi (0 : Int)).map PyData.int = B at *
      simp [slotsOf, conArg, truth, valof, esc, callArgs, callBack, escAll, asg, asgAll, evst, Tg.bind, getAll, Option.bind_some, Option.bind_none, bf, Res.ix, conOf, conSet, stored, d3, c, w1, w2]
    · refine ⟨_, _, R3, h3, lo0 hi, lo0 wi, ?_⟩
      generalize (List.replicate hi (0 : Int)).map PyData.int = A at *
      generalize (List.replicate wi (0 : Int)).map PyData.int = B at *
      simp [slotsOf, conArg, truth, valof, esc, callArgs, callBack, escAll, asg, asgAll, evst, Tg.bind, getAll, Option.bind_some, Option.bind_none, bf, Res.ix, conOf, conSet, stored, d3, c]
  obtain ⟨l1, l2, R4, h4, k1, k2, s3⟩ := s3
  obtain ⟨b, R5, j9, j10, j11, h5, hb, hrow, s4⟩ := lboard_rows n h4 (H := hi) (W := wi) (by omega) (by omega) hm k1 k2 (.dat (.int H)) (.dat (.int W))
  have hwi2 : Bd.wi b = wi := by
    cases b with
    | nil => simp at hb; omega
    | cons r bs => exact (hrow r (by simp)).1
  refine ⟨b, R5, h5, ⟨by show 1 ≤ b.length; omega, by show b.length ≤ 6; omega, by omega, by omega, fun r hr => by rw [hwi2]; exact (hrow r hr).1, fun r hr p hp => ?_⟩, fun r hr p hp => (hrow r hr).2 p hp, by show (b.length : Int) ≤ H; omega, by omega, ?_⟩
  · have q := (hrow r hr).2 p hp
    unfold PlOk at q
    omega
  · refine (run__law_board (n + 1) _).trans (callBody_ref rfl (ρ := [.ref R5, .dat (.int H), .dat (.int W), .dat (.int m), .dat (eI hi), .dat (eI wi), .own (.list (b.map eR)), .own (.list (l1.map .int)), .own (.list (l2.map .int)), j9, j10, j11]) ?_ rfl)
    refine z_step _ s1 (z_step _ s2 (z_step _ s3 (z_step _ s4 ?_)))
    simp [slotsOf, conArg, truth, valof, esc, callArgs, callBack, escAll, asg, asgAll, evst, Tg.bind, getAll, Option.bind_some, Option.bind_none]
theorem r_lboard {R : PyData} (h : Rw R) (n : Nat) {H W m : Int} (hH : 1 ≤ H ∧ H ≤ 6) (hW : 1 ≤ W ∧ W ≤ 6) (hm : 1 ≤ m ∧ m ≤ 100) :
    ∃ (b : Bd) (R' : PyData), Rw R' ∧ Bd.Good b ∧ (b.hi : Int) ≤ H ∧ (b.wi : Int) ≤ W ∧ run (n + 2) f__law_board [R, .int H, .int W, .int m] = some (eB b, R') := by
  obtain ⟨b, R', h1, h2, _, h3⟩ := r_lboardP h n hH hW hm
  exact ⟨b, R', h1, h2, h3⟩
end L2.Z.K01

namespace L2.Z
open PySem
abbrev PS := List (List Nat × Int)
abbrev keys {β : Type} (L : List (List Nat × β)) : List (List Nat) := L.map Prod.fst
theorem keys_cons {β : Type} (p : List Nat × β) (L : List (List Nat × β)) : keys (p :: L) = p.1 :: keys L := rfl
theorem keys_len {β : Type} (L : List (List Nat × β)) : (keys L).length = L.length := List.length_map _
section
variable {β : Type} {L : List (List Nat × β)} {a c : List Nat} {v : β}
theorem any_keys : (L.any fun p => decide (p.1 = a)) = decide (a ∈ keys L) := by
  induction L with
  | nil => simp
  | cons p L ih =>
    rw [List.any_cons, ih, keys_cons]
    by_cases h : p.1 = a
    · simp [h]
    · have : ¬ a = p.1 := fun e => h e.symm
      simp [h, this]
theorem keys_put : keys (aPut L a v) = if a ∈ keys L then keys L else keys L ++ [a] := by
  unfold aPut
  rw [any_keys]
  by_cases h : a ∈ keys L
  · rw [if_pos (by simpa using h), if_pos h]
    show List.map Prod.fst (List.map _ L) = List.map Prod.fst L
    rw [List.map_map]
    refine List.map_congr_left fun p _ => ?_
    simp only [Function.comp]
    split <;> rfl
  · rw [if_neg (by simpa using h), if_neg h]
    simp
theorem mem_put : c ∈ keys (aPut L a v) ↔ c ∈ keys L ∨ c = a := by
  rw [keys_put]
  split
  · rename_i h
    exact ⟨.inl, fun q => q.elim id fun e => e ▸ h⟩
  · rw [List.mem_append, List.mem_singleton]
theorem nodup_put (h : (keys L).Nodup) : (keys (aPut L a v)).Nodup := by
  rw [keys_put]
  split
  · exact h
  · rename_i hn
    exact List.nodup_append.mpr ⟨h, by simp, fun x hx y hy e => by simp at hy; subst hy; subst e; exact hn hx⟩
theorem hd_put {s : List Nat} (h : ∃ r, keys L = s :: r) : ∃ r, keys (aPut L a v) = s :: r := by
  obtain ⟨r, e⟩ := h
  rw [keys_put]
  split
  · exact ⟨r, e⟩
  · exact ⟨r ++ [a], by rw [e]; rfl⟩
theorem get_of_mem (h : (keys L).Nodup) {p : List Nat × β} (hp : p ∈ L) : aGet L p.1 = some p.2 := by
  induction L with
  | nil => simp at hp
  | cons q L ih =>
    rw [keys_cons, List.nodup_cons] at h
    unfold aGet at ih ⊢
    rw [List.find?_cons]
    rcases List.mem_cons.mp hp with rfl | hp
    · simp
    · have : ¬ q.1 = p.1 := fun e => h.1 (e ▸ List.mem_map.mpr ⟨p, hp, rfl⟩)
      simp only [this, decide_false]
      exact ih h.2 hp
end
def bump (L : PS) (m : List Nat) (k : Int) : PS := aPut L m ((aGet L m).getD 0 + k)
/-- a lot struck once more, in all ways -/
def strk (l : List Nat) (k : Int) (L : PS) (xs : List Nat) : PS := xs.foldl (fun L x => bump L (Bd.wl l x) k) L
theorem strk_snoc {l : List Nat} {k : Int} {L : PS} {xs : List Nat} {x : Nat} : strk l k L (xs ++ [x]) = bump (strk l k L xs) (Bd.wl l x) k := by simp [strk]
theorem mem_strk {l : List Nat} {k : Int} {m : List Nat} : ∀ {xs : List Nat} {L : PS}, m ∈ keys (strk l k L xs) ↔ m ∈ keys L ∨ ∃ x ∈ xs, Bd.wl l x = m
  | [], L => by simp [strk]
  | x :: xs, L => by
    have := mem_strk (l := l) (k := k) (m := m) (xs := xs) (L := bump L (Bd.wl l x) k)
    unfold strk at this ⊢
    rw [List.foldl_cons, this, bump, mem_put]
    constructor
    · rintro ((h | h) | ⟨y, hy, e⟩)
      · exact .inl h
      · exact .inr ⟨x, by simp, h.symm⟩
      · exact .inr ⟨y, by simp [hy], e⟩
    · rintro (h | ⟨y, hy, e⟩)
      · exact .inl (.inl h)
      · rcases List.mem_cons.mp hy with rfl | hy
        · exact .inl (.inr e.symm)
        · exact .inr ⟨y, hy, e⟩
theorem nodup_strk {l : List Nat} {k : Int} : ∀ {xs : List Nat} {L : PS}, (keys L).Nodup → (keys (strk l k L xs)).Nodup
  | [], L, h => h
  | x :: xs, L, h => by
    have := nodup_strk (l := l) (k := k) (xs := xs) (L := bump L (Bd.wl l x) k) (nodup_put h)
    exact this
/-- putting all in -/
def putAll (F E : PS) : PS := E.foldl (fun F p => aPut F p.1 p.2) F
theorem putAll_snoc {F E : PS} {p : List Nat × Int} : putAll F (E ++ [p]) = aPut (putAll F E) p.1 p.2 := by simp [putAll]
theorem mem_putAll {m : List Nat} : ∀ {E F : PS}, m ∈ keys (putAll F E) ↔ m ∈ keys F ∨ m ∈ keys E
  | [], F => by simp [putAll]
  | p :: E, F => by
    have := mem_putAll (m := m) (E := E) (F := aPut F p.1 p.2)
    unfold putAll at this ⊢
    rw [List.foldl_cons, this, mem_put, keys_cons, List.mem_cons, or_assoc]
theorem nodup_putAll : ∀ {E F : PS}, (keys F).Nodup → (keys (putAll F E)).Nodup
  | [], F, h => h
  | p :: E, F, h => nodup_putAll (E := E) (F := aPut F p.1 p.2) (nodup_put h)
theorem hd_putAll {s : List Nat} : ∀ {E F : PS}, (∃ r, keys F = s :: r) → ∃ r, keys (putAll F E) = s :: r
  | [], F, h => h
  | p :: E, F, h => hd_putAll (E := E) (F := aPut F p.1 p.2) (hd_put h)
namespace Bd
variable {b : Bd}
/-- the lots one strike on -/
def later (b : Bd) (L E : PS) : PS := E.foldl (fun L p => strk p.1 p.2 L (b.ready p.1)) L
theorem later_snoc {L E : PS} {p : List Nat × Int} : b.later L (E ++ [p]) = strk p.1 p.2 (b.later L E) (b.ready p.1) := by simp [later]
theorem mem_later {m : List Nat} : ∀ {E L : PS}, m ∈ keys (b.later L E) ↔ m ∈ keys L ∨ ∃ l ∈ keys E, ∃ x ∈ b.ready l, wl l x = m
  | [], L => by simp [later]
  | p :: E, L => by
    have := mem_later (m := m) (E := E) (L := strk p.1 p.2 L (b.ready p.1))
    unfold later at this ⊢
    rw [List.foldl_cons, this, mem_strk, keys_cons]
    constructor
    · rintro ((h | h) | ⟨l, hl, h⟩)
      · exact .inl h
      · exact .inr ⟨p.1, by simp, h⟩
      · exact .inr ⟨l, by simp [hl], h⟩
    · rintro (h | ⟨l, hl, h⟩)
      · exact .inl (.inl h)
      · rcases List.mem_cons.mp hl with rfl | hl
        · exact .inl (.inr h)
        · exact .inr ⟨l, hl, h⟩
theorem nodup_later : ∀ {E L : PS}, (keys L).Nodup → (keys (b.later L E)).Nodup
  | [], L, h => h
  | p :: E, L, h => nodup_later (E := E) (L := strk p.1 p.2 L (b.ready p.1)) (nodup_strk h)
/-- a layer: lots that come, of one size -/
structure Lay (b : Bd) (k : Nat) (E : PS) : Prop where
  nd : (keys E).Nodup
  ok : ∀ l ∈ keys E, (Asc l ∧ Comes b l) ∧ l.length = k
theorem Lay.nil {k : Nat} : Lay b k [] := ⟨by simp, fun _ h => by simp at h⟩
theorem wl_len {l : List Nat} {x : Nat} : (wl l x).length = l.length + 1 := by unfold wl; rw [srt_length]; simp
theorem Lay.strk (g : b.Good) {k : Nat} {L : PS} {l xs : List Nat} {v : Int} (h : Lay b (k + 1) L) (hl : (Asc l ∧ Comes b l) ∧ l.length = k) (hx : ∀ x ∈ xs, x ∈ b.ready l) : Lay b (k + 1) (strk l v L xs) :=
  ⟨nodup_strk h.nd, fun m hm => by
    rcases mem_strk.mp hm with q | ⟨x, q, rfl⟩
    · exact h.ok m q
    · exact ⟨step_ok g hl.1 (hx x q), by rw [wl_len, hl.2]⟩⟩
theorem Lay.later (g : b.Good) {k : Nat} {L E : PS} (h : Lay b (k + 1) L) (hE : Lay b k E) : Lay b (k + 1) (b.later L E) :=
  ⟨nodup_later h.nd, fun m hm => by
    rcases mem_later.mp hm with q | ⟨l, q, x, hx, rfl⟩
    · exact h.ok m q
    · exact ⟨step_ok g (hE.ok l q).1 hx, by rw [wl_len, (hE.ok l q).2]⟩⟩
theorem Lay.pre {k : Nat} {E E' : PS} (h : Lay b k (E ++ E')) : Lay b k E := by
  have h1 := h.nd
  have h2 := h.ok
  rw [keys, List.map_append] at h1 h2
  exact ⟨(List.nodup_append.mp h1).1, fun l hl => h2 l (List.mem_append_left _ hl)⟩
theorem Lay.len (g : b.Good) {k : Nat} {E : PS} (h : Lay b k E) : E.length ≤ 4096 := by
  have := known_length g h.nd fun l hl => (h.ok l hl).1
  rwa [keys_len] at this
/-- what is found, while the edge is E -/
structure Fnd (b : Bd) (F E : PS) : Prop where
  nd : (keys F).Nodup
  ok : ∀ l ∈ keys F, Asc l ∧ Comes b l
  hd : ∃ r, keys F = [] :: r
  sub : ∀ l ∈ keys E, l ∈ keys F
  cl : ∀ l ∈ keys F, l ∉ keys E → ∀ x ∈ b.ready l, wl l x ∈ keys F
theorem Fnd.start : Fnd b [([], 1)] [([], 1)] :=
  ⟨by simp, fun l hl => by simp at hl; subst hl; exact ⟨List.Pairwise.nil, .nil⟩, ⟨[], rfl⟩, fun l h => h, fun l hl h => absurd hl h⟩
theorem Fnd.len (g : b.Good) {F E : PS} (h : Fnd b F E) : F.length ≤ 4096 := by
  have := known_length g h.nd h.ok
  rwa [keys_len] at this
theorem Fnd.put (g : b.Good) {F E E' : PS} {k : Nat} (h : Fnd b F E) (hE' : Lay b k E') : (putAll F E').length ≤ 4096 := by
  have := known_length g (nodup_putAll (E := E') h.nd) fun l hl => (mem_putAll.mp hl).elim (h.ok l) fun q => (hE'.ok l q).1
  rwa [keys_len] at this
theorem Fnd.step (g : b.Good) {F E : PS} {k : Nat} (h : Fnd b F E) (hE : Lay b k E) : Fnd b (putAll F (b.later [] E)) (b.later [] E) where
  nd := nodup_putAll h.nd
  ok := fun l hl => (mem_putAll.mp hl).elim (h.ok l) fun q => ((Lay.nil.later g hE).ok l q).1
  hd := hd_putAll h.hd
  sub := fun l hl => mem_putAll.mpr (.inr hl)
  cl := fun l hl hn x hx => by
    rcases mem_putAll.mp hl with q | q
    · by_cases z : l ∈ keys E
      · exact mem_putAll.mpr (.inr (mem_later.mpr (.inr ⟨l, z, x, hx, rfl⟩)))
      · exact mem_putAll.mpr (.inl (h.cl l q z x hx))
    · exact absurd q hn
theorem Fnd.all (g : b.Good) {F : PS} (h : Fnd b F []) : srtL (keys F) = b.alls := by
  obtain ⟨r, e⟩ := h.hd
  exact alls_of g h.nd (by rw [e]; simp) (fun l hl x hx => h.cl l hl (by simp) x hx) h.ok
end Bd
theorem z_newD {Φ : Fns} {bf : Nat → Option Nat} {M i : Nat} {ρ ρ' : Ev} (h : asg i (.own (.dict [])) ρ = some ρ') : evS Φ bf M (.set i .dnew) ρ = some (.nx ρ') := by
  rw [z_set, z_dnew]
  show (asg i (.own (.dict [])) ρ).bind (fun ρ => some (Out.nx ρ)) = _
  rw [h]; rfl
abbrev ePS (L : PS) : PyData := eD eT PyData.int L
theorem setAt_P {L : PS} {m : List Nat} {v : Int} (hl : L.length ≤ 4096) : setD (ePS L) (eT m) (.int v) = some (ePS (aPut L m v)) := set_D (ev := PyData.int) kEnc_eT L m v (by rw [sizeLine_eq]; omega)
theorem isT_eT (l : List Nat) : isT (eT l) = true := by
  rcases kEnc_eT.kind with z | z
  · have := z l; simp [isK, kOf] at this
  · exact z l
theorem lst_P {L : PS} (h : ∀ l ∈ keys L, l.length ≤ 1000) : pLstD (ePS L) = some (true, .list ((keys L).map eT)) := by
  have h1 : isKT (L.map (eKV eT PyData.int)) = true := by
    unfold isKT
    rw [List.all_eq_true]
    intro p hp
    obtain ⟨q, hq, rfl⟩ := List.mem_map.mp hp
    have := h q.1 (List.mem_map.mpr ⟨q, hq, rfl⟩)
    rw [Bool.or_eq_true]
    right
    simp only [eKV, isT_eT, Bool.true_and, keyLen, List.length_map, decide_eq_true_eq]
    rw [sizeLine_eq]; omega
  show (if isKT (L.map (eKV eT PyData.int)) = true then some (true, PyData.list ((L.map (eKV eT PyData.int)).map Prod.fst)) else none) = _
  rw [if_pos h1, List.map_map, List.map_map]
  rfl
theorem ne_P (L : PS) : pNeE (ePS L) (.dict []) = some (false, .bool (!decide (L = []))) := by
  cases L with
  | nil => rfl
  | cons p L =>
    show some (false, PyData.bool true) = _
    simp
theorem sort2_K {kn : List (List Nat)} (hd : ∃ r, kn = [] :: r) : pSorted2 (.list (kn.map eT)) = some (true, .list ((srtL kn).map eT)) := by
  have al : ∀ a b : List Nat, PySem.W.alike (eT a) (eT b) = true := fun a b => by
    rw [eT_iL, eT_iL]
    unfold PySem.W.alike
    exact PySem.W.alike_ints _ _
  have ok : okSort2 (kn.map eT) = true := by
    obtain ⟨r, rfl⟩ := hd
    unfold okSort2
    simp only [Bool.and_eq_true, Bool.or_eq_true, List.all_eq_true, decide_eq_true_eq]
    refine ⟨⟨fun x hx y hy => ?_, .inr ⟨rfl, fun x hx => ?_⟩⟩, fun x hx => ?_⟩
    · obtain ⟨a, _, rfl⟩ := List.mem_map.mp hx
      obtain ⟨c, _, rfl⟩ := List.mem_map.mp hy
      exact al a c
    · obtain ⟨a, _, rfl⟩ := List.mem_map.mp hx
      rfl
    · obtain ⟨a, _, rfl⟩ := List.mem_map.mp hx
      exact ⟨Nat.le_trans (ok_eT.depth a) (by decide), ok_eT.plain a⟩
  show (if okSort2 (kn.map eT) = true then some (true, PyData.list ((kn.map eT).mergeSort leD)) else none) = _
  rw [if_pos ok, srtL_enc]
end L2.Z

namespace L2.Z.K01
open PySem L2.Z
theorem laSet {F E L : PS} {l m : List Nat} {v : Int} {n : Nat} {s2 : Slot} {B : PyData} {x : PyData} (h2 : s2 = .own (ePS E) ∨ s2 = .dat (ePS E)) (hv : aGet E l = some v) (hL : L.length ≤ 4096) :
    evS (run n) bf MM (.setAt 3 (.v 6) (.op2 pAdd (.meth isDct pGet (.v 3) (.cons (.v 6) (.cons (.k (.int 0)) .nil))) (.op2 pIdx (.v 2) (.v 4)))) [.dat B, .own (ePS F), s2, .own (ePS L), .dat (eT l), .dat x, .dat (eT m)] =
      some (.nx [.dat B, .own (ePS F), s2, .own (ePS (bump L m v)), .dat (eT l), .dat x, .dat (eT m)]) := by
  have e1 : pGet (ePS L) [eT m, .int 0] = some (false, .int ((aGet L m).getD 0)) := by
    rw [get2_D kEnc_eT L m (d := .int 0) rfl]
    cases aGet L m <;> rfl
  have e2 : pIdx (ePS E) (eT l) = some (false, .int v) := idx_D kEnc_eT E l hv
  have e3 : setD (ePS L) (eT m) (.int ((aGet L m).getD 0 + v)) = some (ePS (bump L m v)) := setAt_P hL
  generalize (aGet L m).getD 0 = w at *
  obtain ⟨DF, hF⟩ : ∃ D, D = ePS F := ⟨_, rfl⟩
  obtain ⟨DE, hE⟩ : ∃ D, D = ePS E := ⟨_, rfl⟩
  obtain ⟨DL, hD⟩ : ∃ D, D = ePS L := ⟨_, rfl⟩
  obtain ⟨DM, hM⟩ : ∃ D, D = ePS (bump L m v) := ⟨_, rfl⟩
  rw [← hD] at e1 e3 ⊢
  rw [← hM] at e3 ⊢
  rw [← hE] at e2 h2
  rw [← hF]
  have c1 : ∃ kvs, DL = .dict kvs := ⟨_, hD⟩
  have c2 : ∃ kvs, DM = .dict kvs := ⟨_, hM⟩
  have c3 : ∃ kvs, DE = .dict kvs := ⟨_, hE⟩
  clear hF hE hD hM hv
  obtain ⟨k1, rfl⟩ := c1
  obtain ⟨k2, rfl⟩ := c2
  obtain ⟨k3, rfl⟩ := c3
  have d1 : isDct (.dict k1) = true := rfl
  rcases h2 with rfl | rfl <;> simp [slotsOf, conArg, truth, valof, esc, callArgs, callBack, escAll, asg, asgAll, evst, Tg.bind, getAll, Option.bind_some, Option.bind_none, conOf, conSet, e1, e2, e3, d1]
theorem laPut {F L : PS} {l : List Nat} {v : Int} {n : Nat} {s2 s5 s6 : Slot} {B : PyData} (hv : aGet L l = some v) (hF : F.length ≤ 4096) :
    evS (run n) bf MM (.setAt 1 (.v 4) (.op2 pIdx (.v 3) (.v 4))) [.dat B, .own (ePS F), s2, .own (ePS L), .dat (eT l), s5, s6] =
      some (.nx [.dat B, .own (ePS (aPut F l v)), s2, .own (ePS L), .dat (eT l), s5, s6]) := by
  have e2 : pIdx (ePS L) (eT l) = some (false, .int v) := idx_D kEnc_eT L l hv
  have e3 : setD (ePS F) (eT l) (.int v) = some (ePS (aPut F l v)) := setAt_P hF
  obtain ⟨DF, hF⟩ : ∃ D, D = ePS F := ⟨_, rfl⟩
  obtain ⟨DL, hD⟩ : ∃ D, D = ePS L := ⟨_, rfl⟩
  obtain ⟨DM, hM⟩ : ∃ D, D = ePS (aPut F l v) := ⟨_, rfl⟩
  rw [← hD] at e2 ⊢
  rw [← hM] at e3 ⊢
  rw [← hF] at e3 ⊢
  have c1 : ∃ kvs, DL = .dict kvs := ⟨_, hD⟩
  have c2 : ∃ kvs, DM = .dict kvs := ⟨_, hM⟩
  have c3 : ∃ kvs, DF = .dict kvs := ⟨_, hF⟩
  clear hF hD hM hv
  obtain ⟨k1, rfl⟩ := c1
  obtain ⟨k2, rfl⟩ := c2
  obtain ⟨k3, rfl⟩ := c3
  simp [slotsOf, conArg, truth, valof, esc, callArgs, callBack, escAll, asg, asgAll, evst, Tg.bind, getAll, Option.bind_some, Option.bind_none, conOf, conSet, e2, e3]
def laM : PyData → Nat
  | .dict ((.tuple l, _) :: _) => 20 - l.length
  | _ => 0
def laMs : Option Slot → Nat
  | some (.own d) => laM d
  | some (.dat d) => laM d
  | _ => 0
theorem laM_nil : laM (ePS []) = 0 := rfl
theorem laM_cons (p : List Nat × Int) (r : PS) : laM (ePS (p :: r)) = 20 - p.1.length := by
  show 20 - (p.1.map eI).length = _
  rw [List.length_map]
theorem laMs_ow {s2 : Slot} {D : PyData} (h : s2 = .own D ∨ s2 = .dat D) : laMs (some s2) = laM D := by rcases h with rfl | rfl <;> rfl
section
variable {b : Bd} (g : b.Good)
include g
theorem w__law_all_1_ev (n k : Nat) (F E L : PS) (l : List Nat) (v : Int) (s2 s5 s6 : Slot) (h2 : s2 = .own (ePS E) ∨ s2 = .dat (ePS E)) (hv : aGet E l = some v) (hl : (Asc l ∧ Bd.Comes b l) ∧ l.length = k) (hL : Bd.Lay b (k + 1) L) (h5 : Jk s5) (h6 : Jk s6) : ∃ s5' s6', Jk s5' ∧ Jk s6' ∧
    evS (run (n + 4)) bf MM w__law_all_1 [.dat (eB b), .own (ePS F), s2, .own (ePS L), .dat (eT l), s5, s6] =
      some (.nx [.dat (eB b), .own (ePS F), s2, .own (ePS (strk l v L (b.ready l))), .dat (eT l), s5', s6']) := by
  have P : Bd.Pl b l := Bd.Pl.of_comes g hl.1.1 hl.1.2
  have e1 := r_lready g n l P
  have hl12 := P.len g
  refine fr_eval eI (b.ready l) (fun ys ρ => ∃ s5' s6', Jk s5' ∧ Jk s6' ∧ ρ = [.dat (eB b), .own (ePS F), s2, .own (ePS (strk l v L ys)), .dat (eT l), s5', s6'])
    (fun o => ∃ s5' s6', Jk s5' ∧ Jk s6' ∧ o = some (.nx [.dat (eB b), .own (ePS F), s2, .own (ePS (strk l v L (b.ready l))), .dat (eT l), s5', s6']))
    (rs := [.val (eN (b.ready l))]) (ds := [eN (b.ready l)]) (ρ0 := [.dat (eB b), .own (ePS F), s2, .own (ePS L), .dat (eT l), s5, s6]) ?_ ?_ rfl ?_ ?_ ?_
  · obtain ⟨DF, hF⟩ : ∃ D, D = ePS F := ⟨_, rfl⟩
    obtain ⟨DL, hD⟩ : ∃ D, D = ePS L := ⟨_, rfl⟩
    rw [← hF, ← hD]
    simp [slotsOf, conArg, truth, valof, esc, callArgs, callBack, escAll, asg, asgAll, evst, Tg.bind, getAll, Option.bind_some, Option.bind_none, bf, e1]
  · simp [slotsOf, conArg, truth, valof, esc, callArgs, callBack, escAll, asg, asgAll, evst, Tg.bind, getAll, Option.bind_some, Option.bind_none]
  · exact ⟨s5, s6, h5, h6, by simp [z_frr, z_lc, gSeq, frLoop, lcLoop, wipeE, backE, lockAll, unlockAll, lockR, unlockR, Out.mapM, pAll, boolsOf, strk]⟩
  · rintro ys x zs ρ hx ⟨s5', s6', k5, k6, rfl⟩
    have hM : Bd.Lay b (k + 1) (strk l v L ys) := hL.strk g hl fun y hy => by rw [hx]; simp [hy]
    have hz := hM.len g
    rw [strk_snoc]
    obtain ⟨M, hMM⟩ : ∃ M, M = strk l v L ys := ⟨_, rfl⟩
    rw [← hMM] at hz ⊢
    clear hMM hM
    have e3 := r_lwith (n + 3) l x (by omega)
    refine .inl ⟨[.dat (eB b), .own (ePS F), s2, .own (ePS M), .dat (eT l), .dat (eI x), s6'], [.dat (eB b), .own (ePS F), s2, .own (ePS (bump M (Bd.wl l x) v)), .dat (eT l), .dat (eI x), .dat (eT (Bd.wl l x))], k5.asg rfl, .inl ?_, _, _, .dat _, .dat _, rfl⟩
    refine z_step [.dat (eB b), .own (ePS F), s2, .own (ePS M), .dat (eT l), .dat (eI x), .dat (eT (Bd.wl l x))] ?_ (z_step _ (laSet h2 hv hz) z_n)
    refine z_setV (d := eT (Bd.wl l x)) (ρ1 := [.dat (eB b), .own (ePS F), s2, .own (ePS M), .dat (eT l), .dat (eI x), s6']) ?_ (k6.asg rfl)
    obtain ⟨DF, hF⟩ : ∃ D, D = ePS F := ⟨_, rfl⟩
    obtain ⟨DL, hD⟩ : ∃ D, D = ePS M := ⟨_, rfl⟩
    rw [← hF, ← hD]
    simp [slotsOf, conArg, truth, valof, esc, callArgs, callBack, escAll, asg, asgAll, evst, Tg.bind, getAll, Option.bind_some, Option.bind_none, bf, e3]
  · rintro ρ ⟨s5', s6', k5, k6, rfl⟩
    exact ⟨s5', s6', k5, k6, by simp [z_frr, z_lc, gSeq, frLoop, lcLoop, wipeE, backE, lockAll, unlockAll, lockR, unlockR, Out.mapM, pAll, boolsOf]⟩
theorem w__law_all_2_ev (n k : Nat) (F E : PS) (s2 s4 s5 s6 : Slot) (h2 : s2 = .own (ePS E) ∨ s2 = .dat (ePS E)) (hE : Bd.Lay b k E) (hk : k ≤ 12) (h4 : Jk s4) (h5 : Jk s5) (h6 : Jk s6) : ∃ s4' s5' s6', Jk s4' ∧ Jk s5' ∧ Jk s6' ∧
    evS (run (n + 4)) bf MM w__law_all_2 [.dat (eB b), .own (ePS F), s2, .own (ePS []), s4, s5, s6] =
      some (.nx [.dat (eB b), .own (ePS F), s2, .own (ePS (b.later [] E)), s4', s5', s6']) := by
  have e1 := lst_P (L := E) fun l hl => by rw [(hE.ok l hl).2]; omega
  have em : (keys E).map eT = E.map fun p => eT p.1 := by rw [keys, List.map_map]; rfl
  refine fr_eval (fun p : List Nat × Int => eT p.1) E (fun ys ρ => ∃ s4' s5' s6', Jk s4' ∧ Jk s5' ∧ Jk s6' ∧ ρ = [.dat (eB b), .own (ePS F), s2, .own (ePS (b.later [] ys)), s4', s5', s6'])
    (fun o => ∃ s4' s5' s6', Jk s4' ∧ Jk s5' ∧ Jk s6' ∧ o = some (.nx [.dat (eB b), .own (ePS F), s2, .own (ePS (b.later [] E)), s4', s5', s6']))
    (rs := [.new (.list ((keys E).map eT))]) (ds := [.list ((keys E).map eT)]) (ρ0 := [.dat (eB b), .own (ePS F), s2, .own (ePS []), s4, s5, s6]) ?_ ?_ ?_ ?_ ?_ ?_
  · obtain ⟨DF, hF⟩ : ∃ D, D = ePS F := ⟨_, rfl⟩
    obtain ⟨DL, hD⟩ : ∃ D, D = ePS [] := ⟨_, rfl⟩
    obtain ⟨DE, hE⟩ : ∃ D, D = ePS E := ⟨_, rfl⟩
    rw [← hE] at e1 h2
    rw [← hF, ← hD]
    rcases h2 with rfl | rfl <;> simp [slotsOf, conArg, truth, valof, esc, callArgs, callBack, escAll, asg, asgAll, evst, Tg.bind, getAll, Option.bind_some, Option.bind_none, e1]
  · generalize (keys E).map eT = Z
    simp [slotsOf, conArg, truth, valof, esc, callArgs, callBack, escAll, asg, asgAll, evst, Tg.bind, getAll, Option.bind_some, Option.bind_none]
  · rw [em]; rfl
  · exact ⟨s4, s5, s6, h4, h5, h6, by simp [z_frr, z_lc, gSeq, frLoop, lcLoop, wipeE, backE, lockAll, unlockAll, lockR, unlockR, Out.mapM, pAll, boolsOf, Bd.later]⟩
  · rintro ys p zs ρ hx ⟨s4', s5', s6', k4, k5, k6, rfl⟩
    have hpE : p ∈ E := by rw [hx]; simp
    have hp := hE.ok p.1 (List.mem_map.mpr ⟨p, hpE, rfl⟩)
    have hM : Bd.Lay b (k + 1) (b.later [] ys) := Bd.Lay.nil.later g (hx ▸ hE : Bd.Lay b k (ys ++ p :: zs)).pre
    obtain ⟨s5'', s6'', j5, j6, ew⟩ := w__law_all_1_ev g n k F E (b.later [] ys) p.1 p.2 s2 s5' s6' h2 (get_of_mem hE.nd hpE) hp hM k5 k6
    rw [Bd.later_snoc]
    exact .inl ⟨_, _, k4.asg rfl, .inl (z_step _ ew z_n), _, _, _, .dat _, j5, j6, rfl⟩
  · rintro ρ ⟨s4', s5', s6', k4, k5, k6, rfl⟩
    exact ⟨s4', s5', s6', k4, k5, k6, by simp [z_frr, z_lc, gSeq, frLoop, lcLoop, wipeE, backE, lockAll, unlockAll, lockR, unlockR, Out.mapM, pAll, boolsOf]⟩
theorem w__law_all_0_ev (n k : Nat) (F E : PS) (s2 s4 s5 s6 : Slot) {E0 : PS} (hF : Bd.Fnd b F E0) (hE : Bd.Lay b k E) (hk : k ≤ 20) (h4 : Jk s4) : ∃ s4', Jk s4' ∧
    evS (run n) bf MM w__law_all_0 [.dat (eB b), .own (ePS F), s2, .own (ePS E), s4, s5, s6] =
      some (.nx [.dat (eB b), .own (ePS (putAll F E)), s2, .own (ePS E), s4', s5, s6]) := by
  have e1 := lst_P (L := E) fun l hl => by rw [(hE.ok l hl).2]; omega
  have em : (keys E).map eT = E.map fun p => eT p.1 := by rw [keys, List.map_map]; rfl
  refine fr_eval (fun p : List Nat × Int => eT p.1) E (fun ys ρ => ∃ s4', Jk s4' ∧ ρ = [.dat (eB b), .own (ePS (putAll F ys)), s2, .own (ePS E), s4', s5, s6])
    (fun o => ∃ s4', Jk s4' ∧ o = some (.nx [.dat (eB b), .own (ePS (putAll F E)), s2, .own (ePS E), s4', s5, s6]))
    (rs := [.new (.list ((keys E).map eT))]) (ds := [.list ((keys E).map eT)]) (ρ0 := [.dat (eB b), .own (ePS F), s2, .own (ePS E), s4, s5, s6]) ?_ ?_ ?_ ?_ ?_ ?_
  · obtain ⟨DF, hF⟩ : ∃ D, D = ePS F := ⟨_, rfl⟩
    obtain ⟨DE, hE⟩ : ∃ D, D = ePS E := ⟨_, rfl⟩
    rw [← hE] at e1 ⊢
    rw [← hF]
    simp [slotsOf, conArg, truth, valof, esc, callArgs, callBack, escAll, asg, asgAll, evst, Tg.bind, getAll, Option.bind_some, Option.bind_none, e1]
  · generalize (keys E).map eT = Z
    simp [slotsOf, conArg, truth, valof, esc, callArgs, callBack, escAll, asg, asgAll, evst, Tg.bind, getAll, Option.bind_some, Option.bind_none]
  · rw [em]; rfl
  · exact ⟨s4, h4, by simp [z_frr, z_lc, gSeq, frLoop, lcLoop, wipeE, backE, lockAll, unlockAll, lockR, unlockR, Out.mapM, pAll, boolsOf, putAll]⟩
  · rintro ys p zs ρ hx ⟨s4', k4, rfl⟩
    have hpE : p ∈ E := by rw [hx]; simp
    have hz := hF.put g (hx ▸ hE : Bd.Lay b k (ys ++ p :: zs)).pre
    rw [putAll_snoc]
    exact .inl ⟨_, _, k4.asg rfl, .inl (z_step _ (laPut (get_of_mem hE.nd hpE) hz) z_n), _, .dat _, rfl⟩
  · rintro ρ ⟨s4', k4, rfl⟩
    exact ⟨s4', k4, by simp [z_frr, z_lc, gSeq, frLoop, lcLoop, wipeE, backE, lockAll, unlockAll, lockR, unlockR, Out.mapM, pAll, boolsOf]⟩
theorem w__law_all_3_ev (n : Nat) : ∃ (F : PS) (s2 s3 s4 s5 s6 : Slot), Bd.Fnd b F [] ∧
    evS (run (n + 4)) bf MM w__law_all_3 [.dat (eB b), .own (ePS [([], 1)]), .own (ePS [([], 1)]), .un, .un, .un, .un] = some (.nx [.dat (eB b), .own (ePS F), s2, s3, s4, s5, s6]) := by
  refine wh_eval (fun ρ => ∃ F E k s2 s3 s4 s5 s6, ρ = [.dat (eB b), .own (ePS F), s2, s3, s4, s5, s6] ∧ (s2 = .own (ePS E) ∨ s2 = .dat (ePS E)) ∧ Jk s3 ∧ Jk s4 ∧ Jk s5 ∧ Jk s6 ∧ Bd.Fnd b F E ∧ Bd.Lay b k E)
    (fun ρ : Ev => laMs (ρ[2]? : Option Slot))
    (fun r => ∃ (F : PS) (s2 s3 s4 s5 s6 : Slot), Bd.Fnd b F [] ∧ r = some (.nx [.dat (eB b), .own (ePS F), s2, s3, s4, s5, s6]))
    ⟨_, _, 0, _, .un, .un, .un, .un, rfl, .inl rfl, .un, .un, .un, .un, Bd.Fnd.start, ⟨by simp, fun l hl => by simp at hl; subst hl; exact ⟨⟨List.Pairwise.nil, .nil⟩, rfl⟩⟩⟩ ?_ ?_
  · have : (20 : Nat) < MM := by unfold MM; exact Nat.lt_of_lt_of_le (by decide : 20 < 10 ^ 4) (Nat.pow_le_pow_right (by decide) (by decide))
    show laM (ePS [([], 1)]) < MM
    rw [laM_cons]
    exact this
  · rintro ρ ⟨F, E, k, s2, s3, s4, s5, s6, rfl, h2, k3, k4, k5, k6, hF, hE⟩
    have e0 := ne_P E
    by_cases he : E = []
    · subst he
      refine .inl ⟨[.dat (eB b), .own (ePS F), s2, s3, s4, s5, s6], ?_, F, _, _, _, _, _, hF, rfl⟩
      obtain ⟨DF, hDF⟩ : ∃ D, D = ePS F := ⟨_, rfl⟩
      obtain ⟨DE, hDE⟩ : ∃ D, D = ePS [] := ⟨_, rfl⟩
      rw [← hDE] at e0 h2
      rw [← hDF]
      rcases h2 with rfl | rfl <;> simp [slotsOf, conArg, truth, valof, esc, callArgs, callBack, escAll, asg, asgAll, evst, Tg.bind, getAll, Option.bind_some, Option.bind_none, e0]
    · obtain ⟨p, r, rfl⟩ : ∃ p r, E = p :: r := List.exists_cons_of_ne_nil he
      have hp := hE.ok p.1 (by simp)
      have hk : k ≤ 12 := by
        have := (Bd.Pl.of_comes g hp.1.1 hp.1.2).len g
        omega
      have hL := Bd.Lay.nil.later g hE
      obtain ⟨s4', s5', s6', j4, j5, j6, ew2⟩ := w__law_all_2_ev g n k F (p :: r) s2 s4 s5 s6 h2 hE hk k4 k5 k6
      obtain ⟨s4'', i4, ew0⟩ := w__law_all_0_ev g (n + 4) (k + 1) F (b.later [] (p :: r)) s2 s4' s5' s6' hF hL (by omega) j4
      have hF2 := hF.step g hE
      refine .inr (.inl ⟨[.dat (eB b), .own (ePS F), s2, s3, s4, s5, s6], [.dat (eB b), .own (ePS (putAll F (b.later [] (p :: r)))), .dat (ePS (b.later [] (p :: r))), .dat (ePS (b.later [] (p :: r))), s4'', s5', s6'], ?_, .inl ?_, ⟨_, _, k + 1, _, _, _, _, _, rfl, .inr rfl, .dat _, i4, j5, j6, hF2, hL⟩, ?_⟩)
      · rw [show decide (p :: r = []) = false by simp] at e0
        obtain ⟨DF, hDF⟩ : ∃ D, D = ePS F := ⟨_, rfl⟩
        obtain ⟨DE, hDE⟩ : ∃ D, D = ePS (p :: r) := ⟨_, rfl⟩
        rw [← hDE] at e0 h2
        rw [← hDF]
        rcases h2 with rfl | rfl <;> simp [slotsOf, conArg, truth, valof, esc, callArgs, callBack, escAll, asg, asgAll, evst, Tg.bind, getAll, Option.bind_some, Option.bind_none, e0]
      · refine z_step [.dat (eB b), .own (ePS F), s2, .own (ePS []), s4, s5, s6] ?_ (z_step _ ew2 (z_step _ ew0 (z_step [.dat (eB b), .own (ePS (putAll F (b.later [] (p :: r)))), .dat (ePS (b.later [] (p :: r))), .dat (ePS (b.later [] (p :: r))), s4'', s5', s6'] ?_ z_n)))
        · exact z_newD (k3.asg rfl)
        · obtain ⟨DF, hDF⟩ : ∃ D, D = ePS (putAll F (b.later [] (p :: r))) := ⟨_, rfl⟩
          obtain ⟨DL, hDL⟩ : ∃ D, D = ePS (b.later [] (p :: r)) := ⟨_, rfl⟩
          rw [← hDF, ← hDL]
          rcases h2 with rfl | rfl <;> simp [slotsOf, conArg, truth, valof, esc, callArgs, callBack, escAll, asg, asgAll, evst, Tg.bind, getAll, Option.bind_some, Option.bind_none, stored]
      · have hnil : ∀ (q : List Nat × Int) (t : PS), b.later [] (p :: r) = q :: t → q.1.length = k + 1 := fun q t e => (hL.ok q.1 (by rw [e]; simp)).2
        have hp2 := hp.2
        show laM (ePS (b.later [] (p :: r))) < laMs (some s2)
        rw [laMs_ow h2, laM_cons]
        generalize b.later [] (p :: r) = Z at hnil
        cases Z with
        | nil => rw [laM_nil]; omega
        | cons q t =>
          have := hnil q t rfl
          rw [laM_cons]
          omega
theorem r_lall (n : Nat) : ∃ F : PS, run (n + 5) f__law_all [eB b] = some (ePS F, .none) ∧ Bd.Fnd b F [] := by
  obtain ⟨F, s2, s3, s4, s5, s6, hF, ew⟩ := w__law_all_3_ev g n
  refine ⟨F, ?_, hF⟩
  have e0 : ePS [([], 1)] = .dict [(.tuple [], .int 1)] := rfl
  rw [e0] at ew
  have e2 : pDict1 (.tuple []) (.int 1) = some (true, .dict [(.tuple [], .int 1)]) := by
    unfold pDict1
    rw [if_pos ⟨by rfl, by rfl⟩]
  obtain ⟨D, hD⟩ : ∃ D, D = ePS F := ⟨_, rfl⟩
  rw [← hD] at ew ⊢
  have hc : ∃ kvs, D = .dict kvs := ⟨_, hD⟩
  clear hD
  obtain ⟨kvs, rfl⟩ := hc
  simp [run__law_all, callBody, b__law_all, slotsOf, conArg, truth, valof, esc, callArgs, callBack, escAll, asg, asgAll, evst, Tg.bind, getAll, Option.bind_some, Option.bind_none, bf, ew, e2]
end
end L2.Z.K01

namespace L2.Z.K01
open PySem L2.Z
section
variable {b : Bd} (g : b.Good)
include g
theorem r_ldrawnR (n : Nat) {R : PyData} (h : Rw R) (m : Nat) (hm : m ≤ 100) : ∃ (st l : List Nat) (R' : PyData), Rw R' ∧ Bd.RowOk b st ∧ l = Bd.gone st ∧ (b.ready l = [] ∨ st.length = m) ∧ run (n + 5) f__law_drawn [R, eB b, eI m] = some (.tuple [eT st, eT l], R') := by
  have s1 : ∃ (st l : List Nat) (R' : PyData) (j5 j6 j7 : Slot), Rw R' ∧ Bd.RowOk b st ∧ l = Bd.gone st ∧ (b.ready l = [] ∨ st.length = m) ∧ evS (run (n + 4)) bf MM w__law_drawn_0 [.ref R, .dat (eB b), .dat (eI m), .dat (eT []), .dat (eT []), .un, .un, .un] = some (.nx [.ref R', .dat (eB b), .dat (eI m), .dat (eT l), .dat (eT st), j5, j6, j7]) := by
    refine fr_eval eI (List.range m) (fun ys ρ => ∃ (st l : List Nat) (R' : PyData) (j5 j6 j7 : Slot), Rw R' ∧ Bd.RowOk b st ∧ l = Bd.gone st ∧ (st.length = ys.length ∨ (b.ready l = [] ∧ st.length ≤ ys.length)) ∧ Jk j5 ∧ Jk j6 ∧ Jk j7 ∧ ρ = [.ref R', .dat (eB b), .dat (eI m), .dat (eT l), .dat (eT st), j5, j6, j7])
      (fun o => ∃ (st l : List Nat) (R' : PyData) (j5 j6 j7 : Slot), Rw R' ∧ Bd.RowOk b st ∧ l = Bd.gone st ∧ (b.ready l = [] ∨ st.length = m) ∧ o = some (.nx [.ref R', .dat (eB b), .dat (eI m), .dat (eT l), .dat (eT st), j5, j6, j7]))
      (rs := [.slot 2]) (ds := [eI m]) (ρ0 := [.ref R, .dat (eB b), .dat (eI m), .dat (eT []), .dat (eT []), .un, .un, .un]) ?_ ?_ (gRange1_nat (by omega)) ?_ ?_ ?_
    · simp [slotsOf, conArg, truth, valof, esc, callArgs, callBack, escAll, asg, asgAll, evst, Tg.bind, getAll, Option.bind_some, Option.bind_none]
    · simp [slotsOf, conArg, truth, valof, esc, callArgs, callBack, escAll, asg, asgAll, evst, Tg.bind, getAll, Option.bind_some, Option.bind_none]
    · exact ⟨[], [], R, .un, .un, .un, h, Bd.RowOk.nil b, rfl, .inl rfl, Jk.un, Jk.un, Jk.un, by simp [slotsOf, conArg, truth, valof, esc, callArgs, callBack, escAll, asg, asgAll, evst, Tg.bind, getAll, Option.bind_some, Option.bind_none, z_frr, z_lc, gSeq, frLoop, lcLoop, wipeE, backE, lockAll, unlockAll, lockR, unlockR, Out.mapM, pAll, boolsOf]⟩
    · rintro ys x zs _ e ⟨st, l, R1, j5, j6, j7, hR, ho, hg, hs, k5, k6, k7, rfl⟩
      left
      have hlen : ys.length < m := by have := congrArg List.length e; simp at this; omega
      have hs1 : st.length ≤ ys.length := by omega
      obtain ⟨ha, hc⟩ : Asc l ∧ Bd.Comes b l := by rw [hg]; exact ho.ok g
      have P := Bd.Pl.of_comes g ha hc
      have rd := r_lready g n l P
      have hl12 := P.len g
      have q1 := ne_N0 (b.ready l)
      have w1 : evS (run (n + 4)) bf MM (.set 6 (.call f__law_ready (.cons (.v 1) (.cons (.v 3) (.nil))))) [.ref R1, .dat (eB b), .dat (eI m), .dat (eT l), .dat (eT st), .dat (eI x), j6, j7] = some (.nx [.ref R1, .dat (eB b), .dat (eI m), .dat (eT l), .dat (eT st), .dat (eI x), .dat (eN (b.ready l)), j7]) :=
        z_setV (d := eN (b.ready l)) (ρ1 := [.ref R1, .dat (eB b), .dat (eI m), .dat (eT l), .dat (eT st), .dat (eI x), j6, j7]) (by simp [slotsOf, conArg, truth, valof, esc, callArgs, callBack, escAll, asg, asgAll, evst, Tg.bind, getAll, Option.bind_some, Option.bind_none, bf, rd]) (k6.asg rfl)
      have hbd : (Tg.n 5).bind (eI x) [.ref R1, .dat (eB b), .dat (eI m), .dat (eT l), .dat (eT st), j5, j6, j7] = some [.ref R1, .dat (eB b), .dat (eI m), .dat (eT l), .dat (eT st), .dat (eI x), j6, j7] := by
        rcases k5 with rfl | ⟨_, rfl⟩ | ⟨_, rfl⟩ <;> simp [slotsOf, conArg, truth, valof, esc, callArgs, callBack, escAll, asg, asgAll, evst, Tg.bind, getAll, Option.bind_some, Option.bind_none]
      by_cases hr : b.ready l = []
      · rw [decide_eq_true hr] at q1
        refine ⟨_, [.ref R1, .dat (eB b), .dat (eI m), .dat (eT l), .dat (eT st), .dat (eI x), .dat (eN (b.ready l)), j7], hbd, .inl (z_step _ w1 (z_step _ (z_iteF (ρ1 := [.ref R1, .dat (eB b), .dat (eI m), .dat (eT l), .dat (eT st), .dat (eI x), .dat (eN (b.ready l)), j7]) ?_ z_n) z_n)), ⟨st, l, R1, _, _, j7, hR, ho, hg, .inr ⟨hr, by simp; omega⟩, Jk.dat _, Jk.dat _, k7, rfl⟩⟩
        simp [slotsOf, conArg, truth, valof, esc, callArgs, callBack, escAll, asg, asgAll, evst, Tg.bind, getAll, Option.bind_some, Option.bind_none, q1]
      · rw [decide_eq_false hr] at q1
        obtain ⟨d, R2, hR2, hd, dp⟩ := pickL hR (n + 2) ((b.ready l).map eI) (by
          have h1 := List.length_pos_iff.mpr hr
          have h2 : (b.ready l).length ≤ 12 := by rw [Bd.ready_lft]; exact Nat.le_trans (List.length_filter_le _ _) (Bd.lft_len g)
          simp; omega)
        obtain ⟨y, hy, rfl⟩ := List.mem_map.mp hd
        have wt := r_lwith (n + 3) l y (by omega)
        have ad := addT_nat (l := st) (m := [y]) (by simp; omega)
        have ad' : pAdd (.tuple (st.map eI)) (.tuple [.int (y : Int)]) = some (false, eT (st ++ [y])) := ad
        refine ⟨_, [.ref R2, .dat (eB b), .dat (eI m), .dat (eT (Bd.wl l y)), .dat (eT (st ++ [y])), .dat (eI x), .dat (eN (b.ready l)), .dat (eI y)], hbd, .inl (z_step _ w1 (z_step _ (z_iteT (ρ1 := [.ref R1, .dat (eB b), .dat (eI m), .dat (eT l), .dat (eT st), .dat (eI x), .dat (eN (b.ready l)), j7]) ?_ (z_step _ (z_setV (d := eI y) (ρ1 := [.ref R2, .dat (eB b), .dat (eI m), .dat (eT l), .dat (eT st), .dat (eI x), .dat (eN (b.ready l)), j7]) ?_ (k7.asg rfl)) (z_step _ ?_ z_n))) z_n)), ⟨st ++ [y], Bd.wl l y, R2, _, _, _, hR2, ho.snoc (hg ▸ hy), by rw [Bd.gone_snoc, hg], .inl (hs.elim (fun hs => by simp [hs]) fun hs => absurd hs.1 hr), Jk.dat _, Jk.dat _, Jk.dat _, rfl⟩⟩
        · simp [slotsOf, conArg, truth, valof, esc, callArgs, callBack, escAll, asg, asgAll, evst, Tg.bind, getAll, Option.bind_some, Option.bind_none, q1]
        · simp [slotsOf, conArg, truth, valof, esc, callArgs, callBack, escAll, asg, asgAll, evst, Tg.bind, getAll, Option.bind_some, Option.bind_none, bf, Res.ix, conOf, conSet, dp]
        · generalize hST : eT (st ++ [y]) = ST at *
          simp [slotsOf, conArg, truth, valof, esc, callArgs, callBack, escAll, asg, asgAll, evst, Tg.bind, getAll, Option.bind_some, Option.bind_none, bf, wt, ad', stored, -p_add]
    · rintro _ ⟨st, l, R1, j5, j6, j7, hR, ho, hg, hs, _, _, _, rfl⟩
      rw [List.length_range] at hs
      exact ⟨st, l, R1, j5, j6, j7, hR, ho, hg, hs.elim .inr fun hs => .inl hs.1, by simp [slotsOf, conArg, truth, valof, esc, callArgs, callBack, escAll, asg, asgAll, evst, Tg.bind, getAll, Option.bind_some, Option.bind_none, z_frr, z_lc, gSeq, frLoop, lcLoop, wipeE, backE, lockAll, unlockAll, lockR, unlockR, Out.mapM, pAll, boolsOf]⟩
  obtain ⟨st, l, R', j5, j6, j7, hR, ho, hg, hs, s1⟩ := s1
  refine ⟨st, l, R', hR, ho, hg, hs, (run__law_drawn (n + 4) _).trans (callBody_ref rfl (ρ := [.ref R', .dat (eB b), .dat (eI m), .dat (eT l), .dat (eT st), j5, j6, j7]) ?_ rfl)⟩
  refine z_step [.ref R, .dat (eB b), .dat (eI m), .dat (eT []), .dat (eT []), .un, .un, .un] (by simp [slotsOf, conArg, truth, valof, esc, callArgs, callBack, escAll, asg, asgAll, evst, Tg.bind, getAll, Option.bind_some, Option.bind_none, stored]) (z_step _ s1 ?_)
  simp [slotsOf, conArg, truth, valof, esc, callArgs, callBack, escAll, asg, asgAll, evst, Tg.bind, getAll, Option.bind_some, Option.bind_none]
end
end L2.Z.K01

namespace L2.Z
open PySem
abbrev eLL (p : Nat × List Nat) : PyData := .tuple [eI p.1, eT p.2]
theorem ok_eLL : EncOk eLL 2 := (ok_eI.mono (by decide : 0 ≤ 1)).pair ok_eT
theorem alike_eT (a b : List Nat) : PySem.W.alike (eT a) (eT b) = true := by
  rw [eT_iL, eT_iL]
  unfold PySem.W.alike
  exact PySem.W.alike_ints _ _
theorem lt_eLL : EncLt eLL := ⟨fun a b => by
  have := alike_eT a.2 b.2
  simp only [eLL, eI]
  simp only [PySem.W.alike, PySem.W.alikeAll, Bool.and_true, Bool.true_and] at this ⊢
  exact this, fun a => rfl⟩
theorem dLt_eLL {p q : Nat × List Nat} (h : p.1 < q.1) : PySem.W.dataLt (eLL p) (eLL q) = true := by
  have ne : PyData.eqv (eI p.1) (eI q.1) = false := by rw [ok_eI.eqv]; simp; omega
  rw [PySem.W.dataLt_pair (by simp [PySem.W.alike]) (alike_eT _ _), ne, if_neg (by simp)]
  show PySem.W.dataLt (.int (p.1 : Int)) (.int (q.1 : Int)) = true
  rw [PySem.W.dataLt_int]
  simp
  omega
/-- the greatest of some lots: the longest -/
theorem max_LL {xs : List (List Nat)} {c : List Nat} (hc : c ∈ xs) (h : ∀ k ∈ xs, k ≠ c → k.length < c.length) : pMaxS (.list (xs.map fun k => .tuple [eI k.length, eT k])) = some (false, .tuple [eI c.length, eT c]) := by
  have e : (xs.map fun k => PyData.tuple [eI k.length, eT k]) = (xs.map fun k => (k.length, k)).map eLL := by rw [List.map_map]; rfl
  obtain ⟨m, h1, h2, h3, _⟩ := maxS_enc ok_eLL (by decide) lt_eLL (xs := xs.map fun k => (k.length, k)) (by intro z; rw [List.map_eq_nil_iff] at z; rw [z] at hc; simp at hc)
  obtain ⟨k, hk, rfl⟩ := List.mem_map.mp h1
  by_cases z : k = c
  · subst z
    rw [e, h3]
  · have a := dLt_eLL (p := (k.length, k)) (q := (c.length, c)) (h k hk z)
    rw [h2 _ (List.mem_map.mpr ⟨c, hc, rfl⟩)] at a
    cases a
namespace Bd
variable {b : Bd} {l m k : List Nat} {x : Nat}
theorem alls_length2 : b.alls.length ≤ 2 ^ (b.hi + b.wi) := by
  unfold alls srtL
  rw [List.length_mergeSort]
  refine Nat.le_trans (List.length_filter_le _ _) ?_
  rw [subs_length]
  have : b.lns.length = b.hi + b.wi := by unfold lns; rw [List.length_range]
  rw [this]
  exact Nat.le_refl _
/-- the lots within both of two -/
def inn (b : Bd) (l m : List Nat) : List (List Nat) := b.alls.filter fun k => decide ((k.filter fun x => !decide (x ∈ l) || !decide (x ∈ m)) = [])
theorem mem_inn : k ∈ b.inn l m ↔ k ∈ b.alls ∧ ∀ x ∈ k, x ∈ l ∧ x ∈ m := by
  unfold inn
  rw [List.mem_filter, decide_eq_true_eq, List.filter_eq_nil_iff]
  constructor
  · rintro ⟨h1, h2⟩
    refine ⟨h1, fun x hx => ?_⟩
    have := h2 x hx
    simp at this
    exact this
  · rintro ⟨h1, h2⟩
    refine ⟨h1, fun x hx => ?_⟩
    have := h2 x hx
    simp [this.1, this.2]
theorem inn_top (g : b.Good) (h : l ∈ b.alls) : b.cmn l m ∈ b.inn l m ∧ ∀ k ∈ b.inn l m, k ≠ b.cmn l m → k.length < (b.cmn l m).length := by
  refine ⟨mem_inn.mpr ⟨cmn_alls g h, fun x hx => cmn_sub x hx⟩, fun k hk hne => ?_⟩
  obtain ⟨k1, k2⟩ := mem_inn.mp hk
  have sub := cmn_top g h k1 (fun x hx => (k2 x hx).1) (fun x hx => (k2 x hx).2)
  have le := List.Nodup.length_le_of_subset ((mem_alls g).mp k1).1.nodup sub
  refine Nat.lt_of_le_of_ne le fun e => hne ?_
  refine alls_eq g k1 (cmn_alls g h) fun x => ⟨sub x, fun hx => ?_⟩
  by_cases q : x ∈ k
  · exact q
  · exfalso
    have := List.Nodup.length_le_of_subset (List.nodup_cons.mpr ⟨q, ((mem_alls g).mp k1).1.nodup⟩) (l₂ := b.cmn l m) (fun y hy => by
      rcases List.mem_cons.mp hy with rfl | hy
      · exact hx
      · exact sub y hy)
    simp at this
    omega
end Bd
end L2.Z

namespace L2.Z.K01
open PySem L2.Z
theorem al_T1 (l : List Nat) (h : l.length ≤ 1000) : al 1 (eT l) = true := by
  show ((l.map eI).all (al 0) && decide ((l.map eI).length ≤ 1000)) = true
  simp only [Bool.and_eq_true, List.all_eq_true, decide_eq_true_eq, List.mem_map, List.length_map]
  exact ⟨by rintro _ ⟨x, _, rfl⟩; rfl, h⟩
/-- the first strike that is none -/
theorem row_bad {b : Bd} {st : List Nat} (h : ¬ Bd.RowOk b st) : ∃ ys x zs, st = ys ++ x :: zs ∧ Bd.RowOk b ys ∧ x ∉ b.ready (Bd.gone ys) := by
  have key : ∀ (zs ys : List Nat), Bd.RowOk b ys → ¬ Bd.RowOk b (ys ++ zs) → ∃ ys' x zs', ys ++ zs = ys' ++ x :: zs' ∧ Bd.RowOk b ys' ∧ x ∉ b.ready (Bd.gone ys') := by
    intro zs
    induction zs with
    | nil => intro ys h1 h2; rw [List.append_nil] at h2; exact absurd h1 h2
    | cons x zs ih =>
      intro ys h1 h2
      by_cases hx : x ∈ b.ready (Bd.gone ys)
      · have := ih (ys ++ [x]) (h1.snoc hx) (by rw [List.append_assoc]; exact h2)
        rw [List.append_assoc] at this
        exact this
      · exact ⟨ys, x, zs, rfl, h1, hx⟩
  exact key st [] (Bd.RowOk.nil b) h
theorem isfrom_bool (n : Nat) (t : Bool) (u v : Int) : run (n + 2) f_is_from [.bool t, .int u, .int v] = some (.bool false, .none) := by
  simp [run_is_from, callBody, b_is_from, slotsOf, conArg, truth, valof, esc, callArgs, callBack, escAll, asg, asgAll, evst, Tg.bind, getAll, Option.bind_some, Option.bind_none, run_is_int, b_is_int, bf, pIsInt, pIsBool]
theorem isfrom_tup (n : Nat) (ds : List PyData) (u v : Int) : run (n + 2) f_is_from [.tuple ds, .int u, .int v] = some (.bool false, .none) := by
  simp [run_is_from, callBody, b_is_from, slotsOf, conArg, truth, valof, esc, callArgs, callBack, escAll, asg, asgAll, evst, Tg.bind, getAll, Option.bind_some, Option.bind_none, run_is_int, b_is_int, bf, pIsInt, pIsBool]
theorem isfrom_far (n : Nat) (i u v : Int) (h : u ≤ i) (h2 : v < i) : run (n + 2) f_is_from [.int i, .int u, .int v] = some (.bool false, .none) := by
  have q : ¬ i ≤ v := by omega
  simp [run_is_from, callBody, b_is_from, slotsOf, conArg, truth, valof, esc, callArgs, callBack, escAll, asg, asgAll, evst, Tg.bind, getAll, Option.bind_some, Option.bind_none, r_is_int, bf, h, q]
section
variable {b : Bd} (g : b.Good)
include g
theorem r_run_bad (n : Nat) {st : List Nat} (h : Bd.RowOk b st) (d : PyData) (zs : List PyData) (bad : run (n + 6) f_is_from [d, .int 0, .int ((b.hi : Int) + b.wi - 1)] = some (.bool false, .none) ∨ ∃ x : Nat, d = eI x ∧ x < b.hi + b.wi ∧ x ∉ b.ready (Bd.gone st)) :
    run (n + 7) f_run [eB b, .tuple (st.map eI ++ d :: zs)] = some (.int (st.length : Nat), .none) := by
  obtain ⟨D, hD⟩ : ∃ D, D = st.map eI ++ d :: zs := ⟨_, rfl⟩
  have hDl : st.length < D.length := by rw [hD]; simp
  have hDi : ∀ (i : Nat) (hi : i < st.length), D[i]? = some (eI st[i]) := fun i hi => by
    rw [hD, List.getElem?_append_left (by simpa using hi), List.getElem?_map, List.getElem?_eq_getElem hi]; rfl
  have hDd : D[st.length]? = some d := by rw [hD, List.getElem?_append_right (by simp)]; simp
  rw [← hD]
  have sd := r_sides g (n + 5)
  have ss := sum_sides g
  have w : ∃ ρ, evS (run (n + 6)) bf MM w_run_0 [.dat (eB b), .dat (.tuple D), .dat (eT []), .un, .un] = some (.rt (.int (st.length : Nat)) ρ) := by
    refine fr_eval (fun q : PyData × Nat => .tuple [.int (q.2 : Nat), q.1]) (D.zipIdx 0) (fun ys ρ => ys.length ≤ st.length ∧ ∃ j3 j4, ρ = [.dat (eB b), .dat (.tuple D), .dat (eT (Bd.gone (st.take ys.length))), j3, j4] ∧ Jk j3 ∧ Jk j4) (fun o => ∃ ρ, o = some (.rt (.int (st.length : Nat)) ρ)) (rs := [.slot 1]) (ds := [.tuple D]) (ρ0 := [.dat (eB b), .dat (.tuple D), .dat (eT []), .un, .un]) ?_ ?_ ?_ ?_ ?_ ?_
    · simp [slotsOf, conArg, truth, valof, esc, callArgs, callBack, escAll, asg, asgAll, evst, Tg.bind, getAll, Option.bind_some, Option.bind_none]
    · simp [slotsOf, conArg, truth, valof, esc, callArgs, callBack, escAll, asg, asgAll, evst, Tg.bind, getAll, Option.bind_some, Option.bind_none]
    · have : ∀ (l : List PyData) (k : Nat), enumD k l = (l.zipIdx k).map fun q : PyData × Nat => PyData.tuple [.int (q.2 : Nat), q.1] := fun l => by
        induction l with
        | nil => intro k; rfl
        | cons a l ih => intro k; simp [enumD, ih]
      simp only [gEnum]
      rw [this]
    · exact ⟨Nat.zero_le _, .un, .un, by simp [z_frr, z_lc, gSeq, frLoop, lcLoop, wipeE, backE, lockAll, unlockAll, lockR, unlockR, Out.mapM, pAll, boolsOf, Bd.gone], .un, .un⟩
    · rintro ys ⟨e, i⟩ zs' ρ hx ⟨hl, j3, j4, rfl, k3, k4⟩
      have hi : i = ys.length ∧ D[ys.length]? = some e := by
        have h1 : (D.zipIdx 0)[ys.length]? = some (e, i) := by rw [hx]; simp
        rw [List.getElem?_zipIdx] at h1
        obtain ⟨a, h2, h3⟩ := Option.map_eq_some_iff.mp h1
        simp only [Nat.zero_add, Prod.mk.injEq] at h3
        obtain ⟨rfl, rfl⟩ := h3
        exact ⟨rfl, h2⟩
      obtain ⟨rfl, he⟩ := hi
      have hp : Bd.RowOk b (st.take ys.length) := Bd.RowOk.pre (ws := st.drop ys.length) (by rw [List.take_append_drop]; exact h)
      have l12 : (Bd.gone (st.take ys.length)).length ≤ 12 := by rw [Bd.gone_length]; exact hp.len g
      have f1 : asg 3 (.dat (.int (ys.length : Nat))) [.dat (eB b), .dat (.tuple D), .dat (eT (Bd.gone (st.take ys.length))), j3, j4] = some [.dat (eB b), .dat (.tuple D), .dat (eT (Bd.gone (st.take ys.length))), .dat (.int (ys.length : Nat)), j4] := k3.asg rfl
      have f2 : asg 4 (.dat e) [.dat (eB b), .dat (.tuple D), .dat (eT (Bd.gone (st.take ys.length))), .dat (.int (ys.length : Nat)), j4] = some [.dat (eB b), .dat (.tuple D), .dat (eT (Bd.gone (st.take ys.length))), .dat (.int (ys.length : Nat)), .dat e] := k4.asg rfl
      rcases Nat.lt_or_ge ys.length st.length with hlt | hge
      · rw [hDi _ hlt] at he
        cases he
        obtain ⟨x, hxx⟩ : ∃ x, x = st[ys.length] := ⟨_, rfl⟩
        rw [← hxx] at f2 ⊢
        have hst : st = st.take ys.length ++ x :: st.drop (ys.length + 1) := by rw [hxx, ← List.drop_eq_getElem_cons hlt, List.take_append_drop]
        have h1 : st.take (ys.length + 1) = st.take ys.length ++ [x] := by rw [hxx]; exact List.take_succ_eq_append_getElem hlt
        have hr := h _ _ _ hst
        rw [List.length_append, List.length_singleton, h1, Bd.gone_snoc]
        obtain ⟨l, hl2⟩ : ∃ l, l = Bd.gone (st.take ys.length) := ⟨_, rfl⟩
        rw [← hl2] at hr l12 f1 f2 ⊢
        obtain ⟨m1, m2, m3⟩ := Bd.mem_ready.mp hr
        have isf := r_is_from (n + 4) (x : Int) 0 ((b.hi : Int) + b.wi - 1) ⟨by omega, by omega⟩
        have q : pIn (eI x) (eT l) = some (false, .bool false) := (pIn_tup ok_eI (by decide) x l).trans (by simp [m2])
        have cf := r_can_fall g n l x m1 (by omega)
        rw [m3] at cf
        have wt := r_with_line (n + 5) l x (by omega)
        refine .inl ⟨[.dat (eB b), .dat (.tuple D), .dat (eT l), .dat (.int (ys.length : Nat)), .dat (eI x)], [.dat (eB b), .dat (.tuple D), .dat (eT (Bd.wl l x)), .dat (.int (ys.length : Nat)), .dat (eI x)], ?_, .inl ?_, hlt, _, _, rfl, .dat _, .dat _⟩
        · simp [Tg.bind, f1, f2]
        · obtain ⟨W, hW⟩ : ∃ W, W = eT (Bd.wl l x) := ⟨_, rfl⟩
          rw [← hW] at wt ⊢
          obtain ⟨L, hL⟩ : ∃ L, L = eT l := ⟨_, rfl⟩
          rw [← hL] at wt cf q ⊢
          simp [slotsOf, conArg, truth, valof, esc, callArgs, callBack, escAll, asg, asgAll, evst, Tg.bind, getAll, Option.bind_some, Option.bind_none, bf, sd, ss, isf, q, cf, wt]
      · have hle : ys.length = st.length := by omega
        rw [hle] at he f1 f2 l12 ⊢
        rw [hDd] at he
        cases he
        rw [List.take_length] at f1 f2 l12 ⊢
        obtain ⟨l, hl2⟩ : ∃ l, l = Bd.gone st := ⟨_, rfl⟩
        rw [← hl2] at bad l12 f1 f2 ⊢
        refine .inr ⟨[.dat (eB b), .dat (.tuple D), .dat (eT l), .dat (.int (st.length : Nat)), .dat d], .int (st.length : Nat), [.dat (eB b), .dat (.tuple D), .dat (eT l), .dat (.int (st.length : Nat)), .dat d], ?_, ?_, ⟨_, by simp [z_frr, z_lc, gSeq, frLoop, lcLoop, wipeE, backE, lockAll, unlockAll, lockR, unlockR, Out.mapM, pAll, boolsOf]; rfl⟩⟩
        · simp [Tg.bind, f1, f2]
        · rcases bad with bad | ⟨x, rfl, m1, m2⟩
          · obtain ⟨L, hL⟩ : ∃ L, L = eT l := ⟨_, rfl⟩
            rw [← hL]
            simp [slotsOf, conArg, truth, valof, esc, callArgs, callBack, escAll, asg, asgAll, evst, Tg.bind, getAll, Option.bind_some, Option.bind_none, bf, sd, ss, bad]
          · have isf := r_is_from (n + 4) (x : Int) 0 ((b.hi : Int) + b.wi - 1) ⟨by omega, by omega⟩
            have q : pIn (eI x) (eT l) = some (false, .bool (decide (x ∈ l))) := pIn_tup ok_eI (by decide) x l
            have cf := r_can_fall g n l x m1 (by omega)
            obtain ⟨L, hL⟩ : ∃ L, L = eT l := ⟨_, rfl⟩
            rw [← hL] at q cf ⊢
            by_cases hxl : x ∈ l
            · simp [slotsOf, conArg, truth, valof, esc, callArgs, callBack, escAll, asg, asgAll, evst, Tg.bind, getAll, Option.bind_some, Option.bind_none, bf, sd, ss, isf, q, hxl]
            · have : b.canF l x = false := by
                cases hc : b.canF l x with
                | false => rfl
                | true => exact absurd (Bd.mem_ready.mpr ⟨m1, hxl, hc⟩) m2
              rw [this] at cf
              simp [slotsOf, conArg, truth, valof, esc, callArgs, callBack, escAll, asg, asgAll, evst, Tg.bind, getAll, Option.bind_some, Option.bind_none, bf, sd, ss, isf, q, hxl, cf]
    · rintro ρ ⟨hl, _⟩
      rw [List.length_zipIdx] at hl
      omega
  obtain ⟨ρ, e⟩ := w
  refine (run_run (n + 6) _).trans (callBody_rt rfl (ρ := ρ) ?_)
  rw [show b_run = .cons (.set 2 (.tup .nil)) (.cons w_run_0 (.cons (.ret (.v 2)) .nil)) from rfl]
  refine z_step [.dat (eB b), .dat (.tuple D), .dat (eT []), .un, .un] (by simp [slotsOf, conArg, truth, valof, esc, callArgs, callBack, escAll, asg, asgAll, evst, Tg.bind, getAll, Option.bind_some, Option.bind_none, stored]) ?_
  rw [z_c, e]; rfl
theorem r_shows_no (n : Nat) {l : List Nat} (P : Bd.Pl b l) {V : PyData} {i : Nat} (hr : run (n + 8) f_run [eB b, V] = some (.int i, .none)) (hv : pIsTup V = some (false, .bool true)) : run (n + 9) f_shows_strikes [eB b, eT l, V] = some (.bool false, .none) := by
  have q : pEq (.int (i : Int)) (eT l) = some (false, .bool false) := by
    unfold pEq
    have : okEq (.int (i : Int)) (eT l) = true := okEq_iff.mpr ⟨by simp [PyData.plain], ok_eT.plain l, by simp [PyData.depth]⟩
    rw [if_pos this]
    simp [PyData.eqv]
  simp [run_shows_strikes, callBody, b_shows_strikes, slotsOf, conArg, truth, valof, esc, callArgs, callBack, escAll, asg, asgAll, evst, Tg.bind, getAll, Option.bind_some, Option.bind_none, bf, r_need_board g (n + 4), r_need_lot g (n + 4) P, hr, hv, q]
theorem r_shows_non (n : Nat) {l : List Nat} (P : Bd.Pl b l) {V : PyData} (hv : pIsTup V = some (false, .bool false)) : run (n + 9) f_shows_strikes [eB b, eT l, V] = some (.bool false, .none) := by
  simp [run_shows_strikes, callBody, b_shows_strikes, slotsOf, conArg, truth, valof, esc, callArgs, callBack, escAll, asg, asgAll, evst, Tg.bind, getAll, Option.bind_some, Option.bind_none, bf, r_need_board g (n + 4), r_need_lot g (n + 4) P, hv]
theorem r_shows_self (n : Nat) {l : List Nat} (P : Bd.Pl b l) (h : l ∉ b.alls) : run (n + 9) f_shows_strikes [eB b, eT l, eT l] = some (.bool false, .none) := by
  have hn : ¬ Bd.RowOk b l := fun r => h (by
    have := r.alls g
    have e : Bd.gone l = l := asc_eq (r.ok g).1 P.asc fun x => Bd.mem_gone
    rwa [e] at this)
  obtain ⟨ys, x, zs, rfl, h1, h2⟩ := row_bad hn
  have e := r_run_bad g (n + 1) h1 (eI x) (zs.map eI) (.inr ⟨x, rfl, P.lt x (by simp), h2⟩)
  refine r_shows_no g n P (V := eT (ys ++ x :: zs)) (i := ys.length) ?_ rfl
  show run (n + 8) f_run [eB b, .tuple ((ys ++ x :: zs).map eI)] = _
  rw [List.map_append, List.map_cons]
  exact e
theorem r_some_none (n : Nat) {l : List Nat} (P : Bd.Pl b l) (h : l ∉ b.alls) : run (n + 9) f_some_strikes [eB b, eT l] = some (.none, .none) := by
  have e1 := r_closure g n l (eT l) rfl P.lt
  have hr : ¬ (b.closure l).length = l.length := fun e => h ((Bd.mem_alls g).mpr ⟨P.asc, (Bd.reached_iff g P.asc.nodup P.lt).mp e⟩)
  have e2 : pEq (.int ((b.closure l).length : Int)) (.int (l.length : Int)) = some (false, .bool false) := (pEq_enc ok_eI (by decide) _ _).trans (by rw [decide_eq_false hr])
  obtain ⟨C, hC⟩ : ∃ C, C = b.closure l := ⟨_, rfl⟩
  rw [← hC] at e1 e2 hr
  simp [run_some_strikes, callBody, b_some_strikes, slotsOf, conArg, truth, valof, esc, callArgs, callBack, escAll, asg, asgAll, evst, Tg.bind, getAll, Option.bind_some, Option.bind_none, bf, r_need_board g (n + 4), r_need_lot g (n + 4) P, e1, e2, stored]
end
/-- the lots found that lie within another -/
def inl (K : List (List Nat)) (l : List Nat) : List (List Nat) := K.filter fun k => decide ((k.filter fun x => !decide (x ∈ l)) = [])
theorem mem_inl {K : List (List Nat)} {k l : List Nat} : k ∈ inl K l ↔ k ∈ K ∧ ∀ x ∈ k, x ∈ l := by
  unfold inl
  rw [List.mem_filter, decide_eq_true_eq, List.filter_eq_nil_iff]
  constructor
  · rintro ⟨h1, h2⟩
    refine ⟨h1, fun x hx => ?_⟩
    have := h2 x hx
    simpa using this
  · rintro ⟨h1, h2⟩
    exact ⟨h1, fun x hx => by simp [h2 x hx]⟩
theorem inl_top {b : Bd} (g : b.Good) {K : List (List Nat)} (hK : ∀ k, k ∈ K ↔ k ∈ b.alls) {l : List Nat} (hw : ∀ x ∈ l, x < b.hi + b.wi) : b.top l ∈ inl K l ∧ ∀ k ∈ inl K l, k ≠ b.top l → k.length < (b.top l).length := by
  refine ⟨mem_inl.mpr ⟨(hK _).mpr (Bd.top_alls g hw), Bd.top_sub⟩, fun k hk hne => ?_⟩
  obtain ⟨k1, k2⟩ := mem_inl.mp hk
  have k1 := (hK _).mp k1
  have sub := Bd.top_top g hw k1 k2
  have le := List.Nodup.length_le_of_subset ((Bd.mem_alls g).mp k1).1.nodup sub
  refine Nat.lt_of_le_of_ne le fun e => hne ?_
  refine Bd.alls_eq g k1 (Bd.top_alls g hw) fun x => ⟨sub x, fun hx => ?_⟩
  by_cases q : x ∈ k
  · exact q
  · exfalso
    have := List.Nodup.length_le_of_subset (List.nodup_cons.mpr ⟨q, ((Bd.mem_alls g).mp k1).1.nodup⟩) (l₂ := b.top l) (fun y hy => by
      rcases List.mem_cons.mp hy with rfl | hy
      · exact hx
      · exact sub y hy)
    simp at this
    omega
theorem get_isSome {β : Type} {L : List (List Nat × β)} {a : List Nat} : (aGet L a).isSome = decide (a ∈ keys L) := by
  unfold aGet
  induction L with
  | nil => simp
  | cons p L ih =>
    rw [List.find?_cons, keys_cons]
    by_cases h : p.1 = a
    · simp [h]
    · have h2 : ¬ a = p.1 := fun e => h e.symm
      rw [Option.isSome_map] at ih ⊢
      simp only [h, decide_false, ih]
      simp [h2]
theorem c_law_0_ev {Φ : Fns} (k l : List Nat) (p0 p1 p2 p4 p5 p7 p8 p9 p10 p11 p12 : Slot) : ev Φ bf c_law_0 [p0, p1, p2, .dat (eT k), p4, p5, .dat (eT l), p7, p8, p9, p10, p11, p12, .un] = some (.new (eN (k.filter fun x => !decide (x ∈ l))), [p0, p1, p2, .dat (eT k), p4, p5, .dat (eT l), p7, p8, p9, p10, p11, p12, .un]) := by
  refine (lc_eval eI k (fun x => !decide (x ∈ l)) eI (rs := [.slot 3]) (ds := [eT k]) [p0, p1, p2, .dat (eT k), p4, p5, .dat (eT l), p7, p8, p9, p10, p11, p12, .un] ?_ ?_ rfl ?_ ?_ ?_)
  · simp [slotsOf, conArg, truth, valof, esc, callArgs, callBack, escAll, asg, asgAll, evst, Tg.bind, getAll, Option.bind_some, Option.bind_none]
  · simp [slotsOf, conArg, truth, valof, esc, callArgs, callBack, escAll, asg, asgAll, evst, Tg.bind, getAll, Option.bind_some, Option.bind_none]
  · simp [slotsOf, conArg, truth, valof, esc, callArgs, callBack, escAll, asg, asgAll, evst, Tg.bind, getAll, Option.bind_some, Option.bind_none, z_frr, z_lc, gSeq, frLoop, lcLoop, wipeE, backE, lockAll, unlockAll, lockR, unlockR, Out.mapM, pAll, boolsOf]
  · intro x hx
    have q1 : pNotIn (eI x) (eT l) = some (false, .bool (!decide (x ∈ l))) := pNotIn_tup ok_eI (by decide) _ _
    by_cases z : x ∈ l <;> simp [slotsOf, conArg, truth, valof, esc, callArgs, callBack, escAll, asg, asgAll, evst, Tg.bind, getAll, Option.bind_some, Option.bind_none, z_frr, z_lc, gSeq, frLoop, lcLoop, wipeE, backE, lockAll, unlockAll, lockR, unlockR, Out.mapM, pAll, boolsOf, q1, z]
  · simp [slotsOf, conArg, truth, valof, esc, callArgs, callBack, escAll, asg, asgAll, evst, Tg.bind, getAll, Option.bind_some, Option.bind_none, z_frr, z_lc, gSeq, frLoop, lcLoop, wipeE, backE, lockAll, unlockAll, lockR, unlockR, Out.mapM, pAll, boolsOf]
theorem c_law_1_ev {Φ : Fns} (k l : List Nat) (p0 p1 p2 p3 p4 p5 p7 p8 p9 p10 p11 : Slot) : ev Φ bf c_law_1 [p0, p1, p2, p3, p4, p5, .dat (eT l), p7, p8, p9, p10, p11, .dat (eT k), .un] = some (.new (eN (k.filter fun x => !decide (x ∈ l))), [p0, p1, p2, p3, p4, p5, .dat (eT l), p7, p8, p9, p10, p11, .dat (eT k), .un]) := by
  refine (lc_eval eI k (fun x => !decide (x ∈ l)) eI (rs := [.slot 12]) (ds := [eT k]) [p0, p1, p2, p3, p4, p5, .dat (eT l), p7, p8, p9, p10, p11, .dat (eT k), .un] ?_ ?_ rfl ?_ ?_ ?_)
  · simp [slotsOf, conArg, truth, valof, esc, callArgs, callBack, escAll, asg, asgAll, evst, Tg.bind, getAll, Option.bind_some, Option.bind_none]
  · simp [slotsOf, conArg, truth, valof, esc, callArgs, callBack, escAll, asg, asgAll, evst, Tg.bind, getAll, Option.bind_some, Option.bind_none]
  · simp [slotsOf, conArg, truth, valof, esc, callArgs, callBack, escAll, asg, asgAll, evst, Tg.bind, getAll, Option.bind_some, Option.bind_none, z_frr, z_lc, gSeq, frLoop, lcLoop, wipeE, backE, lockAll, unlockAll, lockR, unlockR, Out.mapM, pAll, boolsOf]
  · intro x hx
    have q1 : pNotIn (eI x) (eT l) = some (false, .bool (!decide (x ∈ l))) := pNotIn_tup ok_eI (by decide) _ _
    by_cases z : x ∈ l <;> simp [slotsOf, conArg, truth, valof, esc, callArgs, callBack, escAll, asg, asgAll, evst, Tg.bind, getAll, Option.bind_some, Option.bind_none, z_frr, z_lc, gSeq, frLoop, lcLoop, wipeE, backE, lockAll, unlockAll, lockR, unlockR, Out.mapM, pAll, boolsOf, q1, z]
  · simp [slotsOf, conArg, truth, valof, esc, callArgs, callBack, escAll, asg, asgAll, evst, Tg.bind, getAll, Option.bind_some, Option.bind_none, z_frr, z_lc, gSeq, frLoop, lcLoop, wipeE, backE, lockAll, unlockAll, lockR, unlockR, Out.mapM, pAll, boolsOf]
theorem c_law_4_ev {Φ : Fns} (k l : List Nat) (p0 p1 p2 p4 p5 p6 p7 p8 p9 p10 p11 : Slot) : ev Φ bf c_law_4 [p0, p1, p2, .dat (eT l), p4, p5, p6, p7, p8, p9, p10, p11, .dat (eT k), .un] = some (.new (eN (k.filter fun x => !decide (x ∈ l))), [p0, p1, p2, .dat (eT l), p4, p5, p6, p7, p8, p9, p10, p11, .dat (eT k), .un]) := by
  refine (lc_eval eI k (fun x => !decide (x ∈ l)) eI (rs := [.slot 12]) (ds := [eT k]) [p0, p1, p2, .dat (eT l), p4, p5, p6, p7, p8, p9, p10, p11, .dat (eT k), .un] ?_ ?_ rfl ?_ ?_ ?_)
  · simp [slotsOf, conArg, truth, valof, esc, callArgs, callBack, escAll, asg, asgAll, evst, Tg.bind, getAll, Option.bind_some, Option.bind_none]
  · simp [slotsOf, conArg, truth, valof, esc, callArgs, callBack, escAll, asg, asgAll, evst, Tg.bind, getAll, Option.bind_some, Option.bind_none]
  · simp [slotsOf, conArg, truth, valof, esc, callArgs, callBack, escAll, asg, asgAll, evst, Tg.bind, getAll, Option.bind_some, Option.bind_none, z_frr, z_lc, gSeq, frLoop, lcLoop, wipeE, backE, lockAll, unlockAll, lockR, unlockR, Out.mapM, pAll, boolsOf]
  · intro x hx
    have q1 : pNotIn (eI x) (eT l) = some (false, .bool (!decide (x ∈ l))) := pNotIn_tup ok_eI (by decide) _ _
    by_cases z : x ∈ l <;> simp [slotsOf, conArg, truth, valof, esc, callArgs, callBack, escAll, asg, asgAll, evst, Tg.bind, getAll, Option.bind_some, Option.bind_none, z_frr, z_lc, gSeq, frLoop, lcLoop, wipeE, backE, lockAll, unlockAll, lockR, unlockR, Out.mapM, pAll, boolsOf, q1, z]
  · simp [slotsOf, conArg, truth, valof, esc, callArgs, callBack, escAll, asg, asgAll, evst, Tg.bind, getAll, Option.bind_some, Option.bind_none, z_frr, z_lc, gSeq, frLoop, lcLoop, wipeE, backE, lockAll, unlockAll, lockR, unlockR, Out.mapM, pAll, boolsOf]
theorem c_law_2_ev {Φ : Fns} (A : List (List Nat)) (l : List Nat) (p0 p1 p2 p3 p4 p7 p8 p9 p10 p11 : Slot) : ev Φ bf c_law_2 [p0, p1, p2, p3, p4, .own (.list (A.map eT)), .dat (eT l), p7, p8, p9, p10, p11, .un, .un] = some (.new (.list ((A.filter fun k => !decide ((k.filter fun x => !decide (x ∈ l)) = [])).map eT)), [p0, p1, p2, p3, p4, .own (.list (A.map eT)), .dat (eT l), p7, p8, p9, p10, p11, .un, .un]) := by
  refine (lc_eval eT A (fun k => !decide ((k.filter fun x => !decide (x ∈ l)) = [])) eT (rs := [.slot 5]) (ds := [.list (A.map eT)]) [p0, p1, p2, p3, p4, .lok false (.list (A.map eT)), .dat (eT l), p7, p8, p9, p10, p11, .un, .un] ?_ ?_ rfl ?_ ?_ ?_)
  · generalize A.map eT = Z
    simp [slotsOf, conArg, truth, valof, esc, callArgs, callBack, escAll, asg, asgAll, evst, Tg.bind, getAll, Option.bind_some, Option.bind_none]
  · generalize A.map eT = Z
    simp [slotsOf, conArg, truth, valof, esc, callArgs, callBack, escAll, asg, asgAll, evst, Tg.bind, getAll, Option.bind_some, Option.bind_none]
  · generalize A.map eT = Z
    simp [slotsOf, conArg, truth, valof, esc, callArgs, callBack, escAll, asg, asgAll, evst, Tg.bind, getAll, Option.bind_some, Option.bind_none, z_frr, z_lc, gSeq, frLoop, lcLoop, wipeE, backE, lockAll, unlockAll, lockR, unlockR, Out.mapM, pAll, boolsOf]
  · intro k hk
    have e := c_law_1_ev (Φ := Φ) k l (p0) (p1) (p2) (p3) (p4) (.lok false (.list (A.map eT))) (p7) (p8) (p9) (p10) (p11)
    obtain ⟨X, hX⟩ : ∃ X, X = k.filter fun x => !decide (x ∈ l) := ⟨_, rfl⟩
    rw [← hX] at e ⊢
    have q : pNe (eN X) (.list []) = some (false, .bool (!decide (X = []))) := ne_N0 X
    obtain ⟨D, hD⟩ : ∃ D, D = eN X := ⟨_, rfl⟩
    rw [← hD] at e q
    clear hX hD
    generalize A.map eT = Z at *
    by_cases z : X = []
    · simp only [z, decide_true, Bool.not_true] at q ⊢
      simp [slotsOf, conArg, truth, valof, esc, callArgs, callBack, escAll, asg, asgAll, evst, Tg.bind, getAll, Option.bind_some, Option.bind_none, z_frr, z_lc, gSeq, frLoop, lcLoop, wipeE, backE, lockAll, unlockAll, lockR, unlockR, Out.mapM, pAll, boolsOf, e, q]
    · simp only [z, decide_false, Bool.not_false] at q ⊢
      simp [slotsOf, conArg, truth, valof, esc, callArgs, callBack, escAll, asg, asgAll, evst, Tg.bind, getAll, Option.bind_some, Option.bind_none, z_frr, z_lc, gSeq, frLoop, lcLoop, wipeE, backE, lockAll, unlockAll, lockR, unlockR, Out.mapM, pAll, boolsOf, e, q]
  · generalize A.map eT = Z
    simp [slotsOf, conArg, truth, valof, esc, callArgs, callBack, escAll, asg, asgAll, evst, Tg.bind, getAll, Option.bind_some, Option.bind_none, z_frr, z_lc, gSeq, frLoop, lcLoop, wipeE, backE, lockAll, unlockAll, lockR, unlockR, Out.mapM, pAll, boolsOf]
theorem c_law_3_ev {Φ : Fns} (A : List (List Nat)) (p0 p1 p2 p3 p4 p6 p7 p8 p9 p10 p11 p13 : Slot) : ev Φ bf c_law_3 [p0, p1, p2, p3, p4, .own (.list (A.map eT)), p6, p7, p8, p9, p10, p11, .un, p13] = some (.new (.list (A.map fun k => .tuple [eI k.length, eT k])), [p0, p1, p2, p3, p4, .own (.list (A.map eT)), p6, p7, p8, p9, p10, p11, .un, p13]) := by
  refine (lc_eval eT A (fun _ => true) (fun k => .tuple [eI k.length, eT k]) (rs := [.slot 5]) (ds := [.list (A.map eT)]) [p0, p1, p2, p3, p4, .lok false (.list (A.map eT)), p6, p7, p8, p9, p10, p11, .un, p13] ?_ ?_ rfl ?_ ?_ ?_).trans ?_
  · generalize A.map eT = Z
    simp [slotsOf, conArg, truth, valof, esc, callArgs, callBack, escAll, asg, asgAll, evst, Tg.bind, getAll, Option.bind_some, Option.bind_none]
  · generalize A.map eT = Z
    simp [slotsOf, conArg, truth, valof, esc, callArgs, callBack, escAll, asg, asgAll, evst, Tg.bind, getAll, Option.bind_some, Option.bind_none]
  · generalize A.map eT = Z
    simp [slotsOf, conArg, truth, valof, esc, callArgs, callBack, escAll, asg, asgAll, evst, Tg.bind, getAll, Option.bind_some, Option.bind_none, z_frr, z_lc, gSeq, frLoop, lcLoop, wipeE, backE, lockAll, unlockAll, lockR, unlockR, Out.mapM, pAll, boolsOf]
  · intro k hk
    generalize A.map eT = Z
    simp [slotsOf, conArg, truth, valof, esc, callArgs, callBack, escAll, asg, asgAll, evst, Tg.bind, getAll, Option.bind_some, Option.bind_none, z_frr, z_lc, gSeq, frLoop, lcLoop, wipeE, backE, lockAll, unlockAll, lockR, unlockR, Out.mapM, pAll, boolsOf]
  · generalize A.map eT = Z
    simp [slotsOf, conArg, truth, valof, esc, callArgs, callBack, escAll, asg, asgAll, evst, Tg.bind, getAll, Option.bind_some, Option.bind_none, z_frr, z_lc, gSeq, frLoop, lcLoop, wipeE, backE, lockAll, unlockAll, lockR, unlockR, Out.mapM, pAll, boolsOf]
  · rw [filter_true]
theorem c_law_5_ev {Φ : Fns} {D0 : PyData} (A : List (List Nat)) (ls : pLstD D0 = some (true, .list (A.map eT))) (l : List Nat) (p0 p1 p2 p5 p6 p7 p8 p9 p10 p11 : Slot) : ev Φ bf c_law_5 [p0, p1, p2, .dat (eT l), .dat D0, p5, p6, p7, p8, p9, p10, p11, .un, .un] = some (.new (.list ((inl A l).map eT)), [p0, p1, p2, .dat (eT l), .dat D0, p5, p6, p7, p8, p9, p10, p11, .un, .un]) := by
  unfold inl
  refine (lc_eval eT A (fun k => decide ((k.filter fun x => !decide (x ∈ l)) = [])) eT (rs := [.new (.list (A.map eT))]) (ds := [.list (A.map eT)]) [p0, p1, p2, .dat (eT l), .dat D0, p5, p6, p7, p8, p9, p10, p11, .un, .un] ?_ ?_ rfl ?_ ?_ ?_)
  · generalize A.map eT = Z at *
    simp [slotsOf, conArg, truth, valof, esc, callArgs, callBack, escAll, asg, asgAll, evst, Tg.bind, getAll, Option.bind_some, Option.bind_none, ls]
  · generalize A.map eT = Z
    simp [slotsOf, conArg, truth, valof, esc, callArgs, callBack, escAll, asg, asgAll, evst, Tg.bind, getAll, Option.bind_some, Option.bind_none]
  · generalize A.map eT = Z
    simp [slotsOf, conArg, truth, valof, esc, callArgs, callBack, escAll, asg, asgAll, evst, Tg.bind, getAll, Option.bind_some, Option.bind_none, z_frr, z_lc, gSeq, frLoop, lcLoop, wipeE, backE, lockAll, unlockAll, lockR, unlockR, Out.mapM, pAll, boolsOf]
  · intro k hk
    have e := c_law_4_ev (Φ := Φ) k l (p0) (p1) (p2) (.dat D0) (p5) (p6) (p7) (p8) (p9) (p10) (p11)
    obtain ⟨X, hX⟩ : ∃ X, X = k.filter fun x => !decide (x ∈ l) := ⟨_, rfl⟩
    rw [← hX] at e ⊢
    have q : pEq (eN X) (.list []) = some (false, .bool (decide (X = []))) := eq_N0 X
    obtain ⟨D, hD⟩ : ∃ D, D = eN X := ⟨_, rfl⟩
    rw [← hD] at e q
    clear hX hD
    generalize A.map eT = Z at *
    by_cases z : X = []
    · rw [decide_eq_true z] at q ⊢
      simp [slotsOf, conArg, truth, valof, esc, callArgs, callBack, escAll, asg, asgAll, evst, Tg.bind, getAll, Option.bind_some, Option.bind_none, z_frr, z_lc, gSeq, frLoop, lcLoop, wipeE, backE, lockAll, unlockAll, lockR, unlockR, Out.mapM, pAll, boolsOf, e, q]
    · rw [decide_eq_false z] at q ⊢
      simp [slotsOf, conArg, truth, valof, esc, callArgs, callBack, escAll, asg, asgAll, evst, Tg.bind, getAll, Option.bind_some, Option.bind_none, z_frr, z_lc, gSeq, frLoop, lcLoop, wipeE, backE, lockAll, unlockAll, lockR, unlockR, Out.mapM, pAll, boolsOf, e, q]
  · generalize A.map eT = Z
    simp [slotsOf, conArg, truth, valof, esc, callArgs, callBack, escAll, asg, asgAll, evst, Tg.bind, getAll, Option.bind_some, Option.bind_none, z_frr, z_lc, gSeq, frLoop, lcLoop, wipeE, backE, lockAll, unlockAll, lockR, unlockR, Out.mapM, pAll, boolsOf]
end L2.Z.K01

namespace L2.Z.K01
open PySem L2.Z
theorem st_1 (ns : List Int) (p2 p3 p4 p5 p6 p7 p8 p9 p10 p11 p12 p13 : Slot) : evS (run 29) bf MM s_law_1 [.dat (.list (ns.map .int)), .un, p2, p3, p4, p5, p6, p7, p8, p9, p10, p11, p12, p13] = some (.nx [.dat (.list (ns.map .int)), .own (rowD ns 0 5201 0), p2, p3, p4, p5, p6, p7, p8, p9, p10, p11, p12, p13]) := by
  simp [s_law_1, slotsOf, conArg, truth, valof, esc, callArgs, callBack, escAll, asg, asgAll, evst, Tg.bind, getAll, Option.bind_some, Option.bind_none, bf, Res.ix, conOf, conSet, stored]
theorem st_2 {R1 R2 B : PyData} (cl : run 29 f__law_board [R1, .int 4, .int 4, .int 3] = some (B, R2)) (p0 p3 p4 p5 p6 p7 p8 p9 p10 p11 p12 p13 : Slot) : evS (run 29) bf MM s_law_2 [p0, .own R1, .un, p3, p4, p5, p6, p7, p8, p9, p10, p11, p12, p13] = some (.nx [p0, .own R2, .dat B, p3, p4, p5, p6, p7, p8, p9, p10, p11, p12, p13]) := by
  simp [s_law_2, slotsOf, conArg, truth, valof, esc, callArgs, callBack, escAll, asg, asgAll, evst, Tg.bind, getAll, Option.bind_some, Option.bind_none, bf, Res.ix, conOf, conSet, stored, cl]
theorem st_3 {R2 R3 B L D : PyData} (d1 : run 29 f__law_lot [R2, B] = some (L, R3)) (la : run 29 f__law_all [B] = some (D, .none)) (p0 p5 p6 p7 p8 p9 p10 p11 p12 p13 : Slot) : evS (run 29) bf MM s_law_3 [p0, .own R2, .dat B, .un, .un, p5, p6, p7, p8, p9, p10, p11, p12, p13] = some (.nx [p0, .own R3, .dat B, .dat L, .dat D, p5, p6, p7, p8, p9, p10, p11, p12, p13]) := by
  simp [s_law_3, slotsOf, conArg, truth, valof, esc, callArgs, callBack, escAll, asg, asgAll, evst, Tg.bind, getAll, Option.bind_some, Option.bind_none, bf, Res.ix, conOf, conSet, stored, d1, la]
theorem st_4 {B L D : PyData} {t : Bool} (co : run 29 f_comes [B, L] = some (.bool t, .none)) (q : pIn L D = some (false, .bool t)) (is : run 29 f__law_is [.bool t, .bool t] = some (.bool true, .none)) (p0 p1 p5 p6 p7 p8 p9 p10 p11 p12 p13 : Slot) : evS (run 29) bf MM s_law_4 [p0, p1, .dat B, .dat L, .dat D, p5, p6, p7, p8, p9, p10, p11, p12, p13] = some (.nx [p0, p1, .dat B, .dat L, .dat D, p5, p6, p7, p8, p9, p10, p11, p12, p13]) := by
  simp [s_law_4, slotsOf, conArg, truth, valof, esc, callArgs, callBack, escAll, asg, asgAll, evst, Tg.bind, getAll, Option.bind_some, Option.bind_none, bf, Res.ix, conOf, conSet, stored, co, q, is]
theorem st_5 {D0 : PyData} (A : List (List Nat)) (ls : pLstD D0 = some (true, .list (A.map eT))) (l : List Nat) (p0 p1 p2 p6 p7 p8 p9 p10 p11 : Slot) : evS (run 29) bf MM s_law_5 [p0, p1, p2, .dat (eT l), .dat D0, .un, p6, p7, p8, p9, p10, p11, .un, .un] = some (.nx [p0, p1, p2, .dat (eT l), .dat D0, .own (.list ((inl A l).map eT)), p6, p7, p8, p9, p10, p11, .un, .un]) := by
  have c := c_law_5_ev (Φ := run 29) A ls l p0 p1 p2 .un p6 p7 p8 p9 p10 p11
  generalize (inl A l).map eT = Z at *
  simp [s_law_5, slotsOf, conArg, truth, valof, esc, callArgs, callBack, escAll, asg, asgAll, evst, Tg.bind, getAll, Option.bind_some, Option.bind_none, bf, Res.ix, conOf, conSet, stored, c]
theorem st_6 {I T : PyData} (A : List (List Nat)) (mx : pMaxS (.list (A.map fun k => PyData.tuple [eI k.length, eT k])) = some (false, .tuple [I, T])) (p0 p1 p2 p3 p4 p7 p8 p9 p10 p11 p13 : Slot) : evS (run 29) bf MM s_law_6 [p0, p1, p2, p3, p4, .own (.list (A.map eT)), .un, p7, p8, p9, p10, p11, .un, p13] = some (.nx [p0, p1, p2, p3, p4, .own (.list (A.map eT)), .dat T, p7, p8, p9, p10, p11, .un, p13]) := by
  have c := c_law_3_ev (Φ := run 29) A p0 p1 p2 p3 p4 .un p7 p8 p9 p10 p11 p13
  have ix : pIdx (.tuple [I, T]) (.int 1) = some (false, T) := rfl
  generalize (A.map fun k => PyData.tuple [eI k.length, eT k]) = Z1 at *
  generalize A.map eT = Z at *
  simp [s_law_6, slotsOf, conArg, truth, valof, esc, callArgs, callBack, escAll, asg, asgAll, evst, Tg.bind, getAll, Option.bind_some, Option.bind_none, bf, Res.ix, conOf, conSet, stored, c, mx, ix, -p_idxT]
theorem st_7 (A : List (List Nat)) (l : List Nat) (h0 : (A.filter fun k => !decide ((k.filter fun x => !decide (x ∈ l)) = [])) = []) (p0 p1 p2 p3 p4 p7 p8 p9 p10 p11 : Slot) : evS (run 29) bf MM s_law_7 [p0, p1, p2, p3, p4, .own (.list (A.map eT)), .dat (eT l), p7, p8, p9, p10, p11, .un, .un] = some (.nx [p0, p1, p2, p3, p4, .own (.list (A.map eT)), .dat (eT l), p7, p8, p9, p10, p11, .un, .un]) := by
  have c := c_law_2_ev (Φ := run 29) A l p0 p1 p2 p3 p4 p7 p8 p9 p10 p11
  rw [h0] at c
  have q : pNe (.list []) (.list []) = some (false, .bool false) := rfl
  generalize A.map eT = Z at *
  simp [s_law_7, slotsOf, conArg, truth, valof, esc, callArgs, callBack, escAll, asg, asgAll, evst, Tg.bind, getAll, Option.bind_some, Option.bind_none, bf, Res.ix, conOf, conSet, stored, c, q]
theorem st_8 (k l : List Nat) (p0 p1 p2 p4 p5 p8 p9 p10 p11 p12 : Slot) : evS (run 29) bf MM s_law_8 [p0, p1, p2, .dat (eT k), p4, p5, .dat (eT l), .un, p8, p9, p10, p11, p12, .un] = some (.nx [p0, p1, p2, .dat (eT k), p4, p5, .dat (eT l), .dat (eT (k.filter fun x => !decide (x ∈ l))), p8, p9, p10, p11, p12, .un]) := by
  have c := c_law_0_ev (Φ := run 29) k l p0 p1 p2 p4 p5 .un p8 p9 p10 p11 p12
  have tp : pTup (eN (k.filter fun x => !decide (x ∈ l))) = some (false, eT (k.filter fun x => !decide (x ∈ l))) := rfl
  generalize eN (k.filter fun x => !decide (x ∈ l)) = LN at *
  generalize eT (k.filter fun x => !decide (x ∈ l)) = LT at *
  simp [s_law_8, slotsOf, conArg, truth, valof, esc, callArgs, callBack, escAll, asg, asgAll, evst, Tg.bind, getAll, Option.bind_some, Option.bind_none, bf, Res.ix, conOf, conSet, stored, c, tp]
theorem st_9 {B L T U : PyData} (gw : run 29 f_greatest_within [B, L] = some (T, .none)) (sk : run 29 f_stuck [B, L] = some (U, .none)) (al : run 29 f__law_alike [PyData.list [T, U], PyData.list [T, U]] = some (.bool true, .none)) (p0 p1 p4 p5 p8 p9 p10 p11 p12 p13 : Slot) : evS (run 29) bf MM s_law_9 [p0, p1, .dat B, .dat L, p4, p5, .dat T, .dat U, p8, p9, p10, p11, p12, p13] = some (.nx [p0, p1, .dat B, .dat L, p4, p5, .dat T, .dat U, p8, p9, p10, p11, p12, p13]) := by
  simp [s_law_9, slotsOf, conArg, truth, valof, esc, callArgs, callBack, escAll, asg, asgAll, evst, Tg.bind, getAll, Option.bind_some, Option.bind_none, bf, Res.ix, conOf, conSet, stored, gw, sk, al]
theorem st_10 {B L S : PyData} (ss : run 29 f_some_strikes [B, L] = some (S, .none)) (p0 p1 p4 p5 p6 p7 p9 p10 p11 p12 p13 : Slot) : evS (run 29) bf MM s_law_10 [p0, p1, .dat B, .dat L, p4, p5, p6, p7, .un, p9, p10, p11, p12, p13] = some (.nx [p0, p1, .dat B, .dat L, p4, p5, p6, p7, .dat S, p9, p10, p11, p12, p13]) := by
  simp [s_law_10, slotsOf, conArg, truth, valof, esc, callArgs, callBack, escAll, asg, asgAll, evst, Tg.bind, getAll, Option.bind_some, Option.bind_none, bf, Res.ix, conOf, conSet, stored, ss]
theorem st_11 {L D : PyData} (ni : pNotIn L D = some (false, .bool false)) (p0 p1 p2 p5 p6 p7 p8 p9 p10 p11 p12 p13 : Slot) : evS (run 29) bf MM s_law_11 [p0, p1, p2, .dat L, .dat D, p5, p6, p7, p8, p9, p10, p11, p12, p13] = some (.nx [p0, p1, p2, .dat L, .dat D, p5, p6, p7, p8, p9, p10, p11, p12, p13]) := by
  simp [s_law_11, slotsOf, conArg, truth, valof, esc, callArgs, callBack, escAll, asg, asgAll, evst, Tg.bind, getAll, Option.bind_some, Option.bind_none, bf, Res.ix, conOf, conSet, stored, ni]
theorem st_12 {B L S : PyData} (it : pIsTup S = some (false, .bool true)) (pl : run 29 f_play [B, S] = some (L, .none)) (ne : pNe L L = some (false, .bool false)) (p0 p1 p4 p5 p6 p7 p9 p10 p11 p12 p13 : Slot) : evS (run 29) bf MM s_law_12 [p0, p1, .dat B, .dat L, p4, p5, p6, p7, .dat S, p9, p10, p11, p12, p13] = some (.nx [p0, p1, .dat B, .dat L, p4, p5, p6, p7, .dat S, p9, p10, p11, p12, p13]) := by
  simp [s_law_12, slotsOf, conArg, truth, valof, esc, callArgs, callBack, escAll, asg, asgAll, evst, Tg.bind, getAll, Option.bind_some, Option.bind_none, bf, Res.ix, conOf, conSet, stored, it, pl, ne]
theorem st_13 {B L S : PyData} (sh : run 29 f_shows_strikes [B, L, S] = some (.bool true, .none)) (p0 p1 p4 p5 p6 p7 p9 p10 p11 p12 p13 : Slot) : evS (run 29) bf MM s_law_13 [p0, p1, .dat B, .dat L, p4, p5, p6, p7, .dat S, p9, p10, p11, p12, p13] = some (.nx [p0, p1, .dat B, .dat L, p4, p5, p6, p7, .dat S, p9, p10, p11, p12, p13]) := by
  simp [s_law_13, slotsOf, conArg, truth, valof, esc, callArgs, callBack, escAll, asg, asgAll, evst, Tg.bind, getAll, Option.bind_some, Option.bind_none, bf, Res.ix, conOf, conSet, stored, sh]
theorem st_14 {R3 R4 R5 B X Y : PyData} {k : Int} (d1 : run 29 f__law_taken [R3, .int 7] = some (.int k, R4)) (d2 : run 29 f__law_drawn [R4, B, .int k] = some (.tuple [X, Y], R5)) (p0 p3 p4 p5 p6 p7 p8 p11 p12 p13 : Slot) : evS (run 29) bf MM s_law_14 [p0, .own R3, .dat B, p3, p4, p5, p6, p7, p8, .un, .un, p11, p12, p13] = some (.nx [p0, .own R5, .dat B, p3, p4, p5, p6, p7, p8, .dat X, .dat Y, p11, p12, p13]) := by
  simp [s_law_14, slotsOf, conArg, truth, valof, esc, callArgs, callBack, escAll, asg, asgAll, evst, Tg.bind, getAll, Option.bind_some, Option.bind_none, bf, Res.ix, conOf, conSet, stored, d1, d2]
theorem st_15 {B L X Y : PyData} {t : Bool} (sh : run 29 f_shows_strikes [B, L, X] = some (.bool t, .none)) (q : pEq Y L = some (false, .bool t)) (is : run 29 f__law_is [.bool t, .bool t] = some (.bool true, .none)) (p0 p1 p4 p5 p6 p7 p8 p11 p12 p13 : Slot) : evS (run 29) bf MM s_law_15 [p0, p1, .dat B, .dat L, p4, p5, p6, p7, p8, .dat X, .dat Y, p11, p12, p13] = some (.nx [p0, p1, .dat B, .dat L, p4, p5, p6, p7, p8, .dat X, .dat Y, p11, p12, p13]) := by
  simp [s_law_15, slotsOf, conArg, truth, valof, esc, callArgs, callBack, escAll, asg, asgAll, evst, Tg.bind, getAll, Option.bind_some, Option.bind_none, bf, Res.ix, conOf, conSet, stored, sh, q, is]
theorem st_16 {B X Y : PyData} (sh : run 29 f_shows_strikes [B, Y, X] = some (.bool true, .none)) (p0 p1 p3 p4 p5 p6 p7 p8 p11 p12 p13 : Slot) : evS (run 29) bf MM s_law_16 [p0, p1, .dat B, p3, p4, p5, p6, p7, p8, .dat X, .dat Y, p11, p12, p13] = some (.nx [p0, p1, .dat B, p3, p4, p5, p6, p7, p8, .dat X, .dat Y, p11, p12, p13]) := by
  simp [s_law_16, slotsOf, conArg, truth, valof, esc, callArgs, callBack, escAll, asg, asgAll, evst, Tg.bind, getAll, Option.bind_some, Option.bind_none, bf, Res.ix, conOf, conSet, stored, sh]
theorem st_17 {R5 R6 O : PyData} {C : List PyData} (a0 : pAdd (.list C) (.list [.int 0]) = some (true, .list (C ++ [.int 0]))) (aT : ∀ x, pAdd (.tuple C) (.tuple [x]) = some (false, .tuple (C ++ [x]))) (pk : run 29 f__law_pick [R5, .list [.none, .int 3, .list (C ++ [.int 0]), .tuple (C ++ [.bool true]), .tuple (C ++ [.int 99]), .str "0", .tuple (C ++ [.tuple [.int 0]])]] = some (O, R6)) (p0 p2 p3 p4 p5 p6 p7 p9 p10 p12 p13 : Slot) : evS (run 29) bf MM s_law_17 [p0, .own R5, p2, p3, p4, p5, p6, p7, .dat (.tuple C), p9, p10, .un, p12, p13] = some (.nx [p0, .own R6, p2, p3, p4, p5, p6, p7, .dat (.tuple C), p9, p10, .dat O, p12, p13]) := by
  simp [s_law_17, slotsOf, conArg, truth, valof, esc, callArgs, callBack, escAll, asg, asgAll, evst, Tg.bind, getAll, Option.bind_some, Option.bind_none, bf, Res.ix, conOf, conSet, stored, a0, aT, pk, -p_add]
theorem end_st {B L O : PyData} (sh : run 29 f_shows_strikes [B, L, O] = some (.bool false, .none)) (p0 p1 p4 p5 p6 p7 p8 p9 p10 p12 p13 : Slot) : ∃ σ, evSs (run 29) bf MM (.cons s_law_18 .nil) [p0, p1, .dat B, .dat L, p4, p5, p6, p7, p8, p9, p10, .dat O, p12, p13] = some (.rt (.bool true) σ) := by
  refine ⟨[p0, p1, .dat B, .dat L, p4, p5, p6, p7, p8, p9, p10, .dat O, p12, p13], ?_⟩
  simp [s_law_18, slotsOf, conArg, truth, valof, esc, callArgs, callBack, escAll, asg, asgAll, evst, Tg.bind, getAll, Option.bind_some, Option.bind_none, bf, sh]
theorem end_no {B L D : PyData} (r : Ss) (ni : pNotIn L D = some (false, .bool true)) (sh : run 29 f_shows_strikes [B, L, L] = some (.bool false, .none)) (sn : run 29 f_shows_strikes [B, L, .none] = some (.bool false, .none)) (p0 p1 p5 p6 p7 p9 p10 p11 p12 p13 : Slot) : ∃ σ, evSs (run 29) bf MM (.cons s_law_11 r) [p0, p1, .dat B, .dat L, .dat D, p5, p6, p7, .dat .none, p9, p10, p11, p12, p13] = some (.rt (.bool true) σ) := by
  refine ⟨[p0, p1, .dat B, .dat L, .dat D, p5, p6, p7, .dat .none, p9, p10, p11, p12, p13], ?_⟩
  have i : pIsN .none = some (false, .bool true) := rfl
  simp [s_law_11, slotsOf, conArg, truth, valof, esc, callArgs, callBack, escAll, asg, asgAll, evst, Tg.bind, getAll, Option.bind_some, Option.bind_none, bf, ni, sh, sn, i]
end L2.Z.K01

namespace L2.Z.K01
open PySem L2.Z
def LV : Nat := 30
theorem law_body (ns : List Int) : ∃ σ, evSs (run 29) bf MM b_law [.dat (.list (ns.map .int)), .un, .un, .un, .un, .un, .un, .un, .un, .un, .un, .un, .un, .un] = some (.rt (.bool true) σ) := by
  obtain ⟨R1, hR1⟩ : ∃ R1, R1 = rowD ns 0 5201 0 := ⟨_, rfl⟩
  obtain ⟨b, R2, w2, g, hhi, hwi, cl⟩ := r_lboard (hR1 ▸ Rw.first ns 5201 : Rw R1) 27 (H := 4) (W := 4) (m := 3) (by omega) (by omega) (by omega)
  obtain ⟨l, R3, w3, P, d1⟩ := r_llot g 23 w2
  obtain ⟨Fd, la, hF⟩ := r_lall g 24
  have hK : ∀ k, k ∈ keys Fd ↔ k ∈ b.alls := fun k => by rw [← hF.all g, mem_srtL]
  have ls := lst_P (L := Fd) fun l hl => by
    obtain ⟨q1, q2⟩ := hF.ok l hl
    have := (Bd.Pl.of_comes g q1 q2).len g
    omega
  have hal : decide ((b.closure l).length = l.length) = decide (l ∈ b.alls) := decide_eq_decide.mpr ⟨fun e => (Bd.mem_alls g).mpr ⟨P.asc, (Bd.reached_iff g P.asc.nodup P.lt).mp e⟩, reached_alls g⟩
  have co : run 29 f_comes [eB b, eT l] = some (.bool (decide (l ∈ b.alls)), .none) := by rw [← hal]; exact r_comes g 19 P
  have qk : (aGet Fd l).isSome = decide (l ∈ b.alls) := by
    rw [get_isSome]
    exact decide_eq_decide.mpr (hK l)
  have qi : pIn (eT l) (ePS Fd) = some (false, .bool (decide (l ∈ b.alls))) := by rw [in_D kEnc_eT, qk]
  have qn : pNotIn (eT l) (ePS Fd) = some (false, .bool (!decide (l ∈ b.alls))) := by rw [notIn_D kEnc_eT, qk]
  obtain ⟨i1, i2⟩ := inl_top g hK P.lt
  have mx := max_LL i1 i2
  have ha := Bd.top_alls g P.lt
  have h0 : ((inl (keys Fd) l).filter fun k => !decide ((k.filter fun x => !decide (x ∈ b.top l)) = [])) = [] := by
    refine List.filter_eq_nil_iff.mpr fun k hk => ?_
    obtain ⟨k1, k2⟩ := mem_inl.mp hk
    have : (k.filter fun x => !decide (x ∈ b.top l)) = [] := List.filter_eq_nil_iff.mpr fun x hx => by
      simp [Bd.top_top g P.lt ((hK k).mp k1) k2 x hx]
    simp [this]
  have hst : (l.filter fun x => !decide (x ∈ b.top l)) = b.stk l := by
    unfold Bd.stk
    refine List.filter_congr fun x _ => ?_
    rw [decide_eq_decide.mpr (Bd.mem_top (b := b) (ws := l))]
  have l12 := P.len g
  have t12 := (pl_alls g ha).len g
  have s12 : (b.stk l).length ≤ 12 := Nat.le_trans (List.length_filter_le _ _) l12
  have al1 : run 29 f__law_alike [PyData.list [eT (b.top l), eT (b.stk l)], PyData.list [eT (b.top l), eT (b.stk l)]] = some (.bool true, .none) := by
    refine r_alike 2 _ ?_ 26
    show ([eT (b.top l), eT (b.stk l)].all (al 1) && decide (2 ≤ 1000)) = true
    rw [List.all_cons, List.all_cons, al_T1 _ (by omega), al_T1 _ (by omega)]
    rfl
  unfold b_law
  by_cases hin : l ∈ b.alls
  · have ss := r_some_strikes g 20 hin
    have ni : pNotIn (eT l) (ePS Fd) = some (false, .bool false) := by rw [qn]; simp [hin]
    have hcr : Bd.RowOk b (b.closure l) := Bd.closure_row P.lt
    have hcg : Bd.gone (b.closure l) = l := (Bd.closure_gone g P.lt).trans (Bd.top_self g hin)
    have pl := r_play g 20 hcr
    rw [hcg] at pl
    have sh1 := r_shows_strikes g 20 P hcr
    rw [hcg, decide_eq_true rfl] at sh1
    obtain ⟨k, R4, w4, hk, d3⟩ := drawN w3 28 7 (by decide)
    obtain ⟨st, _, R5, w5, hst2, rfl, _, d4⟩ := r_ldrawnR g 24 w4 k (by omega)
    have Pg := pl_alls g (hst2.alls g)
    have sh2 := r_shows_strikes g 20 Pg hst2
    rw [decide_eq_true rfl] at sh2
    have c12 := hcr.len g
    obtain ⟨C, hC⟩ : ∃ C, C = (b.closure l).map eI := ⟨_, rfl⟩
    have hCl : C.length ≤ 12 := by rw [hC, List.length_map]; exact c12
    have a0 : pAdd (.list C) (.list [.int 0]) = some (true, .list (C ++ [.int 0])) := by
      simp only [pAdd]
      rw [if_pos (by rw [sizeLine_eq]; simp; omega)]
    have aT : ∀ x, pAdd (.tuple C) (.tuple [x]) = some (false, .tuple (C ++ [x])) := fun x => by
      simp only [pAdd]
      rw [if_pos (by rw [sizeLine_eq]; simp; omega)]
    obtain ⟨O, R6, w6, hO, pk⟩ := pickL w5 27 [.none, .int 3, .list (C ++ [.int 0]), .tuple (C ++ [.bool true]), .tuple (C ++ [.int 99]), .str "0", .tuple (C ++ [.tuple [.int 0]])] (by simp)
    have h6 := g.h6
    have w6' := g.w6
    have bad : ∀ d : PyData, run 27 f_is_from [d, .int 0, .int ((b.hi : Int) + b.wi - 1)] = some (.bool false, .none) → run 29 f_shows_strikes [eB b, eT l, .tuple (C ++ [d])] = some (.bool false, .none) := fun d hd => by
      have e := r_run_bad g 21 hcr d [] (.inl hd)
      rw [← hC] at e
      exact r_shows_no g 20 P e rfl
    have shO : run 29 f_shows_strikes [eB b, eT l, O] = some (.bool false, .none) := by
      simp only [List.mem_cons, List.not_mem_nil, or_false] at hO
      rcases hO with rfl | rfl | rfl | rfl | rfl | rfl | rfl
      · exact r_shows_non g 20 P rfl
      · exact r_shows_non g 20 P rfl
      · exact r_shows_non g 20 P rfl
      · exact bad _ (isfrom_bool 25 _ _ _)
      · exact bad _ (isfrom_far 25 99 _ _ (by omega) (by omega))
      · exact r_shows_non g 20 P rfl
      · exact bad _ (isfrom_tup 25 _ _ _)
    refine z_stepE _ (st_1 ns (.un) (.un) (.un) (.un) (.un) (.un) (.un) (.un) (.un) (.un) (.un) (.un)) ?_
    rw [← hR1]
    refine z_stepE _ (st_2 cl (.dat (.list (ns.map .int))) (.un) (.un) (.un) (.un) (.un) (.un) (.un) (.un) (.un) (.un) (.un)) ?_
    refine z_stepE _ (st_3 d1 la (.dat (.list (ns.map .int))) (.un) (.un) (.un) (.un) (.un) (.un) (.un) (.un) (.un)) ?_
    refine z_stepE _ (st_4 co qi (r_is 28 _) (.dat (.list (ns.map .int))) (.own R3) (.un) (.un) (.un) (.un) (.un) (.un) (.un) (.un) (.un)) ?_
    refine z_stepE _ (st_5 (keys Fd) ls l (.dat (.list (ns.map .int))) (.own R3) (.dat (eB b)) (.un) (.un) (.un) (.un) (.un) (.un)) ?_
    refine z_stepE _ (st_6 (inl (keys Fd) l) mx (.dat (.list (ns.map .int))) (.own R3) (.dat (eB b)) (.dat (eT l)) (.dat (ePS Fd)) (.un) (.un) (.un) (.un) (.un) (.un)) ?_
    refine z_stepE _ (st_7 (inl (keys Fd) l) (b.top l) h0 (.dat (.list (ns.map .int))) (.own R3) (.dat (eB b)) (.dat (eT l)) (.dat (ePS Fd)) (.un) (.un) (.un) (.un) (.un)) ?_
    refine z_stepE _ (st_8 l (b.top l) (.dat (.list (ns.map .int))) (.own R3) (.dat (eB b)) (.dat (ePS Fd)) (.own (.list ((inl (keys Fd) l).map eT))) (.un) (.un) (.un) (.un) (.un)) ?_
    rw [hst]
    refine z_stepE _ (st_9 (r_greatest_within g 20 P) (r_stuck g 20 P) al1 (.dat (.list (ns.map .int))) (.own R3) (.dat (ePS Fd)) (.own (.list ((inl (keys Fd) l).map eT))) (.un) (.un) (.un) (.un) (.un) (.un)) ?_
    refine z_stepE _ (st_10 ss (.dat (.list (ns.map .int))) (.own R3) (.dat (ePS Fd)) (.own (.list ((inl (keys Fd) l).map eT))) (.dat (eT (b.top l))) (.dat (eT (b.stk l))) (.un) (.un) (.un) (.un) (.un)) ?_
    refine z_stepE _ (st_11 ni (.dat (.list (ns.map .int))) (.own R3) (.dat (eB b)) (.own (.list ((inl (keys Fd) l).map eT))) (.dat (eT (b.top l))) (.dat (eT (b.stk l))) (.dat (eT (b.closure l))) (.un) (.un) (.un) (.un) (.un)) ?_
    refine z_stepE _ (st_12 rfl pl ((ne_T _ _).trans (by simp)) (.dat (.list (ns.map .int))) (.own R3) (.dat (ePS Fd)) (.own (.list ((inl (keys Fd) l).map eT))) (.dat (eT (b.top l))) (.dat (eT (b.stk l))) (.un) (.un) (.un) (.un) (.un)) ?_
    refine z_stepE _ (st_13 sh1 (.dat (.list (ns.map .int))) (.own R3) (.dat (ePS Fd)) (.own (.list ((inl (keys Fd) l).map eT))) (.dat (eT (b.top l))) (.dat (eT (b.stk l))) (.un) (.un) (.un) (.un) (.un)) ?_
    refine z_stepE _ (st_14 d3 d4 (.dat (.list (ns.map .int))) (.dat (eT l)) (.dat (ePS Fd)) (.own (.list ((inl (keys Fd) l).map eT))) (.dat (eT (b.top l))) (.dat (eT (b.stk l))) (.dat (eT (b.closure l))) (.un) (.un) (.un)) ?_
    refine z_stepE _ (st_15 (r_shows_strikes g 20 P hst2) (eq_T _ _) (r_is 28 _) (.dat (.list (ns.map .int))) (.own R5) (.dat (ePS Fd)) (.own (.list ((inl (keys Fd) l).map eT))) (.dat (eT (b.top l))) (.dat (eT (b.stk l))) (.dat (eT (b.closure l))) (.un) (.un) (.un)) ?_
    refine z_stepE _ (st_16 sh2 (.dat (.list (ns.map .int))) (.own R5) (.dat (eT l)) (.dat (ePS Fd)) (.own (.list ((inl (keys Fd) l).map eT))) (.dat (eT (b.top l))) (.dat (eT (b.stk l))) (.dat (eT (b.closure l))) (.un) (.un) (.un)) ?_
    rw [show eT (b.closure l) = PyData.tuple C from by rw [hC]]
    refine z_stepE _ (st_17 a0 aT pk (.dat (.list (ns.map .int))) (.dat (eB b)) (.dat (eT l)) (.dat (ePS Fd)) (.own (.list ((inl (keys Fd) l).map eT))) (.dat (eT (b.top l))) (.dat (eT (b.stk l))) (.dat (eT st)) (.dat (eT (Bd.gone st))) (.un) (.un)) ?_
    exact end_st shO (.dat (.list (ns.map .int))) (.own R6) (.dat (ePS Fd)) (.own (.list ((inl (keys Fd) l).map eT))) (.dat (eT (b.top l))) (.dat (eT (b.stk l))) (.dat (.tuple C)) (.dat (eT st)) (.dat (eT (Bd.gone st))) (.un) (.un)
  · have ss := r_some_none g 20 P hin
    have ni : pNotIn (eT l) (ePS Fd) = some (false, .bool true) := by rw [qn]; simp [hin]
    refine z_stepE _ (st_1 ns (.un) (.un) (.un) (.un) (.un) (.un) (.un) (.un) (.un) (.un) (.un) (.un)) ?_
    rw [← hR1]
    refine z_stepE _ (st_2 cl (.dat (.list (ns.map .int))) (.un) (.un) (.un) (.un) (.un) (.un) (.un) (.un) (.un) (.un) (.un)) ?_
    refine z_stepE _ (st_3 d1 la (.dat (.list (ns.map .int))) (.un) (.un) (.un) (.un) (.un) (.un) (.un) (.un) (.un)) ?_
    refine z_stepE _ (st_4 co qi (r_is 28 _) (.dat (.list (ns.map .int))) (.own R3) (.un) (.un) (.un) (.un) (.un) (.un) (.un) (.un) (.un)) ?_
    refine z_stepE _ (st_5 (keys Fd) ls l (.dat (.list (ns.map .int))) (.own R3) (.dat (eB b)) (.un) (.un) (.un) (.un) (.un) (.un)) ?_
    refine z_stepE _ (st_6 (inl (keys Fd) l) mx (.dat (.list (ns.map .int))) (.own R3) (.dat (eB b)) (.dat (eT l)) (.dat (ePS Fd)) (.un) (.un) (.un) (.un) (.un) (.un)) ?_
    refine z_stepE _ (st_7 (inl (keys Fd) l) (b.top l) h0 (.dat (.list (ns.map .int))) (.own R3) (.dat (eB b)) (.dat (eT l)) (.dat (ePS Fd)) (.un) (.un) (.un) (.un) (.un)) ?_
    refine z_stepE _ (st_8 l (b.top l) (.dat (.list (ns.map .int))) (.own R3) (.dat (eB b)) (.dat (ePS Fd)) (.own (.list ((inl (keys Fd) l).map eT))) (.un) (.un) (.un) (.un) (.un)) ?_
    rw [hst]
    refine z_stepE _ (st_9 (r_greatest_within g 20 P) (r_stuck g 20 P) al1 (.dat (.list (ns.map .int))) (.own R3) (.dat (ePS Fd)) (.own (.list ((inl (keys Fd) l).map eT))) (.un) (.un) (.un) (.un) (.un) (.un)) ?_
    refine z_stepE _ (st_10 ss (.dat (.list (ns.map .int))) (.own R3) (.dat (ePS Fd)) (.own (.list ((inl (keys Fd) l).map eT))) (.dat (eT (b.top l))) (.dat (eT (b.stk l))) (.un) (.un) (.un) (.un) (.un)) ?_
    exact end_no _ ni (r_shows_self g 20 P hin) (r_shows_non g 20 P rfl) (.dat (.list (ns.map .int))) (.own R3) (.own (.list ((inl (keys Fd) l).map eT))) (.dat (eT (b.top l))) (.dat (eT (b.stk l))) (.un) (.un) (.un) (.un) (.un)
theorem law_true (ns : List Int) (hn : ns.length ≤ 63) : run LV 38 [.list (ns.map .int)] = some (.bool true, .none) := by
  obtain ⟨σ, e⟩ := law_body ns
  exact (run_law 29 _).trans (callBody_rt rfl e)
end L2.Z.K01

namespace L2.Z.K01
open PySem PySem.Spec PyProof.Rows L2 L2.Z
def topS (i : Nat) : Stmt := PySem.Challenge.pw_struckboards_k01_whole_coming.main.body.getD i (.Pass ⟨0, 0, 0, 0⟩)
abbrev s0 : Stmt := topS 8
abbrev N0 : List Str := ["value"]
abbrev P0 : List Str := ["value"]
theorem sc0 : FnScope N0 P0 (defScope s0) := ⟨rfl, rfl, rfl, by decide +kernel, rfl, by decide +kernel, by decide +kernel⟩
abbrev s1 : Stmt := topS 9
abbrev N1 : List Str := ["value", "least", "most"]
abbrev P1 : List Str := ["value", "least", "most"]
theorem sc1 : FnScope N1 P1 (defScope s1) := ⟨rfl, rfl, rfl, by decide +kernel, rfl, by decide +kernel, by decide +kernel⟩
abbrev s2 : Stmt := topS 10
abbrev N2 : List Str := ["value", "one"]
abbrev P2 : List Str := ["value"]
theorem sc2 : FnScope N2 P2 (defScope s2) := ⟨rfl, rfl, rfl, by decide +kernel, rfl, by decide +kernel, by decide +kernel⟩
abbrev s3 : Stmt := topS 11
abbrev N3 : List Str := ["value", "index", "row", "place"]
abbrev P3 : List Str := ["value"]
theorem sc3 : FnScope N3 P3 (defScope s3) := ⟨rfl, rfl, rfl, by decide +kernel, rfl, by decide +kernel, by decide +kernel⟩
abbrev s4 : Stmt := topS 12
abbrev N4 : List Str := ["board"]
abbrev P4 : List Str := ["board"]
theorem sc4 : FnScope N4 P4 (defScope s4) := ⟨rfl, rfl, rfl, by decide +kernel, rfl, by decide +kernel, by decide +kernel⟩
abbrev s5 : Stmt := topS 13
abbrev N5 : List Str := ["board"]
abbrev P5 : List Str := ["board"]
theorem sc5 : FnScope N5 P5 (defScope s5) := ⟨rfl, rfl, rfl, by decide +kernel, rfl, by decide +kernel, by decide +kernel⟩
abbrev s6 : Stmt := topS 14
abbrev N6 : List Str := ["board", "value", "rows", "a", "b", "one"]
abbrev P6 : List Str := ["board", "value"]
theorem sc6 : FnScope N6 P6 (defScope s6) := ⟨rfl, rfl, rfl, by decide +kernel, rfl, by decide +kernel, by decide +kernel⟩
abbrev s7 : Stmt := topS 15
abbrev N7 : List Str := ["board", "value"]
abbrev P7 : List Str := ["board", "value"]
theorem sc7 : FnScope N7 P7 (defScope s7) := ⟨rfl, rfl, rfl, by decide +kernel, rfl, by decide +kernel, by decide +kernel⟩
abbrev s8 : Stmt := topS 16
abbrev N8 : List Str := ["board", "lot", "rows", "one"]
abbrev P8 : List Str := ["board", "lot"]
theorem sc8 : FnScope N8 P8 (defScope s8) := ⟨rfl, rfl, rfl, by decide +kernel, rfl, by decide +kernel, by decide +kernel⟩
abbrev s9 : Stmt := topS 17
abbrev N9 : List Str := ["board", "lot", "line", "rows", "columns", "row", "column"]
abbrev P9 : List Str := ["board", "lot", "line"]
theorem sc9 : FnScope N9 P9 (defScope s9) := ⟨rfl, rfl, rfl, by decide +kernel, rfl, by decide +kernel, by decide +kernel⟩
abbrev s10 : Stmt := topS 18
abbrev N10 : List Str := ["board", "one", "other"]
abbrev P10 : List Str := ["board", "one", "other"]
theorem sc10 : FnScope N10 P10 (defScope s10) := ⟨rfl, rfl, rfl, by decide +kernel, rfl, by decide +kernel, by decide +kernel⟩
abbrev s11 : Stmt := topS 19
abbrev N11 : List Str := ["board", "lot", "line", "other", "a", "b"]
abbrev P11 : List Str := ["board", "lot", "line", "other"]
theorem sc11 : FnScope N11 P11 (defScope s11) := ⟨rfl, rfl, rfl, by decide +kernel, rfl, by decide +kernel, by decide +kernel⟩
abbrev s12 : Stmt := topS 21
abbrev N12 : List Str := ["board", "lot", "line", "other"]
abbrev P12 : List Str := ["board", "lot", "line"]
theorem sc12 : FnScope N12 P12 (defScope s12) := ⟨rfl, rfl, rfl, by decide +kernel, rfl, by decide +kernel, by decide +kernel⟩
abbrev s13 : Stmt := topS 22
abbrev N13 : List Str := ["lot", "line"]
abbrev P13 : List Str := ["lot", "line"]
theorem sc13 : FnScope N13 P13 (defScope s13) := ⟨rfl, rfl, rfl, by decide +kernel, rfl, by decide +kernel, by decide +kernel⟩
abbrev s14 : Stmt := topS 23
abbrev N14 : List Str := ["board", "strikes", "lot", "index", "line"]
abbrev P14 : List Str := ["board", "strikes"]
theorem sc14 : FnScope N14 P14 (defScope s14) := ⟨rfl, rfl, rfl, by decide +kernel, rfl, by decide +kernel, by decide +kernel⟩
abbrev s15 : Stmt := topS 24
abbrev N15 : List Str := ["board", "value", "found"]
abbrev P15 : List Str := ["board", "value"]
theorem sc15 : FnScope N15 P15 (defScope s15) := ⟨rfl, rfl, rfl, by decide +kernel, rfl, by decide +kernel, by decide +kernel⟩
abbrev s16 : Stmt := topS 25
abbrev N16 : List Str := ["board", "strikes"]
abbrev P16 : List Str := ["board", "strikes"]
theorem sc16 : FnScope N16 P16 (defScope s16) := ⟨rfl, rfl, rfl, by decide +kernel, rfl, by decide +kernel, by decide +kernel⟩
abbrev s17 : Stmt := topS 27
abbrev N17 : List Str := ["board", "within", "lot", "order", "some", "line"]
abbrev P17 : List Str := ["board", "within"]
theorem sc17 : FnScope N17 P17 (defScope s17) := ⟨rfl, rfl, rfl, by decide +kernel, rfl, by decide +kernel, by decide +kernel⟩
abbrev s18 : Stmt := topS 28
abbrev N18 : List Str := ["board", "lot"]
abbrev P18 : List Str := ["board", "lot"]
theorem sc18 : FnScope N18 P18 (defScope s18) := ⟨rfl, rfl, rfl, by decide +kernel, rfl, by decide +kernel, by decide +kernel⟩
abbrev s19 : Stmt := topS 29
abbrev N19 : List Str := ["board", "lot"]
abbrev P19 : List Str := ["board", "lot"]
theorem sc19 : FnScope N19 P19 (defScope s19) := ⟨rfl, rfl, rfl, by decide +kernel, rfl, by decide +kernel, by decide +kernel⟩
abbrev s20 : Stmt := topS 30
abbrev N20 : List Str := ["board", "lot"]
abbrev P20 : List Str := ["board", "lot"]
theorem sc20 : FnScope N20 P20 (defScope s20) := ⟨rfl, rfl, rfl, by decide +kernel, rfl, by decide +kernel, by decide +kernel⟩
abbrev s21 : Stmt := topS 31
abbrev N21 : List Str := ["board", "lot", "done", "line"]
abbrev P21 : List Str := ["board", "lot"]
theorem sc21 : FnScope N21 P21 (defScope s21) := ⟨rfl, rfl, rfl, by decide +kernel, rfl, by decide +kernel, by decide +kernel⟩
abbrev s22 : Stmt := topS 32
abbrev N22 : List Str := ["board", "lot", "found"]
abbrev P22 : List Str := ["board", "lot"]
theorem sc22 : FnScope N22 P22 (defScope s22) := ⟨rfl, rfl, rfl, by decide +kernel, rfl, by decide +kernel, by decide +kernel⟩
abbrev s23 : Stmt := topS 33
abbrev N23 : List Str := ["board", "lot", "value"]
abbrev P23 : List Str := ["board", "lot", "value"]
theorem sc23 : FnScope N23 P23 (defScope s23) := ⟨rfl, rfl, rfl, by decide +kernel, rfl, by decide +kernel, by decide +kernel⟩
abbrev s24 : Stmt := topS 35
abbrev N24 : List Str := ["_law_row", "_law_many", "_law_found", "_law_cell"]
abbrev P24 : List Str := ["_law_row", "_law_many"]
theorem sc24 : FnScope N24 P24 (defScope s24) := ⟨rfl, rfl, rfl, by decide +kernel, rfl, by decide +kernel, by decide +kernel⟩
abbrev s25 : Stmt := topS 36
abbrev N25 : List Str := ["_law_row", "_law_things"]
abbrev P25 : List Str := ["_law_row", "_law_things"]
theorem sc25 : FnScope N25 P25 (defScope s25) := ⟨rfl, rfl, rfl, by decide +kernel, rfl, by decide +kernel, by decide +kernel⟩
abbrev s26 : Stmt := topS 37
abbrev N26 : List Str := ["_law_found", "_law_due", "_law_k"]
abbrev P26 : List Str := ["_law_found", "_law_due"]
theorem sc26 : FnScope N26 P26 (defScope s26) := ⟨rfl, rfl, rfl, by decide +kernel, rfl, by decide +kernel, by decide +kernel⟩
abbrev s27 : Stmt := topS 38
abbrev N27 : List Str := ["_law_found", "_law_due"]
abbrev P27 : List Str := ["_law_found", "_law_due"]
theorem sc27 : FnScope N27 P27 (defScope s27) := ⟨rfl, rfl, rfl, by decide +kernel, rfl, by decide +kernel, by decide +kernel⟩
abbrev s28 : Stmt := topS 39
abbrev N28 : List Str := ["_law_row", "_law_rows_here", "_law_columns_here", "_law_many", "_law_high", "_law_wide", "_law_found", "_law_first", "_law_second", "_law_one", "_law_told", "_law_at"]
abbrev P28 : List Str := ["_law_row", "_law_rows_here", "_law_columns_here", "_law_many"]
theorem sc28 : FnScope N28 P28 (defScope s28) := ⟨rfl, rfl, rfl, by decide +kernel, rfl, by decide +kernel, by decide +kernel⟩
abbrev s29 : Stmt := topS 40
abbrev N29 : List Str := ["_law_board_here", "_law_lot_here", "_law_one"]
abbrev P29 : List Str := ["_law_board_here", "_law_lot_here"]
theorem sc29 : FnScope N29 P29 (defScope s29) := ⟨rfl, rfl, rfl, by decide +kernel, rfl, by decide +kernel, by decide +kernel⟩
abbrev s30 : Stmt := topS 41
abbrev N30 : List Str := ["_law_board_here", "_law_lot_here", "_law_one"]
abbrev P30 : List Str := ["_law_board_here", "_law_lot_here"]
theorem sc30 : FnScope N30 P30 (defScope s30) := ⟨rfl, rfl, rfl, by decide +kernel, rfl, by decide +kernel, by decide +kernel⟩
abbrev s31 : Stmt := topS 42
abbrev N31 : List Str := ["_law_board_here", "_law_lot_here", "_law_line", "_law_one"]
abbrev P31 : List Str := ["_law_board_here", "_law_lot_here", "_law_line"]
theorem sc31 : FnScope N31 P31 (defScope s31) := ⟨rfl, rfl, rfl, by decide +kernel, rfl, by decide +kernel, by decide +kernel⟩
abbrev s32 : Stmt := topS 43
abbrev N32 : List Str := ["_law_board_here", "_law_lot_here", "_law_line", "_law_side", "_law_own", "_law_found", "_law_other", "_law_told", "_law_at"]
abbrev P32 : List Str := ["_law_board_here", "_law_lot_here", "_law_line"]
theorem sc32 : FnScope N32 P32 (defScope s32) := ⟨rfl, rfl, rfl, by decide +kernel, rfl, by decide +kernel, by decide +kernel⟩
abbrev s33 : Stmt := topS 44
abbrev N33 : List Str := ["_law_board_here", "_law_lot_here", "_law_line"]
abbrev P33 : List Str := ["_law_board_here", "_law_lot_here"]
theorem sc33 : FnScope N33 P33 (defScope s33) := ⟨rfl, rfl, rfl, by decide +kernel, rfl, by decide +kernel, by decide +kernel⟩
abbrev s34 : Stmt := topS 45
abbrev N34 : List Str := ["_law_lot_here", "_law_line"]
abbrev P34 : List Str := ["_law_lot_here", "_law_line"]
theorem sc34 : FnScope N34 P34 (defScope s34) := ⟨rfl, rfl, rfl, by decide +kernel, rfl, by decide +kernel, by decide +kernel⟩
abbrev s35 : Stmt := topS 46
abbrev N35 : List Str := ["_law_board_here", "_law_found", "_law_edge", "_law_later", "_law_lot_here", "_law_line", "_law_more"]
abbrev P35 : List Str := ["_law_board_here"]
theorem sc35 : FnScope N35 P35 (defScope s35) := ⟨rfl, rfl, rfl, by decide +kernel, rfl, by decide +kernel, by decide +kernel⟩
abbrev s36 : Stmt := topS 47
abbrev N36 : List Str := ["_law_row", "_law_board_here", "_law_many", "_law_lot_here", "_law_found", "_law_turn", "_law_some", "_law_line"]
abbrev P36 : List Str := ["_law_row", "_law_board_here", "_law_many"]
theorem sc36 : FnScope N36 P36 (defScope s36) := ⟨rfl, rfl, rfl, by decide +kernel, rfl, by decide +kernel, by decide +kernel⟩
abbrev s37 : Stmt := topS 48
abbrev N37 : List Str := ["_law_row", "_law_board_here", "_law_high", "_law_wide", "_law_found", "_law_line", "_law_rows_here"]
abbrev P37 : List Str := ["_law_row", "_law_board_here"]
theorem sc37 : FnScope N37 P37 (defScope s37) := ⟨rfl, rfl, rfl, by decide +kernel, rfl, by decide +kernel, by decide +kernel⟩
abbrev s38 : Stmt := topS 49
abbrev N38 : List Str := ["_law_script", "_law_row", "_law_board_here", "_law_lot_here", "_law_known", "_law_inner", "_law_top", "_law_rest", "_law_strikes", "_law_drawn_here", "_law_last", "_law_odd", "_law_one", "_law_line"]
abbrev P38 : List Str := ["_law_script"]
theorem sc38 : FnScope N38 P38 (defScope s38) := ⟨rfl, rfl, rfl, by decide +kernel, rfl, by decide +kernel, by decide +kernel⟩
structure Tops (K : PySem.W.Frag) (mg : Str → Option Value) where
  a0 : Addr
  d0 : FuncData
  F0 : Fun K "is_int" "is_int" s0 a0 d0
  B0 : Binds K d0 P0 []
  G0 : mg "is_int" = some (.ref a0)
  a1 : Addr
  d1 : FuncData
  F1 : Fun K "is_from" "is_from" s1 a1 d1
  B1 : Binds K d1 P1 []
  G1 : mg "is_from" = some (.ref a1)
  a2 : Addr
  d2 : FuncData
  F2 : Fun K "is_place" "is_place" s2 a2 d2
  B2 : Binds K d2 P2 []
  G2 : mg "is_place" = some (.ref a2)
  a3 : Addr
  d3 : FuncData
  F3 : Fun K "need_board" "need_board" s3 a3 d3
  B3 : Binds K d3 P3 []
  G3 : mg "need_board" = some (.ref a3)
  a4 : Addr
  d4 : FuncData
  F4 : Fun K "sides" "sides" s4 a4 d4
  B4 : Binds K d4 P4 []
  G4 : mg "sides" = some (.ref a4)
  a5 : Addr
  d5 : FuncData
  F5 : Fun K "lines_of" "lines_of" s5 a5 d5
  B5 : Binds K d5 P5 []
  G5 : mg "lines_of" = some (.ref a5)
  a6 : Addr
  d6 : FuncData
  F6 : Fun K "is_lot" "is_lot" s6 a6 d6
  B6 : Binds K d6 P6 []
  G6 : mg "is_lot" = some (.ref a6)
  a7 : Addr
  d7 : FuncData
  F7 : Fun K "need_lot" "need_lot" s7 a7 d7
  B7 : Binds K d7 P7 []
  G7 : mg "need_lot" = some (.ref a7)
  a8 : Addr
  d8 : FuncData
  F8 : Fun K "left_of" "left_of" s8 a8 d8
  B8 : Binds K d8 P8 []
  G8 : mg "left_of" = some (.ref a8)
  a9 : Addr
  d9 : FuncData
  F9 : Fun K "numbers" "numbers" s9 a9 d9
  B9 : Binds K d9 P9 []
  G9 : mg "numbers" = some (.ref a9)
  a10 : Addr
  d10 : FuncData
  F10 : Fun K "same_side" "same_side" s10 a10 d10
  B10 : Binds K d10 P10 []
  G10 : mg "same_side" = some (.ref a10)
  a11 : Addr
  d11 : FuncData
  F11 : Fun K "is_greater" "is_greater" s11 a11 d11
  B11 : Binds K d11 P11 []
  G11 : mg "is_greater" = some (.ref a11)
  a12 : Addr
  d12 : FuncData
  F12 : Fun K "can_fall" "can_fall" s12 a12 d12
  B12 : Binds K d12 P12 []
  G12 : mg "can_fall" = some (.ref a12)
  a13 : Addr
  d13 : FuncData
  F13 : Fun K "with_line" "with_line" s13 a13 d13
  B13 : Binds K d13 P13 []
  G13 : mg "with_line" = some (.ref a13)
  a14 : Addr
  d14 : FuncData
  F14 : Fun K "run" "run" s14 a14 d14
  B14 : Binds K d14 P14 []
  G14 : mg "run" = some (.ref a14)
  a15 : Addr
  d15 : FuncData
  F15 : Fun K "need_strikes" "need_strikes" s15 a15 d15
  B15 : Binds K d15 P15 []
  G15 : mg "need_strikes" = some (.ref a15)
  a16 : Addr
  d16 : FuncData
  F16 : Fun K "play" "play" s16 a16 d16
  B16 : Binds K d16 P16 []
  G16 : mg "play" = some (.ref a16)
  a17 : Addr
  d17 : FuncData
  F17 : Fun K "closure" "closure" s17 a17 d17
  B17 : Binds K d17 P17 []
  G17 : mg "closure" = some (.ref a17)
  a18 : Addr
  d18 : FuncData
  F18 : Fun K "is_reached" "is_reached" s18 a18 d18
  B18 : Binds K d18 P18 []
  G18 : mg "is_reached" = some (.ref a18)
  a19 : Addr
  d19 : FuncData
  F19 : Fun K "comes" "comes" s19 a19 d19
  B19 : Binds K d19 P19 []
  G19 : mg "comes" = some (.ref a19)
  a20 : Addr
  d20 : FuncData
  F20 : Fun K "greatest_within" "greatest_within" s20 a20 d20
  B20 : Binds K d20 P20 []
  G20 : mg "greatest_within" = some (.ref a20)
  a21 : Addr
  d21 : FuncData
  F21 : Fun K "stuck" "stuck" s21 a21 d21
  B21 : Binds K d21 P21 []
  G21 : mg "stuck" = some (.ref a21)
  a22 : Addr
  d22 : FuncData
  F22 : Fun K "some_strikes" "some_strikes" s22 a22 d22
  B22 : Binds K d22 P22 []
  G22 : mg "some_strikes" = some (.ref a22)
  a23 : Addr
  d23 : FuncData
  F23 : Fun K "shows_strikes" "shows_strikes" s23 a23 d23
  B23 : Binds K d23 P23 []
  G23 : mg "shows_strikes" = some (.ref a23)
  a24 : Addr
  d24 : FuncData
  F24 : Fun K "_law_taken" "_law_taken" s24 a24 d24
  B24 : Binds K d24 P24 []
  G24 : mg "_law_taken" = some (.ref a24)
  a25 : Addr
  d25 : FuncData
  F25 : Fun K "_law_pick" "_law_pick" s25 a25 d25
  B25 : Binds K d25 P25 []
  G25 : mg "_law_pick" = some (.ref a25)
  a26 : Addr
  d26 : FuncData
  F26 : Fun K "_law_alike" "_law_alike" s26 a26 d26
  B26 : Binds K d26 P26 []
  G26 : mg "_law_alike" = some (.ref a26)
  a27 : Addr
  d27 : FuncData
  F27 : Fun K "_law_is" "_law_is" s27 a27 d27
  B27 : Binds K d27 P27 []
  G27 : mg "_law_is" = some (.ref a27)
  a28 : Addr
  d28 : FuncData
  F28 : Fun K "_law_board" "_law_board" s28 a28 d28
  B28 : Binds K d28 P28 []
  G28 : mg "_law_board" = some (.ref a28)
  a29 : Addr
  d29 : FuncData
  F29 : Fun K "_law_rows" "_law_rows" s29 a29 d29
  B29 : Binds K d29 P29 []
  G29 : mg "_law_rows" = some (.ref a29)
  a30 : Addr
  d30 : FuncData
  F30 : Fun K "_law_columns" "_law_columns" s30 a30 d30
  B30 : Binds K d30 P30 []
  G30 : mg "_law_columns" = some (.ref a30)
  a31 : Addr
  d31 : FuncData
  F31 : Fun K "_law_numbers" "_law_numbers" s31 a31 d31
  B31 : Binds K d31 P31 []
  G31 : mg "_law_numbers" = some (.ref a31)
  a32 : Addr
  d32 : FuncData
  F32 : Fun K "_law_over" "_law_over" s32 a32 d32
  B32 : Binds K d32 P32 []
  G32 : mg "_law_over" = some (.ref a32)
  a33 : Addr
  d33 : FuncData
  F33 : Fun K "_law_ready" "_law_ready" s33 a33 d33
  B33 : Binds K d33 P33 []
  G33 : mg "_law_ready" = some (.ref a33)
  a34 : Addr
  d34 : FuncData
  F34 : Fun K "_law_with" "_law_with" s34 a34 d34
  B34 : Binds K d34 P34 []
  G34 : mg "_law_with" = some (.ref a34)
  a35 : Addr
  d35 : FuncData
  F35 : Fun K "_law_all" "_law_all" s35 a35 d35
  B35 : Binds K d35 P35 []
  G35 : mg "_law_all" = some (.ref a35)
  a36 : Addr
  d36 : FuncData
  F36 : Fun K "_law_drawn" "_law_drawn" s36 a36 d36
  B36 : Binds K d36 P36 []
  G36 : mg "_law_drawn" = some (.ref a36)
  a37 : Addr
  d37 : FuncData
  F37 : Fun K "_law_lot" "_law_lot" s37 a37 d37
  B37 : Binds K d37 P37 []
  G37 : mg "_law_lot" = some (.ref a37)
  a38 : Addr
  d38 : FuncData
  F38 : Fun K "law" "law" s38 a38 d38
  B38 : Binds K d38 P38 []
  G38 : mg "law" = some (.ref a38)
  z_all : mg "all" = none
  z_any : mg "any" = none
  z_bool : mg "bool" = none
  z_enumerate : mg "enumerate" = none
  z_int : mg "int" = none
  z_isinstance : mg "isinstance" = none
  z_len : mg "len" = none
  z_list : mg "list" = none
  z_max : mg "max" = none
  z_range : mg "range" = none
  z_sorted : mg "sorted" = none
  z_str : mg "str" = none
  z_sum : mg "sum" = none
  z_tuple : mg "tuple" = none
  z_zip : mg "zip" = none
  t_MOST_SIDE : Tok
  c_MOST_SIDE : mg "MOST_SIDE" = some (.int 6 t_MOST_SIDE)
  t_MOST_VALUE : Tok
  c_MOST_VALUE : mg "MOST_VALUE" = some (.int 1000 t_MOST_VALUE)
section
variable {P : Program} {w : World} {K : PySem.W.Frag} {mg : Str → Option Value} {base : Heap}
structure Lv (P : Program) (w : World) (K : PySem.W.Frag) (mg : Str → Option Value) (base : Heap) (T : Tops K mg) (n : Nat) : Prop where
  k0 : FnOk P w K mg base CX0 n T.a0 T.d0 P0 (spF K (bf 0) P0.length (run n 0))
  l0 : ∀ ds r, run n 0 ds = some r → ds.length = P0.length
  k1 : FnOk P w K mg base CX0 n T.a1 T.d1 P1 (spF K (bf 1) P1.length (run n 1))
  l1 : ∀ ds r, run n 1 ds = some r → ds.length = P1.length
  k2 : FnOk P w K mg base CX0 n T.a2 T.d2 P2 (spF K (bf 2) P2.length (run n 2))
  l2 : ∀ ds r, run n 2 ds = some r → ds.length = P2.length
  k3 : FnOk P w K mg base CX0 n T.a3 T.d3 P3 (spF K (bf 3) P3.length (run n 3))
  l3 : ∀ ds r, run n 3 ds = some r → ds.length = P3.length
  k4 : FnOk P w K mg base CX0 n T.a4 T.d4 P4 (spF K (bf 4) P4.length (run n 4))
  l4 : ∀ ds r, run n 4 ds = some r → ds.length = P4.length
  k5 : FnOk P w K mg base CX0 n T.a5 T.d5 P5 (spF K (bf 5) P5.length (run n 5))
  l5 : ∀ ds r, run n 5 ds = some r → ds.length = P5.length
  k6 : FnOk P w K mg base CX0 n T.a6 T.d6 P6 (spF K (bf 6) P6.length (run n 6))
  l6 : ∀ ds r, run n 6 ds = some r → ds.length = P6.length
  k7 : FnOk P w K mg base CX0 n T.a7 T.d7 P7 (spF K (bf 7) P7.length (run n 7))
  l7 : ∀ ds r, run n 7 ds = some r → ds.length = P7.length
  k8 : FnOk P w K mg base CX0 n T.a8 T.d8 P8 (spF K (bf 8) P8.length (run n 8))
  l8 : ∀ ds r, run n 8 ds = some r → ds.length = P8.length
  k9 : FnOk P w K mg base CX0 n T.a9 T.d9 P9 (spF K (bf 9) P9.length (run n 9))
  l9 : ∀ ds r, run n 9 ds = some r → ds.length = P9.length
  k10 : FnOk P w K mg base CX0 n T.a10 T.d10 P10 (spF K (bf 10) P10.length (run n 10))
  l10 : ∀ ds r, run n 10 ds = some r → ds.length = P10.length
  k11 : FnOk P w K mg base CX0 n T.a11 T.d11 P11 (spF K (bf 11) P11.length (run n 11))
  l11 : ∀ ds r, run n 11 ds = some r → ds.length = P11.length
  k12 : FnOk P w K mg base CX0 n T.a12 T.d12 P12 (spF K (bf 12) P12.length (run n 12))
  l12 : ∀ ds r, run n 12 ds = some r → ds.length = P12.length
  k13 : FnOk P w K mg base CX0 n T.a13 T.d13 P13 (spF K (bf 13) P13.length (run n 13))
  l13 : ∀ ds r, run n 13 ds = some r → ds.length = P13.length
  k14 : FnOk P w K mg base CX0 n T.a14 T.d14 P14 (spF K (bf 14) P14.length (run n 14))
  l14 : ∀ ds r, run n 14 ds = some r → ds.length = P14.length
  k15 : FnOk P w K mg base CX0 n T.a15 T.d15 P15 (spF K (bf 15) P15.length (run n 15))
  l15 : ∀ ds r, run n 15 ds = some r → ds.length = P15.length
  k16 : FnOk P w K mg base CX0 n T.a16 T.d16 P16 (spF K (bf 16) P16.length (run n 16))
  l16 : ∀ ds r, run n 16 ds = some r → ds.length = P16.length
  k17 : FnOk P w K mg base CX0 n T.a17 T.d17 P17 (spF K (bf 17) P17.length (run n 17))
  l17 : ∀ ds r, run n 17 ds = some r → ds.length = P17.length
  k18 : FnOk P w K mg base CX0 n T.a18 T.d18 P18 (spF K (bf 18) P18.length (run n 18))
  l18 : ∀ ds r, run n 18 ds = some r → ds.length = P18.length
  k19 : FnOk P w K mg base CX0 n T.a19 T.d19 P19 (spF K (bf 19) P19.length (run n 19))
  l19 : ∀ ds r, run n 19 ds = some r → ds.length = P19.length
  k20 : FnOk P w K mg base CX0 n T.a20 T.d20 P20 (spF K (bf 20) P20.length (run n 20))
  l20 : ∀ ds r, run n 20 ds = some r → ds.length = P20.length
  k21 : FnOk P w K mg base CX0 n T.a21 T.d21 P21 (spF K (bf 21) P21.length (run n 21))
  l21 : ∀ ds r, run n 21 ds = some r → ds.length = P21.length
  k22 : FnOk P w K mg base CX0 n T.a22 T.d22 P22 (spF K (bf 22) P22.length (run n 22))
  l22 : ∀ ds r, run n 22 ds = some r → ds.length = P22.length
  k23 : FnOk P w K mg base CX0 n T.a23 T.d23 P23 (spF K (bf 23) P23.length (run n 23))
  l23 : ∀ ds r, run n 23 ds = some r → ds.length = P23.length
  k24 : FnOk P w K mg base CX0 n T.a24 T.d24 P24 (spF K (bf 24) P24.length (run n 24))
  l24 : ∀ ds r, run n 24 ds = some r → ds.length = P24.length
  k25 : FnOk P w K mg base CX0 n T.a25 T.d25 P25 (spF K (bf 25) P25.length (run n 25))
  l25 : ∀ ds r, run n 25 ds = some r → ds.length = P25.length
  k26 : FnOk P w K mg base CX0 n T.a26 T.d26 P26 (spF K (bf 26) P26.length (run n 26))
  l26 : ∀ ds r, run n 26 ds = some r → ds.length = P26.length
  k27 : FnOk P w K mg base CX0 n T.a27 T.d27 P27 (spF K (bf 27) P27.length (run n 27))
  l27 : ∀ ds r, run n 27 ds = some r → ds.length = P27.length
  k28 : FnOk P w K mg base CX0 n T.a28 T.d28 P28 (spF K (bf 28) P28.length (run n 28))
  l28 : ∀ ds r, run n 28 ds = some r → ds.length = P28.length
  k29 : FnOk P w K mg base CX0 n T.a29 T.d29 P29 (spF K (bf 29) P29.length (run n 29))
  l29 : ∀ ds r, run n 29 ds = some r → ds.length = P29.length
  k30 : FnOk P w K mg base CX0 n T.a30 T.d30 P30 (spF K (bf 30) P30.length (run n 30))
  l30 : ∀ ds r, run n 30 ds = some r → ds.length = P30.length
  k31 : FnOk P w K mg base CX0 n T.a31 T.d31 P31 (spF K (bf 31) P31.length (run n 31))
  l31 : ∀ ds r, run n 31 ds = some r → ds.length = P31.length
  k32 : FnOk P w K mg base CX0 n T.a32 T.d32 P32 (spF K (bf 32) P32.length (run n 32))
  l32 : ∀ ds r, run n 32 ds = some r → ds.length = P32.length
  k33 : FnOk P w K mg base CX0 n T.a33 T.d33 P33 (spF K (bf 33) P33.length (run n 33))
  l33 : ∀ ds r, run n 33 ds = some r → ds.length = P33.length
  k34 : FnOk P w K mg base CX0 n T.a34 T.d34 P34 (spF K (bf 34) P34.length (run n 34))
  l34 : ∀ ds r, run n 34 ds = some r → ds.length = P34.length
  k35 : FnOk P w K mg base CX0 n T.a35 T.d35 P35 (spF K (bf 35) P35.length (run n 35))
  l35 : ∀ ds r, run n 35 ds = some r → ds.length = P35.length
  k36 : FnOk P w K mg base CX0 n T.a36 T.d36 P36 (spF K (bf 36) P36.length (run n 36))
  l36 : ∀ ds r, run n 36 ds = some r → ds.length = P36.length
  k37 : FnOk P w K mg base CX0 n T.a37 T.d37 P37 (spF K (bf 37) P37.length (run n 37))
  l37 : ∀ ds r, run n 37 ds = some r → ds.length = P37.length
  k38 : FnOk P w K mg base CX0 n T.a38 T.d38 P38 (spF K (bf 38) P38.length (run n 38))
  l38 : ∀ ds r, run n 38 ds = some r → ds.length = P38.length
theorem body0 {T : Tops K mg} {n : Nat} (L : Lv P w K mg base T n) {cdv : Value} {A : Around} {outer : List Env} {s : Shared} {H : Hp} {E : XK} (hr : Room n (A.deeper (envOfC "is_int" (defScope s0) s.heap.objs.size T.a0 cdv))) :
    CSs (cxOf CX0 P w K mg base N0 "is_int" (defScope s0) T.a0 cdv A outer s H E).nox (run n) bf MM (defBody s0) b_is_int :=
  (cs_cons (cs_ret (ce_and (ce_isi ok_isInt (by decide +kernel) (by decide) (by decide) T.z_isinstance T.z_int rfl rfl (ce_v 0 rfl (.inl rfl))) (ce_one (ce_not (ce_isi ok_isBool (by decide +kernel) (by decide) (by decide) T.z_isinstance T.z_bool rfl rfl (ce_v 0 rfl (.inl rfl))))))) cs_nil)
theorem body1 {T : Tops K mg} {n : Nat} (L : Lv P w K mg base T n) {cdv : Value} {A : Around} {outer : List Env} {s : Shared} {H : Hp} {E : XK} (hr : Room n (A.deeper (envOfC "is_from" (defScope s1) s.heap.objs.size T.a1 cdv))) :
    CSs (cxOf CX0 P w K mg base N1 "is_from" (defScope s1) T.a1 cdv A outer s H E).nox (run n) bf MM (defBody s1) b_is_from :=
  (cs_cons (cs_ret (ce_and (ce_call L.k0 L.l0 hr T.G0 T.F0.kp T.B0 rfl (ca_cons (ce_v 0 rfl (.inl rfl)) ca_nil)) (ce_one (ce_chain ok_IB ok_IB op_le op_le (ce_v 1 rfl (.inl rfl)) (ce_v 0 rfl (.inl rfl)) (ce_v 2 rfl (.inl rfl)))))) cs_nil)
theorem body2 {T : Tops K mg} {n : Nat} (L : Lv P w K mg base T n) {cdv : Value} {A : Around} {outer : List Env} {s : Shared} {H : Hp} {E : XK} (hr : Room n (A.deeper (envOfC "is_place" (defScope s2) s.heap.objs.size T.a2 cdv))) :
    CSs (cxOf CX0 P w K mg base N2 "is_place" (defScope s2) T.a2 cdv A outer s H E).nox (run n) bf MM (defBody s2) b_is_place :=
  (cs_cons (cs_ite (PW.pt (ct_or (ct_not (ct_of (fun _ h => pt_val h) (ce_isi ok_isTup (by decide +kernel) (by decide) (by decide) T.z_isinstance T.z_tuple rfl rfl (ce_v 0 rfl (.inl rfl))))) (ct_or1 (ct_cmp ok_ne (op_neZ hr.units) (ce_b1 ok_len call_len (by decide +kernel) (by decide) (by decide) T.z_len rfl (ce_v 0 rfl (.inl rfl))) ce_int (nomark _))))) (cs_cons (cs_ret ce_bl) cs_nil) cs_nil) (cs_cons (cs_ret (ce_b1 ok_all (cr_all rfl) (by decide +kernel) (by decide) (by decide) T.z_all rfl (ce_lc (own := [("one", 1)]) (t := .n 1) rfl sc2.nd (fun _ h => h) (ci_seq (ce_v 0 rfl (.inl rfl))) (blkX (N := N2) (sc := (defScope s2)) (by decide +kernel)) (fun _ _ _ _ _ => (cg_n 1 sc2.nd rfl (.inl rfl))) (fun _ _ _ _ _ => pts0) (fun _ _ _ _ _ => (ce_call L.k1 L.l1 hr T.G1 T.F1.kp T.B1 rfl (ca_cons (ce_v 1 rfl (.inl rfl)) (ca_cons (ce_un ok_I1 un_neg (ce_glob (v := .int 1000) T.c_MOST_VALUE ⟨_, rfl⟩ (fun _ => .int _) rfl (by decide))) (ca_cons (ce_glob (v := .int 1000) T.c_MOST_VALUE ⟨_, rfl⟩ (fun _ => .int _) rfl (by decide)) ca_nil)))))))) cs_nil))
theorem body3 {T : Tops K mg} {n : Nat} (L : Lv P w K mg base T n) {cdv : Value} {A : Around} {outer : List Env} {s : Shared} {H : Hp} {E : XK} (hr : Room n (A.deeper (envOfC "need_board" (defScope s3) s.heap.objs.size T.a3 cdv))) :
    CSs (cxOf CX0 P w K mg base N3 "need_board" (defScope s3) T.a3 cdv A outer s H E).nox (run n) bf MM (defBody s3) b_need_board :=
  (cs_cons (cs_ite (PW.pt (ct_or (ct_not (ct_of (fun _ h => pt_val h) (ce_isi ok_isTup (by decide +kernel) (by decide) (by decide) T.z_isinstance T.z_tuple rfl rfl (ce_v 0 rfl (.inl rfl))))) (ct_or1 (ct_not (ct_chain ok_IB ok_IB op_le op_le ce_int (ce_b1 ok_len call_len (by decide +kernel) (by decide) (by decide) T.z_len rfl (ce_v 0 rfl (.inl rfl))) (ce_glob (v := .int 6) T.c_MOST_SIDE ⟨_, rfl⟩ (fun _ => .int _) rfl (by decide))))))) (cs_cons cs_stuck cs_nil) cs_nil) (cs_cons (cs_for PassesOwn.never rfl (ci_enum rfl T.z_enumerate (ce_v 0 rfl (.inl rfl))) (cg_t rfl (cg_n 1 sc3.nd rfl (.inl rfl)) (cg_n 2 sc3.nd rfl (.inl rfl))) (cs_cons (cs_ite (PW.pt (ct_or (ct_not (ct_of (fun _ h => pt_val h) (ce_isi ok_isTup (by decide +kernel) (by decide) (by decide) T.z_isinstance T.z_tuple rfl rfl (ce_v 2 rfl (.inl rfl))))) (ct_or (ct_not (ct_chain ok_IB ok_IB op_le op_le ce_int (ce_b1 ok_len call_len (by decide +kernel) (by decide) (by decide) T.z_len rfl (ce_v 2 rfl (.inl rfl))) (ce_glob (v := .int 6) T.c_MOST_SIDE ⟨_, rfl⟩ (fun _ => .int _) rfl (by decide)))) (ct_or1 (ct_cmp ok_ne (op_neZ hr.units) (ce_b1 ok_len call_len (by decide +kernel) (by decide) (by decide) T.z_len rfl (ce_v 2 rfl (.inl rfl))) (ce_b1 ok_len call_len (by decide +kernel) (by decide) (by decide) T.z_len rfl (ce_idx hr.units (fun _ _ => rfl) (ce_v 0 rfl (.inl rfl)) ce_int)) (nomark _)))))) (cs_cons cs_stuck cs_nil) cs_nil) (cs_cons (cs_ite (ct_not (ct_of (fun _ h => pt_val h) (ce_b1 ok_all (cr_all rfl) (by decide +kernel) (by decide) (by decide) T.z_all rfl (ce_lc (own := [("place", 3)]) (t := .n 3) rfl sc3.nd (fun _ h => h) (ci_seq (ce_v 2 rfl (.inl rfl))) (blkX (N := N3) (sc := (defScope s3)) (by decide +kernel)) (fun _ _ _ _ _ => (cg_n 3 sc3.nd rfl (.inl rfl))) (fun _ _ _ _ _ => pts0) (fun _ _ _ _ _ => (ce_call L.k2 L.l2 hr T.G2 T.F2.kp T.B2 rfl (ca_cons (ce_v 3 rfl (.inl rfl)) ca_nil))))))) (cs_cons cs_stuck cs_nil) cs_nil) cs_nil))) cs_nil))
theorem body4 {T : Tops K mg} {n : Nat} (L : Lv P w K mg base T n) {cdv : Value} {A : Around} {outer : List Env} {s : Shared} {H : Hp} {E : XK} (hr : Room n (A.deeper (envOfC "sides" (defScope s4) s.heap.objs.size T.a4 cdv))) :
    CSs (cxOf CX0 P w K mg base N4 "sides" (defScope s4) T.a4 cdv A outer s H E).nox (run n) bf MM (defBody s4) b_sides :=
  (cs_cons (cs_ret (ce_tup (cv_cons (ce_b1 ok_len call_len (by decide +kernel) (by decide) (by decide) T.z_len rfl (ce_v 0 rfl (.inl rfl))) (cv_cons (ce_b1 ok_len call_len (by decide +kernel) (by decide) (by decide) T.z_len rfl (ce_idx hr.units (fun _ _ => rfl) (ce_v 0 rfl (.inl rfl)) ce_int)) cv_nil)) (lenZ rfl))) cs_nil)
theorem body5 {T : Tops K mg} {n : Nat} (L : Lv P w K mg base T n) {cdv : Value} {A : Around} {outer : List Env} {s : Shared} {H : Hp} {E : XK} (hr : Room n (A.deeper (envOfC "lines_of" (defScope s5) s.heap.objs.size T.a5 cdv))) :
    CSs (cxOf CX0 P w K mg base N5 "lines_of" (defScope s5) T.a5 cdv A outer s H E).nox (run n) bf MM (defBody s5) b_lines_of :=
  (cs_cons (cs_ret (ce_tupRg1 rfl T.z_tuple rfl T.z_range rfl (ce_b1 ok_sumA (cr_sumA rfl) (by decide +kernel) (by decide) (by decide) T.z_sum rfl (ce_call L.k4 L.l4 hr T.G4 T.F4.kp T.B4 rfl (ca_cons (ce_v 0 rfl (.inl rfl)) ca_nil))))) cs_nil)
theorem body6 {T : Tops K mg} {n : Nat} (L : Lv P w K mg base T n) {cdv : Value} {A : Around} {outer : List Env} {s : Shared} {H : Hp} {E : XK} (hr : Room n (A.deeper (envOfC "is_lot" (defScope s6) s.heap.objs.size T.a6 cdv))) :
    CSs (cxOf CX0 P w K mg base N6 "is_lot" (defScope s6) T.a6 cdv A outer s H E).nox (run n) bf MM (defBody s6) b_is_lot :=
  (cs_cons (cs_ite (PW.pt (ct_or (ct_not (ct_of (fun _ h => pt_val h) (ce_isi ok_isTup (by decide +kernel) (by decide) (by decide) T.z_isinstance T.z_tuple rfl rfl (ce_v 1 rfl (.inl rfl))))) (ct_or1 (ct_not (ct_of (fun _ h => pt_val h) (ce_b1 ok_all (cr_all rfl) (by decide +kernel) (by decide) (by decide) T.z_all rfl (ce_lc (own := [("one", 5)]) (t := .n 5) rfl sc6.nd (fun _ h => h) (ci_seq (ce_v 1 rfl (.inl rfl))) (blkX (N := N6) (sc := (defScope s6)) (by decide +kernel)) (fun _ _ _ _ _ => (cg_n 5 sc6.nd rfl (.inl rfl))) (fun _ _ _ _ _ => pts0) (fun _ _ _ _ _ => (ce_call L.k1 L.l1 hr T.G1 T.F1.kp T.B1 rfl (ca_cons (ce_v 5 rfl (.inl rfl)) (ca_cons ce_int (ca_cons (ce_bin ok_I2 op_sub (ce_b1 ok_sumA (cr_sumA rfl) (by decide +kernel) (by decide) (by decide) T.z_sum rfl (ce_call L.k4 L.l4 hr T.G4 T.F4.kp T.B4 rfl (ca_cons (ce_v 0 rfl (.inr (.inl rfl))) ca_nil))) ce_int) ca_nil)))))))))))) (cs_cons (cs_ret ce_bl) cs_nil) cs_nil) (cs_cons (cs_ite (ct_of (fun _ h => pt_val h) (ce_b1 ok_any (cr_any rfl) (by decide +kernel) (by decide) (by decide) T.z_any rfl (ce_lc (own := [("a", 3), ("b", 4)]) (t := .t (.n 3) (.n 4)) rfl sc6.nd (fun _ h => h) (ci_zip rfl T.z_zip (ce_v 1 rfl (.inl rfl)) (ce_slF (ce_v 1 rfl (.inl rfl)) ce_int)) (blkX (N := N6) (sc := (defScope s6)) (by decide +kernel)) (fun _ _ _ _ _ => (cg_t rfl (cg_n 3 sc6.nd rfl (.inl rfl)) (cg_n 4 sc6.nd rfl (.inl rfl)))) (fun _ _ _ _ _ => pts0) (fun _ _ _ _ _ => (ce_cmp ok_IB op_ge (ce_v 3 rfl (.inl rfl)) (ce_v 4 rfl (.inl rfl)) (nomark _)))))) (cs_cons (cs_ret ce_bl) cs_nil) cs_nil) (cs_cons (cs_set 2 (ce_b1 ok_len call_len (by decide +kernel) (by decide) (by decide) T.z_len rfl (ce_lc (own := [("one", 5)]) (t := .n 5) rfl sc6.nd (fun _ h => h) (ci_seq (ce_v 1 rfl (.inl rfl))) (blkX (N := N6) (sc := (defScope s6)) (by decide +kernel)) (fun _ _ _ _ _ => (cg_n 5 sc6.nd rfl (.inl rfl))) (fun _ _ _ _ _ => (pts1 (ct_cmp ok_IB op_lt (ce_v 5 rfl (.inl rfl)) (ce_b1 ok_len call_len (by decide +kernel) (by decide) (by decide) T.z_len rfl (ce_v 0 rfl (.inr (.inl rfl)))) (nomark _)))) (fun _ _ _ _ _ => (ce_v 5 rfl (.inl rfl))))) sc6.nd rfl (.inl rfl)) (cs_cons (cs_ret (ce_and (ce_cmp ok_IB op_lt (ce_v 2 rfl (.inl rfl)) (ce_b1 ok_len call_len (by decide +kernel) (by decide) (by decide) T.z_len rfl (ce_v 0 rfl (.inr (.inl rfl)))) (nomark _)) (ce_one (ce_cmp ok_IB op_lt (ce_bin ok_I2 op_sub (ce_b1 ok_len call_len (by decide +kernel) (by decide) (by decide) T.z_len rfl (ce_v 1 rfl (.inl rfl))) (ce_v 2 rfl (.inl rfl))) (ce_b1 ok_len call_len (by decide +kernel) (by decide) (by decide) T.z_len rfl (ce_idx hr.units (fun _ _ => rfl) (ce_v 0 rfl (.inr (.inl rfl))) ce_int)) (nomark _))))) cs_nil))))
theorem body7 {T : Tops K mg} {n : Nat} (L : Lv P w K mg base T n) {cdv : Value} {A : Around} {outer : List Env} {s : Shared} {H : Hp} {E : XK} (hr : Room n (A.deeper (envOfC "need_lot" (defScope s7) s.heap.objs.size T.a7 cdv))) :
    CSs (cxOf CX0 P w K mg base N7 "need_lot" (defScope s7) T.a7 cdv A outer s H E).nox (run n) bf MM (defBody s7) b_need_lot :=
  (cs_cons (cs_ite (ct_not (ct_of (fun _ h => pt_val h) (ce_call L.k6 L.l6 hr T.G6 T.F6.kp T.B6 rfl (ca_cons (ce_v 0 rfl (.inl rfl)) (ca_cons (ce_v 1 rfl (.inl rfl)) ca_nil))))) (cs_cons cs_stuck cs_nil) cs_nil) cs_nil)
theorem body8 {T : Tops K mg} {n : Nat} (L : Lv P w K mg base T n) {cdv : Value} {A : Around} {outer : List Env} {s : Shared} {H : Hp} {E : XK} (hr : Room n (A.deeper (envOfC "left_of" (defScope s8) s.heap.objs.size T.a8 cdv))) :
    CSs (cxOf CX0 P w K mg base N8 "left_of" (defScope s8) T.a8 cdv A outer s H E).nox (run n) bf MM (defBody s8) b_left_of :=
  (cs_cons (cs_set 2 (ce_ty1 ok_tupOf cr_tupOf (by decide +kernel) (by decide) (by decide) T.z_tuple rfl (ce_lc (own := [("one", 3)]) (t := .n 3) rfl sc8.nd (fun _ h => h) (ci_range1 rfl T.z_range (ce_b1 ok_len call_len (by decide +kernel) (by decide) (by decide) T.z_len rfl (ce_v 0 rfl (.inl rfl)))) (blkX (N := N8) (sc := (defScope s8)) (by decide +kernel)) (fun _ _ _ _ _ => (cg_n 3 sc8.nd rfl (.inl rfl))) (fun _ _ _ _ _ => (pts1 (ct_cmp ok_notIn (op_notInZD hr.units) (ce_v 3 rfl (.inl rfl)) (ce_v 1 rfl (.inr (.inl rfl))) (by with_unfolding_all rfl)))) (fun _ _ _ _ _ => (ce_v 3 rfl (.inl rfl))))) sc8.nd rfl (.inl rfl)) (cs_cons (cs_ret (ce_tup (cv_cons (ce_v 2 rfl (.inl rfl)) (cv_cons (ce_ty1 ok_tupOf cr_tupOf (by decide +kernel) (by decide) (by decide) T.z_tuple rfl (ce_lc (own := [("one", 3)]) (t := .n 3) rfl sc8.nd (fun _ h => h) (ci_seq (ce_slF (ce_call L.k5 L.l5 hr T.G5 T.F5.kp T.B5 rfl (ca_cons (ce_v 0 rfl (.inl rfl)) ca_nil)) (ce_b1 ok_len call_len (by decide +kernel) (by decide) (by decide) T.z_len rfl (ce_v 0 rfl (.inl rfl))))) (blkX (N := N8) (sc := (defScope s8)) (by decide +kernel)) (fun _ _ _ _ _ => (cg_n 3 sc8.nd rfl (.inl rfl))) (fun _ _ _ _ _ => (pts1 (ct_cmp ok_notIn (op_notInZD hr.units) (ce_v 3 rfl (.inl rfl)) (ce_v 1 rfl (.inr (.inl rfl))) (by with_unfolding_all rfl)))) (fun _ _ _ _ _ => (ce_v 3 rfl (.inl rfl))))) cv_nil)) (lenZ rfl))) cs_nil))
theorem body9 {T : Tops K mg} {n : Nat} (L : Lv P w K mg base T n) {cdv : Value} {A : Around} {outer : List Env} {s : Shared} {H : Hp} {E : XK} (hr : Room n (A.deeper (envOfC "numbers" (defScope s9) s.heap.objs.size T.a9 cdv))) :
    CSs (cxOf CX0 P w K mg base N9 "numbers" (defScope s9) T.a9 cdv A outer s H E).nox (run n) bf MM (defBody s9) b_numbers :=
  (cs_cons (cs_put (ce_call L.k8 L.l8 hr T.G8 T.F8.kp T.B8 rfl (ca_cons (ce_v 0 rfl (.inr (.inl rfl))) (ca_cons (ce_v 1 rfl (.inl rfl)) ca_nil))) (cg_t rfl (cg_n 3 sc9.nd rfl (.inl rfl)) (cg_n 4 sc9.nd rfl (.inl rfl)))) (cs_cons (cs_ite (ct_cmp ok_IB op_lt (ce_v 2 rfl (.inr (.inl rfl))) (ce_b1 ok_len call_len (by decide +kernel) (by decide) (by decide) T.z_len rfl (ce_v 0 rfl (.inr (.inl rfl)))) (nomark _)) (cs_cons (cs_ret (ce_lc (own := [("column", 6)]) (t := .n 6) rfl sc9.nd (fun _ h => h) (ci_seq (ce_v 4 rfl (.inl rfl))) (blkX (N := N9) (sc := (defScope s9)) (by decide +kernel)) (fun _ _ _ _ _ => (cg_n 6 sc9.nd rfl (.inl rfl))) (fun _ _ _ _ _ => pts0) (fun _ _ _ _ _ => (ce_idx hr.units (fun _ _ => rfl) (ce_idx hr.units (fun _ _ => rfl) (ce_idx hr.units (fun _ _ => rfl) (ce_v 0 rfl (.inr (.inl rfl))) (ce_v 2 rfl (.inr (.inl rfl)))) (ce_bin ok_I2 op_sub (ce_v 6 rfl (.inl rfl)) (ce_b1 ok_len call_len (by decide +kernel) (by decide) (by decide) T.z_len rfl (ce_v 0 rfl (.inr (.inl rfl)))))) ce_int)))) cs_nil) cs_nil) (cs_cons (cs_ret (ce_lc (own := [("row", 5)]) (t := .n 5) rfl sc9.nd (fun _ h => h) (ci_seq (ce_v 3 rfl (.inl rfl))) (blkX (N := N9) (sc := (defScope s9)) (by decide +kernel)) (fun _ _ _ _ _ => (cg_n 5 sc9.nd rfl (.inl rfl))) (fun _ _ _ _ _ => pts0) (fun _ _ _ _ _ => (ce_idx hr.units (fun _ _ => rfl) (ce_idx hr.units (fun _ _ => rfl) (ce_idx hr.units (fun _ _ => rfl) (ce_v 0 rfl (.inr (.inl rfl))) (ce_v 5 rfl (.inl rfl))) (ce_bin ok_I2 op_sub (ce_v 2 rfl (.inr (.inl rfl))) (ce_b1 ok_len call_len (by decide +kernel) (by decide) (by decide) T.z_len rfl (ce_v 0 rfl (.inr (.inl rfl)))))) ce_int)))) cs_nil)))
theorem body10 {T : Tops K mg} {n : Nat} (L : Lv P w K mg base T n) {cdv : Value} {A : Around} {outer : List Env} {s : Shared} {H : Hp} {E : XK} (hr : Room n (A.deeper (envOfC "same_side" (defScope s10) s.heap.objs.size T.a10 cdv))) :
    CSs (cxOf CX0 P w K mg base N10 "same_side" (defScope s10) T.a10 cdv A outer s H E).nox (run n) bf MM (defBody s10) b_same_side :=
  (cs_cons (cs_ret (ce_cmp ok_eq (op_eqZ hr.units) (ce_cmp ok_IB op_lt (ce_v 1 rfl (.inl rfl)) (ce_b1 ok_len call_len (by decide +kernel) (by decide) (by decide) T.z_len rfl (ce_v 0 rfl (.inl rfl))) (nomark _)) (ce_cmp ok_IB op_lt (ce_v 2 rfl (.inl rfl)) (ce_b1 ok_len call_len (by decide +kernel) (by decide) (by decide) T.z_len rfl (ce_v 0 rfl (.inl rfl))) (nomark _)) (nomark _))) cs_nil)
theorem body11 {T : Tops K mg} {n : Nat} (L : Lv P w K mg base T n) {cdv : Value} {A : Around} {outer : List Env} {s : Shared} {H : Hp} {E : XK} (hr : Room n (A.deeper (envOfC "is_greater" (defScope s11) s.heap.objs.size T.a11 cdv))) :
    CSs (cxOf CX0 P w K mg base N11 "is_greater" (defScope s11) T.a11 cdv A outer s H E).nox (run n) bf MM (defBody s11) b_is_greater :=
  (cs_cons (cs_ite (ct_not (ct_of (fun _ h => pt_val h) (ce_call L.k10 L.l10 hr T.G10 T.F10.kp T.B10 rfl (ca_cons (ce_v 0 rfl (.inl rfl)) (ca_cons (ce_v 2 rfl (.inl rfl)) (ca_cons (ce_v 3 rfl (.inl rfl)) ca_nil)))))) (cs_cons (cs_ret ce_bl) cs_nil) cs_nil) (cs_cons (cs_ret (ce_b1 ok_all (cr_all rfl) (by decide +kernel) (by decide) (by decide) T.z_all rfl (ce_lc (own := [("a", 4), ("b", 5)]) (t := .t (.n 4) (.n 5)) rfl sc11.nd (fun _ h => h) (ci_zip rfl T.z_zip (ce_call L.k9 L.l9 hr T.G9 T.F9.kp T.B9 rfl (ca_cons (ce_v 0 rfl (.inl rfl)) (ca_cons (ce_v 1 rfl (.inl rfl)) (ca_cons (ce_v 2 rfl (.inl rfl)) ca_nil)))) (ce_call L.k9 L.l9 hr T.G9 T.F9.kp T.B9 rfl (ca_cons (ce_v 0 rfl (.inl rfl)) (ca_cons (ce_v 1 rfl (.inl rfl)) (ca_cons (ce_v 3 rfl (.inl rfl)) ca_nil))))) (blkX (N := N11) (sc := (defScope s11)) (by decide +kernel)) (fun _ _ _ _ _ => (cg_t rfl (cg_n 4 sc11.nd rfl (.inl rfl)) (cg_n 5 sc11.nd rfl (.inl rfl)))) (fun _ _ _ _ _ => pts0) (fun _ _ _ _ _ => (ce_cmp ok_IB op_gt (ce_v 5 rfl (.inl rfl)) (ce_v 4 rfl (.inl rfl)) (nomark _)))))) cs_nil))
theorem body12 {T : Tops K mg} {n : Nat} (L : Lv P w K mg base T n) {cdv : Value} {A : Around} {outer : List Env} {s : Shared} {H : Hp} {E : XK} (hr : Room n (A.deeper (envOfC "can_fall" (defScope s12) s.heap.objs.size T.a12 cdv))) :
    CSs (cxOf CX0 P w K mg base N12 "can_fall" (defScope s12) T.a12 cdv A outer s H E).nox (run n) bf MM (defBody s12) b_can_fall :=
  (cs_cons (cs_ret (ce_b1 ok_any (cr_any rfl) (by decide +kernel) (by decide) (by decide) T.z_any rfl (ce_lc (own := [("other", 3)]) (t := .n 3) rfl sc12.nd (fun _ h => h) (ci_seq (ce_call L.k5 L.l5 hr T.G5 T.F5.kp T.B5 rfl (ca_cons (ce_v 0 rfl (.inr (.inl rfl))) ca_nil))) (blkX (N := N12) (sc := (defScope s12)) (by decide +kernel)) (fun _ _ _ _ _ => (cg_n 3 sc12.nd rfl (.inl rfl))) (fun _ _ _ _ _ => (pts1 (ct_cmp ok_notIn (op_notInZD hr.units) (ce_v 3 rfl (.inl rfl)) (ce_tups (cv_star (ce_v 1 rfl (.inr (.inl rfl))) (cv_cons (ce_v 2 rfl (.inr (.inl rfl))) cv_nil))) (by with_unfolding_all rfl)))) (fun _ _ _ _ _ => (ce_call L.k11 L.l11 hr T.G11 T.F11.kp T.B11 rfl (ca_cons (ce_v 0 rfl (.inr (.inl rfl))) (ca_cons (ce_v 1 rfl (.inr (.inl rfl))) (ca_cons (ce_v 2 rfl (.inr (.inl rfl))) (ca_cons (ce_v 3 rfl (.inl rfl)) ca_nil))))))))) cs_nil)
theorem body13 {T : Tops K mg} {n : Nat} (L : Lv P w K mg base T n) {cdv : Value} {A : Around} {outer : List Env} {s : Shared} {H : Hp} {E : XK} (hr : Room n (A.deeper (envOfC "with_line" (defScope s13) s.heap.objs.size T.a13 cdv))) :
    CSs (cxOf CX0 P w K mg base N13 "with_line" (defScope s13) T.a13 cdv A outer s H E).nox (run n) bf MM (defBody s13) b_with_line :=
  (cs_cons (cs_ret (ce_ty1 ok_tupOf cr_tupOf (by decide +kernel) (by decide) (by decide) T.z_tuple rfl (ce_b1 ok_sorted (cr_sortD hr.units) (by decide +kernel) (by decide) (by decide) T.z_sorted rfl (ce_lsts (cv_star (ce_v 0 rfl (.inl rfl)) (cv_cons (ce_v 1 rfl (.inl rfl)) cv_nil)))))) cs_nil)
theorem body14 {T : Tops K mg} {n : Nat} (L : Lv P w K mg base T n) {cdv : Value} {A : Around} {outer : List Env} {s : Shared} {H : Hp} {E : XK} (hr : Room n (A.deeper (envOfC "run" (defScope s14) s.heap.objs.size T.a14 cdv))) :
    CSs (cxOf CX0 P w K mg base N14 "run" (defScope s14) T.a14 cdv A outer s H E).nox (run n) bf MM (defBody s14) b_run :=
  (cs_cons (cs_set 2 (ce_tup cv_nil (lenZ rfl)) sc14.nd rfl (.inl rfl)) (cs_cons (cs_for PassesOwn.never rfl (ci_enum rfl T.z_enumerate (ce_v 1 rfl (.inl rfl))) (cg_t rfl (cg_n 3 sc14.nd rfl (.inl rfl)) (cg_n 4 sc14.nd rfl (.inl rfl))) (cs_cons (cs_ite (PW.pt (ct_or (ct_not (ct_of (fun _ h => pt_val h) (ce_call L.k1 L.l1 hr T.G1 T.F1.kp T.B1 rfl (ca_cons (ce_v 4 rfl (.inl rfl)) (ca_cons ce_int (ca_cons (ce_bin ok_I2 op_sub (ce_b1 ok_sumA (cr_sumA rfl) (by decide +kernel) (by decide) (by decide) T.z_sum rfl (ce_call L.k4 L.l4 hr T.G4 T.F4.kp T.B4 rfl (ca_cons (ce_v 0 rfl (.inl rfl)) ca_nil))) ce_int) ca_nil)))))) (ct_or (ct_cmp ok_in (op_inZD hr.units) (ce_v 4 rfl (.inl rfl)) (ce_v 2 rfl (.inl rfl)) (by with_unfolding_all rfl)) (ct_or1 (ct_not (ct_of (fun _ h => pt_val h) (ce_call L.k12 L.l12 hr T.G12 T.F12.kp T.B12 rfl (ca_cons (ce_v 0 rfl (.inl rfl)) (ca_cons (ce_v 2 rfl (.inl rfl)) (ca_cons (ce_v 4 rfl (.inl rfl)) ca_nil)))))))))) (cs_cons (cs_ret (ce_v 3 rfl (.inl rfl))) cs_nil) cs_nil) (cs_cons (cs_set 2 (ce_call L.k13 L.l13 hr T.G13 T.F13.kp T.B13 rfl (ca_cons (ce_v 2 rfl (.inl rfl)) (ca_cons (ce_v 4 rfl (.inl rfl)) ca_nil))) sc14.nd rfl (.inl rfl)) cs_nil))) (cs_cons (cs_ret (ce_v 2 rfl (.inl rfl))) cs_nil)))
theorem body15 {T : Tops K mg} {n : Nat} (L : Lv P w K mg base T n) {cdv : Value} {A : Around} {outer : List Env} {s : Shared} {H : Hp} {E : XK} (hr : Room n (A.deeper (envOfC "need_strikes" (defScope s15) s.heap.objs.size T.a15 cdv))) :
    CSs (cxOf CX0 P w K mg base N15 "need_strikes" (defScope s15) T.a15 cdv A outer s H E).nox (run n) bf MM (defBody s15) b_need_strikes :=
  (cs_cons (cs_ite (ct_not (ct_of (fun _ h => pt_val h) (ce_isi ok_isTup (by decide +kernel) (by decide) (by decide) T.z_isinstance T.z_tuple rfl rfl (ce_v 1 rfl (.inl rfl))))) (cs_cons cs_stuck cs_nil) cs_nil) (cs_cons (cs_set 2 (ce_call L.k14 L.l14 hr T.G14 T.F14.kp T.B14 rfl (ca_cons (ce_v 0 rfl (.inl rfl)) (ca_cons (ce_v 1 rfl (.inl rfl)) ca_nil))) sc15.nd rfl (.inl rfl)) (cs_cons (cs_ite (ct_of (fun _ h => pt_val h) (ce_isi ok_isInt (by decide +kernel) (by decide) (by decide) T.z_isinstance T.z_int rfl rfl (ce_v 2 rfl (.inl rfl)))) (cs_cons cs_stuck cs_nil) cs_nil) (cs_cons (cs_ret (ce_v 2 rfl (.inl rfl))) cs_nil))))
theorem body16 {T : Tops K mg} {n : Nat} (L : Lv P w K mg base T n) {cdv : Value} {A : Around} {outer : List Env} {s : Shared} {H : Hp} {E : XK} (hr : Room n (A.deeper (envOfC "play" (defScope s16) s.heap.objs.size T.a16 cdv))) :
    CSs (cxOf CX0 P w K mg base N16 "play" (defScope s16) T.a16 cdv A outer s H E).nox (run n) bf MM (defBody s16) b_play :=
  (cs_cons (cs_expr (ce_call L.k3 L.l3 hr T.G3 T.F3.kp T.B3 rfl (ca_cons (ce_v 0 rfl (.inl rfl)) ca_nil))) (cs_cons (cs_ret (ce_call L.k15 L.l15 hr T.G15 T.F15.kp T.B15 rfl (ca_cons (ce_v 0 rfl (.inl rfl)) (ca_cons (ce_v 1 rfl (.inl rfl)) ca_nil)))) cs_nil))
theorem body17 {T : Tops K mg} {n : Nat} (L : Lv P w K mg base T n) {cdv : Value} {A : Around} {outer : List Env} {s : Shared} {H : Hp} {E : XK} (hr : Room n (A.deeper (envOfC "closure" (defScope s17) s.heap.objs.size T.a17 cdv))) :
    CSs (cxOf CX0 P w K mg base N17 "closure" (defScope s17) T.a17 cdv A outer s H E).nox (run n) bf MM (defBody s17) b_closure :=
  (cs_cons (cs_parT2 rfl (by decide) (pg_name (i := 2) sc17.nd rfl (.inr rfl)) (pg_name (i := 3) sc17.nd rfl (.inl rfl)) (cl_cons (ce_tup cv_nil (lenZ rfl)) (cl_cons (ce_lst cv_nil (lenZ rfl)) cl_nil)) (hw := rfl)) (cs_cons (cs_setLc 4 (hk := rfl) (hy := rfl) (hyl := rfl) (hl := by rfl) (hany := by decide +kernel) (own := [("line", 5)]) (t := .n 5) rfl sc17.nd (fun _ h => h) (ci_seq (ce_v 1 rfl (.inl rfl))) (blkX (N := N17) (sc := (defScope s17)) (by decide +kernel)) (fun _ _ _ _ _ => (cg_n 5 sc17.nd rfl (.inl rfl))) (fun _ _ _ _ _ => (pts1 (ct_of (fun _ h => pt_val h) (ce_call L.k12 L.l12 hr T.G12 T.F12.kp T.B12 rfl (ca_cons (ce_v 0 rfl (.inr (.inl rfl))) (ca_cons (ce_v 2 rfl (.inr (.inl rfl))) (ca_cons (ce_v 5 rfl (.inl rfl)) ca_nil))))))) (fun _ _ _ _ _ => (ce_v 5 rfl (.inl rfl)))) (cs_cons (cs_whl PassesOwn.never (ct_cmp ok_ne (op_neZ hr.units) (ce_v 4 rfl (.inl rfl)) (ce_lst cv_nil (lenZ rfl)) (nomark _)) (cs_cons (cs_parT2 rfl (by decide) (pg_name (i := 2) sc17.nd rfl (.inr rfl)) (pg_name (i := 3) sc17.nd rfl (.inl rfl)) (cl_cons (ce_call L.k13 L.l13 hr T.G13 T.F13.kp T.B13 rfl (ca_cons (ce_v 2 rfl (.inr (.inl rfl))) (ca_cons (ce_idx hr.units (fun _ _ => rfl) (ce_v 4 rfl (.inl rfl)) ce_int) ca_nil))) (cl_cons (ce_lsts (cv_star (ce_v 3 rfl (.inl rfl)) (cv_cons (ce_idx hr.units (fun _ _ => rfl) (ce_v 4 rfl (.inl rfl)) ce_int) cv_nil))) cl_nil)) (hw := rfl)) (cs_cons (cs_setLc 4 (hk := rfl) (hy := rfl) (hyl := rfl) (hl := by rfl) (hany := by decide +kernel) (own := [("line", 5)]) (t := .n 5) rfl sc17.nd (fun _ h => h) (ci_seq (ce_v 1 rfl (.inl rfl))) (blkX (N := N17) (sc := (defScope s17)) (by decide +kernel)) (fun _ _ _ _ _ => (cg_n 5 sc17.nd rfl (.inl rfl))) (fun _ _ _ _ _ => (pts1 (PW.pt (ct_and (ct_cmp ok_notIn (op_notInZD hr.units) (ce_v 5 rfl (.inl rfl)) (ce_v 2 rfl (.inr (.inl rfl))) (by with_unfolding_all rfl)) (ct_and1 (ct_of (fun _ h => pt_val h) (ce_call L.k12 L.l12 hr T.G12 T.F12.kp T.B12 rfl (ca_cons (ce_v 0 rfl (.inr (.inl rfl))) (ca_cons (ce_v 2 rfl (.inr (.inl rfl))) (ca_cons (ce_v 5 rfl (.inl rfl)) ca_nil)))))))))) (fun _ _ _ _ _ => (ce_v 5 rfl (.inl rfl)))) cs_nil))) (cs_cons (cs_ret (ce_v 3 rfl (.inl rfl))) cs_nil))))
theorem body18 {T : Tops K mg} {n : Nat} (L : Lv P w K mg base T n) {cdv : Value} {A : Around} {outer : List Env} {s : Shared} {H : Hp} {E : XK} (hr : Room n (A.deeper (envOfC "is_reached" (defScope s18) s.heap.objs.size T.a18 cdv))) :
    CSs (cxOf CX0 P w K mg base N18 "is_reached" (defScope s18) T.a18 cdv A outer s H E).nox (run n) bf MM (defBody s18) b_is_reached :=
  (cs_cons (cs_ret (ce_cmp ok_eq (op_eqZ hr.units) (ce_b1 ok_len call_len (by decide +kernel) (by decide) (by decide) T.z_len rfl (ce_call L.k17 L.l17 hr T.G17 T.F17.kp T.B17 rfl (ca_cons (ce_v 0 rfl (.inl rfl)) (ca_cons (ce_v 1 rfl (.inl rfl)) ca_nil)))) (ce_b1 ok_len call_len (by decide +kernel) (by decide) (by decide) T.z_len rfl (ce_v 1 rfl (.inl rfl))) (nomark _))) cs_nil)
theorem body19 {T : Tops K mg} {n : Nat} (L : Lv P w K mg base T n) {cdv : Value} {A : Around} {outer : List Env} {s : Shared} {H : Hp} {E : XK} (hr : Room n (A.deeper (envOfC "comes" (defScope s19) s.heap.objs.size T.a19 cdv))) :
    CSs (cxOf CX0 P w K mg base N19 "comes" (defScope s19) T.a19 cdv A outer s H E).nox (run n) bf MM (defBody s19) b_comes :=
  (cs_cons (cs_expr (ce_call L.k3 L.l3 hr T.G3 T.F3.kp T.B3 rfl (ca_cons (ce_v 0 rfl (.inl rfl)) ca_nil))) (cs_cons (cs_expr (ce_call L.k7 L.l7 hr T.G7 T.F7.kp T.B7 rfl (ca_cons (ce_v 0 rfl (.inl rfl)) (ca_cons (ce_v 1 rfl (.inl rfl)) ca_nil)))) (cs_cons (cs_ret (ce_call L.k18 L.l18 hr T.G18 T.F18.kp T.B18 rfl (ca_cons (ce_v 0 rfl (.inl rfl)) (ca_cons (ce_v 1 rfl (.inl rfl)) ca_nil)))) cs_nil)))
theorem body20 {T : Tops K mg} {n : Nat} (L : Lv P w K mg base T n) {cdv : Value} {A : Around} {outer : List Env} {s : Shared} {H : Hp} {E : XK} (hr : Room n (A.deeper (envOfC "greatest_within" (defScope s20) s.heap.objs.size T.a20 cdv))) :
    CSs (cxOf CX0 P w K mg base N20 "greatest_within" (defScope s20) T.a20 cdv A outer s H E).nox (run n) bf MM (defBody s20) b_greatest_within :=
  (cs_cons (cs_expr (ce_call L.k3 L.l3 hr T.G3 T.F3.kp T.B3 rfl (ca_cons (ce_v 0 rfl (.inl rfl)) ca_nil))) (cs_cons (cs_expr (ce_call L.k7 L.l7 hr T.G7 T.F7.kp T.B7 rfl (ca_cons (ce_v 0 rfl (.inl rfl)) (ca_cons (ce_v 1 rfl (.inl rfl)) ca_nil)))) (cs_cons (cs_ret (ce_ty1 ok_tupOf cr_tupOf (by decide +kernel) (by decide) (by decide) T.z_tuple rfl (ce_b1 ok_sorted (cr_sortD hr.units) (by decide +kernel) (by decide) (by decide) T.z_sorted rfl (ce_call L.k17 L.l17 hr T.G17 T.F17.kp T.B17 rfl (ca_cons (ce_v 0 rfl (.inl rfl)) (ca_cons (ce_v 1 rfl (.inl rfl)) ca_nil)))))) cs_nil)))
theorem body21 {T : Tops K mg} {n : Nat} (L : Lv P w K mg base T n) {cdv : Value} {A : Around} {outer : List Env} {s : Shared} {H : Hp} {E : XK} (hr : Room n (A.deeper (envOfC "stuck" (defScope s21) s.heap.objs.size T.a21 cdv))) :
    CSs (cxOf CX0 P w K mg base N21 "stuck" (defScope s21) T.a21 cdv A outer s H E).nox (run n) bf MM (defBody s21) b_stuck :=
  (cs_cons (cs_expr (ce_call L.k3 L.l3 hr T.G3 T.F3.kp T.B3 rfl (ca_cons (ce_v 0 rfl (.inl rfl)) ca_nil))) (cs_cons (cs_expr (ce_call L.k7 L.l7 hr T.G7 T.F7.kp T.B7 rfl (ca_cons (ce_v 0 rfl (.inl rfl)) (ca_cons (ce_v 1 rfl (.inl rfl)) ca_nil)))) (cs_cons (cs_set 2 (ce_call L.k17 L.l17 hr T.G17 T.F17.kp T.B17 rfl (ca_cons (ce_v 0 rfl (.inl rfl)) (ca_cons (ce_v 1 rfl (.inl rfl)) ca_nil))) sc21.nd rfl (.inr rfl)) (cs_cons (cs_ret (ce_ty1 ok_tupOf cr_tupOf (by decide +kernel) (by decide) (by decide) T.z_tuple rfl (ce_lc (own := [("line", 3)]) (t := .n 3) rfl sc21.nd (fun _ h => h) (ci_seq (ce_v 1 rfl (.inl rfl))) (blkX (N := N21) (sc := (defScope s21)) (by decide +kernel)) (fun _ _ _ _ _ => (cg_n 3 sc21.nd rfl (.inl rfl))) (fun _ _ _ _ _ => (pts1 (ct_cmp ok_notIn (op_notInZD hr.units) (ce_v 3 rfl (.inl rfl)) (ce_v 2 rfl (.inr (.inl rfl))) (by with_unfolding_all rfl)))) (fun _ _ _ _ _ => (ce_v 3 rfl (.inl rfl)))))) cs_nil))))
theorem body22 {T : Tops K mg} {n : Nat} (L : Lv P w K mg base T n) {cdv : Value} {A : Around} {outer : List Env} {s : Shared} {H : Hp} {E : XK} (hr : Room n (A.deeper (envOfC "some_strikes" (defScope s22) s.heap.objs.size T.a22 cdv))) :
    CSs (cxOf CX0 P w K mg base N22 "some_strikes" (defScope s22) T.a22 cdv A outer s H E).nox (run n) bf MM (defBody s22) b_some_strikes :=
  (cs_cons (cs_expr (ce_call L.k3 L.l3 hr T.G3 T.F3.kp T.B3 rfl (ca_cons (ce_v 0 rfl (.inl rfl)) ca_nil))) (cs_cons (cs_expr (ce_call L.k7 L.l7 hr T.G7 T.F7.kp T.B7 rfl (ca_cons (ce_v 0 rfl (.inl rfl)) (ca_cons (ce_v 1 rfl (.inl rfl)) ca_nil)))) (cs_cons (cs_set 2 (ce_call L.k17 L.l17 hr T.G17 T.F17.kp T.B17 rfl (ca_cons (ce_v 0 rfl (.inl rfl)) (ca_cons (ce_v 1 rfl (.inl rfl)) ca_nil))) sc22.nd rfl (.inl rfl)) (cs_cons (cs_ret (ce_ite (ct_cmp ok_eq (op_eqZ hr.units) (ce_b1 ok_len call_len (by decide +kernel) (by decide) (by decide) T.z_len rfl (ce_v 2 rfl (.inl rfl))) (ce_b1 ok_len call_len (by decide +kernel) (by decide) (by decide) T.z_len rfl (ce_v 1 rfl (.inl rfl))) (nomark _)) (ce_ty1 ok_tupOf cr_tupOf (by decide +kernel) (by decide) (by decide) T.z_tuple rfl (ce_v 2 rfl (.inl rfl))) ce_non)) cs_nil))))
theorem body23 {T : Tops K mg} {n : Nat} (L : Lv P w K mg base T n) {cdv : Value} {A : Around} {outer : List Env} {s : Shared} {H : Hp} {E : XK} (hr : Room n (A.deeper (envOfC "shows_strikes" (defScope s23) s.heap.objs.size T.a23 cdv))) :
    CSs (cxOf CX0 P w K mg base N23 "shows_strikes" (defScope s23) T.a23 cdv A outer s H E).nox (run n) bf MM (defBody s23) b_shows_strikes :=
  (cs_cons (cs_expr (ce_call L.k3 L.l3 hr T.G3 T.F3.kp T.B3 rfl (ca_cons (ce_v 0 rfl (.inl rfl)) ca_nil))) (cs_cons (cs_expr (ce_call L.k7 L.l7 hr T.G7 T.F7.kp T.B7 rfl (ca_cons (ce_v 0 rfl (.inl rfl)) (ca_cons (ce_v 1 rfl (.inl rfl)) ca_nil)))) (cs_cons (cs_ret (ce_and (ce_isi ok_isTup (by decide +kernel) (by decide) (by decide) T.z_isinstance T.z_tuple rfl rfl (ce_v 2 rfl (.inl rfl))) (ce_one (ce_cmp ok_eq (op_eqZ hr.units) (ce_call L.k14 L.l14 hr T.G14 T.F14.kp T.B14 rfl (ca_cons (ce_v 0 rfl (.inl rfl)) (ca_cons (ce_v 2 rfl (.inl rfl)) ca_nil))) (ce_v 1 rfl (.inl rfl)) (nomark _))))) cs_nil)))
theorem body24 {T : Tops K mg} {n : Nat} (L : Lv P w K mg base T n) {cdv : Value} {A : Around} {outer : List Env} {s : Shared} {H : Hp} {E : XK} (hr : Room n (A.deeper (envOfC "_law_taken" (defScope s24) s.heap.objs.size T.a24 cdv))) :
    CSs (cxOf CX0 P w K mg base N24 "_law_taken" (defScope s24) T.a24 cdv A outer s H E).nox (run n) bf MM (defBody s24) b__law_taken :=
  (cs_cons (cs_ite (ct_cmp ok_IB op_gt (ce_idx hr.units (fun _ _ => rfl) (ce_v 0 rfl (.inl rfl)) ce_int) ce_int (nomark _)) (cs_cons (cs_set 2 (ce_bin ok_IC op_mod (ce_ty1 ok_int1 call_int1 (by decide +kernel) (by decide) (by decide) T.z_int rfl (ce_idx hr.units (fun _ _ => rfl) (ce_v 0 rfl (.inl rfl)) ce_int)) (ce_v 1 rfl (.inl rfl))) sc24.nd rfl (.inl rfl)) (cs_cons (cs_setL hr.units 0 rfl (.inl rfl) (by decide) (by decide) ce_int (ce_bin ok_IC op_fdiv (ce_idx hr.units (fun _ _ => rfl) (ce_v 0 rfl (.inl rfl)) ce_int) (ce_v 1 rfl (.inl rfl)))) (cs_cons (cs_ret (ce_v 2 rfl (.inl rfl))) cs_nil))) cs_nil) (cs_cons (cs_setL hr.units 0 rfl (.inl rfl) (by decide) (by decide) ce_int (ce_bin ok_add op_addZ (ce_idx hr.units (fun _ _ => rfl) (ce_v 0 rfl (.inl rfl)) ce_int) ce_int)) (cs_cons (cs_ite (ct_cmp ok_IB op_gt (ce_idx hr.units (fun _ _ => rfl) (ce_v 0 rfl (.inl rfl)) ce_int) (ce_b1 ok_len call_len (by decide +kernel) (by decide) (by decide) T.z_len rfl (ce_idx hr.units (fun _ _ => rfl) (ce_v 0 rfl (.inl rfl)) ce_int)) (nomark _)) (cs_cons (cs_setL hr.units 0 rfl (.inl rfl) (by decide) (by decide) ce_int (ce_bin ok_IC op_mod (ce_ty1 ok_int1 call_int1 (by decide +kernel) (by decide) (by decide) T.z_int rfl (ce_bin ok_add op_addZ (ce_bin ok_IC op_mulZ (ce_idx hr.units (fun _ _ => rfl) (ce_v 0 rfl (.inl rfl)) ce_int) ce_int) ce_int)) ce_int)) (cs_cons (cs_ret (ce_bin ok_IC op_mod (ce_ty1 ok_int1 call_int1 (by decide +kernel) (by decide) (by decide) T.z_int rfl (ce_bin ok_IC op_fdiv (ce_idx hr.units (fun _ _ => rfl) (ce_v 0 rfl (.inl rfl)) ce_int) ce_int)) (ce_v 1 rfl (.inl rfl)))) cs_nil)) cs_nil) (cs_cons (cs_set 3 (ce_idx hr.units (fun _ _ => rfl) (ce_idx hr.units (fun _ _ => rfl) (ce_v 0 rfl (.inl rfl)) ce_int) (ce_bin ok_I2 op_sub (ce_idx hr.units (fun _ _ => rfl) (ce_v 0 rfl (.inl rfl)) ce_int) ce_int)) sc24.nd rfl (.inl rfl)) (cs_cons (cs_setL hr.units 0 rfl (.inl rfl) (by decide) (by decide) ce_int (ce_bin ok_IC op_mod (ce_ty1 ok_int1 call_int1 (by decide +kernel) (by decide) (by decide) T.z_int rfl (ce_bin ok_add op_addZ (ce_bin ok_add op_addZ (ce_bin ok_IC op_mulZ (ce_idx hr.units (fun _ _ => rfl) (ce_v 0 rfl (.inl rfl)) ce_int) ce_int) (ce_v 3 rfl (.inl rfl))) ce_int)) ce_int)) (cs_cons (cs_ite (ct_cmp ok_IB op_ge (ce_v 3 rfl (.inl rfl)) (ce_bin ok_IC op_pow ce_int ce_int) (nomark _)) (cs_cons (cs_setL hr.units 0 rfl (.inl rfl) (by decide) (by decide) ce_int (ce_bin ok_IC op_fdiv (ce_v 3 rfl (.inl rfl)) (ce_v 1 rfl (.inl rfl)))) cs_nil) cs_nil) (cs_cons (cs_ret (ce_bin ok_IC op_mod (ce_ty1 ok_int1 call_int1 (by decide +kernel) (by decide) (by decide) T.z_int rfl (ce_v 3 rfl (.inl rfl))) (ce_v 1 rfl (.inl rfl)))) cs_nil)))))))
theorem body25 {T : Tops K mg} {n : Nat} (L : Lv P w K mg base T n) {cdv : Value} {A : Around} {outer : List Env} {s : Shared} {H : Hp} {E : XK} (hr : Room n (A.deeper (envOfC "_law_pick" (defScope s25) s.heap.objs.size T.a25 cdv))) :
    CSs (cxOf CX0 P w K mg base N25 "_law_pick" (defScope s25) T.a25 cdv A outer s H E).nox (run n) bf MM (defBody s25) b__law_pick :=
  (cs_cons (cs_ret (ce_idx hr.units (fun _ _ => rfl) (ce_v 1 rfl (.inl rfl)) (ce_call L.k24 L.l24 hr T.G24 T.F24.kp T.B24 rfl (ca_cons (ce_v 0 rfl (.inl rfl)) (ca_cons (ce_b1 ok_len call_len (by decide +kernel) (by decide) (by decide) T.z_len rfl (ce_v 1 rfl (.inl rfl))) ca_nil))))) cs_nil)
theorem body26 {T : Tops K mg} {n : Nat} (L : Lv P w K mg base T n) {cdv : Value} {A : Around} {outer : List Env} {s : Shared} {H : Hp} {E : XK} (hr : Room n (A.deeper (envOfC "_law_alike" (defScope s26) s.heap.objs.size T.a26 cdv))) :
    CSs (cxOf CX0 P w K mg base N26 "_law_alike" (defScope s26) T.a26 cdv A outer s H E).nox (run n) bf MM (defBody s26) b__law_alike :=
  (cs_cons (cs_ite (ct_of (fun _ h => pt_val h) (ce_isi2 is_TL (by decide +kernel) (by decide +kernel) (by decide) (by decide) (by decide) (by decide) T.z_isinstance T.z_tuple T.z_list rfl rfl rfl (ce_v 1 rfl (.inr (.inl rfl))))) (cs_cons (cs_ite (PW.pt (ct_or (ct_not (ct_of (fun _ h => pt_val h) (ce_isi2 is_TL (by decide +kernel) (by decide +kernel) (by decide) (by decide) (by decide) (by decide) T.z_isinstance T.z_tuple T.z_list rfl rfl rfl (ce_v 0 rfl (.inr (.inl rfl)))))) (ct_or1 (ct_cmp ok_ne (op_neZ hr.units) (ce_isi ok_isList (by decide +kernel) (by decide) (by decide) T.z_isinstance T.z_list rfl rfl (ce_v 0 rfl (.inr (.inl rfl)))) (ce_isi ok_isList (by decide +kernel) (by decide) (by decide) T.z_isinstance T.z_list rfl rfl (ce_v 1 rfl (.inr (.inl rfl)))) (nomark _))))) (cs_cons (cs_ret ce_bl) cs_nil) cs_nil) (cs_cons (cs_ite (ct_cmp ok_ne (op_neZ hr.units) (ce_b1 ok_len call_len (by decide +kernel) (by decide) (by decide) T.z_len rfl (ce_v 0 rfl (.inr (.inl rfl)))) (ce_b1 ok_len call_len (by decide +kernel) (by decide) (by decide) T.z_len rfl (ce_v 1 rfl (.inr (.inl rfl)))) (nomark _)) (cs_cons (cs_ret ce_bl) cs_nil) cs_nil) (cs_cons (cs_ret (ce_cmp ok_eq (op_eqZ hr.units) (ce_lc (own := [("_law_k", 2)]) (t := .n 2) rfl sc26.nd (fun _ h => h) (ci_range1 rfl T.z_range (ce_b1 ok_len call_len (by decide +kernel) (by decide) (by decide) T.z_len rfl (ce_v 1 rfl (.inr (.inl rfl))))) (blkX (N := N26) (sc := (defScope s26)) (by decide +kernel)) (fun _ _ _ _ _ => (cg_n 2 sc26.nd rfl (.inl rfl))) (fun _ _ _ _ _ => (pts1 (ct_not (ct_of (fun _ h => pt_val h) (ce_call L.k26 L.l26 hr T.G26 T.F26.kp T.B26 rfl (ca_cons (ce_idx hr.units (fun _ _ => rfl) (ce_v 0 rfl (.inr (.inl rfl))) (ce_v 2 rfl (.inl rfl))) (ca_cons (ce_idx hr.units (fun _ _ => rfl) (ce_v 1 rfl (.inr (.inl rfl))) (ce_v 2 rfl (.inl rfl))) ca_nil))))))) (fun _ _ _ _ _ => (ce_v 2 rfl (.inl rfl)))) (ce_lst cv_nil (lenZ rfl)) (nomark _))) cs_nil))) cs_nil) (cs_cons (cs_ite (PW.pt (ct_or (ct_isN (ce_v 1 rfl (.inr (.inl rfl)))) (ct_or1 (ct_of (fun _ h => pt_val h) (ce_isi ok_isStr (by decide +kernel) (by decide) (by decide) T.z_isinstance T.z_str rfl rfl (ce_v 1 rfl (.inr (.inl rfl)))))))) (cs_cons (cs_ret (ce_and (ce_cmp ok_eq (op_eqZ hr.units) (ce_v 0 rfl (.inr (.inl rfl))) (ce_v 1 rfl (.inr (.inl rfl))) (nomark _)) (ce_one (ce_cmp ok_eq (op_eqZ hr.units) (ce_isi ok_isStr (by decide +kernel) (by decide) (by decide) T.z_isinstance T.z_str rfl rfl (ce_v 0 rfl (.inr (.inl rfl)))) (ce_isi ok_isStr (by decide +kernel) (by decide) (by decide) T.z_isinstance T.z_str rfl rfl (ce_v 1 rfl (.inr (.inl rfl)))) (nomark _))))) cs_nil) cs_nil) (cs_cons (cs_ret (ce_and (ce_isi ok_isInt (by decide +kernel) (by decide) (by decide) T.z_isinstance T.z_int rfl rfl (ce_v 0 rfl (.inr (.inl rfl)))) (ce_and (ce_cmp ok_eq (op_eqZ hr.units) (ce_isi ok_isBool (by decide +kernel) (by decide) (by decide) T.z_isinstance T.z_bool rfl rfl (ce_v 0 rfl (.inr (.inl rfl)))) (ce_isi ok_isBool (by decide +kernel) (by decide) (by decide) T.z_isinstance T.z_bool rfl rfl (ce_v 1 rfl (.inr (.inl rfl)))) (nomark _)) (ce_one (ce_cmp ok_eq (op_eqZ hr.units) (ce_v 0 rfl (.inr (.inl rfl))) (ce_v 1 rfl (.inr (.inl rfl))) (nomark _)))))) cs_nil)))
theorem body27 {T : Tops K mg} {n : Nat} (L : Lv P w K mg base T n) {cdv : Value} {A : Around} {outer : List Env} {s : Shared} {H : Hp} {E : XK} (hr : Room n (A.deeper (envOfC "_law_is" (defScope s27) s.heap.objs.size T.a27 cdv))) :
    CSs (cxOf CX0 P w K mg base N27 "_law_is" (defScope s27) T.a27 cdv A outer s H E).nox (run n) bf MM (defBody s27) b__law_is :=
  (cs_cons (cs_ret (ce_and (ce_isi ok_isBool (by decide +kernel) (by decide) (by decide) T.z_isinstance T.z_bool rfl rfl (ce_v 0 rfl (.inl rfl))) (ce_one (ce_cmp ok_eq (op_eqZ hr.units) (ce_v 0 rfl (.inl rfl)) (ce_v 1 rfl (.inl rfl)) (nomark _))))) cs_nil)
theorem body28 {T : Tops K mg} {n : Nat} (L : Lv P w K mg base T n) {cdv : Value} {A : Around} {outer : List Env} {s : Shared} {H : Hp} {E : XK} (hr : Room n (A.deeper (envOfC "_law_board" (defScope s28) s.heap.objs.size T.a28 cdv))) :
    CSs (cxOf CX0 P w K mg base N28 "_law_board" (defScope s28) T.a28 cdv A outer s H E).nox (run n) bf MM (defBody s28) b__law_board :=
  (cs_cons (cs_par3 (i := 4) (j := 5) (l := 6) rfl sc28.nd rfl rfl rfl (by decide) (by decide) (by decide) (fun h => ps_par3 rfl sc28.nd rfl rfl rfl (by decide) (by decide) (by decide) rfl rfl rfl h rfl) (cl_cons (ce_bin ok_add op_addZ ce_int (ce_call L.k24 L.l24 hr T.G24 T.F24.kp T.B24 rfl (ca_cons (ce_v 0 rfl (.inr (.inl rfl))) (ca_cons (ce_v 1 rfl (.inl rfl)) ca_nil)))) (cl_cons (ce_bin ok_add op_addZ ce_int (ce_call L.k24 L.l24 hr T.G24 T.F24.kp T.B24 rfl (ca_cons (ce_v 0 rfl (.inr (.inl rfl))) (ca_cons (ce_v 2 rfl (.inl rfl)) ca_nil)))) (cl_cons (ce_lst cv_nil (lenZ rfl)) cl_nil)))) (cs_cons (cs_par2 (i := 7) (j := 8) rfl sc28.nd rfl rfl (by decide) rfl rfl (cl_cons (ce_bin ok_mulS op_mulS (ce_lst (cv_cons ce_int cv_nil) (lenZ rfl)) (ce_v 4 rfl (.inl rfl))) (cl_cons (ce_bin ok_mulS op_mulS (ce_lst (cv_cons ce_int cv_nil) (lenZ rfl)) (ce_v 5 rfl (.inl rfl))) cl_nil)) rfl) (cs_cons (cs_ite (ct_cmp ok_IB op_gt (ce_call L.k24 L.l24 hr T.G24 T.F24.kp T.B24 rfl (ca_cons (ce_v 0 rfl (.inr (.inl rfl))) (ca_cons ce_int ca_nil))) ce_int (nomark _)) (cs_cons (cs_setLc 7 (hk := rfl) (hy := rfl) (hyl := rfl) (hl := by rfl) (hany := by decide +kernel) (own := [("_law_one", 9)]) (t := .n 9) rfl sc28.nd (fun _ h => h) (ci_seq (ce_v 7 rfl (.inl rfl))) (blkX (N := N28) (sc := (defScope s28)) (by decide +kernel)) (fun _ _ _ _ _ => (cg_n 9 sc28.nd rfl (.inl rfl))) (fun _ _ _ _ _ => pts0) (fun _ _ _ _ _ => (ce_bin ok_IC op_mulZ ce_int (ce_call L.k24 L.l24 hr T.G24 T.F24.kp T.B24 rfl (ca_cons (ce_v 0 rfl (.inr (.inl rfl))) (ca_cons ce_int ca_nil)))))) (cs_cons (cs_setLc 8 (hk := rfl) (hy := rfl) (hyl := rfl) (hl := by rfl) (hany := by decide +kernel) (own := [("_law_one", 9)]) (t := .n 9) rfl sc28.nd (fun _ h => h) (ci_seq (ce_v 8 rfl (.inl rfl))) (blkX (N := N28) (sc := (defScope s28)) (by decide +kernel)) (fun _ _ _ _ _ => (cg_n 9 sc28.nd rfl (.inl rfl))) (fun _ _ _ _ _ => pts0) (fun _ _ _ _ _ => (ce_bin ok_IC op_mulZ ce_int (ce_call L.k24 L.l24 hr T.G24 T.F24.kp T.B24 rfl (ca_cons (ce_v 0 rfl (.inr (.inl rfl))) (ca_cons ce_int ca_nil)))))) cs_nil)) cs_nil) (cs_cons (cs_for PassesOwn.never rfl (ci_range1 rfl T.z_range (ce_v 4 rfl (.inl rfl))) (cg_n 9 sc28.nd rfl (.inl rfl)) (cs_cons (cs_set 10 (ce_lst cv_nil (lenZ rfl)) sc28.nd rfl (.inl rfl)) (cs_cons (cs_for PassesOwn.never rfl (ci_range1 rfl T.z_range (ce_v 5 rfl (.inl rfl))) (cg_n 11 sc28.nd rfl (.inl rfl)) (cs_cons (cs_app 10 rfl (.inl rfl) (by decide) (by decide) (ce_tup (cv_cons (ce_bin ok_add op_addZ (ce_idx hr.units (fun _ _ => rfl) (ce_v 7 rfl (.inl rfl)) (ce_v 9 rfl (.inl rfl))) (ce_call L.k24 L.l24 hr T.G24 T.F24.kp T.B24 rfl (ca_cons (ce_v 0 rfl (.inr (.inl rfl))) (ca_cons (ce_v 3 rfl (.inl rfl)) ca_nil)))) (cv_cons (ce_bin ok_I2 op_sub (ce_bin ok_add op_addZ (ce_idx hr.units (fun _ _ => rfl) (ce_v 8 rfl (.inl rfl)) (ce_v 11 rfl (.inl rfl))) (ce_call L.k24 L.l24 hr T.G24 T.F24.kp T.B24 rfl (ca_cons (ce_v 0 rfl (.inr (.inl rfl))) (ca_cons (ce_v 3 rfl (.inl rfl)) ca_nil)))) ce_int) cv_nil)) (lenZ rfl))) cs_nil)) (cs_cons (cs_app 6 rfl (.inl rfl) (by decide) (by decide) (ce_ty1 ok_tupOf cr_tupOf (by decide +kernel) (by decide) (by decide) T.z_tuple rfl (ce_v 10 rfl (.inl rfl)))) cs_nil)))) (cs_cons (cs_ret (ce_ty1 ok_tupOf cr_tupOf (by decide +kernel) (by decide) (by decide) T.z_tuple rfl (ce_v 6 rfl (.inl rfl)))) cs_nil)))))
theorem body29 {T : Tops K mg} {n : Nat} (L : Lv P w K mg base T n) {cdv : Value} {A : Around} {outer : List Env} {s : Shared} {H : Hp} {E : XK} (hr : Room n (A.deeper (envOfC "_law_rows" (defScope s29) s.heap.objs.size T.a29 cdv))) :
    CSs (cxOf CX0 P w K mg base N29 "_law_rows" (defScope s29) T.a29 cdv A outer s H E).nox (run n) bf MM (defBody s29) b__law_rows :=
  (cs_cons (cs_ret (ce_lc (own := [("_law_one", 2)]) (t := .n 2) rfl sc29.nd (fun _ h => h) (ci_range1 rfl T.z_range (ce_b1 ok_len call_len (by decide +kernel) (by decide) (by decide) T.z_len rfl (ce_v 0 rfl (.inl rfl)))) (blkX (N := N29) (sc := (defScope s29)) (by decide +kernel)) (fun _ _ _ _ _ => (cg_n 2 sc29.nd rfl (.inl rfl))) (fun _ _ _ _ _ => (pts1 (ct_cmp ok_notIn (op_notInZD hr.units) (ce_v 2 rfl (.inl rfl)) (ce_v 1 rfl (.inr (.inl rfl))) (by with_unfolding_all rfl)))) (fun _ _ _ _ _ => (ce_v 2 rfl (.inl rfl))))) cs_nil)
theorem body30 {T : Tops K mg} {n : Nat} (L : Lv P w K mg base T n) {cdv : Value} {A : Around} {outer : List Env} {s : Shared} {H : Hp} {E : XK} (hr : Room n (A.deeper (envOfC "_law_columns" (defScope s30) s.heap.objs.size T.a30 cdv))) :
    CSs (cxOf CX0 P w K mg base N30 "_law_columns" (defScope s30) T.a30 cdv A outer s H E).nox (run n) bf MM (defBody s30) b__law_columns :=
  (cs_cons (cs_ret (ce_lc (own := [("_law_one", 2)]) (t := .n 2) rfl sc30.nd (fun _ h => h) (ci_range2 rfl T.z_range (ce_b1 ok_len call_len (by decide +kernel) (by decide) (by decide) T.z_len rfl (ce_v 0 rfl (.inl rfl))) (ce_bin ok_add op_addZ (ce_b1 ok_len call_len (by decide +kernel) (by decide) (by decide) T.z_len rfl (ce_v 0 rfl (.inl rfl))) (ce_b1 ok_len call_len (by decide +kernel) (by decide) (by decide) T.z_len rfl (ce_idx hr.units (fun _ _ => rfl) (ce_v 0 rfl (.inl rfl)) ce_int)))) (blkX (N := N30) (sc := (defScope s30)) (by decide +kernel)) (fun _ _ _ _ _ => (cg_n 2 sc30.nd rfl (.inl rfl))) (fun _ _ _ _ _ => (pts1 (ct_cmp ok_notIn (op_notInZD hr.units) (ce_v 2 rfl (.inl rfl)) (ce_v 1 rfl (.inr (.inl rfl))) (by with_unfolding_all rfl)))) (fun _ _ _ _ _ => (ce_v 2 rfl (.inl rfl))))) cs_nil)
theorem body31 {T : Tops K mg} {n : Nat} (L : Lv P w K mg base T n) {cdv : Value} {A : Around} {outer : List Env} {s : Shared} {H : Hp} {E : XK} (hr : Room n (A.deeper (envOfC "_law_numbers" (defScope s31) s.heap.objs.size T.a31 cdv))) :
    CSs (cxOf CX0 P w K mg base N31 "_law_numbers" (defScope s31) T.a31 cdv A outer s H E).nox (run n) bf MM (defBody s31) b__law_numbers :=
  (cs_cons (cs_ite (ct_cmp ok_IB op_lt (ce_v 2 rfl (.inr (.inl rfl))) (ce_b1 ok_len call_len (by decide +kernel) (by decide) (by decide) T.z_len rfl (ce_v 0 rfl (.inr (.inl rfl)))) (nomark _)) (cs_cons (cs_ret (ce_lc (own := [("_law_one", 3)]) (t := .n 3) rfl sc31.nd (fun _ h => h) (ci_seq (ce_call L.k30 L.l30 hr T.G30 T.F30.kp T.B30 rfl (ca_cons (ce_v 0 rfl (.inr (.inl rfl))) (ca_cons (ce_v 1 rfl (.inl rfl)) ca_nil)))) (blkX (N := N31) (sc := (defScope s31)) (by decide +kernel)) (fun _ _ _ _ _ => (cg_n 3 sc31.nd rfl (.inl rfl))) (fun _ _ _ _ _ => pts0) (fun _ _ _ _ _ => (ce_idx hr.units (fun _ _ => rfl) (ce_idx hr.units (fun _ _ => rfl) (ce_idx hr.units (fun _ _ => rfl) (ce_v 0 rfl (.inr (.inl rfl))) (ce_v 2 rfl (.inr (.inl rfl)))) (ce_bin ok_I2 op_sub (ce_v 3 rfl (.inl rfl)) (ce_b1 ok_len call_len (by decide +kernel) (by decide) (by decide) T.z_len rfl (ce_v 0 rfl (.inr (.inl rfl)))))) ce_int)))) cs_nil) cs_nil) (cs_cons (cs_ret (ce_lc (own := [("_law_one", 3)]) (t := .n 3) rfl sc31.nd (fun _ h => h) (ci_seq (ce_call L.k29 L.l29 hr T.G29 T.F29.kp T.B29 rfl (ca_cons (ce_v 0 rfl (.inr (.inl rfl))) (ca_cons (ce_v 1 rfl (.inl rfl)) ca_nil)))) (blkX (N := N31) (sc := (defScope s31)) (by decide +kernel)) (fun _ _ _ _ _ => (cg_n 3 sc31.nd rfl (.inl rfl))) (fun _ _ _ _ _ => pts0) (fun _ _ _ _ _ => (ce_idx hr.units (fun _ _ => rfl) (ce_idx hr.units (fun _ _ => rfl) (ce_idx hr.units (fun _ _ => rfl) (ce_v 0 rfl (.inr (.inl rfl))) (ce_v 3 rfl (.inl rfl))) (ce_bin ok_I2 op_sub (ce_v 2 rfl (.inr (.inl rfl))) (ce_b1 ok_len call_len (by decide +kernel) (by decide) (by decide) T.z_len rfl (ce_v 0 rfl (.inr (.inl rfl)))))) ce_int)))) cs_nil))
theorem body32 {T : Tops K mg} {n : Nat} (L : Lv P w K mg base T n) {cdv : Value} {A : Around} {outer : List Env} {s : Shared} {H : Hp} {E : XK} (hr : Room n (A.deeper (envOfC "_law_over" (defScope s32) s.heap.objs.size T.a32 cdv))) :
    CSs (cxOf CX0 P w K mg base N32 "_law_over" (defScope s32) T.a32 cdv A outer s H E).nox (run n) bf MM (defBody s32) b__law_over :=
  (cs_cons (cs_set 3 (ce_ite (ct_cmp ok_IB op_lt (ce_v 2 rfl (.inl rfl)) (ce_b1 ok_len call_len (by decide +kernel) (by decide) (by decide) T.z_len rfl (ce_v 0 rfl (.inl rfl))) (nomark _)) (ce_call L.k29 L.l29 hr T.G29 T.F29.kp T.B29 rfl (ca_cons (ce_v 0 rfl (.inl rfl)) (ca_cons (ce_v 1 rfl (.inl rfl)) ca_nil))) (ce_call L.k30 L.l30 hr T.G30 T.F30.kp T.B30 rfl (ca_cons (ce_v 0 rfl (.inl rfl)) (ca_cons (ce_v 1 rfl (.inl rfl)) ca_nil)))) sc32.nd rfl (.inl rfl)) (cs_cons (cs_parT2 rfl (by decide) (pg_name (i := 4) sc32.nd rfl (.inr rfl)) (pg_name (i := 5) sc32.nd rfl (.inl rfl)) (cl_cons (ce_call L.k31 L.l31 hr T.G31 T.F31.kp T.B31 rfl (ca_cons (ce_v 0 rfl (.inl rfl)) (ca_cons (ce_v 1 rfl (.inl rfl)) (ca_cons (ce_v 2 rfl (.inl rfl)) ca_nil)))) (cl_cons (ce_lst cv_nil (lenZ rfl)) cl_nil)) (hw := rfl)) (cs_cons (cs_for PassesOwn.never rfl (ci_seq (ce_v 3 rfl (.inl rfl))) (cg_n 6 sc32.nd rfl (.inl rfl)) (cs_cons (cs_set 7 (ce_call L.k31 L.l31 hr T.G31 T.F31.kp T.B31 rfl (ca_cons (ce_v 0 rfl (.inl rfl)) (ca_cons (ce_v 1 rfl (.inl rfl)) (ca_cons (ce_v 6 rfl (.inl rfl)) ca_nil)))) sc32.nd rfl (.inr rfl)) (cs_cons (cs_ite (ct_cmp ok_eq (op_eqZ hr.units) (ce_lc (own := [("_law_at", 8)]) (t := .n 8) rfl sc32.nd (fun _ h => h) (ci_range1 rfl T.z_range (ce_b1 ok_len call_len (by decide +kernel) (by decide) (by decide) T.z_len rfl (ce_v 4 rfl (.inr (.inl rfl))))) (blkX (N := N32) (sc := (defScope s32)) (by decide +kernel)) (fun _ _ _ _ _ => (cg_n 8 sc32.nd rfl (.inl rfl))) (fun _ _ _ _ _ => (pts1 (ct_cmp ok_IB op_le (ce_idx hr.units (fun _ _ => rfl) (ce_v 7 rfl (.inr (.inl rfl))) (ce_v 8 rfl (.inl rfl))) (ce_idx hr.units (fun _ _ => rfl) (ce_v 4 rfl (.inr (.inl rfl))) (ce_v 8 rfl (.inl rfl))) (nomark _)))) (fun _ _ _ _ _ => (ce_v 8 rfl (.inl rfl)))) (ce_lst cv_nil (lenZ rfl)) (nomark _)) (cs_cons (cs_app 5 rfl (.inl rfl) (by decide) (by decide) (ce_v 6 rfl (.inl rfl))) cs_nil) cs_nil) cs_nil))) (cs_cons (cs_ret (ce_v 5 rfl (.inl rfl))) cs_nil))))
theorem body33 {T : Tops K mg} {n : Nat} (L : Lv P w K mg base T n) {cdv : Value} {A : Around} {outer : List Env} {s : Shared} {H : Hp} {E : XK} (hr : Room n (A.deeper (envOfC "_law_ready" (defScope s33) s.heap.objs.size T.a33 cdv))) :
    CSs (cxOf CX0 P w K mg base N33 "_law_ready" (defScope s33) T.a33 cdv A outer s H E).nox (run n) bf MM (defBody s33) b__law_ready :=
  (cs_cons (cs_ret (ce_lc (own := [("_law_line", 2)]) (t := .n 2) rfl sc33.nd (fun _ h => h) (ci_seq (ce_bin ok_add op_addZ (ce_call L.k29 L.l29 hr T.G29 T.F29.kp T.B29 rfl (ca_cons (ce_v 0 rfl (.inr (.inl rfl))) (ca_cons (ce_v 1 rfl (.inr (.inl rfl))) ca_nil))) (ce_call L.k30 L.l30 hr T.G30 T.F30.kp T.B30 rfl (ca_cons (ce_v 0 rfl (.inr (.inl rfl))) (ca_cons (ce_v 1 rfl (.inr (.inl rfl))) ca_nil))))) (blkX (N := N33) (sc := (defScope s33)) (by decide +kernel)) (fun _ _ _ _ _ => (cg_n 2 sc33.nd rfl (.inl rfl))) (fun _ _ _ _ _ => (pts1 (ct_cmp ok_ne (op_neZ hr.units) (ce_call L.k32 L.l32 hr T.G32 T.F32.kp T.B32 rfl (ca_cons (ce_v 0 rfl (.inr (.inl rfl))) (ca_cons (ce_v 1 rfl (.inr (.inl rfl))) (ca_cons (ce_v 2 rfl (.inl rfl)) ca_nil)))) (ce_lst cv_nil (lenZ rfl)) (nomark _)))) (fun _ _ _ _ _ => (ce_v 2 rfl (.inl rfl))))) cs_nil)
theorem body34 {T : Tops K mg} {n : Nat} (L : Lv P w K mg base T n) {cdv : Value} {A : Around} {outer : List Env} {s : Shared} {H : Hp} {E : XK} (hr : Room n (A.deeper (envOfC "_law_with" (defScope s34) s.heap.objs.size T.a34 cdv))) :
    CSs (cxOf CX0 P w K mg base N34 "_law_with" (defScope s34) T.a34 cdv A outer s H E).nox (run n) bf MM (defBody s34) b__law_with :=
  (cs_cons (cs_ret (ce_ty1 ok_tupOf cr_tupOf (by decide +kernel) (by decide) (by decide) T.z_tuple rfl (ce_b1 ok_sortT (cr_sortT rfl hr.units) (by decide +kernel) (by decide) (by decide) T.z_sorted rfl (ce_bin ok_add op_addZ (ce_v 0 rfl (.inl rfl)) (ce_tup (cv_cons (ce_v 1 rfl (.inl rfl)) cv_nil) (lenZ rfl)))))) cs_nil)
theorem body35 {T : Tops K mg} {n : Nat} (L : Lv P w K mg base T n) {cdv : Value} {A : Around} {outer : List Env} {s : Shared} {H : Hp} {E : XK} (hr : Room n (A.deeper (envOfC "_law_all" (defScope s35) s.heap.objs.size T.a35 cdv))) :
    CSs (cxOf CX0 P w K mg base N35 "_law_all" (defScope s35) T.a35 cdv A outer s H E).nox (run n) bf MM (defBody s35) b__law_all :=
  (cs_cons (cs_par2 (i := 1) (j := 2) rfl sc35.nd rfl rfl (by decide) rfl rfl (cl_cons (ce_dict1 hr.units (ce_tup cv_nil (lenZ rfl)) ce_int) (cl_cons (ce_dict1 hr.units (ce_tup cv_nil (lenZ rfl)) ce_int) cl_nil)) rfl) (cs_cons (cs_whl PassesOwn.never (ct_cmp ok_neE (op_neE hr.units) (ce_v 2 rfl (.inl rfl)) ce_dnew (nomark _)) (cs_cons (cs_set 3 ce_dnew sc35.nd rfl (.inl rfl)) (cs_cons (cs_for PassesOwn.never rfl (ci_seq (ce_ty1 ok_lstD (cr_lstD rfl) (by decide +kernel) (by decide) (by decide) T.z_list rfl (ce_v 2 rfl (.inl rfl)))) (cg_n 4 sc35.nd rfl (.inl rfl)) (cs_cons (cs_for PassesOwn.never rfl (ci_seq (ce_call L.k33 L.l33 hr T.G33 T.F33.kp T.B33 rfl (ca_cons (ce_v 0 rfl (.inl rfl)) (ca_cons (ce_v 4 rfl (.inl rfl)) ca_nil)))) (cg_n 5 sc35.nd rfl (.inl rfl)) (cs_cons (cs_set 6 (ce_call L.k34 L.l34 hr T.G34 T.F34.kp T.B34 rfl (ca_cons (ce_v 4 rfl (.inl rfl)) (ca_cons (ce_v 5 rfl (.inl rfl)) ca_nil))) sc35.nd rfl (.inl rfl)) (cs_cons (cs_setL hr.units 3 rfl (.inl rfl) (by decide) (by decide) (ce_v 6 rfl (.inl rfl)) (ce_bin ok_add op_addZ (ce_get hr.units (ce_v 3 rfl (.inl rfl)) (ca_cons (ce_v 6 rfl (.inl rfl)) (ca_cons ce_int ca_nil))) (ce_idx hr.units (fun _ _ => rfl) (ce_v 2 rfl (.inl rfl)) (ce_v 4 rfl (.inl rfl))))) cs_nil))) cs_nil)) (cs_cons (cs_for PassesOwn.never rfl (ci_seq (ce_ty1 ok_lstD (cr_lstD rfl) (by decide +kernel) (by decide) (by decide) T.z_list rfl (ce_v 3 rfl (.inl rfl)))) (cg_n 4 sc35.nd rfl (.inl rfl)) (cs_cons (cs_setL hr.units 1 rfl (.inl rfl) (by decide) (by decide) (ce_v 4 rfl (.inl rfl)) (ce_idx hr.units (fun _ _ => rfl) (ce_v 3 rfl (.inl rfl)) (ce_v 4 rfl (.inl rfl)))) cs_nil)) (cs_cons (cs_set 2 (ce_v 3 rfl (.inl rfl)) sc35.nd rfl (.inl rfl)) cs_nil))))) (cs_cons (cs_ret (ce_v 1 rfl (.inl rfl))) cs_nil)))
theorem body36 {T : Tops K mg} {n : Nat} (L : Lv P w K mg base T n) {cdv : Value} {A : Around} {outer : List Env} {s : Shared} {H : Hp} {E : XK} (hr : Room n (A.deeper (envOfC "_law_drawn" (defScope s36) s.heap.objs.size T.a36 cdv))) :
    CSs (cxOf CX0 P w K mg base N36 "_law_drawn" (defScope s36) T.a36 cdv A outer s H E).nox (run n) bf MM (defBody s36) b__law_drawn :=
  (cs_cons (cs_parT2 rfl (by decide) (pg_name (i := 3) sc36.nd rfl (.inl rfl)) (pg_name (i := 4) sc36.nd rfl (.inl rfl)) (cl_cons (ce_tup cv_nil (lenZ rfl)) (cl_cons (ce_tup cv_nil (lenZ rfl)) cl_nil)) (hw := rfl)) (cs_cons (cs_for PassesOwn.never rfl (ci_range1 rfl T.z_range (ce_v 2 rfl (.inl rfl))) (cg_n 5 sc36.nd rfl (.inl rfl)) (cs_cons (cs_set 6 (ce_call L.k33 L.l33 hr T.G33 T.F33.kp T.B33 rfl (ca_cons (ce_v 1 rfl (.inl rfl)) (ca_cons (ce_v 3 rfl (.inl rfl)) ca_nil))) sc36.nd rfl (.inl rfl)) (cs_cons (cs_ite (ct_cmp ok_ne (op_neZ hr.units) (ce_v 6 rfl (.inl rfl)) (ce_lst cv_nil (lenZ rfl)) (nomark _)) (cs_cons (cs_set 7 (ce_call L.k25 L.l25 hr T.G25 T.F25.kp T.B25 rfl (ca_cons (ce_v 0 rfl (.inl rfl)) (ca_cons (ce_v 6 rfl (.inl rfl)) ca_nil))) sc36.nd rfl (.inl rfl)) (cs_cons (cs_par2 (i := 3) (j := 4) rfl sc36.nd rfl rfl (by decide) rfl rfl (cl_cons (ce_call L.k34 L.l34 hr T.G34 T.F34.kp T.B34 rfl (ca_cons (ce_v 3 rfl (.inl rfl)) (ca_cons (ce_v 7 rfl (.inl rfl)) ca_nil))) (cl_cons (ce_bin ok_add op_addZ (ce_v 4 rfl (.inl rfl)) (ce_tup (cv_cons (ce_v 7 rfl (.inl rfl)) cv_nil) (lenZ rfl))) cl_nil)) rfl) cs_nil)) cs_nil) cs_nil))) (cs_cons (cs_ret (ce_tup (cv_cons (ce_v 4 rfl (.inl rfl)) (cv_cons (ce_v 3 rfl (.inl rfl)) cv_nil)) (lenZ rfl))) cs_nil)))
theorem body37 {T : Tops K mg} {n : Nat} (L : Lv P w K mg base T n) {cdv : Value} {A : Around} {outer : List Env} {s : Shared} {H : Hp} {E : XK} (hr : Room n (A.deeper (envOfC "_law_lot" (defScope s37) s.heap.objs.size T.a37 cdv))) :
    CSs (cxOf CX0 P w K mg base N37 "_law_lot" (defScope s37) T.a37 cdv A outer s H E).nox (run n) bf MM (defBody s37) b__law_lot :=
  (cs_cons (cs_ite (ct_cmp ok_eq (op_eqZ hr.units) (ce_call L.k24 L.l24 hr T.G24 T.F24.kp T.B24 rfl (ca_cons (ce_v 0 rfl (.inl rfl)) (ca_cons ce_int ca_nil))) ce_int (nomark _)) (cs_cons (cs_ret (ce_idx hr.units (fun _ _ => rfl) (ce_call L.k36 L.l36 hr T.G36 T.F36.kp T.B36 rfl (ca_cons (ce_v 0 rfl (.inl rfl)) (ca_cons (ce_v 1 rfl (.inl rfl)) (ca_cons (ce_call L.k24 L.l24 hr T.G24 T.F24.kp T.B24 rfl (ca_cons (ce_v 0 rfl (.inl rfl)) (ca_cons ce_int ca_nil))) ca_nil)))) ce_int)) cs_nil) cs_nil) (cs_cons (cs_parT3 rfl (by decide) (by decide) (by decide) (pg_name (i := 2) sc37.nd rfl (.inr rfl)) (pg_name (i := 3) sc37.nd rfl (.inl rfl)) (pg_name (i := 4) sc37.nd rfl (.inl rfl)) (cl_cons (ce_b1 ok_len call_len (by decide +kernel) (by decide) (by decide) T.z_len rfl (ce_v 1 rfl (.inl rfl))) (cl_cons (ce_b1 ok_len call_len (by decide +kernel) (by decide) (by decide) T.z_len rfl (ce_idx hr.units (fun _ _ => rfl) (ce_v 1 rfl (.inl rfl)) ce_int)) (cl_cons (ce_tup cv_nil (lenZ rfl)) cl_nil))) (hw := rfl)) (cs_cons (cs_for PassesOwn.never rfl (ci_range1 rfl T.z_range (ce_bin ok_add op_addZ (ce_v 2 rfl (.inr (.inl rfl))) (ce_v 3 rfl (.inl rfl)))) (cg_n 5 sc37.nd rfl (.inl rfl)) (cs_cons (cs_ite (ct_cmp ok_eq (op_eqZ hr.units) (ce_call L.k24 L.l24 hr T.G24 T.F24.kp T.B24 rfl (ca_cons (ce_v 0 rfl (.inl rfl)) (ca_cons ce_int ca_nil))) ce_int (nomark _)) (cs_cons (cs_set 4 (ce_bin ok_add op_addZ (ce_v 4 rfl (.inl rfl)) (ce_tup (cv_cons (ce_v 5 rfl (.inl rfl)) cv_nil) (lenZ rfl))) sc37.nd rfl (.inl rfl)) cs_nil) cs_nil) cs_nil)) (cs_cons (cs_setLc 6 (hk := rfl) (hy := rfl) (hyl := rfl) (hl := by rfl) (hany := by decide +kernel) (own := [("_law_line", 5)]) (t := .n 5) rfl sc37.nd (fun _ h => h) (ci_seq (ce_v 4 rfl (.inl rfl))) (blkX (N := N37) (sc := (defScope s37)) (by decide +kernel)) (fun _ _ _ _ _ => (cg_n 5 sc37.nd rfl (.inl rfl))) (fun _ _ _ _ _ => (pts1 (ct_cmp ok_IB op_lt (ce_v 5 rfl (.inl rfl)) (ce_v 2 rfl (.inr (.inl rfl))) (nomark _)))) (fun _ _ _ _ _ => (ce_v 5 rfl (.inl rfl)))) (cs_cons (cs_ite (PW.pt (ct_or (ct_cmp ok_eq (op_eqZ hr.units) (ce_b1 ok_len call_len (by decide +kernel) (by decide) (by decide) T.z_len rfl (ce_v 6 rfl (.inl rfl))) (ce_v 2 rfl (.inr (.inl rfl))) (nomark _)) (ct_or1 (ct_cmp ok_eq (op_eqZ hr.units) (ce_bin ok_I2 op_sub (ce_b1 ok_len call_len (by decide +kernel) (by decide) (by decide) T.z_len rfl (ce_v 4 rfl (.inl rfl))) (ce_b1 ok_len call_len (by decide +kernel) (by decide) (by decide) T.z_len rfl (ce_v 6 rfl (.inl rfl)))) (ce_v 3 rfl (.inl rfl)) (nomark _))))) (cs_cons (cs_ret (ce_tup cv_nil (lenZ rfl))) cs_nil) cs_nil) (cs_cons (cs_ret (ce_v 4 rfl (.inl rfl))) cs_nil))))))
theorem body38 {T : Tops K mg} {n : Nat} (L : Lv P w K mg base T n) {cdv : Value} {A : Around} {outer : List Env} {s : Shared} {H : Hp} {E : XK} (hr : Room n (A.deeper (envOfC "law" (defScope s38) s.heap.objs.size T.a38 cdv))) :
    CSs (cxOf CX0 P w K mg base N38 "law" (defScope s38) T.a38 cdv A outer s H E).nox (run n) bf MM (defBody s38) b_law :=
  (cs_cons (cs_set 1 (ce_lst (cv_cons (ce_v 0 rfl (.inl rfl)) (cv_cons ce_int (cv_cons ce_int (cv_cons ce_int cv_nil)))) (lenZ rfl)) sc38.nd rfl (.inl rfl)) (cs_cons (cs_set 2 (ce_call L.k28 L.l28 hr T.G28 T.F28.kp T.B28 rfl (ca_cons (ce_v 1 rfl (.inl rfl)) (ca_cons ce_int (ca_cons ce_int (ca_cons ce_int ca_nil))))) sc38.nd rfl (.inl rfl)) (cs_cons (cs_parT2 rfl (by decide) (pg_name (i := 3) sc38.nd rfl (.inr rfl)) (pg_name (i := 4) sc38.nd rfl (.inl rfl)) (cl_cons (ce_call L.k37 L.l37 hr T.G37 T.F37.kp T.B37 rfl (ca_cons (ce_v 1 rfl (.inl rfl)) (ca_cons (ce_v 2 rfl (.inl rfl)) ca_nil))) (cl_cons (ce_call L.k35 L.l35 hr T.G35 T.F35.kp T.B35 rfl (ca_cons (ce_v 2 rfl (.inl rfl)) ca_nil)) cl_nil)) (hw := rfl)) (cs_cons (cs_ite (ct_not (ct_of (fun _ h => pt_val h) (ce_call L.k27 L.l27 hr T.G27 T.F27.kp T.B27 rfl (ca_cons (ce_call L.k19 L.l19 hr T.G19 T.F19.kp T.B19 rfl (ca_cons (ce_v 2 rfl (.inl rfl)) (ca_cons (ce_v 3 rfl (.inr (.inl rfl))) ca_nil))) (ca_cons (ce_cmp ok_in (op_inZD hr.units) (ce_v 3 rfl (.inr (.inl rfl))) (ce_v 4 rfl (.inl rfl)) (by with_unfolding_all rfl)) ca_nil))))) (cs_cons (cs_ret ce_bl) cs_nil) cs_nil) (cs_cons (cs_setLc 5 (hk := rfl) (hy := rfl) (hyl := rfl) (hl := by rfl) (hany := by decide +kernel) (own := [("_law_one", 12)]) (t := .n 12) rfl sc38.nd (fun _ h => h) (ci_seq (ce_ty1 ok_lstD (cr_lstD rfl) (by decide +kernel) (by decide) (by decide) T.z_list rfl (ce_v 4 rfl (.inl rfl)))) (blkX (N := N38) (sc := (defScope s38)) (by decide +kernel)) (fun _ _ _ _ _ => (cg_n 12 sc38.nd rfl (.inl rfl))) (fun _ _ _ _ _ => (pts1 (ct_cmp ok_eq (op_eqZ hr.units) (ce_lc (own := [("_law_line", 13)]) (t := .n 13) rfl sc38.nd (fun _ h => h) (ci_seq (ce_v 12 rfl (.inl rfl))) (blkX (N := N38) (sc := (relS _ (defScope s38))) (by decide +kernel)) (fun _ _ _ _ _ => (cg_n 13 sc38.nd rfl (.inl rfl))) (fun _ _ _ _ _ => (pts1 (ct_cmp ok_notIn (op_notInZD hr.units) (ce_v 13 rfl (.inl rfl)) (ce_v 3 rfl (.inr (.inl rfl))) (by with_unfolding_all rfl)))) (fun _ _ _ _ _ => (ce_v 13 rfl (.inl rfl)))) (ce_lst cv_nil (lenZ rfl)) (nomark _)))) (fun _ _ _ _ _ => (ce_v 12 rfl (.inl rfl)))) (cs_cons (cs_set 6 (ce_idx hr.units (fun _ _ => rfl) (ce_b1 ok_maxS (cr_maxS rfl hr.units) (by decide +kernel) (by decide) (by decide) T.z_max rfl (ce_lc (own := [("_law_one", 12)]) (t := .n 12) rfl sc38.nd (fun _ h => h) (ci_seq (ce_v 5 rfl (.inl rfl))) (blkX (N := N38) (sc := (defScope s38)) (by decide +kernel)) (fun _ _ _ _ _ => (cg_n 12 sc38.nd rfl (.inl rfl))) (fun _ _ _ _ _ => pts0) (fun _ _ _ _ _ => (ce_tup (cv_cons (ce_b1 ok_len call_len (by decide +kernel) (by decide) (by decide) T.z_len rfl (ce_v 12 rfl (.inl rfl))) (cv_cons (ce_v 12 rfl (.inl rfl)) cv_nil)) (lenZ rfl))))) ce_int) sc38.nd rfl (.inr rfl)) (cs_cons (cs_ite (ct_cmp ok_ne (op_neZ hr.units) (ce_lc (own := [("_law_one", 12)]) (t := .n 12) rfl sc38.nd (fun _ h => h) (ci_seq (ce_v 5 rfl (.inl rfl))) (blkX (N := N38) (sc := (defScope s38)) (by decide +kernel)) (fun _ _ _ _ _ => (cg_n 12 sc38.nd rfl (.inl rfl))) (fun _ _ _ _ _ => (pts1 (ct_cmp ok_ne (op_neZ hr.units) (ce_lc (own := [("_law_line", 13)]) (t := .n 13) rfl sc38.nd (fun _ h => h) (ci_seq (ce_v 12 rfl (.inl rfl))) (blkX (N := N38) (sc := (relS _ (defScope s38))) (by decide +kernel)) (fun _ _ _ _ _ => (cg_n 13 sc38.nd rfl (.inl rfl))) (fun _ _ _ _ _ => (pts1 (ct_cmp ok_notIn (op_notInZD hr.units) (ce_v 13 rfl (.inl rfl)) (ce_v 6 rfl (.inr (.inl rfl))) (by with_unfolding_all rfl)))) (fun _ _ _ _ _ => (ce_v 13 rfl (.inl rfl)))) (ce_lst cv_nil (lenZ rfl)) (nomark _)))) (fun _ _ _ _ _ => (ce_v 12 rfl (.inl rfl)))) (ce_lst cv_nil (lenZ rfl)) (nomark _)) (cs_cons (cs_ret ce_bl) cs_nil) cs_nil) (cs_cons (cs_set 7 (ce_ty1 ok_tupOf cr_tupOf (by decide +kernel) (by decide) (by decide) T.z_tuple rfl (ce_lc (own := [("_law_line", 13)]) (t := .n 13) rfl sc38.nd (fun _ h => h) (ci_seq (ce_v 3 rfl (.inr (.inl rfl)))) (blkX (N := N38) (sc := (defScope s38)) (by decide +kernel)) (fun _ _ _ _ _ => (cg_n 13 sc38.nd rfl (.inl rfl))) (fun _ _ _ _ _ => (pts1 (ct_cmp ok_notIn (op_notInZD hr.units) (ce_v 13 rfl (.inl rfl)) (ce_v 6 rfl (.inr (.inl rfl))) (by with_unfolding_all rfl)))) (fun _ _ _ _ _ => (ce_v 13 rfl (.inl rfl))))) sc38.nd rfl (.inl rfl)) (cs_cons (cs_ite (ct_not (ct_of (fun _ h => pt_val h) (ce_call L.k26 L.l26 hr T.G26 T.F26.kp T.B26 rfl (ca_cons (ce_lst (cv_cons (ce_call L.k20 L.l20 hr T.G20 T.F20.kp T.B20 rfl (ca_cons (ce_v 2 rfl (.inl rfl)) (ca_cons (ce_v 3 rfl (.inr (.inl rfl))) ca_nil))) (cv_cons (ce_call L.k21 L.l21 hr T.G21 T.F21.kp T.B21 rfl (ca_cons (ce_v 2 rfl (.inl rfl)) (ca_cons (ce_v 3 rfl (.inr (.inl rfl))) ca_nil))) cv_nil)) (lenZ rfl)) (ca_cons (ce_lst (cv_cons (ce_v 6 rfl (.inr (.inl rfl))) (cv_cons (ce_v 7 rfl (.inl rfl)) cv_nil)) (lenZ rfl)) ca_nil))))) (cs_cons (cs_ret ce_bl) cs_nil) cs_nil) (cs_cons (cs_set 8 (ce_call L.k22 L.l22 hr T.G22 T.F22.kp T.B22 rfl (ca_cons (ce_v 2 rfl (.inl rfl)) (ca_cons (ce_v 3 rfl (.inr (.inl rfl))) ca_nil))) sc38.nd rfl (.inl rfl)) (cs_cons (cs_ite (ct_cmp ok_notIn (op_notInZD hr.units) (ce_v 3 rfl (.inr (.inl rfl))) (ce_v 4 rfl (.inl rfl)) (by with_unfolding_all rfl)) (cs_cons (cs_ite (ct_not (PW.pt (ct_and (ct_isN (ce_v 8 rfl (.inl rfl))) (ct_and1 (ct_cmp ok_isB op_isBB (ce_call L.k23 L.l23 hr T.G23 T.F23.kp T.B23 rfl (ca_cons (ce_v 2 rfl (.inl rfl)) (ca_cons (ce_v 3 rfl (.inr (.inl rfl))) (ca_cons (ce_v 3 rfl (.inr (.inl rfl))) ca_nil)))) ce_bl (nomark _)))))) (cs_cons (cs_ret ce_bl) cs_nil) cs_nil) (cs_cons (cs_ret (ce_cmp ok_isB op_isBB (ce_call L.k23 L.l23 hr T.G23 T.F23.kp T.B23 rfl (ca_cons (ce_v 2 rfl (.inl rfl)) (ca_cons (ce_v 3 rfl (.inr (.inl rfl))) (ca_cons ce_non ca_nil)))) ce_bl (nomark _))) cs_nil)) cs_nil) (cs_cons (cs_ite (PW.pt (ct_or (ct_not (ct_of (fun _ h => pt_val h) (ce_isi ok_isTup (by decide +kernel) (by decide) (by decide) T.z_isinstance T.z_tuple rfl rfl (ce_v 8 rfl (.inl rfl))))) (ct_or1 (ct_cmp ok_ne (op_neZ hr.units) (ce_call L.k16 L.l16 hr T.G16 T.F16.kp T.B16 rfl (ca_cons (ce_v 2 rfl (.inl rfl)) (ca_cons (ce_v 8 rfl (.inl rfl)) ca_nil))) (ce_v 3 rfl (.inr (.inl rfl))) (nomark _))))) (cs_cons (cs_ret ce_bl) cs_nil) cs_nil) (cs_cons (cs_ite (ct_cmp ok_notB op_notBB (ce_call L.k23 L.l23 hr T.G23 T.F23.kp T.B23 rfl (ca_cons (ce_v 2 rfl (.inl rfl)) (ca_cons (ce_v 3 rfl (.inr (.inl rfl))) (ca_cons (ce_v 8 rfl (.inl rfl)) ca_nil)))) ce_bl (nomark _)) (cs_cons (cs_ret ce_bl) cs_nil) cs_nil) (cs_cons (cs_put (ce_call L.k36 L.l36 hr T.G36 T.F36.kp T.B36 rfl (ca_cons (ce_v 1 rfl (.inl rfl)) (ca_cons (ce_v 2 rfl (.inl rfl)) (ca_cons (ce_call L.k24 L.l24 hr T.G24 T.F24.kp T.B24 rfl (ca_cons (ce_v 1 rfl (.inl rfl)) (ca_cons ce_int ca_nil))) ca_nil)))) (cg_t rfl (cg_n 9 sc38.nd rfl (.inl rfl)) (cg_n 10 sc38.nd rfl (.inl rfl)))) (cs_cons (cs_ite (ct_not (ct_of (fun _ h => pt_val h) (ce_call L.k27 L.l27 hr T.G27 T.F27.kp T.B27 rfl (ca_cons (ce_call L.k23 L.l23 hr T.G23 T.F23.kp T.B23 rfl (ca_cons (ce_v 2 rfl (.inl rfl)) (ca_cons (ce_v 3 rfl (.inr (.inl rfl))) (ca_cons (ce_v 9 rfl (.inl rfl)) ca_nil)))) (ca_cons (ce_cmp ok_eq (op_eqZ hr.units) (ce_v 10 rfl (.inl rfl)) (ce_v 3 rfl (.inr (.inl rfl))) (nomark _)) ca_nil))))) (cs_cons (cs_ret ce_bl) cs_nil) cs_nil) (cs_cons (cs_ite (ct_cmp ok_notB op_notBB (ce_call L.k23 L.l23 hr T.G23 T.F23.kp T.B23 rfl (ca_cons (ce_v 2 rfl (.inl rfl)) (ca_cons (ce_v 10 rfl (.inl rfl)) (ca_cons (ce_v 9 rfl (.inl rfl)) ca_nil)))) ce_bl (nomark _)) (cs_cons (cs_ret ce_bl) cs_nil) cs_nil) (cs_cons (cs_set 11 (ce_call L.k25 L.l25 hr T.G25 T.F25.kp T.B25 rfl (ca_cons (ce_v 1 rfl (.inl rfl)) (ca_cons (ce_lst (cv_cons ce_non (cv_cons ce_int (cv_cons (ce_bin ok_add op_addZ (ce_ty1 ok_lstOf cr_lstOf (by decide +kernel) (by decide) (by decide) T.z_list rfl (ce_v 8 rfl (.inl rfl))) (ce_lst (cv_cons ce_int cv_nil) (lenZ rfl))) (cv_cons (ce_bin ok_add op_addZ (ce_v 8 rfl (.inl rfl)) (ce_tup (cv_cons ce_bl cv_nil) (lenZ rfl))) (cv_cons (ce_bin ok_add op_addZ (ce_v 8 rfl (.inl rfl)) (ce_tup (cv_cons ce_int cv_nil) (lenZ rfl))) (cv_cons ce_str (cv_cons (ce_bin ok_add op_addZ (ce_v 8 rfl (.inl rfl)) (ce_tup (cv_cons (ce_tup (cv_cons ce_int cv_nil) (lenZ rfl)) cv_nil) (lenZ rfl))) cv_nil))))))) (lenZ rfl)) ca_nil))) sc38.nd rfl (.inl rfl)) (cs_cons (cs_ret (ce_cmp ok_isB op_isBB (ce_call L.k23 L.l23 hr T.G23 T.F23.kp T.B23 rfl (ca_cons (ce_v 2 rfl (.inl rfl)) (ca_cons (ce_v 3 rfl (.inr (.inl rfl))) (ca_cons (ce_v 11 rfl (.inl rfl)) ca_nil)))) ce_bl (nomark _))) cs_nil))))))))))))))))))
theorem lv (T : Tops K mg) : ∀ n, Lv P w K mg base T n
  | 0 => ⟨fn_zero, fun _ _ e => (nomatch e), fn_zero, fun _ _ e => (nomatch e), fn_zero, fun _ _ e => (nomatch e), fn_zero, fun _ _ e => (nomatch e), fn_zero, fun _ _ e => (nomatch e), fn_zero, fun _ _ e => (nomatch e), fn_zero, fun _ _ e => (nomatch e), fn_zero, fun _ _ e => (nomatch e), fn_zero, fun _ _ e => (nomatch e), fn_zero, fun _ _ e => (nomatch e), fn_zero, fun _ _ e => (nomatch e), fn_zero, fun _ _ e => (nomatch e), fn_zero, fun _ _ e => (nomatch e), fn_zero, fun _ _ e => (nomatch e), fn_zero, fun _ _ e => (nomatch e), fn_zero, fun _ _ e => (nomatch e), fn_zero, fun _ _ e => (nomatch e), fn_zero, fun _ _ e => (nomatch e), fn_zero, fun _ _ e => (nomatch e), fn_zero, fun _ _ e => (nomatch e), fn_zero, fun _ _ e => (nomatch e), fn_zero, fun _ _ e => (nomatch e), fn_zero, fun _ _ e => (nomatch e), fn_zero, fun _ _ e => (nomatch e), fn_zero, fun _ _ e => (nomatch e), fn_zero, fun _ _ e => (nomatch e), fn_zero, fun _ _ e => (nomatch e), fn_zero, fun _ _ e => (nomatch e), fn_zero, fun _ _ e => (nomatch e), fn_zero, fun _ _ e => (nomatch e), fn_zero, fun _ _ e => (nomatch e), fn_zero, fun _ _ e => (nomatch e), fn_zero, fun _ _ e => (nomatch e), fn_zero, fun _ _ e => (nomatch e), fn_zero, fun _ _ e => (nomatch e), fn_zero, fun _ _ e => (nomatch e), fn_zero, fun _ _ e => (nomatch e), fn_zero, fun _ _ e => (nomatch e), fn_zero, fun _ _ e => (nomatch e)⟩
  | n + 1 => ⟨fn_ok T.F0 sc0 (fun _ _ _ _ _ _ hr => body0 (lv T n) hr) (fun _ _ e => e), fun _ _ e => callBody_len e,
      fn_ok T.F1 sc1 (fun _ _ _ _ _ _ hr => body1 (lv T n) hr) (fun _ _ e => e), fun _ _ e => callBody_len e,
      fn_ok T.F2 sc2 (fun _ _ _ _ _ _ hr => body2 (lv T n) hr) (fun _ _ e => e), fun _ _ e => callBody_len e,
      fn_ok T.F3 sc3 (fun _ _ _ _ _ _ hr => body3 (lv T n) hr) (fun _ _ e => e), fun _ _ e => callBody_len e,
      fn_ok T.F4 sc4 (fun _ _ _ _ _ _ hr => body4 (lv T n) hr) (fun _ _ e => e), fun _ _ e => callBody_len e,
      fn_ok T.F5 sc5 (fun _ _ _ _ _ _ hr => body5 (lv T n) hr) (fun _ _ e => e), fun _ _ e => callBody_len e,
      fn_ok T.F6 sc6 (fun _ _ _ _ _ _ hr => body6 (lv T n) hr) (fun _ _ e => e), fun _ _ e => callBody_len e,
      fn_ok T.F7 sc7 (fun _ _ _ _ _ _ hr => body7 (lv T n) hr) (fun _ _ e => e), fun _ _ e => callBody_len e,
      fn_ok T.F8 sc8 (fun _ _ _ _ _ _ hr => body8 (lv T n) hr) (fun _ _ e => e), fun _ _ e => callBody_len e,
      fn_ok T.F9 sc9 (fun _ _ _ _ _ _ hr => body9 (lv T n) hr) (fun _ _ e => e), fun _ _ e => callBody_len e,
      fn_ok T.F10 sc10 (fun _ _ _ _ _ _ hr => body10 (lv T n) hr) (fun _ _ e => e), fun _ _ e => callBody_len e,
      fn_ok T.F11 sc11 (fun _ _ _ _ _ _ hr => body11 (lv T n) hr) (fun _ _ e => e), fun _ _ e => callBody_len e,
      fn_ok T.F12 sc12 (fun _ _ _ _ _ _ hr => body12 (lv T n) hr) (fun _ _ e => e), fun _ _ e => callBody_len e,
      fn_ok T.F13 sc13 (fun _ _ _ _ _ _ hr => body13 (lv T n) hr) (fun _ _ e => e), fun _ _ e => callBody_len e,
      fn_ok T.F14 sc14 (fun _ _ _ _ _ _ hr => body14 (lv T n) hr) (fun _ _ e => e), fun _ _ e => callBody_len e,
      fn_ok T.F15 sc15 (fun _ _ _ _ _ _ hr => body15 (lv T n) hr) (fun _ _ e => e), fun _ _ e => callBody_len e,
      fn_ok T.F16 sc16 (fun _ _ _ _ _ _ hr => body16 (lv T n) hr) (fun _ _ e => e), fun _ _ e => callBody_len e,
      fn_ok T.F17 sc17 (fun _ _ _ _ _ _ hr => body17 (lv T n) hr) (fun _ _ e => e), fun _ _ e => callBody_len e,
      fn_ok T.F18 sc18 (fun _ _ _ _ _ _ hr => body18 (lv T n) hr) (fun _ _ e => e), fun _ _ e => callBody_len e,
      fn_ok T.F19 sc19 (fun _ _ _ _ _ _ hr => body19 (lv T n) hr) (fun _ _ e => e), fun _ _ e => callBody_len e,
      fn_ok T.F20 sc20 (fun _ _ _ _ _ _ hr => body20 (lv T n) hr) (fun _ _ e => e), fun _ _ e => callBody_len e,
      fn_ok T.F21 sc21 (fun _ _ _ _ _ _ hr => body21 (lv T n) hr) (fun _ _ e => e), fun _ _ e => callBody_len e,
      fn_ok T.F22 sc22 (fun _ _ _ _ _ _ hr => body22 (lv T n) hr) (fun _ _ e => e), fun _ _ e => callBody_len e,
      fn_ok T.F23 sc23 (fun _ _ _ _ _ _ hr => body23 (lv T n) hr) (fun _ _ e => e), fun _ _ e => callBody_len e,
      fn_ok T.F24 sc24 (fun _ _ _ _ _ _ hr => body24 (lv T n) hr) (fun _ _ e => e), fun _ _ e => callBody_len e,
      fn_ok T.F25 sc25 (fun _ _ _ _ _ _ hr => body25 (lv T n) hr) (fun _ _ e => e), fun _ _ e => callBody_len e,
      fn_ok T.F26 sc26 (fun _ _ _ _ _ _ hr => body26 (lv T n) hr) (fun _ _ e => e), fun _ _ e => callBody_len e,
      fn_ok T.F27 sc27 (fun _ _ _ _ _ _ hr => body27 (lv T n) hr) (fun _ _ e => e), fun _ _ e => callBody_len e,
      fn_ok T.F28 sc28 (fun _ _ _ _ _ _ hr => body28 (lv T n) hr) (fun _ _ e => e), fun _ _ e => callBody_len e,
      fn_ok T.F29 sc29 (fun _ _ _ _ _ _ hr => body29 (lv T n) hr) (fun _ _ e => e), fun _ _ e => callBody_len e,
      fn_ok T.F30 sc30 (fun _ _ _ _ _ _ hr => body30 (lv T n) hr) (fun _ _ e => e), fun _ _ e => callBody_len e,
      fn_ok T.F31 sc31 (fun _ _ _ _ _ _ hr => body31 (lv T n) hr) (fun _ _ e => e), fun _ _ e => callBody_len e,
      fn_ok T.F32 sc32 (fun _ _ _ _ _ _ hr => body32 (lv T n) hr) (fun _ _ e => e), fun _ _ e => callBody_len e,
      fn_ok T.F33 sc33 (fun _ _ _ _ _ _ hr => body33 (lv T n) hr) (fun _ _ e => e), fun _ _ e => callBody_len e,
      fn_ok T.F34 sc34 (fun _ _ _ _ _ _ hr => body34 (lv T n) hr) (fun _ _ e => e), fun _ _ e => callBody_len e,
      fn_ok T.F35 sc35 (fun _ _ _ _ _ _ hr => body35 (lv T n) hr) (fun _ _ e => e), fun _ _ e => callBody_len e,
      fn_ok T.F36 sc36 (fun _ _ _ _ _ _ hr => body36 (lv T n) hr) (fun _ _ e => e), fun _ _ e => callBody_len e,
      fn_ok T.F37 sc37 (fun _ _ _ _ _ _ hr => body37 (lv T n) hr) (fun _ _ e => e), fun _ _ e => callBody_len e,
      fn_ok T.F38 sc38 (fun _ _ _ _ _ _ hr => body38 (lv T n) hr) (fun _ _ e => e), fun _ _ e => callBody_len e⟩
end
end L2.Z.K01

namespace L2.Z.K01
open PySem PySem.Spec PyProof.Rows L2 L2.Z
theorem all_mk {l : PySem.W.OpenLaw} {w : World} {K : PySem.W.Frag} {h : Heap} {mg : Str → Option Value} {fa : Addr} (X : K.In h) (G : h.Ns mainGlobals mg) (hfa : mg "law" = some (.ref fa))
    {od0 an0 : Option Addr} {sl0 : Array (Option Value)} {oc0 kV0 dc0 pm0 cd0 ct0 : Value} {f0 : Addr}
    (a0 : PySem.W.nsIn K mainGlobals "is_int" = some (some (.ref f0))) (l0 : K.lookup f0 = some ⟨oc0, od0, .func (PySem.W.fnOf "is_int" "is_int" (defArgs s0) (defBody s0) (defScope s0) .none kV0 dc0 pm0 an0 cd0 ct0), sl0⟩) (c0 : PySem.W.codeIn K cd0 "is_int" = true) (k0 : PySem.W.keepIn K (.ref f0) = true)
    {od1 an1 : Option Addr} {sl1 : Array (Option Value)} {oc1 kV1 dc1 pm1 cd1 ct1 : Value} {f1 : Addr}
    (a1 : PySem.W.nsIn K mainGlobals "is_from" = some (some (.ref f1))) (l1 : K.lookup f1 = some ⟨oc1, od1, .func (PySem.W.fnOf "is_from" "is_from" (defArgs s1) (defBody s1) (defScope s1) .none kV1 dc1 pm1 an1 cd1 ct1), sl1⟩) (c1 : PySem.W.codeIn K cd1 "is_from" = true) (k1 : PySem.W.keepIn K (.ref f1) = true)
    {od2 an2 : Option Addr} {sl2 : Array (Option Value)} {oc2 kV2 dc2 pm2 cd2 ct2 : Value} {f2 : Addr}
    (a2 : PySem.W.nsIn K mainGlobals "is_place" = some (some (.ref f2))) (l2 : K.lookup f2 = some ⟨oc2, od2, .func (PySem.W.fnOf "is_place" "is_place" (defArgs s2) (defBody s2) (defScope s2) .none kV2 dc2 pm2 an2 cd2 ct2), sl2⟩) (c2 : PySem.W.codeIn K cd2 "is_place" = true) (k2 : PySem.W.keepIn K (.ref f2) = true)
    {od3 an3 : Option Addr} {sl3 : Array (Option Value)} {oc3 kV3 dc3 pm3 cd3 ct3 : Value} {f3 : Addr}
    (a3 : PySem.W.nsIn K mainGlobals "need_board" = some (some (.ref f3))) (l3 : K.lookup f3 = some ⟨oc3, od3, .func (PySem.W.fnOf "need_board" "need_board" (defArgs s3) (defBody s3) (defScope s3) .none kV3 dc3 pm3 an3 cd3 ct3), sl3⟩) (c3 : PySem.W.codeIn K cd3 "need_board" = true) (k3 : PySem.W.keepIn K (.ref f3) = true)
    {od4 an4 : Option Addr} {sl4 : Array (Option Value)} {oc4 kV4 dc4 pm4 cd4 ct4 : Value} {f4 : Addr}
    (a4 : PySem.W.nsIn K mainGlobals "sides" = some (some (.ref f4))) (l4 : K.lookup f4 = some ⟨oc4, od4, .func (PySem.W.fnOf "sides" "sides" (defArgs s4) (defBody s4) (defScope s4) .none kV4 dc4 pm4 an4 cd4 ct4), sl4⟩) (c4 : PySem.W.codeIn K cd4 "sides" = true) (k4 : PySem.W.keepIn K (.ref f4) = true)
    {od5 an5 : Option Addr} {sl5 : Array (Option Value)} {oc5 kV5 dc5 pm5 cd5 ct5 : Value} {f5 : Addr}
    (a5 : PySem.W.nsIn K mainGlobals "lines_of" = some (some (.ref f5))) (l5 : K.lookup f5 = some ⟨oc5, od5, .func (PySem.W.fnOf "lines_of" "lines_of" (defArgs s5) (defBody s5) (defScope s5) .none kV5 dc5 pm5 an5 cd5 ct5), sl5⟩) (c5 : PySem.W.codeIn K cd5 "lines_of" = true) (k5 : PySem.W.keepIn K (.ref f5) = true)
    {od6 an6 : Option Addr} {sl6 : Array (Option Value)} {oc6 kV6 dc6 pm6 cd6 ct6 : Value} {f6 : Addr}
    (a6 : PySem.W.nsIn K mainGlobals "is_lot" = some (some (.ref f6))) (l6 : K.lookup f6 = some ⟨oc6, od6, .func (PySem.W.fnOf "is_lot" "is_lot" (defArgs s6) (defBody s6) (defScope s6) .none kV6 dc6 pm6 an6 cd6 ct6), sl6⟩) (c6 : PySem.W.codeIn K cd6 "is_lot" = true) (k6 : PySem.W.keepIn K (.ref f6) = true)
    {od7 an7 : Option Addr} {sl7 : Array (Option Value)} {oc7 kV7 dc7 pm7 cd7 ct7 : Value} {f7 : Addr}
    (a7 : PySem.W.nsIn K mainGlobals "need_lot" = some (some (.ref f7))) (l7 : K.lookup f7 = some ⟨oc7, od7, .func (PySem.W.fnOf "need_lot" "need_lot" (defArgs s7) (defBody s7) (defScope s7) .none kV7 dc7 pm7 an7 cd7 ct7), sl7⟩) (c7 : PySem.W.codeIn K cd7 "need_lot" = true) (k7 : PySem.W.keepIn K (.ref f7) = true)
    {od8 an8 : Option Addr} {sl8 : Array (Option Value)} {oc8 kV8 dc8 pm8 cd8 ct8 : Value} {f8 : Addr}
    (a8 : PySem.W.nsIn K mainGlobals "left_of" = some (some (.ref f8))) (l8 : K.lookup f8 = some ⟨oc8, od8, .func (PySem.W.fnOf "left_of" "left_of" (defArgs s8) (defBody s8) (defScope s8) .none kV8 dc8 pm8 an8 cd8 ct8), sl8⟩) (c8 : PySem.W.codeIn K cd8 "left_of" = true) (k8 : PySem.W.keepIn K (.ref f8) = true)
    {od9 an9 : Option Addr} {sl9 : Array (Option Value)} {oc9 kV9 dc9 pm9 cd9 ct9 : Value} {f9 : Addr}
    (a9 : PySem.W.nsIn K mainGlobals "numbers" = some (some (.ref f9))) (l9 : K.lookup f9 = some ⟨oc9, od9, .func (PySem.W.fnOf "numbers" "numbers" (defArgs s9) (defBody s9) (defScope s9) .none kV9 dc9 pm9 an9 cd9 ct9), sl9⟩) (c9 : PySem.W.codeIn K cd9 "numbers" = true) (k9 : PySem.W.keepIn K (.ref f9) = true)
    {od10 an10 : Option Addr} {sl10 : Array (Option Value)} {oc10 kV10 dc10 pm10 cd10 ct10 : Value} {f10 : Addr}
    (a10 : PySem.W.nsIn K mainGlobals "same_side" = some (some (.ref f10))) (l10 : K.lookup f10 = some ⟨oc10, od10, .func (PySem.W.fnOf "same_side" "same_side" (defArgs s10) (defBody s10) (defScope s10) .none kV10 dc10 pm10 an10 cd10 ct10), sl10⟩) (c10 : PySem.W.codeIn K cd10 "same_side" = true) (k10 : PySem.W.keepIn K (.ref f10) = true)
    {od11 an11 : Option Addr} {sl11 : Array (Option Value)} {oc11 kV11 dc11 pm11 cd11 ct11 : Value} {f11 : Addr}
    (a11 : PySem.W.nsIn K mainGlobals "is_greater" = some (some (.ref f11))) (l11 : K.lookup f11 = some ⟨oc11, od11, .func (PySem.W.fnOf "is_greater" "is_greater" (defArgs s11) (defBody s11) (defScope s11) .none kV11 dc11 pm11 an11 cd11 ct11), sl11⟩) (c11 : PySem.W.codeIn K cd11 "is_greater" = true) (k11 : PySem.W.keepIn K (.ref f11) = true)
    {od12 an12 : Option Addr} {sl12 : Array (Option Value)} {oc12 kV12 dc12 pm12 cd12 ct12 : Value} {f12 : Addr}
    (a12 : PySem.W.nsIn K mainGlobals "can_fall" = some (some (.ref f12))) (l12 : K.lookup f12 = some ⟨oc12, od12, .func (PySem.W.fnOf "can_fall" "can_fall" (defArgs s12) (defBody s12) (defScope s12) .none kV12 dc12 pm12 an12 cd12 ct12), sl12⟩) (c12 : PySem.W.codeIn K cd12 "can_fall" = true) (k12 : PySem.W.keepIn K (.ref f12) = true)
    {od13 an13 : Option Addr} {sl13 : Array (Option Value)} {oc13 kV13 dc13 pm13 cd13 ct13 : Value} {f13 : Addr}
    (a13 : PySem.W.nsIn K mainGlobals "with_line" = some (some (.ref f13))) (l13 : K.lookup f13 = some ⟨oc13, od13, .func (PySem.W.fnOf "with_line" "with_line" (defArgs s13) (defBody s13) (defScope s13) .none kV13 dc13 pm13 an13 cd13 ct13), sl13⟩) (c13 : PySem.W.codeIn K cd13 "with_line" = true) (k13 : PySem.W.keepIn K (.ref f13) = true)
    {od14 an14 : Option Addr} {sl14 : Array (Option Value)} {oc14 kV14 dc14 pm14 cd14 ct14 : Value} {f14 : Addr}
    (a14 : PySem.W.nsIn K mainGlobals "run" = some (some (.ref f14))) (l14 : K.lookup f14 = some ⟨oc14, od14, .func (PySem.W.fnOf "run" "run" (defArgs s14) (defBody s14) (defScope s14) .none kV14 dc14 pm14 an14 cd14 ct14), sl14⟩) (c14 : PySem.W.codeIn K cd14 "run" = true) (k14 : PySem.W.keepIn K (.ref f14) = true)
    {od15 an15 : Option Addr} {sl15 : Array (Option Value)} {oc15 kV15 dc15 pm15 cd15 ct15 : Value} {f15 : Addr}
    (a15 : PySem.W.nsIn K mainGlobals "need_strikes" = some (some (.ref f15))) (l15 : K.lookup f15 = some ⟨oc15, od15, .func (PySem.W.fnOf "need_strikes" "need_strikes" (defArgs s15) (defBody s15) (defScope s15) .none kV15 dc15 pm15 an15 cd15 ct15), sl15⟩) (c15 : PySem.W.codeIn K cd15 "need_strikes" = true) (k15 : PySem.W.keepIn K (.ref f15) = true)
    {od16 an16 : Option Addr} {sl16 : Array (Option Value)} {oc16 kV16 dc16 pm16 cd16 ct16 : Value} {f16 : Addr}
    (a16 : PySem.W.nsIn K mainGlobals "play" = some (some (.ref f16))) (l16 : K.lookup f16 = some ⟨oc16, od16, .func (PySem.W.fnOf "play" "play" (defArgs s16) (defBody s16) (defScope s16) .none kV16 dc16 pm16 an16 cd16 ct16), sl16⟩) (c16 : PySem.W.codeIn K cd16 "play" = true) (k16 : PySem.W.keepIn K (.ref f16) = true)
    {od17 an17 : Option Addr} {sl17 : Array (Option Value)} {oc17 kV17 dc17 pm17 cd17 ct17 : Value} {f17 : Addr}
    (a17 : PySem.W.nsIn K mainGlobals "closure" = some (some (.ref f17))) (l17 : K.lookup f17 = some ⟨oc17, od17, .func (PySem.W.fnOf "closure" "closure" (defArgs s17) (defBody s17) (defScope s17) .none kV17 dc17 pm17 an17 cd17 ct17), sl17⟩) (c17 : PySem.W.codeIn K cd17 "closure" = true) (k17 : PySem.W.keepIn K (.ref f17) = true)
    {od18 an18 : Option Addr} {sl18 : Array (Option Value)} {oc18 kV18 dc18 pm18 cd18 ct18 : Value} {f18 : Addr}
    (a18 : PySem.W.nsIn K mainGlobals "is_reached" = some (some (.ref f18))) (l18 : K.lookup f18 = some ⟨oc18, od18, .func (PySem.W.fnOf "is_reached" "is_reached" (defArgs s18) (defBody s18) (defScope s18) .none kV18 dc18 pm18 an18 cd18 ct18), sl18⟩) (c18 : PySem.W.codeIn K cd18 "is_reached" = true) (k18 : PySem.W.keepIn K (.ref f18) = true)
    {od19 an19 : Option Addr} {sl19 : Array (Option Value)} {oc19 kV19 dc19 pm19 cd19 ct19 : Value} {f19 : Addr}
    (a19 : PySem.W.nsIn K mainGlobals "comes" = some (some (.ref f19))) (l19 : K.lookup f19 = some ⟨oc19, od19, .func (PySem.W.fnOf "comes" "comes" (defArgs s19) (defBody s19) (defScope s19) .none kV19 dc19 pm19 an19 cd19 ct19), sl19⟩) (c19 : PySem.W.codeIn K cd19 "comes" = true) (k19 : PySem.W.keepIn K (.ref f19) = true)
    {od20 an20 : Option Addr} {sl20 : Array (Option Value)} {oc20 kV20 dc20 pm20 cd20 ct20 : Value} {f20 : Addr}
    (a20 : PySem.W.nsIn K mainGlobals "greatest_within" = some (some (.ref f20))) (l20 : K.lookup f20 = some ⟨oc20, od20, .func (PySem.W.fnOf "greatest_within" "greatest_within" (defArgs s20) (defBody s20) (defScope s20) .none kV20 dc20 pm20 an20 cd20 ct20), sl20⟩) (c20 : PySem.W.codeIn K cd20 "greatest_within" = true) (k20 : PySem.W.keepIn K (.ref f20) = true)
    {od21 an21 : Option Addr} {sl21 : Array (Option Value)} {oc21 kV21 dc21 pm21 cd21 ct21 : Value} {f21 : Addr}
    (a21 : PySem.W.nsIn K mainGlobals "stuck" = some (some (.ref f21))) (l21 : K.lookup f21 = some ⟨oc21, od21, .func (PySem.W.fnOf "stuck" "stuck" (defArgs s21) (defBody s21) (defScope s21) .none kV21 dc21 pm21 an21 cd21 ct21), sl21⟩) (c21 : PySem.W.codeIn K cd21 "stuck" = true) (k21 : PySem.W.keepIn K (.ref f21) = true)
    {od22 an22 : Option Addr} {sl22 : Array (Option Value)} {oc22 kV22 dc22 pm22 cd22 ct22 : Value} {f22 : Addr}
    (a22 : PySem.W.nsIn K mainGlobals "some_strikes" = some (some (.ref f22))) (l22 : K.lookup f22 = some ⟨oc22, od22, .func (PySem.W.fnOf "some_strikes" "some_strikes" (defArgs s22) (defBody s22) (defScope s22) .none kV22 dc22 pm22 an22 cd22 ct22), sl22⟩) (c22 : PySem.W.codeIn K cd22 "some_strikes" = true) (k22 : PySem.W.keepIn K (.ref f22) = true)
    {od23 an23 : Option Addr} {sl23 : Array (Option Value)} {oc23 kV23 dc23 pm23 cd23 ct23 : Value} {f23 : Addr}
    (a23 : PySem.W.nsIn K mainGlobals "shows_strikes" = some (some (.ref f23))) (l23 : K.lookup f23 = some ⟨oc23, od23, .func (PySem.W.fnOf "shows_strikes" "shows_strikes" (defArgs s23) (defBody s23) (defScope s23) .none kV23 dc23 pm23 an23 cd23 ct23), sl23⟩) (c23 : PySem.W.codeIn K cd23 "shows_strikes" = true) (k23 : PySem.W.keepIn K (.ref f23) = true)
    {od24 an24 : Option Addr} {sl24 : Array (Option Value)} {oc24 kV24 dc24 pm24 cd24 ct24 : Value} {f24 : Addr}
    (a24 : PySem.W.nsIn K mainGlobals "_law_taken" = some (some (.ref f24))) (l24 : K.lookup f24 = some ⟨oc24, od24, .func (PySem.W.fnOf "_law_taken" "_law_taken" (defArgs s24) (defBody s24) (defScope s24) .none kV24 dc24 pm24 an24 cd24 ct24), sl24⟩) (c24 : PySem.W.codeIn K cd24 "_law_taken" = true) (k24 : PySem.W.keepIn K (.ref f24) = true)
    {od25 an25 : Option Addr} {sl25 : Array (Option Value)} {oc25 kV25 dc25 pm25 cd25 ct25 : Value} {f25 : Addr}
    (a25 : PySem.W.nsIn K mainGlobals "_law_pick" = some (some (.ref f25))) (l25 : K.lookup f25 = some ⟨oc25, od25, .func (PySem.W.fnOf "_law_pick" "_law_pick" (defArgs s25) (defBody s25) (defScope s25) .none kV25 dc25 pm25 an25 cd25 ct25), sl25⟩) (c25 : PySem.W.codeIn K cd25 "_law_pick" = true) (k25 : PySem.W.keepIn K (.ref f25) = true)
    {od26 an26 : Option Addr} {sl26 : Array (Option Value)} {oc26 kV26 dc26 pm26 cd26 ct26 : Value} {f26 : Addr}
    (a26 : PySem.W.nsIn K mainGlobals "_law_alike" = some (some (.ref f26))) (l26 : K.lookup f26 = some ⟨oc26, od26, .func (PySem.W.fnOf "_law_alike" "_law_alike" (defArgs s26) (defBody s26) (defScope s26) .none kV26 dc26 pm26 an26 cd26 ct26), sl26⟩) (c26 : PySem.W.codeIn K cd26 "_law_alike" = true) (k26 : PySem.W.keepIn K (.ref f26) = true)
    {od27 an27 : Option Addr} {sl27 : Array (Option Value)} {oc27 kV27 dc27 pm27 cd27 ct27 : Value} {f27 : Addr}
    (a27 : PySem.W.nsIn K mainGlobals "_law_is" = some (some (.ref f27))) (l27 : K.lookup f27 = some ⟨oc27, od27, .func (PySem.W.fnOf "_law_is" "_law_is" (defArgs s27) (defBody s27) (defScope s27) .none kV27 dc27 pm27 an27 cd27 ct27), sl27⟩) (c27 : PySem.W.codeIn K cd27 "_law_is" = true) (k27 : PySem.W.keepIn K (.ref f27) = true)
    {od28 an28 : Option Addr} {sl28 : Array (Option Value)} {oc28 kV28 dc28 pm28 cd28 ct28 : Value} {f28 : Addr}
    (a28 : PySem.W.nsIn K mainGlobals "_law_board" = some (some (.ref f28))) (l28 : K.lookup f28 = some ⟨oc28, od28, .func (PySem.W.fnOf "_law_board" "_law_board" (defArgs s28) (defBody s28) (defScope s28) .none kV28 dc28 pm28 an28 cd28 ct28), sl28⟩) (c28 : PySem.W.codeIn K cd28 "_law_board" = true) (k28 : PySem.W.keepIn K (.ref f28) = true)
    {od29 an29 : Option Addr} {sl29 : Array (Option Value)} {oc29 kV29 dc29 pm29 cd29 ct29 : Value} {f29 : Addr}
    (a29 : PySem.W.nsIn K mainGlobals "_law_rows" = some (some (.ref f29))) (l29 : K.lookup f29 = some ⟨oc29, od29, .func (PySem.W.fnOf "_law_rows" "_law_rows" (defArgs s29) (defBody s29) (defScope s29) .none kV29 dc29 pm29 an29 cd29 ct29), sl29⟩) (c29 : PySem.W.codeIn K cd29 "_law_rows" = true) (k29 : PySem.W.keepIn K (.ref f29) = true)
    {od30 an30 : Option Addr} {sl30 : Array (Option Value)} {oc30 kV30 dc30 pm30 cd30 ct30 : Value} {f30 : Addr}
    (a30 : PySem.W.nsIn K mainGlobals "_law_columns" = some (some (.ref f30))) (l30 : K.lookup f30 = some ⟨oc30, od30, .func (PySem.W.fnOf "_law_columns" "_law_columns" (defArgs s30) (defBody s30) (defScope s30) .none kV30 dc30 pm30 an30 cd30 ct30), sl30⟩) (c30 : PySem.W.codeIn K cd30 "_law_columns" = true) (k30 : PySem.W.keepIn K (.ref f30) = true)
    {od31 an31 : Option Addr} {sl31 : Array (Option Value)} {oc31 kV31 dc31 pm31 cd31 ct31 : Value} {f31 : Addr}
    (a31 : PySem.W.nsIn K mainGlobals "_law_numbers" = some (some (.ref f31))) (l31 : K.lookup f31 = some ⟨oc31, od31, .func (PySem.W.fnOf "_law_numbers" "_law_numbers" (defArgs s31) (defBody s31) (defScope s31) .none kV31 dc31 pm31 an31 cd31 ct31), sl31⟩) (c31 : PySem.W.codeIn K cd31 "_law_numbers" = true) (k31 : PySem.W.keepIn K (.ref f31) = true)
    {od32 an32 : Option Addr} {sl32 : Array (Option Value)} {oc32 kV32 dc32 pm32 cd32 ct32 : Value} {f32 : Addr}
    (a32 : PySem.W.nsIn K mainGlobals "_law_over" = some (some (.ref f32))) (l32 : K.lookup f32 = some ⟨oc32, od32, .func (PySem.W.fnOf "_law_over" "_law_over" (defArgs s32) (defBody s32) (defScope s32) .none kV32 dc32 pm32 an32 cd32 ct32), sl32⟩) (c32 : PySem.W.codeIn K cd32 "_law_over" = true) (k32 : PySem.W.keepIn K (.ref f32) = true)
    {od33 an33 : Option Addr} {sl33 : Array (Option Value)} {oc33 kV33 dc33 pm33 cd33 ct33 : Value} {f33 : Addr}
    (a33 : PySem.W.nsIn K mainGlobals "_law_ready" = some (some (.ref f33))) (l33 : K.lookup f33 = some ⟨oc33, od33, .func (PySem.W.fnOf "_law_ready" "_law_ready" (defArgs s33) (defBody s33) (defScope s33) .none kV33 dc33 pm33 an33 cd33 ct33), sl33⟩) (c33 : PySem.W.codeIn K cd33 "_law_ready" = true) (k33 : PySem.W.keepIn K (.ref f33) = true)
    {od34 an34 : Option Addr} {sl34 : Array (Option Value)} {oc34 kV34 dc34 pm34 cd34 ct34 : Value} {f34 : Addr}
    (a34 : PySem.W.nsIn K mainGlobals "_law_with" = some (some (.ref f34))) (l34 : K.lookup f34 = some ⟨oc34, od34, .func (PySem.W.fnOf "_law_with" "_law_with" (defArgs s34) (defBody s34) (defScope s34) .none kV34 dc34 pm34 an34 cd34 ct34), sl34⟩) (c34 : PySem.W.codeIn K cd34 "_law_with" = true) (k34 : PySem.W.keepIn K (.ref f34) = true)
    {od35 an35 : Option Addr} {sl35 : Array (Option Value)} {oc35 kV35 dc35 pm35 cd35 ct35 : Value} {f35 : Addr}
    (a35 : PySem.W.nsIn K mainGlobals "_law_all" = some (some (.ref f35))) (l35 : K.lookup f35 = some ⟨oc35, od35, .func (PySem.W.fnOf "_law_all" "_law_all" (defArgs s35) (defBody s35) (defScope s35) .none kV35 dc35 pm35 an35 cd35 ct35), sl35⟩) (c35 : PySem.W.codeIn K cd35 "_law_all" = true) (k35 : PySem.W.keepIn K (.ref f35) = true)
    {od36 an36 : Option Addr} {sl36 : Array (Option Value)} {oc36 kV36 dc36 pm36 cd36 ct36 : Value} {f36 : Addr}
    (a36 : PySem.W.nsIn K mainGlobals "_law_drawn" = some (some (.ref f36))) (l36 : K.lookup f36 = some ⟨oc36, od36, .func (PySem.W.fnOf "_law_drawn" "_law_drawn" (defArgs s36) (defBody s36) (defScope s36) .none kV36 dc36 pm36 an36 cd36 ct36), sl36⟩) (c36 : PySem.W.codeIn K cd36 "_law_drawn" = true) (k36 : PySem.W.keepIn K (.ref f36) = true)
    {od37 an37 : Option Addr} {sl37 : Array (Option Value)} {oc37 kV37 dc37 pm37 cd37 ct37 : Value} {f37 : Addr}
    (a37 : PySem.W.nsIn K mainGlobals "_law_lot" = some (some (.ref f37))) (l37 : K.lookup f37 = some ⟨oc37, od37, .func (PySem.W.fnOf "_law_lot" "_law_lot" (defArgs s37) (defBody s37) (defScope s37) .none kV37 dc37 pm37 an37 cd37 ct37), sl37⟩) (c37 : PySem.W.codeIn K cd37 "_law_lot" = true) (k37 : PySem.W.keepIn K (.ref f37) = true)
    {od38 an38 : Option Addr} {sl38 : Array (Option Value)} {oc38 kV38 dc38 pm38 cd38 ct38 : Value} {f38 : Addr}
    (a38 : PySem.W.nsIn K mainGlobals "law" = some (some (.ref f38))) (l38 : K.lookup f38 = some ⟨oc38, od38, .func (PySem.W.fnOf "law" "law" (defArgs s38) (defBody s38) (defScope s38) .none kV38 dc38 pm38 an38 cd38 ct38), sl38⟩) (c38 : PySem.W.codeIn K cd38 "law" = true) (k38 : PySem.W.keepIn K (.ref f38) = true)
    (z_all : PySem.W.nsIn K mainGlobals "all" = some none)
    (z_any : PySem.W.nsIn K mainGlobals "any" = some none)
    (z_bool : PySem.W.nsIn K mainGlobals "bool" = some none)
    (z_enumerate : PySem.W.nsIn K mainGlobals "enumerate" = some none)
    (z_int : PySem.W.nsIn K mainGlobals "int" = some none)
    (z_isinstance : PySem.W.nsIn K mainGlobals "isinstance" = some none)
    (z_len : PySem.W.nsIn K mainGlobals "len" = some none)
    (z_list : PySem.W.nsIn K mainGlobals "list" = some none)
    (z_max : PySem.W.nsIn K mainGlobals "max" = some none)
    (z_range : PySem.W.nsIn K mainGlobals "range" = some none)
    (z_sorted : PySem.W.nsIn K mainGlobals "sorted" = some none)
    (z_str : PySem.W.nsIn K mainGlobals "str" = some none)
    (z_sum : PySem.W.nsIn K mainGlobals "sum" = some none)
    (z_tuple : PySem.W.nsIn K mainGlobals "tuple" = some none)
    (z_zip : PySem.W.nsIn K mainGlobals "zip" = some none)
    {t_MOST_SIDE : Tok} (y_MOST_SIDE : PySem.W.nsIn K mainGlobals "MOST_SIDE" = some (some (.int 6 t_MOST_SIDE)))
    {t_MOST_VALUE : Tok} (y_MOST_VALUE : PySem.W.nsIn K mainGlobals "MOST_VALUE" = some (some (.int 1000 t_MOST_VALUE))) :
    ∃ fd : FuncData, (∀ (s : Shared) (v : Value), BindsTo s fd ⟨[v], []⟩ [("_law_script", v)]) ∧ ∀ base : Heap, K.In base → base.Ns mainGlobals mg → FnOk l.prog w K mg base CX0 LV fa fd ["_law_script"] (spLaw K) := by
  have e := hfa.symm.trans (PySem.W.mg_of X G a38)
  cases e
  refine ⟨PySem.W.fnOf "law" "law" (defArgs s38) (defBody s38) (defScope s38) .none kV38 dc38 pm38 an38 cd38 ct38, fun s v => .of_eq rfl, fun base _ _ => ?_⟩
  exact law_ok (lv (⟨f0, _, fun_mk (st := s0) l0 c0 k0, (fun_mk (st := s0) l0 c0 k0).binds (ps := P0) (fun _ _ _ _ _ _ us hl => match us, hl with | [_], _ => rfl), PySem.W.mg_of X G a0,
    f1, _, fun_mk (st := s1) l1 c1 k1, (fun_mk (st := s1) l1 c1 k1).binds (ps := P1) (fun _ _ _ _ _ _ us hl => match us, hl with | [_, _, _], _ => rfl), PySem.W.mg_of X G a1,
    f2, _, fun_mk (st := s2) l2 c2 k2, (fun_mk (st := s2) l2 c2 k2).binds (ps := P2) (fun _ _ _ _ _ _ us hl => match us, hl with | [_], _ => rfl), PySem.W.mg_of X G a2,
    f3, _, fun_mk (st := s3) l3 c3 k3, (fun_mk (st := s3) l3 c3 k3).binds (ps := P3) (fun _ _ _ _ _ _ us hl => match us, hl with | [_], _ => rfl), PySem.W.mg_of X G a3,
    f4, _, fun_mk (st := s4) l4 c4 k4, (fun_mk (st := s4) l4 c4 k4).binds (ps := P4) (fun _ _ _ _ _ _ us hl => match us, hl with | [_], _ => rfl), PySem.W.mg_of X G a4,
    f5, _, fun_mk (st := s5) l5 c5 k5, (fun_mk (st := s5) l5 c5 k5).binds (ps := P5) (fun _ _ _ _ _ _ us hl => match us, hl with | [_], _ => rfl), PySem.W.mg_of X G a5,
    f6, _, fun_mk (st := s6) l6 c6 k6, (fun_mk (st := s6) l6 c6 k6).binds (ps := P6) (fun _ _ _ _ _ _ us hl => match us, hl with | [_, _], _ => rfl), PySem.W.mg_of X G a6,
    f7, _, fun_mk (st := s7) l7 c7 k7, (fun_mk (st := s7) l7 c7 k7).binds (ps := P7) (fun _ _ _ _ _ _ us hl => match us, hl with | [_, _], _ => rfl), PySem.W.mg_of X G a7,
    f8, _, fun_mk (st := s8) l8 c8 k8, (fun_mk (st := s8) l8 c8 k8).binds (ps := P8) (fun _ _ _ _ _ _ us hl => match us, hl with | [_, _], _ => rfl), PySem.W.mg_of X G a8,
    f9, _, fun_mk (st := s9) l9 c9 k9, (fun_mk (st := s9) l9 c9 k9).binds (ps := P9) (fun _ _ _ _ _ _ us hl => match us, hl with | [_, _, _], _ => rfl), PySem.W.mg_of X G a9,
    f10, _, fun_mk (st := s10) l10 c10 k10, (fun_mk (st := s10) l10 c10 k10).binds (ps := P10) (fun _ _ _ _ _ _ us hl => match us, hl with | [_, _, _], _ => rfl), PySem.W.mg_of X G a10,
    f11, _, fun_mk (st := s11) l11 c11 k11, (fun_mk (st := s11) l11 c11 k11).binds (ps := P11) (fun _ _ _ _ _ _ us hl => match us, hl with | [_, _, _, _], _ => rfl), PySem.W.mg_of X G a11,
    f12, _, fun_mk (st := s12) l12 c12 k12, (fun_mk (st := s12) l12 c12 k12).binds (ps := P12) (fun _ _ _ _ _ _ us hl => match us, hl with | [_, _, _], _ => rfl), PySem.W.mg_of X G a12,
    f13, _, fun_mk (st := s13) l13 c13 k13, (fun_mk (st := s13) l13 c13 k13).binds (ps := P13) (fun _ _ _ _ _ _ us hl => match us, hl with | [_, _], _ => rfl), PySem.W.mg_of X G a13,
    f14, _, fun_mk (st := s14) l14 c14 k14, (fun_mk (st := s14) l14 c14 k14).binds (ps := P14) (fun _ _ _ _ _ _ us hl => match us, hl with | [_, _], _ => rfl), PySem.W.mg_of X G a14,
    f15, _, fun_mk (st := s15) l15 c15 k15, (fun_mk (st := s15) l15 c15 k15).binds (ps := P15) (fun _ _ _ _ _ _ us hl => match us, hl with | [_, _], _ => rfl), PySem.W.mg_of X G a15,
    f16, _, fun_mk (st := s16) l16 c16 k16, (fun_mk (st := s16) l16 c16 k16).binds (ps := P16) (fun _ _ _ _ _ _ us hl => match us, hl with | [_, _], _ => rfl), PySem.W.mg_of X G a16,
    f17, _, fun_mk (st := s17) l17 c17 k17, (fun_mk (st := s17) l17 c17 k17).binds (ps := P17) (fun _ _ _ _ _ _ us hl => match us, hl with | [_, _], _ => rfl), PySem.W.mg_of X G a17,
    f18, _, fun_mk (st := s18) l18 c18 k18, (fun_mk (st := s18) l18 c18 k18).binds (ps := P18) (fun _ _ _ _ _ _ us hl => match us, hl with | [_, _], _ => rfl), PySem.W.mg_of X G a18,
    f19, _, fun_mk (st := s19) l19 c19 k19, (fun_mk (st := s19) l19 c19 k19).binds (ps := P19) (fun _ _ _ _ _ _ us hl => match us, hl with | [_, _], _ => rfl), PySem.W.mg_of X G a19,
    f20, _, fun_mk (st := s20) l20 c20 k20, (fun_mk (st := s20) l20 c20 k20).binds (ps := P20) (fun _ _ _ _ _ _ us hl => match us, hl with | [_, _], _ => rfl), PySem.W.mg_of X G a20,
    f21, _, fun_mk (st := s21) l21 c21 k21, (fun_mk (st := s21) l21 c21 k21).binds (ps := P21) (fun _ _ _ _ _ _ us hl => match us, hl with | [_, _], _ => rfl), PySem.W.mg_of X G a21,
    f22, _, fun_mk (st := s22) l22 c22 k22, (fun_mk (st := s22) l22 c22 k22).binds (ps := P22) (fun _ _ _ _ _ _ us hl => match us, hl with | [_, _], _ => rfl), PySem.W.mg_of X G a22,
    f23, _, fun_mk (st := s23) l23 c23 k23, (fun_mk (st := s23) l23 c23 k23).binds (ps := P23) (fun _ _ _ _ _ _ us hl => match us, hl with | [_, _, _], _ => rfl), PySem.W.mg_of X G a23,
    f24, _, fun_mk (st := s24) l24 c24 k24, (fun_mk (st := s24) l24 c24 k24).binds (ps := P24) (fun _ _ _ _ _ _ us hl => match us, hl with | [_, _], _ => rfl), PySem.W.mg_of X G a24,
    f25, _, fun_mk (st := s25) l25 c25 k25, (fun_mk (st := s25) l25 c25 k25).binds (ps := P25) (fun _ _ _ _ _ _ us hl => match us, hl with | [_, _], _ => rfl), PySem.W.mg_of X G a25,
    f26, _, fun_mk (st := s26) l26 c26 k26, (fun_mk (st := s26) l26 c26 k26).binds (ps := P26) (fun _ _ _ _ _ _ us hl => match us, hl with | [_, _], _ => rfl), PySem.W.mg_of X G a26,
    f27, _, fun_mk (st := s27) l27 c27 k27, (fun_mk (st := s27) l27 c27 k27).binds (ps := P27) (fun _ _ _ _ _ _ us hl => match us, hl with | [_, _], _ => rfl), PySem.W.mg_of X G a27,
    f28, _, fun_mk (st := s28) l28 c28 k28, (fun_mk (st := s28) l28 c28 k28).binds (ps := P28) (fun _ _ _ _ _ _ us hl => match us, hl with | [_, _, _, _], _ => rfl), PySem.W.mg_of X G a28,
    f29, _, fun_mk (st := s29) l29 c29 k29, (fun_mk (st := s29) l29 c29 k29).binds (ps := P29) (fun _ _ _ _ _ _ us hl => match us, hl with | [_, _], _ => rfl), PySem.W.mg_of X G a29,
    f30, _, fun_mk (st := s30) l30 c30 k30, (fun_mk (st := s30) l30 c30 k30).binds (ps := P30) (fun _ _ _ _ _ _ us hl => match us, hl with | [_, _], _ => rfl), PySem.W.mg_of X G a30,
    f31, _, fun_mk (st := s31) l31 c31 k31, (fun_mk (st := s31) l31 c31 k31).binds (ps := P31) (fun _ _ _ _ _ _ us hl => match us, hl with | [_, _, _], _ => rfl), PySem.W.mg_of X G a31,
    f32, _, fun_mk (st := s32) l32 c32 k32, (fun_mk (st := s32) l32 c32 k32).binds (ps := P32) (fun _ _ _ _ _ _ us hl => match us, hl with | [_, _, _], _ => rfl), PySem.W.mg_of X G a32,
    f33, _, fun_mk (st := s33) l33 c33 k33, (fun_mk (st := s33) l33 c33 k33).binds (ps := P33) (fun _ _ _ _ _ _ us hl => match us, hl with | [_, _], _ => rfl), PySem.W.mg_of X G a33,
    f34, _, fun_mk (st := s34) l34 c34 k34, (fun_mk (st := s34) l34 c34 k34).binds (ps := P34) (fun _ _ _ _ _ _ us hl => match us, hl with | [_, _], _ => rfl), PySem.W.mg_of X G a34,
    f35, _, fun_mk (st := s35) l35 c35 k35, (fun_mk (st := s35) l35 c35 k35).binds (ps := P35) (fun _ _ _ _ _ _ us hl => match us, hl with | [_], _ => rfl), PySem.W.mg_of X G a35,
    f36, _, fun_mk (st := s36) l36 c36 k36, (fun_mk (st := s36) l36 c36 k36).binds (ps := P36) (fun _ _ _ _ _ _ us hl => match us, hl with | [_, _, _], _ => rfl), PySem.W.mg_of X G a36,
    f37, _, fun_mk (st := s37) l37 c37 k37, (fun_mk (st := s37) l37 c37 k37).binds (ps := P37) (fun _ _ _ _ _ _ us hl => match us, hl with | [_, _], _ => rfl), PySem.W.mg_of X G a37,
    fa, _, fun_mk (st := s38) l38 c38 k38, (fun_mk (st := s38) l38 c38 k38).binds (ps := P38) (fun _ _ _ _ _ _ us hl => match us, hl with | [_], _ => rfl), PySem.W.mg_of X G a38,
    PySem.W.mg_none_of X G z_all,
    PySem.W.mg_none_of X G z_any,
    PySem.W.mg_none_of X G z_bool,
    PySem.W.mg_none_of X G z_enumerate,
    PySem.W.mg_none_of X G z_int,
    PySem.W.mg_none_of X G z_isinstance,
    PySem.W.mg_none_of X G z_len,
    PySem.W.mg_none_of X G z_list,
    PySem.W.mg_none_of X G z_max,
    PySem.W.mg_none_of X G z_range,
    PySem.W.mg_none_of X G z_sorted,
    PySem.W.mg_none_of X G z_str,
    PySem.W.mg_none_of X G z_sum,
    PySem.W.mg_none_of X G z_tuple,
    PySem.W.mg_none_of X G z_zip,
    t_MOST_SIDE, PySem.W.mg_of X G y_MOST_SIDE,
    t_MOST_VALUE, PySem.W.mg_of X G y_MOST_VALUE⟩ : Tops K mg) LV).k38 law_true
end L2.Z.K01
open PySem PySem.W PyProof.Rows
set_option maxHeartbeats 0 in
theorem PySem.Challenge.cw_struckboards_k01_whole_coming_holds : PySem.Challenge.rw_struckboards_k01_whole_coming.Holds := by
  w_on; o_law; k_head; (case hw => w_witness2)
  k_fill
  refine L2.walk_of (l := PySem.Challenge.rw_struckboards_k01_whole_coming) (n := 63) (k := L2.Z.K01.LV) (x := "_law_script") (CX := fun _ => L2.CX0) (sp := fun w => L2.Z.spLaw _) rfl (by decide) rfl ⟨rfl, by decide, by decide⟩ (fun w h Y => PySem.W.kIn_of Y) ?F (fun _ _ a ns hl _ hS => ⟨a, ns, rfl, hS, hl, fun _ => rfl⟩) (fun _ _ _ _ _ h => h)
  case F =>
    intro w mg fa h KX G hmg
    refine' L2.Z.K01.all_mk KX G hmg ?a0 ?l0 ?c0 ?k0 ?a1 ?l1 ?c1 ?k1 ?a2 ?l2 ?c2 ?k2 ?a3 ?l3 ?c3 ?k3 ?a4 ?l4 ?c4 ?k4 ?a5 ?l5 ?c5 ?k5 ?a6 ?l6 ?c6 ?k6 ?a7 ?l7 ?c7 ?k7 ?a8 ?l8 ?c8 ?k8 ?a9 ?l9 ?c9 ?k9 ?a10 ?l10 ?c10 ?k10 ?a11 ?l11 ?c11 ?k11 ?a12 ?l12 ?c12 ?k12 ?a13 ?l13 ?c13 ?k13 ?a14 ?l14 ?c14 ?k14 ?a15 ?l15 ?c15 ?k15 ?a16 ?l16 ?c16 ?k16 ?a17 ?l17 ?c17 ?k17 ?a18 ?l18 ?c18 ?k18 ?a19 ?l19 ?c19 ?k19 ?a20 ?l20 ?c20 ?k20 ?a21 ?l21 ?c21 ?k21 ?a22 ?l22 ?c22 ?k22 ?a23 ?l23 ?c23 ?k23 ?a24 ?l24 ?c24 ?k24 ?a25 ?l25 ?c25 ?k25 ?a26 ?l26 ?c26 ?k26 ?a27 ?l27 ?c27 ?k27 ?a28 ?l28 ?c28 ?k28 ?a29 ?l29 ?c29 ?k29 ?a30 ?l30 ?c30 ?k30 ?a31 ?l31 ?c31 ?k31 ?a32 ?l32 ?c32 ?k32 ?a33 ?l33 ?c33 ?k33 ?a34 ?l34 ?c34 ?k34 ?a35 ?l35 ?c35 ?k35 ?a36 ?l36 ?c36 ?k36 ?a37 ?l37 ?c37 ?k37 ?a38 ?l38 ?c38 ?k38 ?z_all ?z_any ?z_bool ?z_enumerate ?z_int ?z_isinstance ?z_len ?z_list ?z_max ?z_range ?z_sorted ?z_str ?z_sum ?z_tuple ?z_zip ?y_MOST_SIDE ?y_MOST_VALUE
    (case a0 => k_is); (case l0 => k_is); (case c0 => k_is); (case k0 => k_is); (case a1 => k_is); (case l1 => k_is); (case c1 => k_is); (case k1 => k_is); (case a2 => k_is); (case l2 => k_is); (case c2 => k_is); (case k2 => k_is); (case a3 => k_is); (case l3 => k_is); (case c3 => k_is); (case k3 => k_is); (case a4 => k_is); (case l4 => k_is); (case c4 => k_is); (case k4 => k_is); (case a5 => k_is); (case l5 => k_is); (case c5 => k_is); (case k5 => k_is); (case a6 => k_is); (case l6 => k_is); (case c6 => k_is); (case k6 => k_is); (case a7 => k_is); (case l7 => k_is); (case c7 => k_is); (case k7 => k_is); (case a8 => k_is); (case l8 => k_is); (case c8 => k_is); (case k8 => k_is); (case a9 => k_is); (case l9 => k_is); (case c9 => k_is); (case k9 => k_is); (case a10 => k_is); (case l10 => k_is); (case c10 => k_is); (case k10 => k_is); (case a11 => k_is); (case l11 => k_is); (case c11 => k_is); (case k11 => k_is); (case a12 => k_is); (case l12 => k_is); (case c12 => k_is); (case k12 => k_is); (case a13 => k_is); (case l13 => k_is); (case c13 => k_is); (case k13 => k_is); (case a14 => k_is); (case l14 => k_is); (case c14 => k_is); (case k14 => k_is); (case a15 => k_is); (case l15 => k_is); (case c15 => k_is); (case k15 => k_is); (case a16 => k_is); (case l16 => k_is); (case c16 => k_is); (case k16 => k_is); (case a17 => k_is); (case l17 => k_is); (case c17 => k_is); (case k17 => k_is); (case a18 => k_is); (case l18 => k_is); (case c18 => k_is); (case k18 => k_is); (case a19 => k_is); (case l19 => k_is); (case c19 => k_is); (case k19 => k_is); (case a20 => k_is); (case l20 => k_is); (case c20 => k_is); (case k20 => k_is); (case a21 => k_is); (case l21 => k_is); (case c21 => k_is); (case k21 => k_is); (case a22 => k_is); (case l22 => k_is); (case c22 => k_is); (case k22 => k_is); (case a23 => k_is); (case l23 => k_is); (case c23 => k_is); (case k23 => k_is); (case a24 => k_is); (case l24 => k_is); (case c24 => k_is); (case k24 => k_is); (case a25 => k_is); (case l25 => k_is); (case c25 => k_is); (case k25 => k_is); (case a26 => k_is); (case l26 => k_is); (case c26 => k_is); (case k26 => k_is); (case a27 => k_is); (case l27 => k_is); (case c27 => k_is); (case k27 => k_is); (case a28 => k_is); (case l28 => k_is); (case c28 => k_is); (case k28 => k_is); (case a29 => k_is); (case l29 => k_is); (case c29 => k_is); (case k29 => k_is); (case a30 => k_is); (case l30 => k_is); (case c30 => k_is); (case k30 => k_is); (case a31 => k_is); (case l31 => k_is); (case c31 => k_is); (case k31 => k_is); (case a32 => k_is); (case l32 => k_is); (case c32 => k_is); (case k32 => k_is); (case a33 => k_is); (case l33 => k_is); (case c33 => k_is); (case k33 => k_is); (case a34 => k_is); (case l34 => k_is); (case c34 => k_is); (case k34 => k_is); (case a35 => k_is); (case l35 => k_is); (case c35 => k_is); (case k35 => k_is); (case a36 => k_is); (case l36 => k_is); (case c36 => k_is); (case k36 => k_is); (case a37 => k_is); (case l37 => k_is); (case c37 => k_is); (case k37 => k_is); (case a38 => k_is); (case l38 => k_is); (case c38 => k_is); (case k38 => k_is); (case z_all => k_is); (case z_any => k_is); (case z_bool => k_is); (case z_enumerate => k_is); (case z_int => k_is); (case z_isinstance => k_is); (case z_len => k_is); (case z_list => k_is); (case z_max => k_is); (case z_range => k_is); (case z_sorted => k_is); (case z_str => k_is); (case z_sum => k_is); (case z_tuple => k_is); (case z_zip => k_is); (case y_MOST_SIDE => k_is); (case y_MOST_VALUE => k_is)

