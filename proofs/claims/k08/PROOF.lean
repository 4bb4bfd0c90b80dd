import PyProof.Rows.All
import Wide.All
import OpenK.AllK
import Wide.FinOn
import HandS.ForMost
import KE.DataEq
import KE.DataFind
import KE.DataAny
import KE.DataIsa
import KE.DataMinMax
import KE.SortData
import KE.SortKeyHeap
import HandS.DictTup
import HandS.List
import HandS.Star
import HandS.IsInst
import HandS.Wide
import HandS.Style
import HandS.Zip
import HandS.Rev
import KE.GoesEnum
import HandS.TupAny
import HandS.Conv
import KE.KTupSum
import HandS.TupMul
import KE.KDictSum
import PyProof.ListMulAny
import HandS.SetFor
import HandS.Strs
import PyProof.Rows.SetFrom
import KE.KDictList
import HandS.More
import HandS.TupLe
import HandS.SortKw
import PyProof.Rows.RuleB_bool
import KE.GoesZip
import KE.GoesMore
import HandS.Exc
import HandS.ExcOwn
import HandS.WordsExc
import PySem.Challenge.RW_struckboards_k08_whole_safe_numbers
set_option Elab.async false
set_option linter.all false
set_option maxRecDepth 100000
set_option maxHeartbeats 4000000
namespace L2.Z
open PySem PySem.Spec PyProof.Rows
def kD : Key → PyData
  | .inl i => .int i
  | .inr s => .str s
mutual
inductive Rp (K : PySem.W.Frag) (F : Hp) : V → PyData → Prop
  | non : Rp K F .non .none
  | bl (b : Bool) : Rp K F (.bl b) (.bool b)
  | int (i : Int) : Rp K F (.int i) (.int i)
  | str (x : Str) : Rp K F (.str x) (.str x)
  | lst {a : Addr} {xs : List V} {ds : List PyData} : SqL K F a xs → xs.length ≤ sizeLine → RpA K F xs ds → Rp K F (.ref a) (.list ds)
  | tup {a : Addr} {xs : List V} {ds : List PyData} : F a = some (.tup xs) → xs.length ≤ sizeLine → RpA K F xs ds → Rp K F (.ref a) (.tuple ds)
  | dk {a : Addr} {ps : List (Key × V)} {kvs : List (PyData × PyData)} : F a = some (.dK ps) → ps.length ≤ sizeLine → kvs.map Prod.fst = ps.map (fun p => kD p.1) →
      RpA K F (ps.map Prod.snd) (kvs.map Prod.snd) → Rp K F (.ref a) (.dict kvs)
  | dt {a : Addr} {ps : List (List Key × V)} {kvs : List (PyData × PyData)} : F a = some (.dT ps) → ps.length ≤ sizeLine → kvs.map Prod.fst = ps.map (fun p => .tuple (p.1.map kD)) →
      RpA K F (ps.map Prod.snd) (kvs.map Prod.snd) → Rp K F (.ref a) (.dict kvs)
inductive RpA (K : PySem.W.Frag) (F : Hp) : List V → List PyData → Prop
  | nil : RpA K F [] []
  | cons {v : V} {vs : List V} {d : PyData} {ds : List PyData} : Rp K F v d → RpA K F vs ds → RpA K F (v :: vs) (d :: ds)
end
theorem Same.rd {H H' : Hp} {a : Addr} {u : HO} (e : Same H H') (h : Rd H a u) : Rd H' a u := by
  rcases h with h | ⟨o, h⟩
  · exact .inl (e _ _ h)
  · exact .inr ⟨o, e _ _ h⟩
section
variable {K : PySem.W.Frag} {F F' : Hp}
theorem Rp.mono (s : Same F F') {v : V} {d : PyData} (h : Rp K F v d) : Rp K F' v d :=
  Rp.rec (motive_1 := fun v d _ => Rp K F' v d) (motive_2 := fun vs ds _ => RpA K F' vs ds)
    .non (fun b => .bl b) (fun i => .int i) (fun x => .str x)
    (fun q z _ ih => .lst (s.seq q) z ih) (fun q z _ ih => .tup (s _ _ q) z ih) (fun q z e _ ih => .dk (s _ _ q) z e ih) (fun q z e _ ih => .dt (s _ _ q) z e ih)
    .nil (fun _ _ a b => .cons a b) h
theorem RpA.mono (s : Same F F') : ∀ {vs : List V} {ds : List PyData}, RpA K F vs ds → RpA K F' vs ds
  | _, _, .nil => .nil
  | _, _, .cons a b => .cons (a.mono s) (RpA.mono s b)
theorem RpA.length : ∀ {vs : List V} {ds : List PyData}, RpA K F vs ds → vs.length = ds.length
  | _, _, .nil => rfl
  | _, _, .cons _ b => by simp [RpA.length b]
theorem RpA.get : ∀ {vs : List V} {ds : List PyData} {i : Nat} {d : PyData}, RpA K F vs ds → ds[i]? = some d → ∃ v, vs[i]? = some v ∧ Rp K F v d
  | _, _, _, _, .nil, e => by simp at e
  | _, _, 0, _, .cons a _, e => by simp at e; subst e; exact ⟨_, rfl, a⟩
  | _, _, i + 1, d, .cons _ b, e => by
    obtain ⟨v, h1, h2⟩ := RpA.get (i := i) (d := d) b (by simpa using e)
    exact ⟨v, by simpa using h1, h2⟩
theorem RpA.append : ∀ {vs ws : List V} {ds es : List PyData}, RpA K F vs ds → RpA K F ws es → RpA K F (vs ++ ws) (ds ++ es)
  | _, _, _, _, .nil, s => s
  | _, _, _, _, .cons r t, s => .cons r (RpA.append t s)
theorem RpA.take : ∀ {vs : List V} {ds : List PyData} (n : Nat), RpA K F vs ds → RpA K F (vs.take n) (ds.take n)
  | _, _, 0, _ => .nil
  | _, _, _ + 1, .nil => .nil
  | _, _, n + 1, .cons r t => .cons r (RpA.take n t)
theorem RpA.drop : ∀ {vs : List V} {ds : List PyData} (n : Nat), RpA K F vs ds → RpA K F (vs.drop n) (ds.drop n)
  | _, _, 0, r => r
  | _, _, _ + 1, .nil => .nil
  | _, _, n + 1, .cons _ t => RpA.drop n t
theorem RpA.set {v : V} {d : PyData} (r : Rp K F v d) : ∀ {vs : List V} {ds : List PyData} (i : Nat), RpA K F vs ds → RpA K F (vs.set i v) (ds.set i d)
  | _, _, _, .nil => .nil
  | _, _, 0, .cons _ t => .cons r t
  | _, _, i + 1, .cons q t => .cons q (RpA.set r i t)
theorem Rp.dp {v : V} {d : PyData} (h : Rp K F v d) : d.plain = true → Dp K F v d :=
  Rp.rec (motive_1 := fun v d _ => d.plain = true → Dp K F v d) (motive_2 := fun vs ds _ => PyData.plainAll ds = true → DpAll K F vs ds)
    (fun _ => .non) (fun b _ => .bl b) (fun i _ => .int i) (fun x _ => .str x)
    (fun q _ _ ih e => .lst q (ih (by simpa [PyData.plain] using e))) (fun q _ _ ih e => .tup (SqT.of q) (ih (by simpa [PyData.plain] using e)))
    (fun _ _ _ _ _ e => by simp [PyData.plain] at e) (fun _ _ _ _ _ e => by simp [PyData.plain] at e)
    (fun _ => .nil) (fun _ _ a b e => by
      simp only [PyData.plainAll, Bool.and_eq_true] at e
      exact .cons (a e.1) (b e.2)) h
theorem RpA.dp : ∀ {vs : List V} {ds : List PyData}, RpA K F vs ds → PyData.plainAll ds = true → DpAll K F vs ds
  | _, _, .nil, _ => .nil
  | _, _, .cons a b, e => by
    simp only [PyData.plainAll, Bool.and_eq_true] at e
    exact .cons (a.dp e.1) (b.dp e.2)
end
inductive Slot where
  | un
  /-- frozen data -/
  | dat (d : PyData)
  /-- a container that this slot alone holds -/
  | own (d : PyData)
  /-- a container handed in by reference -/
  | ref (d : PyData)
  /-- a container that is being walked: read, not changed -/
  | lok (r : Bool) (d : PyData)
  /-- a list of lists of ints that this slot alone holds, locked and guarded -/
  | mat (rs : List (List Int))
  /-- a function -/
  | fn (a : Addr)
abbrev Ev := List Slot
def Slot.isMut : Slot → Bool
  | .own _ | .ref _ => true
  | _ => false
def Slot.isRf : Slot → Bool
  | .ref _ | .lok _ _ => true
  | _ => false
def Slot.get : Slot → Option PyData
  | .un | .mat _ | .fn _ => none
  | .dat d | .own d | .ref d | .lok _ d => some d
def MutAt (K : PySem.W.Frag) (F H : Hp) (a : Addr) : PyData → Prop
  | .list ds => ∃ vs, H a = some (.lst vs) ∧ vs.length ≤ sizeLine ∧ RpA K F vs ds
  | .dict kvs => (∃ ps : List (Key × V), H a = some (.dK ps) ∧ ps.length ≤ sizeLine ∧ kvs.map Prod.fst = ps.map (fun p => kD p.1) ∧ RpA K F (ps.map Prod.snd) (kvs.map Prod.snd)) ∨
      (∃ ps : List (List Key × V), H a = some (.dT ps) ∧ ps.length ≤ sizeLine ∧ kvs.map Prod.fst = ps.map (fun p => .tuple (p.1.map kD)) ∧ RpA K F (ps.map Prod.snd) (kvs.map Prod.snd))
  | _ => False
structure MatG (G : Hp) (a : Addr) (as : List Addr) (rs : List (List Int)) : Prop where
  nd : (a :: as).Nodup
  top : ∃ o, G a = some (.frz o (.lst (as.map V.ref)))
  len : as.length = rs.length
  row : ∀ (k : Nat) (b : Addr) (r : List Int), as[k]? = some b → rs[k]? = some r → ∃ o, G b = some (.frz o (.lst (r.map V.int)))
def noFrz (o : HO) : Prop := ∀ x u, o ≠ .frz x u
theorem MatG.frz {G : Hp} {a : Addr} {as : List Addr} {rs : List (List Int)} (m : MatG G a as rs) {b : Addr} (h : b ∈ a :: as) : ∃ x u, G b = some (.frz x u) := by
  rcases List.mem_cons.mp h with rfl | h
  · obtain ⟨o, e⟩ := m.top; exact ⟨_, _, e⟩
  · obtain ⟨k, hk⟩ := List.mem_iff_getElem?.mp h
    have l := (List.getElem?_eq_some_iff.mp hk).1
    obtain ⟨o, e⟩ := m.row k b rs[k]! hk (by rw [m.len] at l; simp [l])
    exact ⟨_, _, e⟩
theorem MatG.to {G G' : Hp} {a : Addr} {as : List Addr} {rs : List (List Int)} (m : MatG G a as rs) (h : ∀ b x u, G b = some (.frz x u) → G' b = some (.frz x u)) : MatG G' a as rs := by
  obtain ⟨o, e⟩ := m.top
  refine ⟨m.nd, ⟨o, h _ _ _ e⟩, m.len, fun k b r h1 h2 => ?_⟩
  obtain ⟨o, e⟩ := m.row k b r h1 h2
  exact ⟨o, h _ _ _ e⟩
theorem frz_upd {G : Hp} {p : Addr} {o : HO} (hG : ∀ x u, G p ≠ some (.frz x u)) : ∀ b x u, G b = some (.frz x u) → upd G p o b = some (.frz x u) := fun b x u e => by
  have h : b ≠ p := fun z => by subst z; exact hG x u e
  rw [upd_ne h]; exact e
theorem frz_upd' {G : Hp} {p : Addr} {o : HO} (no : noFrz o) : ∀ b x u, upd G p o b = some (.frz x u) → G b = some (.frz x u) := fun b x u e => by
  by_cases h : b = p
  · subst h; rw [upd_same] at e; exact absurd (Option.some.inj e) (no x u)
  · rw [upd_ne h] at e; exact e
def SlotOk (K : PySem.W.Frag) (Rf : Nat → Option Addr) (G F H : Hp) (i : Nat) (v : Option (Option V)) : Slot → Prop
  | .un => True
  | .dat d => ∃ x, v = some (some x) ∧ Rp K F x d
  | .own d => ∃ a, v = some (some (.ref a)) ∧ F a = none ∧ MutAt K F H a d
  | .ref d => ∃ a, v = some (some (.ref a)) ∧ F a = none ∧ MutAt K F H a d ∧ Rf i = some a
  | .lok _ d => ∃ a o, v = some (some (.ref a)) ∧ Rf i = some a ∧ G a = some o ∧ MutAt K F H a d
  | .mat rs => ∃ a as, v = some (some (.ref a)) ∧ MatG G a as rs
  | .fn a => v = some (some (.ref a))
def MutI (ρ : Ev) (i : Nat) : Prop := ∃ s, ρ[i]? = some s ∧ s.isMut = true
structure SR (K : PySem.W.Frag) (Rf : Nat → Option Addr) (G : Hp) (ρ : Ev) (F : Hp) (σ : St) (H : Hp) : Prop where
  len : ρ.length = σ.length
  fz : Same F H
  sl : ∀ i s, ρ[i]? = some s → SlotOk K Rf G F H i σ[i]? s
  dis : ∀ i j a, MutI ρ i → MutI ρ j → σ[i]? = some (some (.ref a)) → σ[j]? = some (some (.ref a)) → i = j
  gm : ∀ i a, MutI ρ i → σ[i]? = some (some (.ref a)) → G a = none
  gs : ∀ a o, G a = some o → H a = some o ∧ F a = none
  rf : ∀ i a, Rf i = some a → σ[i]? = some (some (.ref a)) ∧ ∃ s, ρ[i]? = some s ∧ s.isRf = true
  gt : ∀ a xs, G a ≠ some (.tup xs)
section
variable {K : PySem.W.Frag} {Rf : Nat → Option Addr} {G F F' H H' : Hp} {ρ : Ev} {σ : St} {a : Addr} {d : PyData}
theorem MutAt.mono (hH : H' a = H a) (hF : Same F F') (m : MutAt K F H a d) : MutAt K F' H' a d := by
  cases d with
  | list ds => obtain ⟨vs, e, z, r⟩ := m; exact ⟨vs, hH.trans e, z, r.mono hF⟩
  | dict kvs =>
    rcases m with ⟨ps, e, z, k, r⟩ | ⟨ps, e, z, k, r⟩
    · exact .inl ⟨ps, hH.trans e, z, k, r.mono hF⟩
    · exact .inr ⟨ps, hH.trans e, z, k, r.mono hF⟩
  | _ => exact m.elim
theorem MutAt.there (m : MutAt K F H a d) : ∃ o, H a = some o := by
  cases d with
  | list ds => obtain ⟨vs, e, r⟩ := m; exact ⟨_, e⟩
  | dict kvs =>
    rcases m with ⟨ps, e, _⟩ | ⟨ps, e, _⟩
    · exact ⟨_, e⟩
    · exact ⟨_, e⟩
  | _ => exact m.elim
theorem MutAt.noTup {o : HO} (m : MutAt K F H a d) (e : H a = some o) : ∀ xs, o ≠ .tup xs := by
  intro xs z
  subst z
  cases d with
  | list ds => obtain ⟨vs, e', _⟩ := m; rw [e] at e'; cases e'
  | dict kvs =>
    rcases m with ⟨ps, e', _⟩ | ⟨ps, e', _⟩ <;> (rw [e] at e'; cases e')
  | _ => exact m.elim
theorem MutAt.noFrz {o : HO} (m : MutAt K F H a d) (e : H a = some o) : noFrz o := by
  intro x u z
  subst z
  cases d with
  | list ds => obtain ⟨vs, e', _⟩ := m; rw [e] at e'; cases e'
  | dict kvs =>
    rcases m with ⟨ps, e', _⟩ | ⟨ps, e', _⟩ <;> (rw [e] at e'; cases e')
  | _ => exact m.elim
theorem gt_upd {o : HO} (g : ∀ a xs, G a ≠ some (.tup xs)) (n : ∀ xs, o ≠ .tup xs) : ∀ b xs, upd G a o b ≠ some (.tup xs) := fun b xs e => by
  by_cases h : b = a
  · subst h; rw [upd_same] at e; exact n xs (Option.some.inj e)
  · rw [upd_ne h] at e; exact g b xs e
theorem MutAt.rp (m : MutAt K F H a d) (s : Same F H) : Rp K H (.ref a) d := by
  cases d with
  | list ds => obtain ⟨vs, e, z, r⟩ := m; exact .lst (SqL.of e) z (r.mono s)
  | dict kvs =>
    rcases m with ⟨ps, e, z, k, r⟩ | ⟨ps, e, z, k, r⟩
    · exact .dk e z k (r.mono s)
    · exact .dt e z k (r.mono s)
  | _ => exact m.elim
theorem upd_Same {o : HO} (h : H a = none) : Same H (upd H a o) := fun b x e => by
  rw [upd_ne (ne_of_none e h)]
  exact e
theorem SlotOk.mono {i : Nat} {v : Option (Option V)} {s : Slot} (hF : Same F F') (hn : ∀ b, s.isMut = true → v = some (some (.ref b)) → F' b = none ∧ H' b = H b) (hG : ∀ b o, G b = some o → H' b = H b) (h : SlotOk K Rf G F H i v s) : SlotOk K Rf G F' H' i v s := by
  cases s with
  | un => trivial
  | dat d => obtain ⟨x, e, r⟩ := h; exact ⟨x, e, r.mono hF⟩
  | own d => obtain ⟨a, e, n, m⟩ := h; exact ⟨a, e, (hn a rfl e).1, m.mono (hn a rfl e).2 hF⟩
  | ref d => obtain ⟨a, e, n, m, q⟩ := h; exact ⟨a, e, (hn a rfl e).1, m.mono (hn a rfl e).2 hF, q⟩
  | lok r d => obtain ⟨a, o, e, q, g, m⟩ := h; exact ⟨a, o, e, q, g, m.mono (hG a o g) hF⟩
  | mat rs => exact h
  | fn a => exact h
theorem SR.mutNone (R : SR K Rf G ρ F σ H) {i : Nat} {a : Addr} (m : MutI ρ i) (e : σ[i]? = some (some (.ref a))) : F a = none ∧ ∃ o, H a = some o := by
  obtain ⟨s, e1, e2⟩ := m
  have q := R.sl i s e1
  cases s with
  | un => cases e2
  | dat d => cases e2
  | own d => obtain ⟨b, eb, n, m⟩ := q; rw [eb] at e; cases e; exact ⟨n, m.there⟩
  | ref d => obtain ⟨b, eb, n, m, _⟩ := q; rw [eb] at e; cases e; exact ⟨n, m.there⟩
  | lok r d => cases e2
  | mat rs => cases e2
  | fn a => cases e2
theorem SR.grow (R : SR K Rf G ρ F σ H) (s : Same H H') : SR K Rf G ρ F σ H' where
  len := R.len
  fz := R.fz.trans s
  sl := fun i t e => (R.sl i t e).mono (Same.refl _) (fun b m ev => by
    obtain ⟨n, o, eo⟩ := R.mutNone ⟨t, e, m⟩ ev
    exact ⟨n, (s b o eo).trans eo.symm⟩) fun b o g => (s b o (R.gs b o g).1).trans (R.gs b o g).1.symm
  dis := R.dis
  gm := R.gm
  gs := fun b o e => ⟨s b o (R.gs b o e).1, (R.gs b o e).2⟩
  rf := R.rf
  gt := R.gt
theorem SR.laid {p : Addr} {o : HO} (R : SR K Rf G ρ F σ H) (h : H p = none) : SR K Rf G ρ F σ (L2.upd H p o) := R.grow (upd_Same h)
def Loose (G : Hp) (ρ : Ev) (F : Hp) (σ : St) (p : Addr) : Prop := F p = none ∧ G p = none ∧ ∀ i, MutI ρ i → σ[i]? ≠ some (some (.ref p))
theorem SR.loose_new (R : SR K Rf G ρ F σ H) {p : Addr} (h : H p = none) : Loose G ρ F σ p := by
  refine ⟨R.fz.free h, ?_, fun i m e => ?_⟩
  · cases q : G p with
    | none => rfl
    | some o => rw [(R.gs p o q).1] at h; cases h
  · obtain ⟨_, o, e'⟩ := R.mutNone m e
    rw [e'] at h; cases h
theorem SR.freeze (R : SR K Rf G ρ F σ H) {p : Addr} {o : HO} (h : H p = some o) (l : Loose G ρ F σ p) : SR K Rf G ρ (upd F p o) σ H ∧ Same F (upd F p o) := by
  obtain ⟨l1, l2, l3⟩ := l
  have s := upd_Same (o := o) l1
  refine ⟨⟨R.len, fun b x e => ?_, fun i t e => (R.sl i t e).mono s (fun b m ev => ⟨?_, rfl⟩) fun _ _ _ => rfl, R.dis, R.gm, fun b x e => ⟨(R.gs b x e).1, ?_⟩, R.rf, R.gt⟩, s⟩
  · by_cases hb : b = p
    · subst hb; rw [upd_same] at e; cases e; exact h
    · rw [upd_ne hb] at e; exact R.fz b x e
  · have hb : b ≠ p := fun z => l3 i ⟨t, e, m⟩ (z ▸ ev)
    rw [upd_ne hb]
    exact (R.mutNone ⟨t, e, m⟩ ev).1
  · have hb : b ≠ p := fun z => by rw [z, l2] at e; cases e
    rw [upd_ne hb]
    exact (R.gs b x e).2
theorem SR.freezeM (R : SR K Rf G ρ F σ H) {p : Addr} (m : MutAt K F H p d) (l : Loose G ρ F σ p) : ∃ F', SR K Rf G ρ F' σ H ∧ Same F F' ∧ Rp K F' (.ref p) d := by
  obtain ⟨o, eo⟩ := m.there
  obtain ⟨R', s⟩ := R.freeze eo l
  refine ⟨_, R', s, ?_⟩
  cases d with
  | list ds =>
    obtain ⟨vs, e, z, r⟩ := m
    rw [e] at eo; cases eo
    exact .lst (SqL.of upd_same) z (r.mono s)
  | dict kvs =>
    rcases m with ⟨ps, e, z, k, r⟩ | ⟨ps, e, z, k, r⟩
    · rw [e] at eo; cases eo; exact .dk upd_same z k (r.mono s)
    · rw [e] at eo; cases eo; exact .dt upd_same z k (r.mono s)
  | _ => exact m.elim
end
end L2.Z
namespace L2.Z
open PySem PySem.Spec PyProof.Rows
def kOf : PyData → Option Key
  | .int i => some (.inl i)
  | .str x => some (.inr x)
  | _ => none
def ksOf : List PyData → Option (List Key)
  | [] => some []
  | d :: ds => (kOf d).bind fun k => (ksOf ds).bind fun ks => some (k :: ks)
def kEq : PyData → PyData → Bool
  | .int i, .int j => decide (i = j)
  | .str x, .str y => decide (x = y)
  | _, _ => false
def ksEq : List PyData → List PyData → Bool
  | [], [] => true
  | a :: as, b :: bs => kEq a b && ksEq as bs
  | _, _ => false
def keyEq : PyData → PyData → Bool
  | .tuple as, .tuple bs => ksEq as bs
  | a, b => kEq a b
def isK (d : PyData) : Bool := (kOf d).isSome
def isT : PyData → Bool
  | .tuple ds => (ksOf ds).isSome
  | _ => false
def keyOk : List (PyData × PyData) → PyData → Bool
  | [], d => isK d || isT d
  | p :: _, d => (isK d && isK p.1) || (isT d && isT p.1)
def dFind (kvs : List (PyData × PyData)) (d : PyData) : Option PyData := (kvs.find? fun p => keyEq p.1 d).map (·.2)
def dPut (kvs : List (PyData × PyData)) (d e : PyData) : List (PyData × PyData) :=
  if kvs.any (fun p => keyEq p.1 d) then kvs.map (fun p => if keyEq p.1 d then (p.1, e) else p) else kvs ++ [(d, e)]
theorem kOf_kD {d : PyData} {k : Key} (h : kOf d = some k) : d = kD k := by
  cases d <;> simp only [kOf] at h <;> cases h <;> rfl
theorem ksOf_kD : ∀ {ds : List PyData} {ks : List Key}, ksOf ds = some ks → ds = ks.map kD
  | [], ks, h => by cases h; rfl
  | d :: ds, ks, h => by
    simp only [ksOf, Option.bind_eq_some_iff] at h
    obtain ⟨k, h1, ks', h2, h3⟩ := h
    cases h3
    rw [List.map_cons, ← kOf_kD h1, ← ksOf_kD h2]
theorem kEq_kD (k j : Key) : kEq (kD k) (kD j) = decide (k = j) := by
  cases k <;> cases j <;> simp [kD, kEq]
theorem ksEq_kD : ∀ ks js : List Key, ksEq (ks.map kD) (js.map kD) = decide (ks = js)
  | [], [] => by simp [ksEq]
  | [], _ :: _ => by simp [ksEq]
  | _ :: _, [] => by simp [ksEq]
  | k :: ks, j :: js => by
    simp only [List.map_cons, ksEq, kEq_kD, ksEq_kD ks js]
    by_cases h : k = j <;> by_cases h2 : ks = js <;> simp [h, h2]
theorem keyEq_K (k j : Key) : keyEq (kD k) (kD j) = decide (k = j) := by
  rw [← kEq_kD]
  cases k <;> cases j <;> rfl
theorem keyEq_T (ks js : List Key) : keyEq (.tuple (ks.map kD)) (.tuple (js.map kD)) = decide (ks = js) := ksEq_kD ks js
theorem isK_T (ks : List Key) : isK (.tuple (ks.map kD)) = false := rfl
theorem isT_K (k : Key) : isT (kD k) = false := by cases k <;> rfl
section
variable {K : PySem.W.Frag} {F H : Hp}
theorem rpa_keys : ∀ {xs : List V} {ks : List Key}, RpA K F xs (ks.map kD) → xs = ks.map kV
  | [], [], _ => rfl
  | [], _ :: _, h => by cases h
  | _ :: _, [], h => by cases h
  | x :: xs, k :: ks, .cons a b => by
    rw [List.map_cons, ← rpa_keys b]
    congr 1
    cases k <;> cases a <;> rfl
def ORel (K : PySem.W.Frag) (F : Hp) (o : Option V) (e : Option PyData) : Prop := match o, e with
  | some v, some d => Rp K F v d
  | none, none => True
  | _, _ => False
theorem find_rel {κ : Type} [DecidableEq κ] (en : κ → PyData) (he : ∀ k j, keyEq (en k) (en j) = decide (k = j)) (k : κ) : ∀ {ps : List (κ × V)} {kvs : List (PyData × PyData)}, kvs.map Prod.fst = ps.map (fun p => en p.1) → RpA K F (ps.map Prod.snd) (kvs.map Prod.snd) →
    ORel K F (valV ps k) (dFind kvs (en k))
  | [], [], _, _ => trivial
  | [], _ :: _, h, _ => by simp at h
  | _ :: _, [], h, _ => by simp at h
  | p :: ps, q :: kvs, h, r => by
    simp only [List.map_cons, List.cons.injEq] at h
    cases r with
    | cons a b =>
      by_cases e : p.1 = k
      · rw [valV_pos e]
        have : dFind (q :: kvs) (en k) = some q.2 := by simp [dFind, List.find?_cons, h.1, he, e]
        rw [this]; exact a
      · rw [valV_neg e]
        have : dFind (q :: kvs) (en k) = dFind kvs (en k) := by simp [dFind, List.find?_cons, h.1, he, e]
        rw [this]; exact find_rel en he k h.2 b
theorem any_rel {κ : Type} [DecidableEq κ] (en : κ → PyData) (he : ∀ k j, keyEq (en k) (en j) = decide (k = j)) (k : κ) : ∀ {ps : List (κ × V)} {kvs : List (PyData × PyData)}, kvs.map Prod.fst = ps.map (fun p => en p.1) → kvs.any (fun p => keyEq p.1 (en k)) = ps.any fun p => decide (p.1 = k)
  | [], [], _ => rfl
  | [], _ :: _, h => by simp at h
  | _ :: _, [], h => by simp at h
  | p :: ps, q :: kvs, h => by
    simp only [List.map_cons, List.cons.injEq] at h
    simp only [List.any_cons, h.1, he, any_rel en he k h.2]
theorem put_rel {κ : Type} [DecidableEq κ] (en : κ → PyData) (he : ∀ k j, keyEq (en k) (en j) = decide (k = j)) (k : κ) {v : V} {e : PyData} (rv : Rp K F v e) {ps : List (κ × V)} {kvs : List (PyData × PyData)} (h : kvs.map Prod.fst = ps.map (fun p => en p.1)) (r : RpA K F (ps.map Prod.snd) (kvs.map Prod.snd)) :
    (dPut kvs (en k) e).map Prod.fst = (putK ps k v).map (fun p => en p.1) ∧ RpA K F ((putK ps k v).map Prod.snd) ((dPut kvs (en k) e).map Prod.snd) := by
  have rep : ∀ {ps : List (κ × V)} {kvs : List (PyData × PyData)}, kvs.map Prod.fst = ps.map (fun p => en p.1) → RpA K F (ps.map Prod.snd) (kvs.map Prod.snd) →
      (kvs.map (fun p => if keyEq p.1 (en k) then (p.1, e) else p)).map Prod.fst = (ps.map fun kv => if kv.1 = k then (kv.1, v) else kv).map (fun p => en p.1) ∧ RpA K F ((ps.map fun kv => if kv.1 = k then (kv.1, v) else kv).map Prod.snd) ((kvs.map (fun p => if keyEq p.1 (en k) then (p.1, e) else p)).map Prod.snd) := fun {ps} => by
    induction ps with
    | nil =>
      intro kvs h r
      cases kvs with
      | nil => exact ⟨rfl, .nil⟩
      | cons _ _ => simp at h
    | cons p ps ih =>
      intro kvs h r
      cases kvs with
      | nil => simp at h
      | cons q kvs =>
        simp only [List.map_cons, List.cons.injEq] at h
        cases r with
        | cons a b =>
          obtain ⟨i1, i2⟩ := ih h.2 b
          simp only [List.map_cons]
          rw [h.1, he]
          by_cases z : p.1 = k
          · simp only [z, decide_true, if_true]
            exact ⟨by rw [i1], .cons rv i2⟩
          · simp only [z, decide_false, Bool.false_eq_true, if_false]
            exact ⟨by rw [i1, h.1], .cons a i2⟩
  unfold dPut putK
  rw [any_rel en he k h]
  by_cases z : (ps.any fun p => decide (p.1 = k)) = true
  · rw [if_pos z, if_pos z]
    exact rep h r
  · rw [if_neg z, if_neg z]
    simp only [List.map_append, List.map_cons, List.map_nil, h]
    exact ⟨trivial, r.append (.cons rv .nil)⟩
end
section
variable {X : Cx} {pins : List (Addr × Obj)} {σ : St} {H : Hp} {s : Shared} {a : Addr}
theorem retagT (I : Inv X pins σ H s) (e : H a = some (.dK [])) : Inv X pins σ (upd H a (.dT [])) s := by
  obtain ⟨z, hd, vs, rel, o, es, ep, ho, hc, hd2, hk, hp, hn⟩ := dk_of I.hok e
  cases rel
  have he : es.toList = [] := List.eq_nil_of_length_eq_zero hp.length
  exact d_write (t' := s.toks) (h' := s.heap) I (by rw [e]; trivial) ⟨rfl, fun _ _ => rfl⟩ ⟨o, ho⟩ ⟨Nat.zero_le _, hd, [], .nil, o, es, ep, ho, hc, hd2, he, List.nodup_nil⟩
theorem retagK (I : Inv X pins σ H s) (e : H a = some (.dT [])) : Inv X pins σ (upd H a (.dK [])) s := by
  obtain ⟨z, hd, xs, rel, o, es, ep, ho, hc, hd2, he, hn⟩ := I.hok a _ e
  cases rel
  have hes : es = #[] := Array.toList_inj.mp he
  subst hes
  refine d_write (t' := s.toks) (h' := s.heap) I (by rw [e]; trivial) ⟨rfl, fun _ _ => rfl⟩ ⟨o, ho⟩ ⟨Nat.zero_le _, hd, [], .nil, o, #[], ep, ho, hc, hd2, ?_, ?_, List.nodup_nil⟩
  · intro x hx; simp at hx
  · exact .nil
theorem upd_back {o u : HO} (e : H a = some o) : upd (upd H a u) a o = H := by
  rw [upd_upd]
  funext b
  by_cases h : b = a
  · subst h; rw [upd_same, e]
  · rw [upd_ne h]
def DGetZ (H : Hp) (a : Addr) (y : V) (o : Option V) : Prop := DGet H a y o ∨ (o = none ∧ ((H a = some (.dK []) ∧ ∃ (b : Addr) (ks : List Key), y = .ref b ∧ b ≠ a ∧ H b = some (.tup (ks.map kV))) ∨ (H a = some (.dT []) ∧ ∃ k, y = kV k)))
theorem DGetZ.at (I : Inv X pins σ H s) {y : V} {o : Option V} (g : DGetZ H a y o) : ∃ H', Inv X pins σ H' s ∧ DGet H' a y o ∧ ∀ s', Inv X pins σ H' s' → Inv X pins σ H s' := by
  rcases g with g | ⟨rfl, ⟨e, b, ks, rfl, hb, eb⟩ | ⟨e, k, rfl⟩⟩
  · exact ⟨H, I, g, fun _ h => h⟩
  · refine ⟨_, retagT I e, .inr ⟨[], ks, b, .inl upd_same, rfl, by rw [upd_ne hb]; exact eb, rfl⟩, fun s' J => ?_⟩
    have := retagK J upd_same
    rwa [upd_back e] at this
  · refine ⟨_, retagK I e, .inl ⟨[], k, .inl upd_same, rfl, rfl⟩, fun s' J => ?_⟩
    have := retagT J upd_same
    rwa [upd_back e] at this
def DPutZ (H : Hp) (a : Addr) (y v : V) (H' : Hp) : Prop := DPut H a y v H' ∨ (∃ (b : Addr) (k : List Key), H a = some (.dK []) ∧ y = .ref b ∧ b ≠ a ∧ H b = some (.tup (k.map kV)) ∧ H' = upd H a (.dT (putK [] k v))) ∨
  (∃ k : Key, H a = some (.dT []) ∧ y = kV k ∧ H' = upd H a (.dK (putK [] k v)))
theorem DPutZ.at (I : Inv X pins σ H s) {y v : V} {H' : Hp} (g : DPutZ H a y v H') : ∃ H0, Inv X pins σ H0 s ∧ DPut H0 a y v H' := by
  have h0 : (0 : Nat) < sizeLine := by rw [sizeLine_eq]; decide
  rcases g with g | ⟨b, k, e, rfl, hb, eb, rfl⟩ | ⟨k, e, rfl, rfl⟩
  · exact ⟨H, I, g⟩
  · exact ⟨_, retagT I e, .inr ⟨[], k, b, upd_same, rfl, by rw [upd_ne hb]; exact eb, h0, by rw [upd_upd]⟩⟩
  · exact ⟨_, retagK I e, .inl ⟨[], k, upd_same, rfl, h0, by rw [upd_upd]⟩⟩
end
section
variable {X : Cx}
def rIxDZ : R2 := fun x y H Q => ∃ a v, x = .ref a ∧ DGetZ H a y (some v) ∧ Q v H
theorem isDict_of {pins : List (Addr × Obj)} {σ : St} {H : Hp} {s : Shared} {a : Addr} {y : V} {o : Option V} (I : Inv X pins σ H s) (g : DGetZ H a y o) : s.TypeIs (.ref a) "dict" := by
  obtain ⟨H', I', g', _⟩ := g.at I
  exact dict_typeIs I' g'
theorem ix_dict (hu : X.A.units + 64 < cLine) : IxR X rIxDZ := by
  intro value slice pins s σ H x y v u Q I rx ry h hs
  obtain ⟨a, w, rfl, g, q⟩ := h
  obtain rfl : v = Value.ref a := rx
  have ht := isDict_of I g
  obtain ⟨H', I', g', back⟩ := g.at I
  exact tail_any ht PySem.F.slot_dict_getitem.lookup (d_getItem (by omega) I' g' ry fun w' s3 I3 rw' => ⟨w, H, back _ I3, rw', q⟩) hs
def rInDZ (neg : Bool) : R2 := fun y x H Q => ∃ a o, x = .ref a ∧ DGetZ H a y o ∧ Q (.bl (if neg then !o.isSome else o.isSome)) H
theorem op_inDZ (hu : X.A.units + 64 < cLine) : OpR X (compareOp .In) (rInDZ false) := by
  intro pins s σ H y x u v Q I ry rx h
  obtain ⟨a, o, rfl, g, q⟩ := h
  obtain rfl : v = Value.ref a := rx
  obtain ⟨H', I', g', back⟩ := g.at I
  exact d_in (by omega) I' g' ry fun s3 I3 => ⟨.bl o.isSome, H, back _ I3, rfl, q⟩
theorem op_notInDZ (hu : X.A.units + 64 < cLine) : OpR X (compareOp .NotIn) (rInDZ true) := by
  intro pins s σ H y x u v Q I ry rx h
  obtain ⟨a, o, rfl, g, q⟩ := h
  obtain rfl : v = Value.ref a := rx
  obtain ⟨H', I', g', back⟩ := g.at I
  exact d_notIn (by omega) I' g' ry fun s3 I3 => ⟨.bl (!o.isSome), H, back _ I3, rfl, q⟩
def rSetDZ : V → V → V → Hp → (Hp → Prop) → Prop := fun o i v H Q => ∃ a H', o = .ref a ∧ DPutZ H a i v H' ∧ Q H'
theorem set_dict (hu : X.A.units + 64 < cLine) : PSet X rSetDZ := by
  intro pins s σ H o i v ov iv u Q I ro ri rv h
  obtain ⟨a, H', rfl, g, q⟩ := h
  cases ro
  obtain ⟨H0, I0, g0⟩ := g.at I
  exact d_setItem (by omega) I0 g0 ri rv fun s' I' => ⟨H', I', q⟩
theorem PSet.or {r r' : V → V → V → Hp → (Hp → Prop) → Prop} (h : PSet X r) (h' : PSet X r') : PSet X (fun o i v H Q => r o i v H Q ∨ r' o i v H Q) := by
  intro pins s σ H o i v ov iv u Q I ro ri rv q
  rcases q with q | q
  · exact h pins s σ H o i v ov iv u Q I ro ri rv q
  · exact h' pins s σ H o i v ov iv u Q I ro ri rv q
end
section
variable {K : PySem.W.Frag} {F H : Hp}
def dGetP (kvs : List (PyData × PyData)) (d : PyData) : Option (Option PyData) := if keyOk kvs d = true then some (dFind kvs d) else none
def dPutP (kvs : List (PyData × PyData)) (d e : PyData) : Option (List (PyData × PyData)) := if keyOk kvs d = true ∧ kvs.length < sizeLine then some (dPut kvs d e) else none
theorem isK_some {d : PyData} (h : isK d = true) : ∃ k, d = kD k := by
  obtain ⟨k, e⟩ := Option.isSome_iff_exists.mp h
  exact ⟨k, kOf_kD e⟩
theorem isT_some {d : PyData} (h : isT d = true) : ∃ ks : List Key, d = .tuple (ks.map kD) := by
  cases d with
  | tuple ds =>
    obtain ⟨ks, e⟩ := Option.isSome_iff_exists.mp (show (ksOf ds).isSome = true from h)
    exact ⟨ks, by rw [ksOf_kD e]⟩
  | _ => cases h
def KeyV (F : Hp) (y : V) (d : PyData) : Prop := (∃ k, d = kD k ∧ y = kV k) ∨ ∃ (ks : List Key) (b : Addr), d = .tuple (ks.map kD) ∧ y = .ref b ∧ F b = some (.tup (ks.map kV))
theorem keyOk_kinds {kvs : List (PyData × PyData)} {d : PyData} (h : keyOk kvs d = true) : isK d = true ∨ isT d = true := by
  cases kvs with
  | nil => simpa [keyOk] using h
  | cons p ps =>
    simp only [keyOk, Bool.or_eq_true, Bool.and_eq_true] at h
    rcases h with ⟨h, _⟩ | ⟨h, _⟩
    · exact .inl h
    · exact .inr h
theorem keyOk_K {k : Key} {kvs : List (PyData × PyData)} {ps : List (List Key × V)} (h : keyOk kvs (kD k) = true) (e : kvs.map Prod.fst = ps.map (fun p => .tuple (p.1.map kD))) : ps = [] := by
  cases kvs with
  | nil => cases ps with
    | nil => rfl
    | cons _ _ => simp at e
  | cons q kvs => cases ps with
    | nil => rfl
    | cons p ps =>
      simp only [List.map_cons, List.cons.injEq] at e
      simp [keyOk, e.1, isK_T, isT_K] at h
theorem keyOk_T {ks : List Key} {kvs : List (PyData × PyData)} {ps : List (Key × V)} (h : keyOk kvs (.tuple (ks.map kD)) = true) (e : kvs.map Prod.fst = ps.map (fun p => kD p.1)) : ps = [] := by
  cases kvs with
  | nil => cases ps with
    | nil => rfl
    | cons _ _ => simp at e
  | cons q kvs => cases ps with
    | nil => rfl
    | cons p ps =>
      simp only [List.map_cons, List.cons.injEq] at e
      simp [keyOk, e.1, isK_T, isT_K] at h
theorem map_nil_of {α β γ : Type} {l : List α} {f : α → γ} {g : β → γ} (e : l.map f = ([] : List β).map g) : l = [] := by
  cases l with
  | nil => rfl
  | cons _ _ => simp at e
theorem dget_ok (fz : Same F H) {a : Addr} {kvs : List (PyData × PyData)} (m : MutAt K F H a (.dict kvs)) {y : V} {d : PyData} (q : KeyV F y d) {e : Option PyData} (h : dGetP kvs d = some e) : ∃ o, DGetZ H a y o ∧ ORel K F o e := by
  unfold dGetP at h
  split at h
  · rename_i hk
    cases h
    rcases m with ⟨ps, ha, z, ek, r⟩ | ⟨ps, ha, z, ek, r⟩
    · rcases q with ⟨k, rfl, rfl⟩ | ⟨ks, b, rfl, rfl, hb⟩
      · exact ⟨valV ps k, .inl (.k ha), find_rel kD keyEq_K k ek r⟩
      · have := keyOk_T hk ek
        subst this
        have := map_nil_of ek
        subst this
        refine ⟨none, .inr ⟨rfl, .inl ⟨ha, b, ks, rfl, fun hz => ?_, fz _ _ hb⟩⟩, trivial⟩
        rw [hz] at hb
        have := fz _ _ hb
        rw [ha] at this
        cases this
    · rcases q with ⟨k, rfl, rfl⟩ | ⟨ks, b, rfl, rfl, hb⟩
      · have := keyOk_K hk ek
        subst this
        have := map_nil_of ek
        subst this
        exact ⟨none, .inr ⟨rfl, .inr ⟨ha, k, rfl⟩⟩, trivial⟩
      · exact ⟨valV ps ks, .inl (.t ha (fz _ _ hb)), find_rel (fun ks => .tuple (ks.map kD)) keyEq_T ks ek r⟩
  · cases h
theorem dput_ok (fz : Same F H) {a : Addr} (na : F a = none) {kvs kvs' : List (PyData × PyData)} (m : MutAt K F H a (.dict kvs)) {y v : V} {d e : PyData} (q : KeyV F y d) (rv : Rp K F v e) (h : dPutP kvs d e = some kvs') :
    ∃ u, DPutZ H a y v (upd H a u) ∧ MutAt K F (upd H a u) a (.dict kvs') := by
  unfold dPutP at h
  split at h
  · rename_i hk
    obtain ⟨hk, hl⟩ := hk
    cases h
    rcases m with ⟨ps, ha, z, ek, r⟩ | ⟨ps, ha, z, ek, r⟩
    · have hlen : ps.length = kvs.length := by
        have := congrArg List.length ek
        simpa using this.symm
      rcases q with ⟨k, rfl, rfl⟩ | ⟨ks, b, rfl, rfl, hb⟩
      · obtain ⟨e1, e2⟩ := put_rel kD keyEq_K k rv ek r
        exact ⟨.dK (putK ps k v), .inl (.k ha (by omega)), .inl ⟨_, upd_same, by have := length_putK ps k v; omega, e1, e2⟩⟩
      · have := keyOk_T hk ek
        subst this
        have := map_nil_of ek
        subst this
        obtain ⟨e1, e2⟩ := put_rel (ps := ([] : List (List Key × V))) (kvs := []) (fun ks => .tuple (ks.map kD)) keyEq_T ks rv rfl .nil
        have hz : b ≠ a := fun hz => by rw [hz, na] at hb; cases hb
        exact ⟨.dT (putK [] ks v), .inr (.inl ⟨b, ks, ha, rfl, hz, fz _ _ hb, rfl⟩), .inr ⟨_, upd_same, by have := length_putK ([] : List (List Key × V)) ks v; simp at this hl; omega, e1, e2⟩⟩
    · have hlen : ps.length = kvs.length := by
        have := congrArg List.length ek
        simpa using this.symm
      rcases q with ⟨k, rfl, rfl⟩ | ⟨ks, b, rfl, rfl, hb⟩
      · have := keyOk_K hk ek
        subst this
        have := map_nil_of ek
        subst this
        obtain ⟨e1, e2⟩ := put_rel (ps := ([] : List (Key × V))) (kvs := []) kD keyEq_K k rv rfl .nil
        exact ⟨.dK (putK [] k v), .inr (.inr ⟨k, ha, rfl, rfl⟩), .inl ⟨_, upd_same, by have := length_putK ([] : List (Key × V)) k v; simp at this hl; omega, e1, e2⟩⟩
      · obtain ⟨e1, e2⟩ := put_rel (fun ks => .tuple (ks.map kD)) keyEq_T ks rv ek r
        exact ⟨.dT (putK ps ks v), .inl (.t ha (fz _ _ hb) (by omega)), .inr ⟨_, upd_same, by have := length_putK ps ks v; omega, e1, e2⟩⟩
  · cases h
end
end L2.Z
namespace L2.Z
open PySem PySem.Spec PyProof.Rows
inductive Res where
  | val (d : PyData) | new (d : PyData) | slot (i : Nat)
def Res.get (ρ : Ev) : Res → Option PyData
  | .val d | .new d => some d
  | .slot i => (ρ[i]?).bind Slot.get
def esc (ρ : Ev) : Res → Option (PyData × Ev)
  | .val d | .new d => some (d, ρ)
  | .slot i => match ρ[i]? with
    | some (.dat d) => some (d, ρ)
    | some (.own d) => some (d, ρ.set i (.dat d))
    | _ => none
def mkR (n : Bool) (d : PyData) : Res := if n then .new d else .val d
def asg (i : Nat) (s : Slot) (ρ : Ev) : Option Ev := match ρ[i]? with
  | some .un | some (.dat _) | some (.own _) => some (ρ.set i s)
  | _ => none
def getAll (ρ : Ev) : List Res → Option (List PyData)
  | [] => some []
  | r :: rs => (r.get ρ).bind fun d => (getAll ρ rs).bind fun ds => some (d :: ds)
inductive Tg where
  | n (i : Nat) | t (a b : Tg) | t3 (a b c : Tg) | t4 (a b c d : Tg)
def Tg.ixs : Tg → List Nat
  | .n i => [i]
  | .t a b => a.ixs ++ b.ixs
  | .t3 a b c => a.ixs ++ b.ixs ++ c.ixs
  | .t4 a b c d => a.ixs ++ b.ixs ++ c.ixs ++ d.ixs
def Tg.bind : Tg → PyData → Ev → Option Ev
  | .n i, d, ρ => asg i (.dat d) ρ
  | .t a b, d, ρ => match d with
    | .tuple [x, y] => (a.bind x ρ).bind fun ρ => b.bind y ρ
    | _ => none
  | .t3 a b c, d, ρ => match d with
    | .tuple [x, y, z] => (a.bind x ρ).bind fun ρ => (b.bind y ρ).bind fun ρ => c.bind z ρ
    | _ => none
  | .t4 a b c e, d, ρ => match d with
    | .tuple [x, y, z, u] => (a.bind x ρ).bind fun ρ => (b.bind y ρ).bind fun ρ => (c.bind z ρ).bind fun ρ => e.bind u ρ
    | _ => none
def lockR (ρ : Ev) : Res → Ev
  | .slot i => match ρ[i]? with
    | some (.own d) => ρ.set i (.lok false d)
    | some (.ref d) => ρ.set i (.lok true d)
    | _ => ρ
  | _ => ρ
def unlockR (ρ₀ : Ev) (r : Res) (ρ : Ev) : Option Ev := match r with
  | .slot i => match ρ₀[i]? with
    | some (.own _) => (match ρ[i]? with
      | some (.lok _ d) => some (ρ.set i (.own d))
      | _ => none)
    | some (.ref _) => (match ρ[i]? with
      | some (.lok _ d) => some (ρ.set i (.ref d))
      | _ => none)
    | _ => some ρ
  | _ => some ρ
def lockAll : List Res → Ev → Ev
  | [], ρ => ρ
  | r :: rs, ρ => lockAll rs (lockR ρ r)
def unlockAll : List Res → Ev → Ev → Option Ev
  | [], _, ρ => some ρ
  | r :: rs, ρ₀, ρ => (unlockAll rs (lockR ρ₀ r) ρ).bind (unlockR ρ₀ r)
def frzE (i : Nat) (ρ : Ev) : Ev := match ρ[i]? with
  | some (.own d) => ρ.set i (.dat d)
  | _ => ρ
def wipeE : List Nat → Ev → Option Ev
  | [], ρ => some ρ
  | i :: is, ρ => (wipeE is ρ).bind fun ρ => match ρ[i]? with
    | some .un | some (.dat _) => some (ρ.set i .un)
    | _ => none
def backE (ρ₀ : Ev) : List Nat → Ev → Ev
  | [], ρ => ρ
  | i :: is, ρ => match ρ₀[i]? with
    | some s => (backE ρ₀ is ρ).set i s
    | none => backE ρ₀ is ρ
mutual
inductive X where
  | v (i : Nat)
  | k (d : PyData)
  | op1 (f : PyData → Option (Bool × PyData)) (a : X)
  | op2 (f : PyData → PyData → Option (Bool × PyData)) (a b : X)
  | opn (f : List PyData → Option (Bool × PyData)) (as : Xs)
  | and (a b : X) | or (a b : X) | ite (c a b : X)
  | chain (f g : PyData → PyData → Option (Bool × PyData)) (a b c : X)
  | chain3 (f g h : PyData → PyData → Option (Bool × PyData)) (a b c d : X)
  | call (f : Nat) (as : Xs)
  | tup (as : Xs) | lst (as : Xs) | tups (as : Xs) | lsts (as : Xs)
  | lc (e : X) (t : Tg) (g : List PyData → Option (List PyData)) (as : Xs) (c : X) (own : List Nat)
  | pop (i : Nat)
  | popAt (i : Nat) (e : X)
  | dnew
  | meth (chk : PyData → Bool) (f : PyData → List PyData → Option (Bool × PyData)) (a : X) (as : Xs)
  | frz (i : Nat) (x : X)
inductive Xs where
  | nil | cons (x : X) (r : Xs) | star (x : X) (r : Xs)
end
abbrev Fns := Nat → List PyData → Option (PyData × PyData)
def lcLoop (own : List Nat) (t : Tg) (c : Ev → Option (Bool × Ev)) (e : Ev → Option (PyData × Ev)) : List PyData → List PyData → Ev → Option (List PyData × Ev)
  | [], acc, ρ => some (acc, ρ)
  | d :: ds, acc, ρ => (t.bind d ρ).bind fun ρ => (c ρ).bind fun p => match p.1 with
    | true => (e p.2).bind fun q => (wipeE own q.2).bind fun ρ => lcLoop own t c e ds (acc ++ [q.1]) ρ
    | false => (wipeE own p.2).bind fun ρ => lcLoop own t c e ds acc ρ
def truth (f : Ev → Option (Res × Ev)) (ρ : Ev) : Option (Bool × Ev) := (f ρ).bind fun p => match p.1.get p.2 with
  | some (.bool b) => some (b, p.2)
  | _ => none
def valof (f : Ev → Option (Res × Ev)) (ρ : Ev) : Option (PyData × Ev) := (f ρ).bind fun p => esc p.2 p.1
def escAll (ρ : Ev) : List Res → Option (List PyData × Ev)
  | [] => some ([], ρ)
  | r :: rs => (esc ρ r).bind fun p => (escAll p.2 rs).bind fun q => some (p.1 :: q.1, q.2)
def conOf (ρ : Ev) (j : Nat) : Option PyData := match ρ[j]? with
  | some (.own d) | some (.ref d) => some d
  | _ => none
def conSet (ρ : Ev) (j : Nat) (c : PyData) : Option Ev := match ρ[j]? with
  | some (.own _) => some (ρ.set j (.own c))
  | some (.ref _) => some (ρ.set j (.ref c))
  | _ => none
def Res.ix : Res → Option Nat
  | .slot j => some j
  | _ => none
def callArgs (ρ : Ev) (rs : List Res) : Option Nat → Option (List PyData × Ev)
  | none => escAll ρ rs
  | some k => (escAll ρ (rs.take k)).bind fun p => (escAll p.2 (rs.drop (k + 1))).bind fun q => (rs[k]?).bind fun r => r.ix.bind fun j => (conOf q.2 j).bind fun d => some (p.1 ++ d :: q.1, q.2)
def callBack (ρ : Ev) (rs : List Res) (c : PyData) : Option Nat → Option Ev
  | none => some ρ
  | some k => (rs[k]?).bind fun r => r.ix.bind fun j => conSet ρ j c
def slotsOf (ds : List PyData) (c : PyData) : Option Nat → List Slot
  | none => ds.map .dat
  | some k => (ds.map Slot.dat).set k (.ref c)
section
variable (Φ : Fns) (by_ : Nat → Option Nat)
mutual
def ev : X → Ev → Option (Res × Ev)
  | .v i, ρ => (ρ[i]?).bind fun s => s.get.bind fun _ => some (.slot i, ρ)
  | .k d, ρ => some (.val d, ρ)
  | .frz i x, ρ => ev x (frzE i ρ)
  | .op1 f a, ρ => (ev a ρ).bind fun p => (p.1.get p.2).bind fun d => (f d).bind fun q => some (mkR q.1 q.2, p.2)
  | .op2 f a b, ρ => (ev a ρ).bind fun p => (ev b p.2).bind fun p' => (p.1.get p'.2).bind fun d => (p'.1.get p'.2).bind fun d' => (f d d').bind fun q => some (mkR q.1 q.2, p'.2)
  | .opn f as, ρ => (evs as ρ).bind fun p => (getAll p.2 p.1).bind fun ds => (f ds).bind fun q => some (mkR q.1 q.2, p.2)
  | .and a b, ρ => (truth (ev a) ρ).bind fun p => if p.1 = true then (truth (ev b) p.2).bind fun q => some (.val (.bool q.1), q.2) else some (.val (.bool false), p.2)
  | .or a b, ρ => (truth (ev a) ρ).bind fun p => if p.1 = true then some (.val (.bool true), p.2) else (truth (ev b) p.2).bind fun q => some (.val (.bool q.1), q.2)
  | .ite c a b, ρ => (truth (ev c) ρ).bind fun p => if p.1 = true then ev a p.2 else ev b p.2
  | .chain f g a b c, ρ => (ev a ρ).bind fun p => (ev b p.2).bind fun p' => (p.1.get p'.2).bind fun d => (p'.1.get p'.2).bind fun d' => match f d d' with
    | some (false, .bool true) => (ev c p'.2).bind fun p'' => (p'.1.get p''.2).bind fun e => (p''.1.get p''.2).bind fun e' => match g e e' with
      | some (false, .bool z) => some (.val (.bool z), p''.2)
      | _ => none
    | some (false, .bool false) => some (.val (.bool false), p'.2)
    | _ => none
  | .chain3 f g h a b c d, ρ => (ev a ρ).bind fun p => (ev b p.2).bind fun p' => (p.1.get p'.2).bind fun v => (p'.1.get p'.2).bind fun v' => match f v v' with
    | some (false, .bool true) => (ev c p'.2).bind fun p'' => (p'.1.get p''.2).bind fun e => (p''.1.get p''.2).bind fun e' => match g e e' with
      | some (false, .bool true) => (ev d p''.2).bind fun q => (p''.1.get q.2).bind fun w => (q.1.get q.2).bind fun w' => match h w w' with
        | some (false, .bool z) => some (.val (.bool z), q.2)
        | _ => none
      | some (false, .bool false) => some (.val (.bool false), p''.2)
      | _ => none
    | some (false, .bool false) => some (.val (.bool false), p'.2)
    | _ => none
  | .call f as, ρ => (evs as ρ).bind fun p => (callArgs p.2 p.1 (by_ f)).bind fun q => (Φ f q.1).bind fun z => (callBack q.2 p.1 z.2 (by_ f)).bind fun ρ' => some (.val z.1, ρ')
  | .tup as, ρ => (evv as ρ).bind fun p => some (.val (.tuple p.1), p.2)
  | .lst as, ρ => (evv as ρ).bind fun p => some (.new (.list p.1), p.2)
  | .tups as, ρ => (evv as ρ).bind fun p => if p.1.length ≤ sizeLine then some (.val (.tuple p.1), p.2) else none
  | .lsts as, ρ => (evv as ρ).bind fun p => if p.1.length ≤ sizeLine then some (.new (.list p.1), p.2) else none
  | .lc e t g as c own, ρ => (evs as ρ).bind fun p => (getAll p.2 p.1).bind fun ds => (g ds).bind fun items =>
      (wipeE own (lockAll p.1 p.2)).bind fun ρ₁ => (lcLoop own t (truth (ev c)) (valof (ev e)) items [] ρ₁).bind fun q =>
      (unlockAll p.1 p.2 (backE (lockAll p.1 p.2) own q.2)).bind fun ρ₂ => some (.new (.list q.1), ρ₂)
  | .pop i, ρ => (conOf ρ i).bind fun c => match c with
    | .list ds => (ds[ds.length - 1]?).bind fun d => (conSet ρ i (.list ds.dropLast)).bind fun ρ => some (.val d, ρ)
    | _ => none
  | .popAt i e, ρ => (conOf ρ i).bind fun c0 => match c0 with
    | .list _ => (valof (ev e) ρ).bind fun p => match p.1 with
      | .int j => (conOf p.2 i).bind fun c => match c with
        | .list ds => if 0 ≤ j ∧ j < ds.length ∧ ds.length ≤ sizeLine then (ds[j.toNat]?).bind fun d => (conSet p.2 i (.list (ds.eraseIdx j.toNat))).bind fun ρ => some (.val d, ρ) else none
        | _ => none
      | _ => none
    | _ => none
  | .dnew, ρ => some (.new (.dict []), ρ)
  | .meth chk f a as, ρ => (ev a ρ).bind fun p => (p.1.get p.2).bind fun d0 => if chk d0 = true then (evs as p.2).bind fun q => (p.1.get q.2).bind fun d => (getAll q.2 q.1).bind fun ds => (f d ds).bind fun z => some (mkR z.1 z.2, q.2) else none
def evs : Xs → Ev → Option (List Res × Ev)
  | .nil, ρ => some ([], ρ)
  | .cons x r, ρ => (ev x ρ).bind fun p => (evs r p.2).bind fun q => some (p.1 :: q.1, q.2)
  | .star _ _, _ => none
def evv : Xs → Ev → Option (List PyData × Ev)
  | .nil, ρ => some ([], ρ)
  | .cons x r, ρ => (valof (ev x) ρ).bind fun p => (evv r p.2).bind fun q => some (p.1 :: q.1, q.2)
  | .star x r, ρ => (ev x ρ).bind fun p => match p.1.get p.2 with
    | some (.list ds) | some (.tuple ds) => (evv r p.2).bind fun q => some (ds ++ q.1, q.2)
    | _ => none
end
end
mutual
inductive S where
  | set (i : Nat) (e : X)
  | put (t : Tg) (e : X)
  | par (is : List Nat) (es : Xs)
  | aug (i : Nat) (f : PyData → PyData → Option (Bool × PyData)) (e : X)
  | setAt (i : Nat) (k e : X)
  | app (i : Nat) (e : X)
  | ext (i : Nat) (e : X)
  | expr (e : X)
  | ite (c : X) (a b : Ss)
  | whl (c : X) (b : Ss)
  | frr (t : Tg) (g : List PyData → Option (List PyData)) (as : Xs) (b : Ss)
  | zfr (j : Nat) (t : Tg) (g : List PyData → Option (List PyData)) (as : Xs) (b : Ss)
  | ret (e : X)
  | pass | brk | cnt | stuck
  | raise (n : Str)
  /-- s, whose first step is a call of f that may raise -/
  | may (f : Nat) (as : Xs) (s : S)
  /-- try: b, except n as i: h -/
  | tryS (b : Ss) (n : Str) (i : Nat) (h : Ss)
inductive Ss where
  | nil | cons (s : S) (r : Ss)
end
inductive Out where
  | nx (ρ : Ev) | rt (d : PyData) (ρ : Ev) | bk (ρ : Ev) | ct (ρ : Ev)
  /-- an exception of the class of this name leaves -/
  | xc (n : Str) (ρ : Ev)
def XB : Nat := 1000
def Out.un (i : Nat) : Out → Option Out
  | .nx ρ => (match ρ[i]? with
    | some .un => some (.nx ρ)
    | _ => none)
  | .bk ρ => (match ρ[i]? with
    | some .un => some (.bk ρ)
    | _ => none)
  | .ct ρ => (match ρ[i]? with
    | some .un => some (.ct ρ)
    | _ => none)
  | .rt d ρ => (match ρ[i]? with
    | some .un => some (.rt d ρ)
    | _ => none)
  | .xc _ _ => none
def stored (ρ : Ev) : Res → Option (Slot × Ev)
  | .new d => some (.own d, ρ)
  | r => (esc ρ r).bind fun p => some (.dat p.1, p.2)
def asgAll : List Nat → List Slot → Ev → Option Ev
  | [], [], ρ => some ρ
  | i :: is, s :: ss, ρ => (asgAll is ss ρ).bind (asg i s)
  | _, _, _ => none
def evst (Φ : Fns) (by_ : Nat → Option Nat) : Xs → Ev → Option (List Slot × Ev)
  | .nil, ρ => some ([], ρ)
  | .cons x r, ρ => (ev Φ by_ x ρ).bind fun p => (stored p.2 p.1).bind fun q => (evst Φ by_ r q.2).bind fun z => some (q.1 :: z.1, z.2)
  | .star _ _, _ => none
def whLoop (c : Ev → Option (Bool × Ev)) (b : Ev → Option Out) : Nat → Ev → Option Out
  | 0, _ => none
  | n + 1, ρ => (c ρ).bind fun p => if p.1 = true then (b p.2).bind fun o => match o with
      | .nx ρ | .ct ρ => whLoop c b n ρ
      | .bk ρ => some (.nx ρ)
      | .rt d ρ => some (.rt d ρ)
      | .xc _ _ => none
    else some (.nx p.2)
def frLoop (t : Tg) (b : Ev → Option Out) : List PyData → Ev → Option Out
  | [], ρ => some (.nx ρ)
  | d :: ds, ρ => (t.bind d ρ).bind fun ρ => (b ρ).bind fun o => match o with
      | .nx ρ | .ct ρ => frLoop t b ds ρ
      | .bk ρ => some (.nx ρ)
      | .rt d ρ => some (.rt d ρ)
      | .xc _ _ => none
def Out.mapM (f : Ev → Option Ev) : Out → Option Out
  | .nx ρ => (f ρ).bind fun ρ => some (.nx ρ)
  | .rt d ρ => (f ρ).bind fun ρ => some (.rt d ρ)
  | .bk ρ => (f ρ).bind fun ρ => some (.bk ρ)
  | .ct ρ => (f ρ).bind fun ρ => some (.ct ρ)
  | .xc _ _ => none
def setD (c k v : PyData) : Option PyData := match c with
  | .list ds => match k with
    | .int i => (ixN ds.length i).bind fun j => some (.list (ds.set j v))
    | _ => none
  | .dict kvs => (dPutP kvs k v).bind fun kvs' => some (.dict kvs')
  | _ => none
def lstAt (ρ : Ev) (i : Nat) : Option (List PyData) := (conOf ρ i).bind fun c => match c with
  | .list ds => some ds
  | _ => none
def appD (c : PyData) (es : List PyData) : Option PyData := match c with
  | .list ds => if ds.length + es.length ≤ sizeLine then some (.list (ds ++ es)) else none
  | _ => none
def extSrc (ρ : Ev) : Res → Option (List PyData)
  | .new (.list es) => some es
  | .slot j => lstAt ρ j
  | _ => none
section
variable (Φ : Fns) (by_ : Nat → Option Nat) (M : Nat)
mutual
def evS : S → Ev → Option Out
  | .set i e, ρ => (ev Φ by_ e ρ).bind fun p => (stored p.2 p.1).bind fun q => (asg i q.1 q.2).bind fun ρ => some (.nx ρ)
  | .put t e, ρ => (valof (ev Φ by_ e) ρ).bind fun p => (t.bind p.1 p.2).bind fun ρ => some (.nx ρ)
  | .par is es, ρ => (evst Φ by_ es ρ).bind fun p => (asgAll is p.1 p.2).bind fun ρ => some (.nx ρ)
  | .aug i f e, ρ => match ρ[i]? with
    | some (.dat d) => (ev Φ by_ e ρ).bind fun p => (p.1.get p.2).bind fun d' => (f d d').bind fun q => match q.1 with
      | false => (asg i (.dat q.2) p.2).bind fun ρ => some (.nx ρ)
      | true => none
    | _ => none
  | .setAt i k e, ρ => (valof (ev Φ by_ e) ρ).bind fun p => (conOf p.2 i).bind fun _ => (ev Φ by_ k p.2).bind fun q => (q.1.get q.2).bind fun dk => (conOf q.2 i).bind fun c => (setD c dk p.1).bind fun c' => (conSet q.2 i c').bind fun ρ => some (.nx ρ)
  | .app i e, ρ => (lstAt ρ i).bind fun _ => (valof (ev Φ by_ e) ρ).bind fun p => (conOf p.2 i).bind fun c => (appD c [p.1]).bind fun c' => (conSet p.2 i c').bind fun ρ => some (.nx ρ)
  | .ext i e, ρ => (lstAt ρ i).bind fun _ => (ev Φ by_ e ρ).bind fun p => (extSrc p.2 p.1).bind fun es => (conOf p.2 i).bind fun c => (appD c es).bind fun c' => (conSet p.2 i c').bind fun ρ => some (.nx ρ)
  | .expr e, ρ => (ev Φ by_ e ρ).bind fun p => some (.nx p.2)
  | .ite c a b, ρ => (truth (ev Φ by_ c) ρ).bind fun p => if p.1 = true then evSs a p.2 else evSs b p.2
  | .whl c b, ρ => whLoop (truth (ev Φ by_ c)) (evSs b) M ρ
  | .frr t g as b, ρ => (evs Φ by_ as ρ).bind fun p => (getAll p.2 p.1).bind fun ds => (g ds).bind fun items =>
      (frLoop t (evSs b) items (lockAll p.1 p.2)).bind fun o => o.mapM (unlockAll p.1 p.2)
  | .zfr j t g as b, ρ => (evs Φ by_ as ρ).bind fun p => match p.2[j]? with
    | some .un => (getAll p.2 p.1).bind fun ds => (g ds).bind fun items =>
      (frLoop t (evSs b) items (lockAll p.1 p.2)).bind fun o => o.mapM (unlockAll p.1 p.2)
    | _ => none
  | .ret e, ρ => (valof (ev Φ by_ e) ρ).bind fun p => some (.rt p.1 p.2)
  | .pass, ρ => some (.nx ρ)
  | .brk, ρ => some (.bk ρ)
  | .cnt, ρ => some (.ct ρ)
  | .stuck, _ => none
  | .raise n, ρ => some (.xc n ρ)
  | .may f as s, ρ => (evs Φ by_ as ρ).bind fun p => (escAll p.2 p.1).bind fun q => match Φ (XB + f) q.1 with
    | some (.str n, _) => some (.xc n q.2)
    | some (.none, _) => evS s ρ
    | _ => none
  | .tryS b n i h, ρ => match ρ[i]? with
    | some .un => (evSs b ρ).bind fun o => match o with
      | .xc n' ρ' => if n' = n then (match ρ'[i]? with
        | some .un => (evSs h ρ').bind (Out.un i)
        | _ => none) else none
      | o => some o
    | _ => none
def evSs : Ss → Ev → Option Out
  | .nil, ρ => some (.nx ρ)
  | .cons s r, ρ => (evS s ρ).bind fun o => match o with
    | .nx ρ => evSs r ρ
    | o => some o
end
end
end L2.Z
namespace L2.Z
open PySem PySem.Spec PyProof.Rows
def OR (K : PySem.W.Frag) (F : Hp) (σ : St) (v : V) : Res → Prop
  | .val d => Rp K F v d
  | .new d => Rp K F v d
  | .slot i => σ[i]? = some (some v)
def RR (K : PySem.W.Frag) (G : Hp) (ρ : Ev) (F : Hp) (σ : St) (H : Hp) (v : V) : Res → Prop
  | .val d => Rp K F v d
  | .new d => ∃ p, v = .ref p ∧ Loose G ρ F σ p ∧ MutAt K F H p d
  | .slot i => σ[i]? = some (some v)
def Rq (K : PySem.W.Frag) (F H : Hp) (v : V) : PyData → Prop
  | .list ds => ∃ a xs, v = .ref a ∧ SqL K H a xs ∧ xs.length ≤ sizeLine ∧ RpA K F xs ds
  | .tuple ds => ∃ a xs, v = .ref a ∧ F a = some (.tup xs) ∧ xs.length ≤ sizeLine ∧ RpA K F xs ds
  | .dict kvs => ∃ a, v = .ref a ∧ MutAt K F H a (.dict kvs)
  | .none => v = .non
  | .bool b => v = .bl b
  | .int i => v = .int i
  | .str x => v = .str x
inductive RqA (K : PySem.W.Frag) (F H : Hp) : List V → List PyData → Prop
  | nil : RqA K F H [] []
  | cons {v : V} {vs : List V} {d : PyData} {ds : List PyData} : Rq K F H v d → RqA K F H vs ds → RqA K F H (v :: vs) (d :: ds)
inductive ORs (K : PySem.W.Frag) (F : Hp) (σ : St) : List V → List Res → Prop
  | nil : ORs K F σ [] []
  | cons {v : V} {vs : List V} {r : Res} {rs : List Res} : OR K F σ v r → ORs K F σ vs rs → ORs K F σ (v :: vs) (r :: rs)
section
variable {K : PySem.W.Frag} {Rf : Nat → Option Addr} {G F F' H H' : Hp} {ρ ρ' : Ev} {σ : St} {a : Addr} {d : PyData} {v : V} {r : Res}
theorem Rp.rq (s : Same F H) (h : Rp K F v d) : Rq K F H v d := by
  cases h with
  | non => rfl
  | bl b => rfl
  | int i => rfl
  | str x => rfl
  | lst q z e => exact ⟨_, _, rfl, s.seq q, z, e⟩
  | tup q z e => exact ⟨_, _, rfl, q, z, e⟩
  | dk q z e1 e2 => exact ⟨_, rfl, .inl ⟨_, s _ _ q, z, e1, e2⟩⟩
  | dt q z e1 e2 => exact ⟨_, rfl, .inr ⟨_, s _ _ q, z, e1, e2⟩⟩
theorem MutAt.rq (m : MutAt K F H a d) : Rq K F H (.ref a) d := by
  cases d with
  | list ds => obtain ⟨vs, e, z, r⟩ := m; exact ⟨_, _, rfl, SqL.of e, z, r⟩
  | dict kvs => exact ⟨_, rfl, m⟩
  | _ => exact m.elim
theorem Rq.rp (s : Same F H) (h : Rq K F H v d) : Rp K H v d := by
  cases d with
  | none => cases h; exact .non
  | bool b => cases h; exact .bl b
  | int i => cases h; exact .int i
  | str x => cases h; exact .str x
  | list ds => obtain ⟨a, xs, rfl, q, z, e⟩ := h; exact .lst q z (e.mono s)
  | tuple ds => obtain ⟨a, xs, rfl, q, z, e⟩ := h; exact .tup (s _ _ q) z (e.mono s)
  | dict kvs => obtain ⟨a, rfl, m⟩ := h; exact m.rp s
theorem Rq.mono (s : Same F F') (h : Rq K F H v d) : Rq K F' H v d := by
  cases d with
  | none => exact h
  | bool b => exact h
  | int i => exact h
  | str x => exact h
  | list ds => obtain ⟨a, xs, rfl, q, z, e⟩ := h; exact ⟨a, xs, rfl, q, z, e.mono s⟩
  | tuple ds => obtain ⟨a, xs, rfl, q, z, e⟩ := h; exact ⟨a, xs, rfl, s _ _ q, z, e.mono s⟩
  | dict kvs => obtain ⟨a, rfl, m⟩ := h; exact ⟨a, rfl, m.mono rfl s⟩
theorem RqA.rp (s : Same F H) : ∀ {vs : List V} {ds : List PyData}, RqA K F H vs ds → RpA K H vs ds
  | _, _, .nil => .nil
  | _, _, .cons a b => .cons (a.rp s) (RqA.rp s b)
theorem OR.mono (s : Same F F') (h : OR K F σ v r) : OR K F' σ v r := by
  cases r with
  | val d => exact Rp.mono s h
  | new d => exact Rp.mono s h
  | slot i => exact h
theorem ORs.mono (s : Same F F') : ∀ {vs : List V} {rs : List Res}, ORs K F σ vs rs → ORs K F' σ vs rs
  | _, _, .nil => .nil
  | _, _, .cons a b => .cons (a.mono s) (ORs.mono s b)
theorem SlotOk.rq {i : Nat} {s : Slot} (fz : Same F H) (h : SlotOk K Rf G F H i (some (some v)) s) (e : s.get = some d) : Rq K F H v d := by
  cases s with
  | un => cases e
  | dat d' => cases e; obtain ⟨x, e, r⟩ := h; cases e; exact r.rq fz
  | own d' => cases e; obtain ⟨x, e, _, m⟩ := h; cases e; exact m.rq
  | ref d' => cases e; obtain ⟨x, e, _, m, _⟩ := h; cases e; exact m.rq
  | lok b d' => cases e; obtain ⟨x, o, e, _, _, m⟩ := h; cases e; exact m.rq
  | mat rs => cases e
  | fn a => cases e
theorem SR.rq (R : SR K Rf G ρ F σ H) (o : OR K F σ v r) (e : r.get ρ = some d) : Rq K F H v d := by
  cases r with
  | val d' => cases e; exact Rp.rq R.fz o
  | new d' => cases e; exact Rp.rq R.fz o
  | slot i =>
    simp only [Res.get, Option.bind_eq_some_iff] at e
    obtain ⟨s, e1, e2⟩ := e
    have q := R.sl i s e1
    rw [show σ[i]? = some (some v) from o] at q
    exact q.rq R.fz e2
theorem SR.rqs (R : SR K Rf G ρ F σ H) : ∀ {vs : List V} {rs : List Res} {ds : List PyData}, ORs K F σ vs rs → getAll ρ rs = some ds → RqA K F H vs ds
  | _, _, _, .nil, e => by cases e; exact .nil
  | _, _, _, .cons a b, e => by
    simp only [getAll, Option.bind_eq_some_iff] at e
    obtain ⟨d, e1, ds, e2, e3⟩ := e
    cases e3
    exact .cons (R.rq a e1) (R.rqs b e2)
theorem SR.opd (R : SR K Rf G ρ F σ H) (q : RR K G ρ F σ H v r) : ∃ F', SR K Rf G ρ F' σ H ∧ Same F F' ∧ OR K F' σ v r := by
  cases r with
  | val d => exact ⟨F, R, Same.refl _, q⟩
  | slot i => exact ⟨F, R, Same.refl _, q⟩
  | new d =>
    obtain ⟨p, rfl, l, m⟩ := q
    obtain ⟨F', R', s, z⟩ := R.freezeM m l
    exact ⟨F', R', s, z⟩
theorem SR.slotFreeze (R : SR K Rf G ρ F σ H) {i : Nat} (e : ρ[i]? = some (.own d)) : ∃ F' a, SR K Rf G (ρ.set i (.dat d)) F' σ H ∧ Same F F' ∧ σ[i]? = some (some (.ref a)) ∧ Rp K F' (.ref a) d := by
  obtain ⟨a, ea, na, m⟩ := R.sl i _ e
  obtain ⟨o, eo⟩ := m.there
  have mi : MutI ρ i := ⟨_, e, rfl⟩
  have hi : i < ρ.length := (List.getElem?_eq_some_iff.mp e).1
  have s := upd_Same (o := o) na
  have rp : Rp K (upd F a o) (.ref a) d := by
    cases d with
    | list ds =>
      obtain ⟨vs, e, z, r⟩ := m
      rw [e] at eo; cases eo
      exact .lst (SqL.of upd_same) z (r.mono s)
    | dict kvs =>
      rcases m with ⟨ps, e, z, k, r⟩ | ⟨ps, e, z, k, r⟩
      · rw [e] at eo; cases eo; exact .dk upd_same z k (r.mono s)
      · rw [e] at eo; cases eo; exact .dt upd_same z k (r.mono s)
    | _ => exact m.elim
  have mut' : ∀ j, MutI (ρ.set i (.dat d)) j → MutI ρ j ∧ j ≠ i := fun j ⟨t, et, mt⟩ => by
    by_cases hj : j = i
    · subst hj; rw [List.getElem?_set_self hi] at et; cases et; cases mt
    · rw [List.getElem?_set_ne (Ne.symm hj)] at et; exact ⟨⟨t, et, mt⟩, hj⟩
  refine ⟨upd F a o, a, ⟨by rw [List.length_set]; exact R.len, fun b x e => ?_, fun j t et => ?_, fun j k b mj mk => R.dis j k b (mut' j mj).1 (mut' k mk).1, fun j b mj => R.gm j b (mut' j mj).1, fun b x e => ⟨(R.gs b x e).1, ?_⟩, fun j b eb => ?_, R.gt⟩, s, ea, rp⟩
  · by_cases hb : b = a
    · subst hb; rw [upd_same] at e; cases e; exact eo
    · rw [upd_ne hb] at e; exact R.fz b x e
  · by_cases hj : j = i
    · subst hj
      rw [List.getElem?_set_self hi] at et; cases et
      exact ⟨.ref a, ea, rp⟩
    · rw [List.getElem?_set_ne (Ne.symm hj)] at et
      refine (R.sl j t et).mono s (fun b mt ev => ⟨?_, rfl⟩) fun _ _ _ => rfl
      have hb : b ≠ a := fun z => hj (R.dis j i a ⟨t, et, mt⟩ mi (z ▸ ev) ea)
      rw [upd_ne hb]
      exact (R.mutNone ⟨t, et, mt⟩ ev).1
  · have hb : b ≠ a := fun z => by rw [z, R.gm i a mi ea] at e; cases e
    rw [upd_ne hb]
    exact (R.gs b x e).2
  · obtain ⟨z1, t, z2, z3⟩ := R.rf j b eb
    have hj : j ≠ i := fun z => by subst z; rw [e] at z2; cases z2; cases z3
    exact ⟨z1, t, by rw [List.getElem?_set_ne (Ne.symm hj)]; exact z2, z3⟩
theorem SR.esc (R : SR K Rf G ρ F σ H) (o : OR K F σ v r) (e : Z.esc ρ r = some (d, ρ')) : ∃ F', SR K Rf G ρ' F' σ H ∧ Same F F' ∧ Rp K F' v d := by
  cases r with
  | val d' => simp only [Z.esc, Option.some.injEq, Prod.mk.injEq] at e; obtain ⟨rfl, rfl⟩ := e; exact ⟨F, R, Same.refl _, o⟩
  | new d' => simp only [Z.esc, Option.some.injEq, Prod.mk.injEq] at e; obtain ⟨rfl, rfl⟩ := e; exact ⟨F, R, Same.refl _, o⟩
  | slot i =>
    simp only [Z.esc] at e
    split at e
    · rename_i d' h
      simp only [Option.some.injEq, Prod.mk.injEq] at e; obtain ⟨rfl, rfl⟩ := e
      obtain ⟨x, ex, rx⟩ := R.sl i _ h
      rw [show σ[i]? = some (some v) from o] at ex; cases ex
      exact ⟨F, R, Same.refl _, rx⟩
    · rename_i d' h
      simp only [Option.some.injEq, Prod.mk.injEq] at e; obtain ⟨rfl, rfl⟩ := e
      obtain ⟨F', a, R', s, ea, rp⟩ := R.slotFreeze h
      rw [show σ[i]? = some (some v) from o] at ea; cases ea
      exact ⟨F', R', s, rp⟩
    · cases e
end
theorem PE.imp {X : Cx} {e : Expr} {t t' : TE} (h : PE X e t) (hi : ∀ σ H Q, t' σ H Q → t σ H Q) : PE X e t' := ⟨fun pins s σ H Q I q => h.run pins s σ H Q I (hi σ H Q q)⟩
theorem PT.imp {X : Cx} {e : Expr} {t t' : TT} (h : PT X e t) (hi : ∀ σ H Q, t' σ H Q → t σ H Q) : PT X e t' := ⟨fun pins s σ H Q I q => h.run pins s σ H Q I (hi σ H Q q)⟩
theorem PA.imp {X : Cx} {e : List Expr} {t t' : TA} (h : PA X e t) (hi : ∀ σ H Q, t' σ H Q → t σ H Q) : PA X e t' := ⟨fun pos pins s σ H Q I q => h.run pos pins s σ H Q I (hi σ H Q q)⟩
theorem PS.imp {X : Cx} {e : Stmt} {t t' : TS} (h : PS X e t) (hi : ∀ D σ H, t' D σ H → t D σ H) : PS X e t' := ⟨fun pins s σ H D I q => h.run pins s σ H D I (hi D σ H q)⟩
theorem PSs.imp {X : Cx} {e : List Stmt} {t t' : TS} (h : PSs X e t) (hi : ∀ D σ H, t' D σ H → t D σ H) : PSs X e t' := ⟨fun pins s σ H D I q => h.run pins s σ H D I (hi D σ H q)⟩
theorem PG.imp {X : Cx} {e : Expr} {t t' : TG} (h : PG X e t) (hi : ∀ v σ H Q, t' v σ H Q → t v σ H Q) : PG X e t' := ⟨fun pins s σ H v u Q I r q => h.run pins s σ H v u Q I r (hi v σ H Q q)⟩
abbrev Sem1 := Ev → Option (Res × Ev)
def tX (K : PySem.W.Frag) (f : Sem1) : TE := fun σ H Q => ∃ Rf G ρ F r ρ', SR K Rf G ρ F σ H ∧ f ρ = some (r, ρ') ∧ ∀ v F' H', SR K Rf G ρ' F' σ H' → Same F F' → RR K G ρ' F' σ H' v r → Q v H'
def tB1 (K : PySem.W.Frag) (f : Ev → Option (Bool × Ev)) : TT := fun σ H Q => ∃ Rf G ρ F b ρ', SR K Rf G ρ F σ H ∧ f ρ = some (b, ρ') ∧ ∀ F' H', SR K Rf G ρ' F' σ H' → Same F F' → Q b H'
def tOs (K : PySem.W.Frag) (f : Ev → Option (List Res × Ev)) : TA := fun σ H Q => ∃ Rf G ρ F rs ρ', SR K Rf G ρ F σ H ∧ f ρ = some (rs, ρ') ∧ ∀ vs F' H', SR K Rf G ρ' F' σ H' → Same F F' → ORs K F' σ vs rs → Q vs H'
def tVs (K : PySem.W.Frag) (f : Ev → Option (List PyData × Ev)) : TA := fun σ H Q => ∃ Rf G ρ F ds ρ', SR K Rf G ρ F σ H ∧ f ρ = some (ds, ρ') ∧ ∀ vs F' H', SR K Rf G ρ' F' σ H' → Same F F' → RpA K F' vs ds → Q vs H'
theorem tX_opd {K : PySem.W.Frag} {f : Sem1} {σ : St} {H : Hp} {Q : VK} {Rf : Nat → Option Addr} {G F : Hp} {ρ ρ' : Ev} {r : Res} (R : SR K Rf G ρ F σ H) (e : f ρ = some (r, ρ'))
    (k : ∀ v F' H', SR K Rf G ρ' F' σ H' → Same F F' → OR K F' σ v r → Q v H') : tX K f σ H Q :=
  ⟨Rf, G, ρ, F, r, ρ', R, e, fun v F1 H1 R1 s1 q => by
    obtain ⟨F2, R2, s2, o⟩ := R1.opd q
    exact k v F2 H1 R2 (s1.trans s2) o⟩
theorem tX_val {K : PySem.W.Frag} {f : Sem1} {σ : St} {H : Hp} {Q : VK} {Rf : Nat → Option Addr} {G F : Hp} {ρ ρ' : Ev} {d : PyData} (R : SR K Rf G ρ F σ H) (e : valof f ρ = some (d, ρ'))
    (k : ∀ v F' H', SR K Rf G ρ' F' σ H' → Same F F' → Rp K F' v d → Q v H') : tX K f σ H Q := by
  simp only [valof, Option.bind_eq_some_iff] at e
  obtain ⟨⟨r, ρ1⟩, e1, e2⟩ := e
  refine tX_opd R e1 fun v F1 H1 R1 s1 o => ?_
  obtain ⟨F2, R2, s2, z⟩ := R1.esc o e2
  exact k v F2 H1 R2 (s1.trans s2) z
theorem tX_bool {K : PySem.W.Frag} {f : Sem1} {σ : St} {H : Hp} {Q : VK} {Rf : Nat → Option Addr} {G F : Hp} {ρ ρ' : Ev} {b : Bool} (R : SR K Rf G ρ F σ H) (e : truth f ρ = some (b, ρ'))
    (k : ∀ F' H', SR K Rf G ρ' F' σ H' → Same F F' → Q (.bl b) H') : tX K f σ H Q := by
  simp only [truth, Option.bind_eq_some_iff] at e
  obtain ⟨⟨r, ρ1⟩, e1, e2⟩ := e
  simp only at e2
  split at e2
  · rename_i b' h
    simp only [Option.some.injEq, Prod.mk.injEq] at e2
    obtain ⟨rfl, rfl⟩ := e2
    refine tX_opd R e1 fun v F1 H1 R1 s1 o => ?_
    obtain rfl : v = .bl b' := R1.rq o h
    exact k F1 H1 R1 s1
  · cases e2
abbrev CE (X : Cx) (Φ : Fns) (bf : Nat → Option Nat) (e : Expr) (x : Z.X) : Prop := PE X e (tX X.K (ev Φ bf x))
abbrev CT (X : Cx) (Φ : Fns) (bf : Nat → Option Nat) (e : Expr) (x : Z.X) : Prop := PT X e (tB1 X.K (truth (ev Φ bf x)))
abbrev CA (X : Cx) (Φ : Fns) (bf : Nat → Option Nat) (es : List Expr) (xs : Xs) : Prop := PA X es (tOs X.K (evs Φ bf xs))
abbrev CV (X : Cx) (Φ : Fns) (bf : Nat → Option Nat) (es : List Expr) (xs : Xs) : Prop := PA X es (tVs X.K (evv Φ bf xs))
def Ok1 (K : PySem.W.Frag) (r : V → Hp → VK → Prop) (f : PyData → Option (Bool × PyData)) : Prop := ∀ (Rf : Nat → Option Addr) (G : Hp) (ρ : Ev) (F : Hp) (σ : St) (H : Hp) (v : V) (d : PyData) (n : Bool) (d' : PyData) (Q : VK),
  SR K Rf G ρ F σ H → Rq K F H v d → f d = some (n, d') → (∀ v' F' H', SR K Rf G ρ F' σ H' → Same F F' → RR K G ρ F' σ H' v' (mkR n d') → Q v' H') → r v H Q
def Ok2 (K : PySem.W.Frag) (r : R2) (f : PyData → PyData → Option (Bool × PyData)) : Prop := ∀ (Rf : Nat → Option Addr) (G : Hp) (ρ : Ev) (F : Hp) (σ : St) (H : Hp) (v w : V) (d e : PyData) (n : Bool) (d' : PyData) (Q : VK),
  SR K Rf G ρ F σ H → Rq K F H v d → Rq K F H w e → f d e = some (n, d') → (∀ v' F' H', SR K Rf G ρ F' σ H' → Same F F' → RR K G ρ F' σ H' v' (mkR n d') → Q v' H') → r v w H Q
section
variable {X : Cx} {Φ : Fns} {bf : Nat → Option Nat} {e a b c : Expr} {x y z : Z.X}
theorem red1 {K : PySem.W.Frag} {r : V → Hp → VK → Prop} {f : PyData → Option (Bool × PyData)} (ok : Ok1 K r f) {σ : St} {H : Hp} {Q : VK} (h : tX K (ev Φ bf (.op1 f x)) σ H Q) : tX K (ev Φ bf x) σ H fun v H1 => r v H1 Q := by
  obtain ⟨Rf, G, ρ, F, res, ρ', R, e, k⟩ := h
  simp only [ev, Option.bind_eq_some_iff] at e
  obtain ⟨⟨ra, ρ1⟩, ea, d, ed, ⟨n, d'⟩, ef, e⟩ := e
  simp only [Option.some.injEq, Prod.mk.injEq] at e
  obtain ⟨rfl, rfl⟩ := e
  refine tX_opd R ea fun v F1 H1 R1 s1 o => ?_
  exact ok _ _ _ _ _ _ _ _ _ _ _ R1 (R1.rq o ed) ef fun v' F' H' R' s' q => k v' F' H' R' (s1.trans s') q
theorem red2 {K : PySem.W.Frag} {r : R2} {f : PyData → PyData → Option (Bool × PyData)} (ok : Ok2 K r f) {σ : St} {H : Hp} {Q : VK} (h : tX K (ev Φ bf (.op2 f x y)) σ H Q) : tX K (ev Φ bf x) σ H fun v H1 => tX K (ev Φ bf y) σ H1 fun w H2 => r v w H2 Q := by
  obtain ⟨Rf, G, ρ, F, res, ρ', R, e, k⟩ := h
  simp only [ev, Option.bind_eq_some_iff] at e
  obtain ⟨⟨ra, ρ1⟩, ea, ⟨rb, ρ2⟩, eb, d, ed, d2, ed2, ⟨n, d'⟩, ef, e⟩ := e
  simp only [Option.some.injEq, Prod.mk.injEq] at e
  obtain ⟨rfl, rfl⟩ := e
  refine tX_opd R ea fun v F1 H1 R1 s1 o => ?_
  refine tX_opd R1 eb fun w F2 H2 R2 s2 o2 => ?_
  exact ok _ _ _ _ _ _ _ _ _ _ _ _ _ R2 (R2.rq (o.mono s2) ed) (R2.rq o2 ed2) ef fun v' F' H' R' s' q => k v' F' H' R' (s1.trans (s2.trans s')) q
theorem redT {K : PySem.W.Frag} {f : Sem1} {σ : St} {H : Hp} {Q : Bool → Hp → Prop} (h : tB1 K (truth f) σ H Q) : tX K f σ H fun x H1 => ∃ k, x = .bl k ∧ Q k H1 := by
  obtain ⟨Rf, G, ρ, F, b, ρ', R, e, k⟩ := h
  exact tX_bool R e fun F' H' R' s' => ⟨b, rfl, k F' H' R' s'⟩
theorem ce1 {r : V → Hp → VK → Prop} {f : PyData → Option (Bool × PyData)} (ok : Ok1 X.K r f) (hp : ∀ ta, PE X a ta → PE X e (fun σ H Q => ta σ H fun x H1 => r x H1 Q)) (ha : CE X Φ bf a x) : CE X Φ bf e (.op1 f x) :=
  PE.imp (hp _ ha) fun σ H Q h => red1 ok h
theorem ce2 {r : R2} {f : PyData → PyData → Option (Bool × PyData)} (ok : Ok2 X.K r f) (hp : ∀ ta tb, PE X a ta → PE X b tb → PE X e (tOp r ta tb)) (ha : CE X Φ bf a x) (hb : CE X Φ bf b y) : CE X Φ bf e (.op2 f x y) :=
  PE.imp (hp _ _ ha hb) fun σ H Q h => red2 ok h
theorem ct_of (h : ∀ t, PE X e t → PT X e (tTest t)) (he : CE X Φ bf e x) : CT X Φ bf e x := PT.imp (h _ he) fun σ H Q q => redT q
theorem ct2 {r : R2} {f : PyData → PyData → Option (Bool × PyData)} (ok : Ok2 X.K r f) (hp : ∀ ta tb, PE X a ta → PE X b tb → PT X e (tTest (tOp r ta tb))) (ha : CE X Φ bf a x) (hb : CE X Φ bf b y) : CT X Φ bf e (.op2 f x y) :=
  PT.imp (hp _ _ ha hb) fun σ H Q h => red2 ok (redT h)
theorem SR.there {K : PySem.W.Frag} {Rf : Nat → Option Addr} {G F H : Hp} {ρ : Ev} {σ : St} {i : Nat} {s : Slot} {d : PyData} (R : SR K Rf G ρ F σ H) (e : ρ[i]? = some s) (g : s.get = some d) : ∃ v, σ[i]? = some (some v) := by
  have q := R.sl i s e
  cases s with
  | un => cases g
  | dat d' => obtain ⟨x, e, _⟩ := q; exact ⟨x, e⟩
  | own d' => obtain ⟨x, e, _⟩ := q; exact ⟨_, e⟩
  | ref d' => obtain ⟨x, e, _⟩ := q; exact ⟨_, e⟩
  | lok b d' => obtain ⟨x, o, e, _⟩ := q; exact ⟨_, e⟩
  | mat rs => cases g
  | fn a => cases g
theorem ce_v (i : Nat) {n : Str} {pos : Pos} (hN : X.N[i]? = some n) (hv : Vis X.env.scope n) (hd : (n == ("__debug__" : Str)) = false := by decide) (hcd : (n == ("__classdict__" : Str)) = false := by decide) : CE X Φ bf (.Name n pos) (.v i) := by
  refine PE.imp (pe_var hN hv hd hcd) fun σ H Q h => ?_
  obtain ⟨Rf, G, ρ, F, r, ρ', R, e, k⟩ := h
  simp only [ev, Option.bind_eq_some_iff] at e
  obtain ⟨s, e1, d, e2, e⟩ := e
  simp only [Option.some.injEq, Prod.mk.injEq] at e
  obtain ⟨rfl, rfl⟩ := e
  obtain ⟨v, hv⟩ := R.there e1 e2
  exact ⟨v, hv, k v F H R (Same.refl _) hv⟩
theorem ce_k {v : V} {d : PyData} (h : PE X e (tC v)) (hd : ∀ F, Rp X.K F v d) : CE X Φ bf e (.k d) := by
  refine PE.imp h fun σ H Q h => ?_
  obtain ⟨Rf, G, ρ, F, r, ρ', R, e, k⟩ := h
  simp only [ev, Option.some.injEq, Prod.mk.injEq] at e
  obtain ⟨rfl, rfl⟩ := e
  exact k v F H R (Same.refl _) (hd F)
theorem ce_int {i : Int} {j pos} : CE X Φ bf (.Constant (.int i) j pos) (.k (.int i)) := ce_k pe_int fun _ => .int i
theorem ce_bl {b : Bool} {j pos} : CE X Φ bf (.Constant (.bool b) j pos) (.k (.bool b)) := ce_k pe_bl fun _ => .bl b
theorem ce_non {j pos} : CE X Φ bf (.Constant .none j pos) (.k .none) := ce_k pe_non fun _ => .non
theorem ce_str {s : Str} {j pos} : CE X Φ bf (.Constant (.str s) j pos) (.k (.str s)) := ce_k pe_str fun _ => .str s
theorem ce_one {op} {pos} (h : CE X Φ bf a x) : CE X Φ bf (.BoolOp op [a] pos) x := pe_one h
theorem ce_and {rest : List Expr} {pos} (ha : CE X Φ bf a x) (hb : CE X Φ bf (.BoolOp .And (b :: rest) pos) y) : CE X Φ bf (.BoolOp .And (a :: b :: rest) pos) (.and x y) := by
  refine PE.imp (pe_and ha hb) fun σ H Q h => ?_
  obtain ⟨Rf, G, ρ, F, r, ρ', R, e, k⟩ := h
  simp only [ev, Option.bind_eq_some_iff] at e
  obtain ⟨⟨p, ρ1⟩, ea, e⟩ := e
  refine tX_bool R ea fun F1 H1 R1 s1 => ⟨p, rfl, ?_⟩
  cases p with
  | true =>
    simp only [if_true, Option.bind_eq_some_iff] at e ⊢
    obtain ⟨⟨q, ρ2⟩, eb, e⟩ := e
    simp only [Option.some.injEq, Prod.mk.injEq] at e
    obtain ⟨rfl, rfl⟩ := e
    exact tX_bool R1 eb fun F2 H2 R2 s2 => k _ F2 H2 R2 (s1.trans s2) (.bl q)
  | false =>
    simp only [Bool.false_eq_true, if_false, Option.some.injEq, Prod.mk.injEq] at e ⊢
    obtain ⟨rfl, rfl⟩ := e
    exact k _ F1 H1 R1 s1 (.bl false)
def pNot : PyData → Option (Bool × PyData)
  | .bool b => some (false, .bool (!b))
  | _ => none
theorem ok_not {K : PySem.W.Frag} : Ok1 K (fun x H Q => ∃ c, x = .bl c ∧ Q (.bl (!c)) H) pNot := by
  intro Rf G ρ F σ H v d n d' Q R q e k
  cases d with
  | bool b =>
    cases e
    cases q
    exact ⟨b, rfl, k _ F H R (Same.refl _) (.bl _)⟩
  | _ => cases e
theorem ce_not {pos} (ha : CE X Φ bf a x) : CE X Φ bf (.UnaryOp .Not a pos) (.op1 pNot x) := ce1 ok_not (fun _ h => pe_not h) ha
abbrev CW (X : Cx) (Φ : Fns) (bf : Nat → Option Nat) (e : Expr) (x : Z.X) : Prop := PW X e (tB1 X.K (truth (ev Φ bf x)))
theorem PW.imp {X : Cx} {e : Expr} {t t' : TT} (h : PW X e t) (hi : ∀ σ H Q, t' σ H Q → t σ H Q) : PW X e t' := ⟨fun wh pins s σ H Q I q => h.run wh pins s σ H Q I (hi σ H Q q)⟩
theorem ct_and1 {pos} (ha : CT X Φ bf a x) : CW X Φ bf (.BoolOp .And [a] pos) x := pw_and1 ha
theorem ct_or1 {pos} (ha : CT X Φ bf a x) : CW X Φ bf (.BoolOp .Or [a] pos) x := pw_or1 ha
theorem ct_and {rest : List Expr} {pos} (ha : CT X Φ bf a x) (hb : CW X Φ bf (.BoolOp .And (b :: rest) pos) y) : CW X Φ bf (.BoolOp .And (a :: b :: rest) pos) (.and x y) := by
  refine PW.imp (pw_and ha hb) fun σ H Q h => ?_
  obtain ⟨Rf, G, ρ, F, r, ρ', R, e, k⟩ := h
  simp only [truth, ev, Option.bind_eq_some_iff] at e
  obtain ⟨⟨r0, ρ0⟩, ⟨⟨p, ρ1⟩, ea, e⟩, e0⟩ := e
  refine ⟨Rf, G, ρ, F, p, ρ1, R, by simp only [truth, Option.bind_eq_some_iff]; exact ea, fun F1 H1 R1 s1 => ?_⟩
  cases p with
  | true =>
    simp only [if_true, Option.bind_eq_some_iff] at e ⊢
    obtain ⟨⟨q, ρ2⟩, eb, e⟩ := e
    simp only [Option.some.injEq, Prod.mk.injEq] at e
    obtain ⟨rfl, rfl⟩ := e
    simp only [Res.get, Option.some.injEq, Prod.mk.injEq] at e0
    obtain ⟨rfl, rfl⟩ := e0
    exact ⟨Rf, G, ρ1, F1, q, _, R1, by simp only [truth, Option.bind_eq_some_iff]; exact eb, fun F2 H2 R2 s2 => k F2 H2 R2 (s1.trans s2)⟩
  | false =>
    simp only [Bool.false_eq_true, if_false, Option.some.injEq, Prod.mk.injEq] at e ⊢
    obtain ⟨rfl, rfl⟩ := e
    simp only [Res.get, Option.some.injEq, Prod.mk.injEq] at e0
    obtain ⟨rfl, rfl⟩ := e0
    exact k F1 H1 R1 s1
theorem ct_or {rest : List Expr} {pos} (ha : CT X Φ bf a x) (hb : CW X Φ bf (.BoolOp .Or (b :: rest) pos) y) : CW X Φ bf (.BoolOp .Or (a :: b :: rest) pos) (.or x y) := by
  refine PW.imp (pw_or ha hb) fun σ H Q h => ?_
  obtain ⟨Rf, G, ρ, F, r, ρ', R, e, k⟩ := h
  simp only [truth, ev, Option.bind_eq_some_iff] at e
  obtain ⟨⟨r0, ρ0⟩, ⟨⟨p, ρ1⟩, ea, e⟩, e0⟩ := e
  refine ⟨Rf, G, ρ, F, p, ρ1, R, by simp only [truth, Option.bind_eq_some_iff]; exact ea, fun F1 H1 R1 s1 => ?_⟩
  cases p with
  | false =>
    simp only [Bool.false_eq_true, if_false, Option.bind_eq_some_iff] at e ⊢
    obtain ⟨⟨q, ρ2⟩, eb, e⟩ := e
    simp only [Option.some.injEq, Prod.mk.injEq] at e
    obtain ⟨rfl, rfl⟩ := e
    simp only [Res.get, Option.some.injEq, Prod.mk.injEq] at e0
    obtain ⟨rfl, rfl⟩ := e0
    exact ⟨Rf, G, ρ1, F1, q, _, R1, by simp only [truth, Option.bind_eq_some_iff]; exact eb, fun F2 H2 R2 s2 => k F2 H2 R2 (s1.trans s2)⟩
  | true =>
    simp only [if_true, Option.some.injEq, Prod.mk.injEq] at e ⊢
    obtain ⟨rfl, rfl⟩ := e
    simp only [Res.get, Option.some.injEq, Prod.mk.injEq] at e0
    obtain ⟨rfl, rfl⟩ := e0
    exact k F1 H1 R1 s1
theorem ct_not {pos} (ha : CT X Φ bf a x) : CT X Φ bf (.UnaryOp .Not a pos) (.op1 pNot x) := by
  refine PT.imp (pt_not ha) fun σ H Q h => ?_
  obtain ⟨Rf, G, ρ, F, b, ρ', R, e, k⟩ := h
  simp only [truth, ev, Option.bind_eq_some_iff] at e
  obtain ⟨⟨r0, ρ0⟩, ⟨⟨r1, ρ1⟩, ea, d, ed, ⟨n, d'⟩, ef, e⟩, e0⟩ := e
  cases d with
  | bool b1 =>
    cases ef
    simp only [Option.some.injEq, Prod.mk.injEq] at e
    obtain ⟨rfl, rfl⟩ := e
    simp only [mkR, Bool.false_eq_true, if_false, Res.get, Option.some.injEq, Prod.mk.injEq] at e0
    obtain ⟨rfl, rfl⟩ := e0
    refine ⟨Rf, G, ρ, F, b1, _, R, ?_, fun F1 H1 R1 s1 => k F1 H1 R1 s1⟩
    simp only [truth, Option.bind_eq_some_iff]
    exact ⟨(r1, ρ1), ea, by simp only [ed]⟩
  | _ => cases ef
theorem ce_ite {pos} (hc : CT X Φ bf c z) (ha : CE X Φ bf a x) (hb : CE X Φ bf b y) : CE X Φ bf (.IfExp c a b pos) (.ite z x y) := by
  refine PE.imp (pe_ifExp hc ha hb) fun σ H Q h => ?_
  obtain ⟨Rf, G, ρ, F, r, ρ', R, e, k⟩ := h
  simp only [ev, Option.bind_eq_some_iff] at e
  obtain ⟨⟨p, ρ1⟩, ec, e⟩ := e
  refine ⟨Rf, G, ρ, F, p, ρ1, R, ec, fun F1 H1 R1 s1 => ?_⟩
  cases p with
  | true =>
    simp only [if_true] at e ⊢
    exact ⟨Rf, G, ρ1, F1, r, ρ', R1, e, fun v F2 H2 R2 s2 q => k v F2 H2 R2 (s1.trans s2) q⟩
  | false =>
    simp only [Bool.false_eq_true, if_false] at e ⊢
    exact ⟨Rf, G, ρ1, F1, r, ρ', R1, e, fun v F2 H2 R2 s2 q => k v F2 H2 R2 (s1.trans s2) q⟩
theorem redC {K : PySem.W.Frag} {r r' : R2} {f g : PyData → PyData → Option (Bool × PyData)} (ok : Ok2 K r f) (ok' : Ok2 K r' g) {σ : St} {H : Hp} {Q : VK} (h : tX K (ev Φ bf (.chain f g x y z)) σ H Q) : tChain r r' (tX K (ev Φ bf x)) (tX K (ev Φ bf y)) (tX K (ev Φ bf z)) σ H Q := by
  obtain ⟨Rf, G, ρ, F, res, ρ', R, e, k⟩ := h
  simp only [ev, Option.bind_eq_some_iff] at e
  obtain ⟨⟨ra, ρ1⟩, ea, ⟨rb, ρ2⟩, eb, d, ed, d2, ed2, e⟩ := e
  refine tX_opd R ea fun v F1 H1 R1 s1 o => ?_
  refine tX_opd R1 eb fun w F2 H2 R2 s2 o2 => ?_
  split at e
  · rename_i ef
    simp only [Option.bind_eq_some_iff] at e
    obtain ⟨⟨rc, ρ3⟩, ec, d3, ed3, d4, ed4, e⟩ := e
    split at e
    · rename_i zb eg
      simp only [Option.some.injEq, Prod.mk.injEq] at e
      obtain ⟨rfl, rfl⟩ := e
      refine ok _ _ _ _ _ _ _ _ _ _ _ _ _ R2 (R2.rq (o.mono s2) ed) (R2.rq o2 ed2) ef fun v' F' H' R' s' q => ?_
      obtain rfl : v' = .bl true := Rp.rq R'.fz q
      refine ⟨true, rfl, ?_⟩
      rw [if_pos rfl]
      refine tX_opd R' ec fun u F3 H3 R3 s3 o3 => ?_
      refine ok' _ _ _ _ _ _ _ _ _ _ _ _ _ R3 (R3.rq ((o2.mono s').mono s3) ed3) (R3.rq o3 ed4) eg fun v' F' H' R' s'' q => ?_
      exact k v' F' H' R' (s1.trans (s2.trans (s'.trans (s3.trans s'')))) q
    · cases e
  · rename_i ef
    simp only [Option.some.injEq, Prod.mk.injEq] at e
    obtain ⟨rfl, rfl⟩ := e
    refine ok _ _ _ _ _ _ _ _ _ _ _ _ _ R2 (R2.rq (o.mono s2) ed) (R2.rq o2 ed2) ef fun v' F' H' R' s' q => ?_
    obtain rfl : v' = .bl false := Rp.rq R'.fz q
    refine ⟨false, rfl, ?_⟩
    rw [if_neg Bool.false_ne_true]
    exact k _ F' H' R' (s1.trans (s2.trans s')) (.bl false)
  · cases e
theorem ce_chain {op op' : CmpOp} {r r' : R2} {f g : PyData → PyData → Option (Bool × PyData)} {pos} (ok : Ok2 X.K r f) (ok' : Ok2 X.K r' g) (ho : OpR X (compareOp op) r) (ho' : OpR X (compareOp op') r') (ha : CE X Φ bf a x) (hb : CE X Φ bf b y) (hc : CE X Φ bf c z)
    (hm : lastMarks [op, op'] [b, c] = false := by with_unfolding_all rfl) : CE X Φ bf (.Compare a [op, op'] [b, c] pos) (.chain f g x y z) :=
  PE.imp (pe_chain ho ho' ha hb hc hm) fun σ H Q h => redC ok ok' h
theorem ct_chain {op op' : CmpOp} {r r' : R2} {f g : PyData → PyData → Option (Bool × PyData)} {pos} (ok : Ok2 X.K r f) (ok' : Ok2 X.K r' g) (ho : OpR X (compareOp op) r) (ho' : OpR X (compareOp op') r') (ha : CE X Φ bf a x) (hb : CE X Φ bf b y) (hc : CE X Φ bf c z)
    (hm : lastMarks [op, op'] [b, c] = false := by with_unfolding_all rfl) : CT X Φ bf (.Compare a [op, op'] [b, c] pos) (.chain f g x y z) :=
  PT.imp (pt_chain ho ho' ha hb hc hm) fun σ H Q h => redC ok ok' (redT h)
theorem ce_cmp {op : CmpOp} {r : R2} {f : PyData → PyData → Option (Bool × PyData)} {pos} (ok : Ok2 X.K r f) (ho : OpR X (compareOp op) r) (ha : CE X Φ bf a x) (hb : CE X Φ bf b y) (hm : behindInMarks op b = false) : CE X Φ bf (.Compare a [op] [b] pos) (.op2 f x y) :=
  ce2 ok (fun _ _ h1 h2 => pe_cmpR ho h1 h2 hm) ha hb
theorem ct_cmp {op : CmpOp} {r : R2} {f : PyData → PyData → Option (Bool × PyData)} {pos} (ok : Ok2 X.K r f) (ho : OpR X (compareOp op) r) (ha : CE X Φ bf a x) (hb : CE X Φ bf b y) (hm : behindInMarks op b = false) : CT X Φ bf (.Compare a [op] [b] pos) (.op2 f x y) :=
  ct2 ok (fun _ _ h1 h2 => pt_cmpR ho h1 h2 hm) ha hb
theorem ce_bin {op : Operator} {r : R2} {f : PyData → PyData → Option (Bool × PyData)} {pos} (ok : Ok2 X.K r f) (ho : OpR X (binaryOp op) r) (ha : CE X Φ bf a x) (hb : CE X Φ bf b y) : CE X Φ bf (.BinOp a op b pos) (.op2 f x y) :=
  ce2 ok (fun _ _ h1 h2 => pe_op ho h1 h2) ha hb
theorem ce_un {op : UnaryOp} {r : V → Hp → VK → Prop} {f : PyData → Option (Bool × PyData)} {pos} (ok : Ok1 X.K r f) (ho : UnR X (unaryOp op) r) (ha : CE X Φ bf a x) : CE X Φ bf (.UnaryOp op a pos) (.op1 f x) :=
  ce1 ok (fun _ h => pe_un ho h) ha
theorem ca_nil : CA X Φ bf [] .nil := by
  refine PA.imp pa_nil fun σ H Q h => ?_
  obtain ⟨Rf, G, ρ, F, r, ρ', R, e, k⟩ := h
  simp only [evs, Option.some.injEq, Prod.mk.injEq] at e
  obtain ⟨rfl, rfl⟩ := e
  exact k [] F H R (Same.refl _) .nil
theorem ca_cons {es : List Expr} {xs : Xs} (ha : CE X Φ bf a x) (hr : CA X Φ bf es xs) (hs : starEach (a :: es) X.env = (false, eval a X.env) :: starEach es X.env := by rfl) : CA X Φ bf (a :: es) (.cons x xs) := by
  refine PA.imp (pa_cons ha hr hs) fun σ H Q h => ?_
  obtain ⟨Rf, G, ρ, F, r, ρ', R, e, k⟩ := h
  simp only [evs, Option.bind_eq_some_iff] at e
  obtain ⟨⟨r1, ρ1⟩, e1, ⟨rs, ρ2⟩, e2, e⟩ := e
  simp only [Option.some.injEq, Prod.mk.injEq] at e
  obtain ⟨rfl, rfl⟩ := e
  refine tX_opd R e1 fun v F1 H1 R1 s1 o => ?_
  exact ⟨Rf, G, ρ1, F1, rs, ρ2, R1, e2, fun vs F2 H2 R2 s2 os => k (v :: vs) F2 H2 R2 (s1.trans s2) (.cons (o.mono s2) os)⟩
theorem cv_nil : CV X Φ bf [] .nil := by
  refine PA.imp pa_nil fun σ H Q h => ?_
  obtain ⟨Rf, G, ρ, F, r, ρ', R, e, k⟩ := h
  simp only [evv, Option.some.injEq, Prod.mk.injEq] at e
  obtain ⟨rfl, rfl⟩ := e
  exact k [] F H R (Same.refl _) .nil
theorem cv_cons {es : List Expr} {xs : Xs} (ha : CE X Φ bf a x) (hr : CV X Φ bf es xs) (hs : starEach (a :: es) X.env = (false, eval a X.env) :: starEach es X.env := by rfl) : CV X Φ bf (a :: es) (.cons x xs) := by
  refine PA.imp (pa_cons ha hr hs) fun σ H Q h => ?_
  obtain ⟨Rf, G, ρ, F, r, ρ', R, e, k⟩ := h
  simp only [evv, Option.bind_eq_some_iff] at e
  obtain ⟨⟨d1, ρ1⟩, e1, ⟨ds, ρ2⟩, e2, e⟩ := e
  simp only [Option.some.injEq, Prod.mk.injEq] at e
  obtain ⟨rfl, rfl⟩ := e
  refine tX_val R e1 fun v F1 H1 R1 s1 o => ?_
  exact ⟨Rf, G, ρ1, F1, ds, ρ2, R1, e2, fun vs F2 H2 R2 s2 os => k (v :: vs) F2 H2 R2 (s1.trans s2) (.cons (o.mono s2) os)⟩
theorem SR.newTup {K : PySem.W.Frag} {Rf : Nat → Option Addr} {G F H : Hp} {ρ : Ev} {σ : St} {p : Addr} {vs : List V} {ds : List PyData} (R : SR K Rf G ρ F σ H) (h : H p = none) (hl : vs.length ≤ sizeLine) (ra : RpA K F vs ds) :
    ∃ F', SR K Rf G ρ F' σ (upd H p (.tup vs)) ∧ Same F F' ∧ Rp K F' (.ref p) (.tuple ds) := by
  have R1 := R.laid (o := .tup vs) h
  have l := R1.loose_new (p := p)
  have l' : Loose G ρ F σ p := R.loose_new h
  obtain ⟨R2, s⟩ := R1.freeze upd_same l'
  exact ⟨_, R2, s, .tup upd_same hl (ra.mono s)⟩
theorem SR.newLst {K : PySem.W.Frag} {Rf : Nat → Option Addr} {G F H : Hp} {ρ : Ev} {σ : St} {p : Addr} {vs : List V} {ds : List PyData} (R : SR K Rf G ρ F σ H) (h : H p = none) (hl : vs.length ≤ sizeLine) (ra : RpA K F vs ds) :
    SR K Rf G ρ F σ (upd H p (.lst vs)) ∧ RR K G ρ F σ (upd H p (.lst vs)) (.ref p) (.new (.list ds)) :=
  ⟨R.laid h, p, rfl, R.loose_new h, vs, upd_same, hl, ra⟩
def Xs.len : Xs → Nat
  | .nil => 0
  | .cons _ r => r.len + 1
  | .star _ _ => sizeLine + 1
theorem evv_len : ∀ {xs : Xs} {ρ ρ' : Ev} {ds : List PyData}, xs.len ≤ sizeLine → evv Φ bf xs ρ = some (ds, ρ') → ds.length = xs.len
  | .nil, _, _, _, _, e => by simp only [evv, Option.some.injEq, Prod.mk.injEq] at e; obtain ⟨rfl, rfl⟩ := e; rfl
  | .cons x r, _, _, _, h, e => by
    simp only [evv, Option.bind_eq_some_iff] at e
    obtain ⟨⟨d1, ρ1⟩, e1, ⟨ds, ρ2⟩, e2, e⟩ := e
    simp only [Option.some.injEq, Prod.mk.injEq] at e
    obtain ⟨rfl, rfl⟩ := e
    have := evv_len (xs := r) (by simp only [Xs.len] at h; omega) e2
    simp only [List.length_cons, Xs.len, this]
  | .star x r, _, _, _, h, _ => by simp only [Xs.len] at h; omega
theorem ce_tup {es : List Expr} {xs : Xs} {n pos} (h : CV X Φ bf es xs) (hl : xs.len ≤ sizeLine) : CE X Φ bf (.Tuple es n pos) (.tup xs) := by
  refine PE.imp (pe_tup h) fun σ H Q h => ?_
  obtain ⟨Rf, G, ρ, F, r, ρ', R, e, k⟩ := h
  simp only [ev, Option.bind_eq_some_iff] at e
  obtain ⟨⟨ds, ρ1⟩, e1, e⟩ := e
  simp only [Option.some.injEq, Prod.mk.injEq] at e
  obtain ⟨rfl, rfl⟩ := e
  refine ⟨Rf, G, ρ, F, ds, ρ1, R, e1, fun vs F1 H1 R1 s1 ra => ?_⟩
  have hz : vs.length ≤ sizeLine := by rw [ra.length, evv_len hl e1]; exact hl
  refine ⟨hz, fun p hp => ?_⟩
  obtain ⟨F2, R2, s2, q⟩ := R1.newTup hp hz ra
  exact k _ F2 _ R2 (s1.trans s2) q
theorem ce_lst {es : List Expr} {xs : Xs} {pos} (h : CV X Φ bf es xs) (hl : xs.len ≤ sizeLine) : CE X Φ bf (.List es pos) (.lst xs) := by
  refine PE.imp (pe_lst h) fun σ H Q h => ?_
  obtain ⟨Rf, G, ρ, F, r, ρ', R, e, k⟩ := h
  simp only [ev, Option.bind_eq_some_iff] at e
  obtain ⟨⟨ds, ρ1⟩, e1, e⟩ := e
  simp only [Option.some.injEq, Prod.mk.injEq] at e
  obtain ⟨rfl, rfl⟩ := e
  refine ⟨Rf, G, ρ, F, ds, ρ1, R, e1, fun vs F1 H1 R1 s1 ra => ?_⟩
  have hz : vs.length ≤ sizeLine := by rw [ra.length, evv_len hl e1]; exact hl
  refine ⟨hz, fun p hp => ?_⟩
  obtain ⟨R2, q⟩ := R1.newLst hp hz ra
  exact k _ F1 _ R2 s1 q
end
end L2.Z
namespace L2.Z
open PySem PySem.Spec PyProof.Rows
section
variable {K : PySem.W.Frag} {Rf Rf' : Nat → Option Addr} {G F F' H H' : Hp} {ρ ρ' ρc : Ev} {σ σc : St} {a : Addr} {d c : PyData} {v : V} {r : Res} {j : Nat}
theorem getSet {ρ : Ev} {j i : Nat} {s : Slot} (hj : j < ρ.length) : (ρ.set j s)[i]? = if i = j then some s else ρ[i]? := by
  by_cases h : i = j
  · subst h; rw [List.getElem?_set_self hj, if_pos rfl]
  · rw [List.getElem?_set_ne (Ne.symm h), if_neg h]
theorem conOf_some (R : SR K Rf G ρ F σ H) (e : conOf ρ j = some c) : ∃ a, σ[j]? = some (some (.ref a)) ∧ F a = none ∧ MutAt K F H a c ∧ MutI ρ j ∧ (∀ d, ρ[j]? = some (.ref d) → Rf j = some a) := by
  unfold conOf at e
  split at e
  · rename_i d h
    cases e
    obtain ⟨a, ea, na, m⟩ := R.sl j _ h
    exact ⟨a, ea, na, m, ⟨_, h, rfl⟩, fun d' h' => by rw [h] at h'; cases h'⟩
  · rename_i d h
    cases e
    obtain ⟨a, ea, na, m, q⟩ := R.sl j _ h
    exact ⟨a, ea, na, m, ⟨_, h, rfl⟩, fun d' h' => q⟩
  · cases e
theorem conSet_some (e : conSet ρ j c = some ρ') : (∃ d, ρ[j]? = some (.own d) ∧ ρ' = ρ.set j (.own c)) ∨ (∃ d, ρ[j]? = some (.ref d) ∧ ρ' = ρ.set j (.ref c)) := by
  unfold conSet at e
  split at e
  · rename_i d h; cases e; exact .inl ⟨d, h, rfl⟩
  · rename_i d h; cases e; exact .inr ⟨d, h, rfl⟩
  · cases e
theorem SR.reset (R : SR K Rf G ρ F σ H) (e : conSet ρ j c = some ρ') (ea : σ[j]? = some (some (.ref a))) (s : Same F F') (fz : Same F' H') (na : F' a = none) (m : MutAt K F' H' a c)
    (hm : ∀ i b, i ≠ j → MutI ρ i → σ[i]? = some (some (.ref b)) → F' b = none ∧ H' b = H b) (hG : ∀ b o, G b = some o → H' b = some o ∧ F' b = none) : SR K Rf G ρ' F' σ H' := by
  have key : ∃ s' s0, ρ[j]? = some s0 ∧ s0.isMut = true ∧ ρ' = ρ.set j s' ∧ s'.isMut = true ∧ SlotOk K Rf G F' H' j (σ[j]?) s' ∧ s'.isRf = s0.isRf := by
    rcases conSet_some e with ⟨d, h, rfl⟩ | ⟨d, h, rfl⟩
    · exact ⟨_, _, h, rfl, rfl, rfl, ⟨a, ea, na, m⟩, rfl⟩
    · obtain ⟨b, eb, _, _, q⟩ := R.sl j _ h
      rw [ea] at eb; cases eb
      exact ⟨_, _, h, rfl, rfl, rfl, ⟨a, ea, na, m, q⟩, rfl⟩
  obtain ⟨s', s0, h0, m0, rfl, m', ok, rr⟩ := key
  have hj : j < ρ.length := (List.getElem?_eq_some_iff.mp h0).1
  have mut' : ∀ i, MutI (ρ.set j s') i → MutI ρ i := fun i ⟨t, et, mt⟩ => by
    rw [getSet hj] at et
    split at et
    · rename_i h; subst h; exact ⟨s0, h0, m0⟩
    · exact ⟨t, et, mt⟩
  refine ⟨by rw [List.length_set]; exact R.len, fz, fun i t et => ?_, fun i k b mi mk => R.dis i k b (mut' i mi) (mut' k mk), fun i b mi => R.gm i b (mut' i mi), hG, fun i b eb => ?_, R.gt⟩
  · rw [getSet hj] at et
    split at et
    · rename_i h; subst h; cases et; exact ok
    · rename_i h
      exact (R.sl i t et).mono s (fun b mt ev => hm i b h ⟨t, et, mt⟩ ev) fun b o g => (hG b o g).1.trans (R.gs b o g).1.symm
  · obtain ⟨z1, t, z2, z3⟩ := R.rf i b eb
    refine ⟨z1, ?_⟩
    rw [getSet hj]
    split
    · rename_i h; subst h; rw [h0] at z2; cases z2; exact ⟨s', rfl, rr.trans z3⟩
    · exact ⟨t, z2, z3⟩
theorem SR.write (R : SR K Rf G ρ F σ H) (e : conSet ρ j c = some ρ') (ea : σ[j]? = some (some (.ref a))) (na : F a = none) {o : HO} (mj : MutI ρ j) (m : MutAt K F (upd H a o) a c) : SR K Rf G ρ' F σ (upd H a o) := by
  have ne : ∀ b, b ≠ a → upd H a o b = H b := fun b hb => upd_ne hb
  refine R.reset e ea (Same.refl _) (fun b x q => ?_) na m (fun i b hi mi eb => ?_) (fun b x g => ?_)
  · have hb : b ≠ a := fun z => by rw [z, na] at q; cases q
    rw [ne b hb]; exact R.fz b x q
  · have hb : b ≠ a := fun z => hi (R.dis i j a mi mj (z ▸ eb) ea)
    exact ⟨(R.mutNone mi eb).1, ne b hb⟩
  · have hb : b ≠ a := fun z => by rw [z, R.gm j a mj ea] at g; cases g
    rw [ne b hb]; exact R.gs b x g
theorem SR.escs : ∀ {vs : List V} {rs : List Res} {ds : List PyData} {ρ ρ' : Ev} {F : Hp}, SR K Rf G ρ F σ H → ORs K F σ vs rs → escAll ρ rs = some (ds, ρ') → ∃ F', SR K Rf G ρ' F' σ H ∧ Same F F' ∧ RpA K F' vs ds
  | _, _, _, _, _, _, R, .nil, e => by
    simp only [escAll, Option.some.injEq, Prod.mk.injEq] at e; obtain ⟨rfl, rfl⟩ := e
    exact ⟨_, R, Same.refl _, .nil⟩
  | _, _, _, _, _, _, R, .cons o os, e => by
    simp only [escAll, Option.bind_eq_some_iff] at e
    obtain ⟨⟨d, ρ1⟩, e1, ⟨ds, ρ2⟩, e2, e⟩ := e
    simp only [Option.some.injEq, Prod.mk.injEq] at e
    obtain ⟨rfl, rfl⟩ := e
    obtain ⟨F1, R1, s1, q⟩ := R.esc o e1
    obtain ⟨F2, R2, s2, qs⟩ := SR.escs R1 (os.mono s1) e2
    exact ⟨F2, R2, s1.trans s2, .cons (q.mono s2) qs⟩
theorem ORs.take : ∀ {vs : List V} {rs : List Res} (n : Nat), ORs K F σ vs rs → ORs K F σ (vs.take n) (rs.take n)
  | _, _, 0, _ => .nil
  | _, _, _ + 1, .nil => .nil
  | _, _, n + 1, .cons r t => .cons r (ORs.take n t)
theorem ORs.drop : ∀ {vs : List V} {rs : List Res} (n : Nat), ORs K F σ vs rs → ORs K F σ (vs.drop n) (rs.drop n)
  | _, _, 0, r => r
  | _, _, _ + 1, .nil => .nil
  | _, _, n + 1, .cons _ t => ORs.drop n t
theorem ORs.get : ∀ {vs : List V} {rs : List Res} {i : Nat} {r : Res}, ORs K F σ vs rs → rs[i]? = some r → ∃ v, vs[i]? = some v ∧ OR K F σ v r
  | _, _, _, _, .nil, e => by simp at e
  | _, _, 0, _, .cons a _, e => by simp at e; subst e; exact ⟨_, rfl, a⟩
  | _, _, i + 1, r, .cons _ b, e => by
    obtain ⟨v, h1, h2⟩ := ORs.get (i := i) (r := r) b (by simpa using e)
    exact ⟨v, by simpa using h1, h2⟩
theorem ORs.length : ∀ {vs : List V} {rs : List Res}, ORs K F σ vs rs → vs.length = rs.length
  | _, _, .nil => rfl
  | _, _, .cons _ b => by simp [ORs.length b]
def rfOf (k : Option Nat) (vs : List V) : Nat → Option Addr := fun i => if k = some i then (match vs[i]? with | some (.ref a) => some a | _ => none) else none
def spF (K : PySem.W.Frag) (k : Option Nat) (np : Nat) (φ : List PyData → Option (PyData × PyData)) : Sp := fun vs H Q _ => vs.length = np ∧ ∃ (G F : Hp) (ds : List PyData) (c d c' : PyData),
  SR K (rfOf k vs) G (slotsOf ds c k) F (vs.map some) H ∧ (∀ i, k = some i → ds[i]? = some c) ∧ φ ds = some (d, c') ∧
  ∀ v F' H', SR K (rfOf k vs) G (slotsOf ds c' k) F' (vs.map some) H' → Same F F' → Rp K F' v d → Q v H'
open Classical in
noncomputable def prot (G : Hp) (ρ : Ev) (σ : St) (H : Hp) (j : Option Nat) : Hp := fun b => if ∃ i, some i ≠ j ∧ MutI ρ i ∧ σ[i]? = some (some (.ref b)) then H b else G b
theorem prot_gs (R : SR K Rf G ρ F σ H) {j : Option Nat} {b : Addr} {o : HO} (e : prot G ρ σ H j b = some o) : H b = some o ∧ F b = none := by
  unfold prot at e
  split at e
  · rename_i h
    obtain ⟨i, _, mi, ei⟩ := h
    exact ⟨e, (R.mutNone mi ei).1⟩
  · exact R.gs b o e
theorem SR.mutAt (R : SR K Rf G ρ F σ H) {i : Nat} {a : Addr} (m : MutI ρ i) (e : σ[i]? = some (some (.ref a))) : ∃ d, MutAt K F H a d := by
  obtain ⟨s, e1, e2⟩ := m
  have q := R.sl i s e1
  cases s with
  | un => cases e2
  | dat d => cases e2
  | own d => obtain ⟨b, eb, n, m⟩ := q; rw [eb] at e; cases e; exact ⟨_, m⟩
  | ref d => obtain ⟨b, eb, n, m, _⟩ := q; rw [eb] at e; cases e; exact ⟨_, m⟩
  | lok r d => cases e2
  | mat rs => cases e2
  | fn a => cases e2
theorem prot_gt (R : SR K Rf G ρ F σ H) {j : Option Nat} : ∀ b xs, prot G ρ σ H j b ≠ some (.tup xs) := fun b xs e => by
  unfold prot at e
  split at e
  · rename_i h
    obtain ⟨i, _, mi, ei⟩ := h
    obtain ⟨d, m⟩ := R.mutAt mi ei
    exact m.noTup e xs rfl
  · exact R.gt b xs e
theorem prot_G (R : SR K Rf G ρ F σ H) {j : Option Nat} {b : Addr} {o : HO} (e : G b = some o) : prot G ρ σ H j b = some o := by
  unfold prot
  split
  · exact (R.gs b o e).1
  · exact e
theorem prot_mut (R : SR K Rf G ρ F σ H) {j : Option Nat} {b : Addr} {i : Nat} (hi : some i ≠ j) (mi : MutI ρ i) (ei : σ[i]? = some (some (.ref b))) : prot G ρ σ H j b = H b := by
  unfold prot
  rw [if_pos ⟨i, hi, mi, ei⟩]
theorem prot_at (R : SR K Rf G ρ F σ H) (mj : MutI ρ j) (ej : σ[j]? = some (some (.ref a))) : prot G ρ σ H (some j) a = none := by
  unfold prot
  rw [if_neg, R.gm j a mj ej]
  rintro ⟨i, hi, mi, ei⟩
  exact hi (congrArg some (R.dis i j a mi mj ei ej))
theorem SR.kept (R : SR K Rf G ρ F σ H) {jo : Option Nat} (Rc : SR K Rf' (prot G ρ σ H jo) ρc F' σc H') :
    (∀ i b, some i ≠ jo → MutI ρ i → σ[i]? = some (some (.ref b)) → F' b = none ∧ H' b = H b) ∧ (∀ b o, G b = some o → H' b = some o ∧ F' b = none) := by
  refine ⟨fun i b hi mi ei => ?_, fun b o g => Rc.gs b o (prot_G R g)⟩
  obtain ⟨_, o, ho⟩ := R.mutNone mi ei
  have q := Rc.gs b o ((prot_mut R hi mi ei).trans ho)
  exact ⟨q.2, q.1.trans ho.symm⟩
theorem SR.backN (R : SR K Rf G ρ F σ H) (Rc : SR K Rf' (prot G ρ σ H none) ρc F' σc H') (s : Same F F') : SR K Rf G ρ F' σ H' := by
  obtain ⟨k1, k2⟩ := R.kept Rc
  exact ⟨R.len, Rc.fz, fun i t e => (R.sl i t e).mono s (fun b mt ev => k1 i b (by simp) ⟨t, e, mt⟩ ev) fun b o g => (k2 b o g).1.trans (R.gs b o g).1.symm, R.dis, R.gm, k2, R.rf, R.gt⟩
theorem slotsOf_get {ds : List PyData} {c : PyData} {k : Option Nat} {i : Nat} {s : Slot} (e : (slotsOf ds c k)[i]? = some s) : (k = some i ∧ s = .ref c ∧ i < ds.length) ∨ (k ≠ some i ∧ ∃ d, ds[i]? = some d ∧ s = .dat d) := by
  cases k with
  | none =>
    unfold slotsOf at e
    rw [List.getElem?_map] at e
    cases h : ds[i]? with
    | none => rw [h] at e; cases e
    | some d => rw [h] at e; cases e; exact .inr ⟨by simp, d, rfl, rfl⟩
  | some k =>
    unfold slotsOf at e
    by_cases hi : k = i
    · subst hi
      by_cases hk : k < (ds.map Slot.dat).length
      · rw [List.getElem?_set_self hk] at e; cases e; exact .inl ⟨rfl, rfl, by simpa using hk⟩
      · rw [List.getElem?_eq_none (by rw [List.length_set]; omega)] at e; cases e
    · rw [List.getElem?_set_ne hi, List.getElem?_map] at e
      cases h : ds[i]? with
      | none => rw [h] at e; cases e
      | some d => rw [h] at e; cases e; exact .inr ⟨by simpa using hi, d, rfl, rfl⟩
theorem slotsOf_length {ds : List PyData} {c : PyData} {k : Option Nat} : (slotsOf ds c k).length = ds.length := by
  cases k <;> simp [slotsOf]
theorem SR.entryN {G' : Hp} {vs : List V} {ds : List PyData} (R : SR K Rf G ρ F σ H) (ra : RpA K F vs ds) (hG : ∀ b o, G' b = some o → H b = some o ∧ F b = none) (hT : ∀ b xs, G' b ≠ some (.tup xs)) : SR K (rfOf none vs) G' (slotsOf ds .none none) F (vs.map some) H := by
  have nm : ∀ i, ¬ MutI (slotsOf ds .none none) i := fun i ⟨t, et, mt⟩ => by
    rcases slotsOf_get et with ⟨z, _⟩ | ⟨_, d, _, rfl⟩
    · cases z
    · cases mt
  refine ⟨by rw [slotsOf_length, List.length_map, ra.length], R.fz, fun i t et => ?_, fun i _ _ mi => (nm i mi).elim, fun i _ mi => (nm i mi).elim, hG, fun i b eb => (by unfold rfOf at eb; rw [if_neg (by simp)] at eb; cases eb), hT⟩
  rcases slotsOf_get et with ⟨z, _⟩ | ⟨_, d, ed, rfl⟩
  · cases z
  · obtain ⟨v, ev, rv⟩ := ra.get ed
    exact ⟨v, by rw [List.getElem?_map, ev]; rfl, rv⟩
theorem SR.entryS {G' : Hp} {vs : List V} {ds : List PyData} {k : Nat} (R : SR K Rf G ρ F σ H) (hl : vs.length = ds.length) (ra : ∀ i d, i ≠ k → ds[i]? = some d → ∃ v, vs[i]? = some v ∧ Rp K F v d) (ea : vs[k]? = some (.ref a)) (na : F a = none) (m : MutAt K F H a c)
    (ga : G' a = none) (hG : ∀ b o, G' b = some o → H b = some o ∧ F b = none) (hT : ∀ b xs, G' b ≠ some (.tup xs)) : SR K (rfOf (some k) vs) G' (slotsOf ds c (some k)) F (vs.map some) H := by
  have mk : ∀ i, MutI (slotsOf ds c (some k)) i → i = k := fun i ⟨t, et, mt⟩ => by
    rcases slotsOf_get et with ⟨z, _⟩ | ⟨_, d, _, rfl⟩
    · cases z; rfl
    · cases mt
  refine ⟨by rw [slotsOf_length, List.length_map, hl], R.fz, fun i t et => ?_, fun i j _ mi mj _ _ => (mk i mi).trans (mk j mj).symm, fun i b mi eb => ?_, hG, fun i b eb => ?_, hT⟩
  · rcases slotsOf_get et with ⟨z, rfl, _⟩ | ⟨hi, d, ed, rfl⟩
    · cases z
      exact ⟨a, by rw [List.getElem?_map, ea]; rfl, na, m, by unfold rfOf; rw [if_pos rfl, ea]⟩
    · obtain ⟨v, ev, rv⟩ := ra i d (fun z => hi (by rw [z])) ed
      exact ⟨v, by rw [List.getElem?_map, ev]; rfl, rv⟩
  · rw [mk i mi, List.getElem?_map, ea] at eb
    cases eb
    exact ga
  · unfold rfOf at eb
    split at eb
    · rename_i h
      cases h
      rw [ea] at eb
      cases eb
      have hk : k < ds.length := by rw [← hl]; exact (List.getElem?_eq_some_iff.mp ea).1
      refine ⟨by rw [List.getElem?_map, ea]; rfl, .ref c, ?_, rfl⟩
      unfold slotsOf
      rw [List.getElem?_set_self (by rw [List.length_map]; exact hk)]
    · cases eb
end
theorem getElem?_mid {α : Type} {l1 l2 : List α} {x : α} {i : Nat} : (l1 ++ x :: l2)[i]? = if i < l1.length then l1[i]? else if i = l1.length then some x else l2[i - l1.length - 1]? := by
  by_cases h : i < l1.length
  · rw [if_pos h, List.getElem?_append_left h]
  · rw [if_neg h, List.getElem?_append_right (by omega)]
    by_cases h2 : i = l1.length
    · rw [if_pos h2, h2]; simp
    · rw [if_neg h2]
      obtain ⟨m, hm⟩ : ∃ m, i - l1.length = m + 1 := ⟨i - l1.length - 1, by omega⟩
      rw [hm]; simp
section
variable {X : Cx} {Φ : Fns} {bf : Nat → Option Nat} {e : Expr} {es : List Expr} {xs : Xs} {k f : Nat} {fa : Addr} {fd : FuncData} {ps : List Str} {n : Str} {p pos : Pos}
theorem redCall {np : Nat} {E : XK} {σ : St} {H : Hp} {Q : VK} (hnp : ∀ ds r, Φ f ds = some r → ds.length = np) (h : tX X.K (ev Φ bf (.call f xs)) σ H Q) : tOs X.K (evs Φ bf xs) σ H fun vs H1 => spF X.K (bf f) np (Φ f) (vs ++ []) H1 Q E := by
  obtain ⟨Rf, G, ρ, F, r, ρ', R, e, k⟩ := h
  simp only [ev, Option.bind_eq_some_iff] at e
  obtain ⟨⟨rs, ρ1⟩, e1, ⟨ds, ρ2⟩, e2, ⟨d, c'⟩, e3, ρ3, e4, e⟩ := e
  simp only [Option.some.injEq, Prod.mk.injEq] at e
  obtain ⟨rfl, rfl⟩ := e
  refine ⟨Rf, G, ρ, F, rs, ρ1, R, e1, fun vs F1 H1 R1 s1 os => ?_⟩
  show spF X.K (bf f) np (Φ f) (vs ++ []) H1 Q E
  rw [List.append_nil]
  have hlen := hnp _ _ e3
  cases hb : bf f with
  | none =>
    rw [hb] at e2 e4
    simp only [callArgs] at e2
    simp only [callBack, Option.some.injEq] at e4
    subst e4
    obtain ⟨F2, R2, s2, ra⟩ := SR.escs R1 os e2
    refine ⟨by rw [ra.length, hlen], prot G ρ2 σ H1 none, F2, ds, .none, d, c', R2.entryN ra (fun b o q => prot_gs R2 q) (prot_gt R2), fun i z => (by cases z), e3, fun v F' H' Rc s' q => ?_⟩
    exact k v F' H' (R2.backN Rc s') (s1.trans (s2.trans s')) q
  | some kk =>
    rw [hb] at e2 e4
    simp only [callArgs, Option.bind_eq_some_iff] at e2
    obtain ⟨⟨ds1, ρa⟩, ea, ⟨ds2, ρb⟩, eb, r, er, j, ej, c, ec, e2⟩ := e2
    simp only [Option.some.injEq, Prod.mk.injEq] at e2
    obtain ⟨rfl, rfl⟩ := e2
    simp only [callBack, Option.bind_eq_some_iff] at e4
    obtain ⟨r', er', j', ej', e4⟩ := e4
    rw [er] at er'; cases er'
    rw [ej] at ej'; cases ej'
    obtain ⟨Fa, Ra, sa, ra1⟩ := SR.escs R1 (os.take kk) ea
    obtain ⟨F2, R2, sb, ra2⟩ := SR.escs Ra ((os.mono sa).drop (kk + 1)) eb
    have rj : r = .slot j := by cases r <;> simp only [Res.ix] at ej <;> cases ej; rfl
    subst rj
    obtain ⟨v, hv, ov⟩ := os.get er
    obtain ⟨a, ea', na, m, mj, hrf⟩ := conOf_some R2 ec
    have eva : v = .ref a := by
      have z : σ[j]? = some (some v) := ov
      rw [ea'] at z; cases z; rfl
    subst eva
    have hk : kk < vs.length := (List.getElem?_eq_some_iff.mp hv).1
    have hl1 : ds1.length = kk := by rw [← ra1.length, List.length_take]; omega
    have hl2 : ds2.length = vs.length - (kk + 1) := by rw [← ra2.length, List.length_drop]
    have hl : vs.length = (ds1 ++ c :: ds2).length := by rw [List.length_append, List.length_cons]; omega
    have en : SR X.K (rfOf (some kk) vs) (prot G ρb σ H1 (some j)) (slotsOf (ds1 ++ c :: ds2) c (some kk)) F2 (vs.map some) H1 := by
      refine R2.entryS hl (fun i d hi hd => ?_) hv na m (prot_at R2 mj ea') (fun b o q => prot_gs R2 q) (prot_gt R2)
      rw [getElem?_mid] at hd
      split at hd
      · rename_i h
        obtain ⟨w, hw, rw'⟩ := (ra1.mono sb).get hd
        rw [List.getElem?_take_of_lt (by omega)] at hw
        exact ⟨w, hw, rw'⟩
      · split at hd
        · omega
        · obtain ⟨w, hw, rw'⟩ := ra2.get hd
          rw [List.getElem?_drop] at hw
          exact ⟨w, by rw [← hw]; congr 1; omega, rw'⟩
    refine ⟨by rw [hl, hlen], _, F2, _, c, d, c', en, fun i z => (by cases z; rw [getElem?_mid, if_neg (by omega), if_pos hl1.symm]), e3, fun v F' H' Rc s' q => ?_⟩
    have back : SR X.K Rf G ρ3 F' σ H' := by
      obtain ⟨k1, k2⟩ := R2.kept Rc
      have hsl : (slotsOf (ds1 ++ c :: ds2) c' (some kk))[kk]? = some (.ref c') := by
        unfold slotsOf
        rw [List.getElem?_set_self (by rw [List.length_map]; omega)]
      obtain ⟨a', ea2, na2, m2, _⟩ := Rc.sl kk _ hsl
      rw [List.getElem?_map, hv] at ea2
      cases ea2
      exact R2.reset e4 ea' s' Rc.fz na2 m2 (fun i b hi mi eb => k1 i b (by simpa using hi) mi eb) k2
    exact k v F' H' back (s1.trans (sa.trans (sb.trans s'))) q
theorem ce_call (Fk : FnOk X.prog X.w X.K X.mg X.base CX0 k fa fd ps (spF X.K (bf f) ps.length (Φ f))) (hnp : ∀ ds r, Φ f ds = some r → ds.length = ps.length) (hr : Room k X.A) (hm : X.mg n = some (.ref fa)) (hk : PySem.W.keepIn X.K (.ref fa) = true) (hb : Binds X.K fd ps [])
    (hg : Gl X n) (ha : CA X Φ bf (e :: es) xs) (hdb : (n == ("__debug__" : Str)) = false := by decide) (he : starEach (e :: es) X.env = (false, eval e X.env) :: starEach es X.env := by rfl) (hpl : (backTo pos (starEach es X.env)).any (·.1) = false := by rfl) :
    CE X Φ bf (.Call (.Name n p) (e :: es) [] pos) (.call f xs) :=
  PE.imp (pe_call Fk hr hg hm hk hb .nil pass0 ha hdb he hpl) fun σ H Q h => redCall hnp h
end
end L2.Z
namespace L2.Z
open PySem PySem.Spec PyProof.Rows
section
variable {K : PySem.W.Frag} {Rf Rf' : Nat → Option Addr} {G F F' H H' : Hp} {ρ ρ' : Ev} {σ σ' : St} {a p : Addr} {d c : PyData} {v : V} {r : Res} {j i : Nat} {s : Slot}
theorem asg_some (e : asg i s ρ = some ρ') : (∃ t, ρ[i]? = some t ∧ t.isRf = false) ∧ ρ' = ρ.set i s := by
  unfold asg at e
  split at e
  · rename_i h; cases e; exact ⟨⟨_, h, rfl⟩, rfl⟩
  · rename_i h; cases e; exact ⟨⟨_, h, rfl⟩, rfl⟩
  · rename_i h; cases e; exact ⟨⟨_, h, rfl⟩, rfl⟩
  · cases e
theorem Loose.rf (R : SR K Rf G ρ F σ H) (l : Loose G ρ F σ p) : Rf i ≠ some p := fun e => by
  obtain ⟨z1, s, z2, z3⟩ := R.rf i p e
  cases s with
  | ref d => exact l.2.2 i ⟨_, z2, rfl⟩ z1
  | lok b d =>
    obtain ⟨a, o, e1, _, g, _⟩ := R.sl i _ z2
    rw [z1] at e1; cases e1
    rw [l.2.1] at g; cases g
  | _ => cases z3
def SO (K : PySem.W.Frag) (G : Hp) (ρ : Ev) (F : Hp) (σ : St) (H : Hp) (v : V) : Slot → Prop
  | .dat d => Rp K F v d
  | .own d => ∃ p, v = .ref p ∧ Loose G ρ F σ p ∧ MutAt K F H p d
  | _ => False
theorem SR.asg (R : SR K Rf G ρ F σ H) (e : Z.asg i s ρ = some ρ') (so : SO K G ρ F σ H v s) : SR K Rf G ρ' F (σ.set i (some v)) H := by
  obtain ⟨⟨t, ht, hr⟩, rfl⟩ := asg_some e
  have hi : i < ρ.length := (List.getElem?_eq_some_iff.mp ht).1
  have hσ : i < σ.length := by rw [← R.len]; exact hi
  have gσ : ∀ k, (σ.set i (some v))[k]? = if k = i then some (some v) else σ[k]? := fun k => by
    by_cases h : k = i
    · subst h; rw [List.getElem?_set_self hσ, if_pos rfl]
    · rw [List.getElem?_set_ne (Ne.symm h), if_neg h]
  have mutc : ∀ k, MutI (ρ.set i s) k → (k = i ∧ s.isMut = true) ∨ (k ≠ i ∧ MutI ρ k) := fun k ⟨u, eu, mu⟩ => by
    rw [getSet hi] at eu
    split at eu
    · rename_i h; cases eu; exact .inl ⟨h, mu⟩
    · rename_i h; exact .inr ⟨h, u, eu, mu⟩
  have own : s.isMut = true → ∃ p, v = .ref p ∧ Loose G ρ F σ p := fun m => by
    cases s with
    | own d => obtain ⟨p, e, l, _⟩ := so; exact ⟨p, e, l⟩
    | ref d => exact so.elim
    | _ => cases m
  refine ⟨by rw [List.length_set, List.length_set]; exact R.len, R.fz, fun k u eu => ?_, fun k l b mk ml ek el => ?_, fun k b mk ek => ?_, R.gs, fun k b eb => ?_, R.gt⟩
  · rw [getSet hi] at eu
    rw [gσ]
    split at eu
    · rename_i h
      cases eu
      rw [if_pos h]
      cases s with
      | un => trivial
      | dat d => exact ⟨v, rfl, so⟩
      | own d => obtain ⟨p, rfl, l, m⟩ := so; exact ⟨p, rfl, l.1, m⟩
      | ref d => exact so.elim
      | lok b d => exact so.elim
      | mat rs => exact so.elim
      | fn a => exact so.elim
    · rename_i h
      rw [if_neg h]
      exact R.sl k u eu
  · rw [gσ] at ek el
    rcases mutc k mk with ⟨hk, mk1⟩ | ⟨hk, mk1⟩
    · rcases mutc l ml with ⟨hl, ml1⟩ | ⟨hl, ml1⟩
      · exact hk.trans hl.symm
      · rw [if_pos hk] at ek; rw [if_neg hl] at el
        cases ek
        obtain ⟨p, e, q⟩ := own mk1
        cases e
        exact (q.2.2 l ml1 el).elim
    · rcases mutc l ml with ⟨hl, ml1⟩ | ⟨hl, ml1⟩
      · rw [if_pos hl] at el; rw [if_neg hk] at ek
        cases el
        obtain ⟨p, e, q⟩ := own ml1
        cases e
        exact (q.2.2 k mk1 ek).elim
      · rw [if_neg hk] at ek; rw [if_neg hl] at el
        exact R.dis k l b mk1 ml1 ek el
  · rw [gσ] at ek
    rcases mutc k mk with ⟨hk, mk1⟩ | ⟨hk, mk1⟩
    · rw [if_pos hk] at ek
      cases ek
      obtain ⟨p, e, q⟩ := own mk1
      cases e
      exact q.2.1
    · rw [if_neg hk] at ek
      exact R.gm k b mk1 ek
  · obtain ⟨z1, u, z2, z3⟩ := R.rf k b eb
    have hk : k ≠ i := fun h => by subst h; rw [ht] at z2; cases z2; rw [hr] at z3; cases z3
    exact ⟨by rw [gσ, if_neg hk]; exact z1, u, by rw [getSet hi, if_neg hk]; exact z2, z3⟩
theorem SR.guard (R : SR K Rf G ρ F σ H) {o : HO} (h : H p = some o) (no : ∀ xs, o ≠ .tup xs) (l : Loose G ρ F σ p) : SR K Rf (upd G p o) ρ F σ H := by
  refine ⟨R.len, R.fz, fun k t et => ?_, R.dis, fun k b mk ek => ?_, fun b x e => ?_, R.rf, gt_upd R.gt no⟩
  · have q := R.sl k t et
    cases t with
    | lok b d =>
      obtain ⟨a, o', e, q, g, m⟩ := q
      exact ⟨a, o', e, q, by rw [upd_ne (fun z => by rw [z, l.2.1] at g; cases g)]; exact g, m⟩
    | mat rs =>
      obtain ⟨a, as, e, m⟩ := q
      exact ⟨a, as, e, m.to (frz_upd fun x u z => by rw [l.2.1] at z; cases z)⟩
    | un => exact q
    | dat d => exact q
    | own d => exact q
    | ref d => exact q
    | fn a => exact q
  · rw [upd_ne (fun z => l.2.2 k mk (by rw [ek, z]))]
    exact R.gm k b mk ek
  · by_cases hb : b = p
    · subst hb; rw [upd_same] at e; cases e; exact ⟨h, l.1⟩
    · rw [upd_ne hb] at e; exact R.gs b x e
theorem SR.unguard {o : HO} (R : SR K Rf (upd G p o) ρ F σ H) (hG : G p = none) (hr : ∀ i, Rf i ≠ some p) (no : noFrz o) : SR K Rf G ρ F σ H ∧ Loose G ρ F σ p ∧ H p = some o := by
  have g0 := R.gs p o upd_same
  refine ⟨⟨R.len, R.fz, fun k t et => ?_, R.dis, fun k b mk ek => ?_, fun b x e => ?_, R.rf, fun b xs e => R.gt b xs (by rw [upd_ne (fun z => by rw [z, hG] at e; cases e)]; exact e)⟩, ⟨g0.2, hG, fun k mk ek => ?_⟩, g0.1⟩
  · have q := R.sl k t et
    cases t with
    | lok b d =>
      obtain ⟨a, o', e, q, g, m⟩ := q
      exact ⟨a, o', e, q, by rw [upd_ne (fun z => hr k (by rw [q, z]))] at g; exact g, m⟩
    | mat rs =>
      obtain ⟨a, as, e, m⟩ := q
      exact ⟨a, as, e, m.to (frz_upd' no)⟩
    | un => exact q
    | dat d => exact q
    | own d => exact q
    | ref d => exact q
    | fn a => exact q
  · have q := R.gm k b mk ek
    by_cases hb : b = p
    · subst hb; rw [upd_same] at q; cases q
    · rw [upd_ne hb] at q; exact q
  · exact R.gs b x (by rw [upd_ne (fun z => by rw [z, hG] at e; cases e)]; exact e)
  · have q := R.gm k p mk ek
    rw [upd_same] at q; cases q
theorem SR.stored (R : SR K Rf G ρ F σ H) (q : RR K G ρ F σ H v r) (e : Z.stored ρ r = some (s, ρ')) : ∃ F', SR K Rf G ρ' F' σ H ∧ Same F F' ∧ SO K G ρ' F' σ H v s := by
  have other : ∀ {r}, OR K F σ v r → ((Z.esc ρ r).bind fun p => some (Slot.dat p.1, p.2)) = some (s, ρ') → ∃ F', SR K Rf G ρ' F' σ H ∧ Same F F' ∧ SO K G ρ' F' σ H v s := fun {r} o e => by
    simp only [Option.bind_eq_some_iff] at e
    obtain ⟨⟨d, ρ1⟩, e1, e⟩ := e
    simp only [Option.some.injEq, Prod.mk.injEq] at e
    obtain ⟨rfl, rfl⟩ := e
    exact R.esc o e1
  cases r with
  | new d =>
    simp only [Z.stored, Option.some.injEq, Prod.mk.injEq] at e
    obtain ⟨rfl, rfl⟩ := e
    exact ⟨F, R, Same.refl _, q⟩
  | val d => exact other (r := .val d) q e
  | slot i => exact other (r := .slot i) q e
end
def OutOk (K : PySem.W.Frag) (Rf : Nat → Option Addr) (G F : Hp) (D : Ends) : Out → Prop
  | .nx ρ => ∀ σ F' H, SR K Rf G ρ F' σ H → Same F F' → D.nx σ H
  | .bk ρ => ∀ σ F' H, SR K Rf G ρ F' σ H → Same F F' → D.bk σ H
  | .ct ρ => ∀ σ F' H, SR K Rf G ρ F' σ H → Same F F' → D.ct σ H
  | .rt d ρ => ∀ v σ F' H, SR K Rf G ρ F' σ H → Same F F' → Rp K F' v d → D.rt v H
  | .xc _ _ => False
theorem OutOk.mono {K : PySem.W.Frag} {Rf : Nat → Option Addr} {G F F' : Hp} {D : Ends} {o : Out} (s : Same F F') (h : OutOk K Rf G F D o) : OutOk K Rf G F' D o := by
  cases o with
  | nx ρ => exact fun σ F1 H R s1 => h σ F1 H R (s.trans s1)
  | bk ρ => exact fun σ F1 H R s1 => h σ F1 H R (s.trans s1)
  | ct ρ => exact fun σ F1 H R s1 => h σ F1 H R (s.trans s1)
  | rt d ρ => exact fun v σ F1 H R s1 => h v σ F1 H R (s.trans s1)
  | xc n ρ => exact h
def tS (K : PySem.W.Frag) (f : Ev → Option Out) : TS := fun D σ H => ∃ Rf G ρ F o, SR K Rf G ρ F σ H ∧ f ρ = some o ∧ OutOk K Rf G F D o
abbrev CS (X : Cx) (Φ : Fns) (bf : Nat → Option Nat) (M : Nat) (st : Stmt) (s : S) : Prop := PS X st (tS X.K (evS Φ bf M s))
abbrev CSs (X : Cx) (Φ : Fns) (bf : Nat → Option Nat) (M : Nat) (st : List Stmt) (s : Ss) : Prop := PSs X st (tS X.K (evSs Φ bf M s))
def tG (K : PySem.W.Frag) (t : Tg) : TG := fun v σ H Q => ∃ Rf G ρ F d ρ', SR K Rf G ρ F σ H ∧ Rp K F v d ∧ t.bind d ρ = some ρ' ∧ ∀ σ', σ'.length = σ.length → (∀ i, i ∉ t.ixs → σ'[i]? = σ[i]?) → SR K Rf G ρ' F σ' H → Q σ' H
abbrev CG (X : Cx) (e : Expr) (t : Tg) : Prop := PG X e (tG X.K t)
section
variable {X : Cx} {pos : Pos} {e1 e2 e3 e4 : Expr} {t1 t2 t3 t4 : Tg} {k : Nat}
theorem cg_n (i : Nat) {x : Str} (hN : X.N.Nodup) (hi : X.N[i]? = some x) (hx : Loc X.env.scope x) (hf : X.fn x = true ∨ X.env.scope.names.lookup x = some .local := by first | exact .inl rfl | exact .inr rfl | assumption) : CG X (.Name x pos) (.n i) := by
  refine PG.imp (pg_name (i := i) hN hi hx hf) fun v σ H Q h => ?_
  obtain ⟨Rf, G, ρ, F, d, ρ', R, q, e, k⟩ := h
  exact k _ (by rw [List.length_set]) (fun j hj => by rw [List.getElem?_set_ne]; intro z; exact hj (by simp [Tg.ixs, z])) (R.asg e q)
theorem rp_tup2 {K : PySem.W.Frag} {F H : Hp} {v : V} {x y : PyData} (s : Same F H) (q : Rp K F v (.tuple [x, y])) : ∃ a u w, v = .ref a ∧ SqT K H a [u, w] ∧ Rp K F u x ∧ Rp K F w y := by
  cases q with
  | tup h _ r =>
    cases r with
    | cons a r => cases r with
      | cons b r => cases r; exact ⟨_, _, _, rfl, SqT.of (s _ _ h), a, b⟩
theorem cg_t (hc : X.calm = true) (h1 : CG X e1 t1) (h2 : CG X e2 t2)
    (s1 : (assignEach [e1, e2] X.env).map (·.2) = assign e1 X.env :: (assignEach [e2] X.env).map (·.2) := by rfl) (s2 : (assignEach [e2] X.env).map (·.2) = assign e2 X.env :: (assignEach [] X.env).map (·.2) := by rfl)
    (hn : (assignEach [e1, e2] X.env).length = 2 := by rfl) (hst : (assignEach [e1, e2] X.env).findIdx? (·.1) = none := by rfl) : CG X (.Tuple [e1, e2] k pos) (.t t1 t2) := by
  refine PG.imp (pg_tup (n := 2) hc (pgs_cons h1 (pgs_cons h2 pgs_nil s2) s1) hn hst) fun v σ H Q h => ?_
  obtain ⟨Rf, G, ρ, F, d, ρ', R, q, e, kk⟩ := h
  simp only [Tg.bind] at e
  split at e
  · rename_i x y
    simp only [Option.bind_eq_some_iff] at e
    obtain ⟨ρ1, e1, e2⟩ := e
    obtain ⟨a, u, w, rfl, hq, q1, q2⟩ := rp_tup2 R.fz q
    refine ⟨a, [u, w], rfl, hq, rfl, u, [w], rfl, Rf, G, ρ, F, x, ρ1, R, q1, e1, fun σ1 l1 g1 R1 => ?_⟩
    refine ⟨w, [], rfl, Rf, G, ρ1, F, y, ρ', R1, q2, e2, fun σ2 l2 g2 R2 => ⟨rfl, ?_⟩⟩
    exact kk σ2 (l2.trans l1) (fun i hi => by
      simp only [Tg.ixs, List.mem_append, not_or] at hi
      rw [g2 i hi.2, g1 i hi.1]) R2
  · cases e
end
section
variable {X : Cx} {Φ : Fns} {bf : Nat → Option Nat} {M : Nat} {e c : Expr} {x y : Z.X} {st : Stmt} {rest a b : List Stmt} {s : S} {ss s1 s2 : Ss} {pos : Pos}
theorem cs_nil : CSs X Φ bf M [] .nil := by
  refine PSs.imp pss_nil fun D σ H h => ?_
  obtain ⟨Rf, G, ρ, F, o, R, e, k⟩ := h
  simp only [evSs, Option.some.injEq] at e
  subst e
  exact k σ F H R (Same.refl _)
theorem cs_cons (h1 : CS X Φ bf M st s) (h2 : CSs X Φ bf M rest ss) : CSs X Φ bf M (st :: rest) (.cons s ss) := by
  refine PSs.imp (pss_cons h1 h2) fun D σ H h => ?_
  obtain ⟨Rf, G, ρ, F, o, R, e, k⟩ := h
  simp only [evSs, Option.bind_eq_some_iff] at e
  obtain ⟨o1, e1, e2⟩ := e
  refine ⟨Rf, G, ρ, F, o1, R, e1, ?_⟩
  cases o1 with
  | nx ρ1 => exact fun σ1 F1 H1 R1 s1 => ⟨Rf, G, ρ1, F1, o, R1, e2, k.mono s1⟩
  | bk ρ1 => simp only [Option.some.injEq] at e2; subst e2; exact k
  | ct ρ1 => simp only [Option.some.injEq] at e2; subst e2; exact k
  | rt d ρ1 => simp only [Option.some.injEq] at e2; subst e2; exact k
  | xc n ρ1 => simp only [Option.some.injEq] at e2; subst e2; exact k
theorem redSet {K : PySem.W.Frag} {i : Nat} {D : Ends} {σ : St} {H : Hp} (h : tS K (evS Φ bf M (.set i x)) D σ H) : tX K (ev Φ bf x) σ H fun v H1 => D.nx (σ.set i (some v)) H1 := by
  obtain ⟨Rf, G, ρ, F, o, R, e, k⟩ := h
  simp only [evS, Option.bind_eq_some_iff] at e
  obtain ⟨⟨r, ρ1⟩, e1, ⟨s, ρ2⟩, e2, ρ3, e3, e⟩ := e
  simp only [Option.some.injEq] at e
  subst e
  refine ⟨Rf, G, ρ, F, r, ρ1, R, e1, fun v F1 H1 R1 s1 q => ?_⟩
  obtain ⟨F2, R2, s2, so⟩ := R1.stored q e2
  exact k _ F2 H1 (R2.asg e3 so) (s1.trans s2)
theorem cs_set (i : Nat) {n : Str} {pos' : Pos} (he : CE X Φ bf e x) (hN : X.N.Nodup) (hi : X.N[i]? = some n) (hx : Loc X.env.scope n) (hs : swapsWith e (some (.Name n pos')) pos.line X.env = pure false := by rfl) (hf : X.fn n = true ∨ X.env.scope.names.lookup n = some .local := by first | exact .inl rfl | exact .inr rfl | assumption) :
    CS X Φ bf M (.Assign [.Name n pos'] e pos) (.set i x) :=
  PS.imp (ps_set hN hi hx he hs hf) fun D σ H h => redSet h
theorem cs_set_by {te : TE} {i : Nat} (hp : PS X st (tAsg te (gName i))) (hr : ∀ σ H Q, tX X.K (ev Φ bf x) σ H Q → te σ H Q) : CS X Φ bf M st (.set i x) :=
  PS.imp hp fun D σ H h => hr _ _ _ (redSet h)
theorem cs_put {tg : Expr} {t : Tg} (he : CE X Φ bf e x) (hg : CG X tg t) (hs : swapsWithSole [tg] e pos.line X.env = pure false := by rfl) (hw : swappedStores [tg] e X.env = pure none := by rfl)
    (h1 : (assignEach [tg] X.env).map (·.2) = [assign tg X.env] := by rfl) : CS X Φ bf M (.Assign [tg] e pos) (.put t x) := by
  refine PS.imp (ps_asg he hg hs hw h1) fun D σ H h => ?_
  obtain ⟨Rf, G, ρ, F, o, R, e, k⟩ := h
  simp only [evS, Option.bind_eq_some_iff] at e
  obtain ⟨⟨d, ρ1⟩, e1, ρ2, e2, e⟩ := e
  simp only [Option.some.injEq] at e
  subst e
  refine tX_val R e1 fun v F1 H1 R1 s1 q => ?_
  exact ⟨Rf, G, ρ1, F1, d, ρ2, R1, q, e2, fun σ' _ _ R' => k σ' F1 H1 R' s1⟩
theorem cs_expr (he : CE X Φ bf e x) (hs : swapsWith e none pos.line X.env = pure false := by rfl) : CS X Φ bf M (.Expr e pos) (.expr x) := by
  refine PS.imp (ps_expr he hs) fun D σ H h => ?_
  obtain ⟨Rf, G, ρ, F, o, R, e, k⟩ := h
  simp only [evS, Option.bind_eq_some_iff] at e
  obtain ⟨⟨r, ρ1⟩, e1, e⟩ := e
  simp only [Option.some.injEq] at e
  subst e
  exact ⟨Rf, G, ρ, F, r, ρ1, R, e1, fun v F1 H1 R1 s1 q => k σ F1 H1 R1 s1⟩
theorem cs_ret (he : CE X Φ bf e x) : CS X Φ bf M (.Return (some e) pos) (.ret x) := by
  refine PS.imp (ps_ret he) fun D σ H h => ?_
  obtain ⟨Rf, G, ρ, F, o, R, e, k⟩ := h
  simp only [evS, Option.bind_eq_some_iff] at e
  obtain ⟨⟨d, ρ1⟩, e1, e⟩ := e
  simp only [Option.some.injEq] at e
  subst e
  exact tX_val R e1 fun v F1 H1 R1 s1 q => k v σ F1 H1 R1 s1 q
theorem cs_ite (hc : CT X Φ bf c x) (ha : CSs X Φ bf M a s1) (hb : CSs X Φ bf M b s2) : CS X Φ bf M (.If c a b pos) (.ite x s1 s2) := by
  refine PS.imp (ps_if hc ha hb) fun D σ H h => ?_
  obtain ⟨Rf, G, ρ, F, o, R, e, k⟩ := h
  simp only [evS, Option.bind_eq_some_iff] at e
  obtain ⟨⟨p, ρ1⟩, e1, e⟩ := e
  refine ⟨Rf, G, ρ, F, p, ρ1, R, e1, fun F1 H1 R1 s1 => ?_⟩
  cases p with
  | true => simp only [if_true] at e ⊢; exact ⟨Rf, G, ρ1, F1, o, R1, e, k.mono s1⟩
  | false => simp only [Bool.false_eq_true, if_false] at e ⊢; exact ⟨Rf, G, ρ1, F1, o, R1, e, k.mono s1⟩
theorem cs_stuck : CS X Φ bf M st .stuck := by
  refine PS.imp ps_never fun D σ H h => ?_
  obtain ⟨Rf, G, ρ, F, o, R, e, k⟩ := h
  simp only [evS] at e
  cases e
theorem cs_whl (hp : PassesOwn (model X.prog X.w) X.A X.env X.xe) (hc : CT X Φ bf c x) (hb : CSs X Φ bf M b ss) : CS X Φ bf M (.While c b [] pos) (.whl x ss) := by
  refine PS.imp (ps_while hp hc hb) fun D σ H h => ?_
  obtain ⟨Rf, G, ρ, F, o, R, e, k⟩ := h
  simp only [evS] at e
  refine ⟨fun m σ H => ∃ ρ F1, SR X.K Rf G ρ F1 σ H ∧ Same F F1 ∧ whLoop (truth (ev Φ bf x)) (evSs Φ bf M ss) m ρ = some o, ⟨M, ρ, F, R, Same.refl _, e⟩, ?_⟩
  rintro m σ H ⟨ρ, F1, R, s1, e⟩
  cases m with
  | zero => simp only [whLoop] at e; cases e
  | succ m =>
    simp only [whLoop, Option.bind_eq_some_iff] at e
    obtain ⟨⟨p, ρ1⟩, e1, e⟩ := e
    refine ⟨Rf, G, ρ, F1, p, ρ1, R, e1, fun F2 H1 R1 s2 => ?_⟩
    cases p with
    | false =>
      simp only [Bool.false_eq_true, if_false, Option.some.injEq] at e ⊢
      subst e
      exact k σ F2 H1 R1 (s1.trans s2)
    | true =>
      simp only [if_true, Option.bind_eq_some_iff] at e ⊢
      obtain ⟨o1, e2, e⟩ := e
      refine ⟨fun σ' H' => ∃ ρ F1, SR X.K Rf G ρ F1 σ' H' ∧ Same F F1 ∧ whLoop (truth (ev Φ bf x)) (evSs Φ bf M ss) m ρ = some o, fun σ' H' q => ⟨m, Nat.lt_succ_self m, q⟩, Rf, G, ρ1, F2, o1, R1, e2, ?_⟩
      cases o1 with
      | nx ρ2 => exact fun σ' F3 H3 R3 s3 => ⟨ρ2, F3, R3, s1.trans (s2.trans s3), e⟩
      | ct ρ2 => exact fun σ' F3 H3 R3 s3 => ⟨ρ2, F3, R3, s1.trans (s2.trans s3), e⟩
      | bk ρ2 =>
        simp only [Option.some.injEq] at e
        subst e
        exact fun σ' F3 H3 R3 s3 => k σ' F3 H3 R3 (s1.trans (s2.trans s3))
      | rt d ρ2 =>
        simp only [Option.some.injEq] at e
        subst e
        exact fun v σ' F3 H3 R3 s3 q => k v σ' F3 H3 R3 (s1.trans (s2.trans s3)) q
      | xc n ρ2 => cases e
end
end L2.Z
namespace L2.Z
open PySem PySem.Spec PyProof.Rows
def pin (Rf : Nat → Option Addr) (j : Nat) (a : Addr) : Nat → Option Addr := fun i => if i = j then some a else Rf i
theorem pin_self {Rf : Nat → Option Addr} {j : Nat} {a : Addr} : pin Rf j a j = some a := by unfold pin; rw [if_pos rfl]
theorem pin_ne {Rf : Nat → Option Addr} {j k : Nat} {a : Addr} (h : k ≠ j) : pin Rf j a k = Rf k := by unfold pin; rw [if_neg h]
def Slot.back (d : PyData) : Slot → Slot
  | .ref _ => .ref d
  | _ => .own d
section
variable {K : PySem.W.Frag} {Rf Rf' : Nat → Option Addr} {G F F' H H' : Hp} {ρ ρ' : Ev} {σ σ' : St} {a p : Addr} {d c : PyData} {v : V} {r : Res} {j i : Nat} {s : Slot}
theorem SR.lock1 (R : SR K Rf G ρ F σ H) {b : Bool} (h : ρ[j]? = some s) (hm : s.isMut = true) (hs : s.get = some d) :
    ∃ a o, SR K (pin Rf j a) (upd G a o) (ρ.set j (.lok b d)) F σ H ∧ σ[j]? = some (some (.ref a)) ∧ G a = none ∧ MutAt K F H a d ∧ H a = some o ∧
      ∀ G0 ρ' F' σ' H' b' d' s', G0 a = none → SR K (pin Rf j a) (upd G0 a o) ρ' F' σ' H' → ρ'[j]? = some (.lok b' d') → s' = s.back d' → SR K Rf G0 (ρ'.set j s') F' σ' H' := by
  have hj : j < ρ.length := (List.getElem?_eq_some_iff.mp h).1
  obtain ⟨a, ea, na, m, qr⟩ : ∃ a, σ[j]? = some (some (.ref a)) ∧ F a = none ∧ MutAt K F H a d ∧ (∀ d', s = .ref d' → Rf j = some a) := by
    have q := R.sl j s h
    cases s with
    | own d' => cases hs; obtain ⟨a, e, n, m⟩ := q; exact ⟨a, e, n, m, fun _ z => by cases z⟩
    | ref d' => cases hs; obtain ⟨a, e, n, m, q⟩ := q; exact ⟨a, e, n, m, fun _ _ => q⟩
    | _ => cases hm
  obtain ⟨o, eo⟩ := m.there
  have mj : MutI ρ j := ⟨s, h, hm⟩
  have ga : G a = none := R.gm j a mj ea
  -- no other slot's pin is a
  have nrf : ∀ k, k ≠ j → Rf k ≠ some a := fun k hk e => by
    obtain ⟨z1, t, z2, z3⟩ := R.rf k a e
    cases t with
    | ref d' => exact hk (R.dis k j a ⟨_, z2, rfl⟩ mj z1 ea)
    | lok b d' =>
      obtain ⟨a', o', e1, _, g, _⟩ := R.sl k _ z2
      rw [z1] at e1; cases e1
      rw [ga] at g; cases g
    | _ => cases z3
  have mutc : ∀ k, MutI (ρ.set j (.lok b d)) k → k ≠ j ∧ MutI ρ k := fun k ⟨u, eu, mu⟩ => by
    rw [getSet hj] at eu
    split at eu
    · cases eu; cases mu
    · rename_i z; exact ⟨z, u, eu, mu⟩
  refine ⟨a, o, ⟨by rw [List.length_set]; exact R.len, R.fz, fun k t et => ?_, fun k l x mk ml => R.dis k l x (mutc k mk).2 (mutc l ml).2, fun k x mk ek => ?_, fun x y e => ?_, fun k x e => ?_, gt_upd R.gt (m.noTup eo)⟩, ea, ga, m, eo, ?_⟩
  · rw [getSet hj] at et
    split at et
    · rename_i z
      cases et
      subst z
      exact ⟨a, o, ea, pin_self, upd_same, m⟩
    · rename_i z
      have q := R.sl k t et
      cases t with
      | ref d' => obtain ⟨a', e, n, m', q⟩ := q; exact ⟨a', e, n, m', (pin_ne z).trans q⟩
      | lok b' d' =>
        obtain ⟨a', o', e, q, g, m'⟩ := q
        exact ⟨a', o', e, (pin_ne z).trans q, by rw [upd_ne (fun z => by rw [z, ga] at g; cases g)]; exact g, m'⟩
      | mat rs =>
        obtain ⟨x, as, e, m0⟩ := q
        exact ⟨x, as, e, m0.to (frz_upd fun x u z => by rw [ga] at z; cases z)⟩
      | un => exact q
      | dat d => exact q
      | own d => exact q
      | fn a => exact q
  · obtain ⟨hk, mk⟩ := mutc k mk
    rw [upd_ne (fun z => hk (R.dis k j a mk mj (by rw [ek, z]) ea))]
    exact R.gm k x mk ek
  · by_cases hx : x = a
    · subst hx; rw [upd_same] at e; cases e; exact ⟨eo, na⟩
    · rw [upd_ne hx] at e; exact R.gs x y e
  · by_cases hk : k = j
    · subst hk
      rw [pin_self] at e
      cases e
      exact ⟨ea, .lok b d, by rw [getSet hj, if_pos rfl], rfl⟩
    · rw [pin_ne hk] at e
      obtain ⟨z1, t, z2, z3⟩ := R.rf k x e
      exact ⟨z1, t, by rw [getSet hj, if_neg hk]; exact z2, z3⟩
  · intro G0 ρ' F' σ' H' b' d' s' ga R' hl es
    have hj' : j < ρ'.length := (List.getElem?_eq_some_iff.mp hl).1
    obtain ⟨a', o', e1, e2, e3, m'⟩ := R'.sl j _ hl
    rw [pin_self] at e2
    cases e2
    have gs' := R'.gs a o upd_same
    have gle : ∀ x y, G0 x = some y → upd G0 a o x = some y := fun x y e => by rw [upd_ne (fun z => by rw [z, ga] at e; cases e)]; exact e
    have nm : ∀ k, MutI ρ' k → σ'[k]? ≠ some (some (.ref a)) := fun k mk ek => by
      have q := R'.gm k a mk ek
      rw [upd_same] at q; cases q
    have sm' : s'.isMut = true := by subst es; cases s <;> rfl
    have mutc' : ∀ k, MutI (ρ'.set j s') k → k = j ∨ MutI ρ' k := fun k ⟨u, eu, mu⟩ => by
      rw [getSet hj'] at eu
      split at eu
      · rename_i z; exact .inl z
      · exact .inr ⟨u, eu, mu⟩
    refine ⟨by rw [List.length_set]; exact R'.len, R'.fz, fun k t et => ?_, fun k l x mk ml ek el => ?_, fun k x mk ek => ?_, fun x y e => R'.gs x y (gle x y e), fun k x e => ?_, fun x xs e => R'.gt x xs (gle x _ e)⟩
    · rw [getSet hj'] at et
      split at et
      · rename_i z
        cases et
        subst z
        subst es
        cases s with
        | own d0 => exact ⟨a, e1, gs'.2, m'⟩
        | ref d0 => exact ⟨a, e1, gs'.2, m', qr d0 rfl⟩
        | _ => cases hm
      · rename_i z
        have q := R'.sl k t et
        cases t with
        | ref d0 => obtain ⟨x, e, n, m0, q⟩ := q; rw [pin_ne z] at q; exact ⟨x, e, n, m0, q⟩
        | lok b0 d0 =>
          obtain ⟨x, y, e, q, g, m0⟩ := q
          rw [pin_ne z] at q
          rw [upd_ne (fun w => nrf k z (by rw [q, w]))] at g
          exact ⟨x, y, e, q, g, m0⟩
        | mat rs =>
          obtain ⟨x, as, e, m0⟩ := q
          exact ⟨x, as, e, m0.to (frz_upd' (m.noFrz eo))⟩
        | un => exact q
        | dat d => exact q
        | own d => exact q
        | fn a => exact q
    · rcases mutc' k mk with hk | mk1
      · rcases mutc' l ml with hl | ml1
        · exact hk.trans hl.symm
        · subst hk; rw [e1] at ek; cases ek; exact (nm l ml1 el).elim
      · rcases mutc' l ml with hl | ml1
        · subst hl; rw [e1] at el; cases el; exact (nm k mk1 ek).elim
        · exact R'.dis k l x mk1 ml1 ek el
    · rcases mutc' k mk with hk | mk1
      · subst hk; rw [e1] at ek; cases ek; exact ga
      · have q := R'.gm k x mk1 ek
        cases g : G0 x with
        | none => rfl
        | some y => rw [gle x y g] at q; cases q
    · by_cases hk : k = j
      · subst hk
        obtain ⟨z1, t, z2, z3⟩ := R.rf k x e
        rw [h] at z2
        cases z2
        cases s with
        | ref d0 =>
          rw [qr d0 rfl] at e
          cases e
          subst es
          exact ⟨e1, _, by rw [getSet hj', if_pos rfl], rfl⟩
        | own d0 => cases z3
        | _ => cases hm
      · obtain ⟨z1, t, z2, z3⟩ := R'.rf k x ((pin_ne hk).trans e)
        exact ⟨z1, t, by rw [getSet hj', if_neg hk]; exact z2, z3⟩
def Keep (K : PySem.W.Frag) (F G : Hp) (v : V) (d : PyData) : Prop := Rp K F v d ∨ ∃ a o, v = .ref a ∧ G a = some o ∧ ∀ F2 H2, Same F F2 → H2 a = some o → MutAt K F2 H2 a d
inductive Keeps (K : PySem.W.Frag) (F G : Hp) : List V → List PyData → Prop
  | nil : Keeps K F G [] []
  | cons {v : V} {vs : List V} {d : PyData} {ds : List PyData} : Keep K F G v d → Keeps K F G vs ds → Keeps K F G (v :: vs) (d :: ds)
theorem Keep.gmono {G' : Hp} (h : ∀ b x, G b = some x → G' b = some x) (k : Keep K F G v d) : Keep K F G' v d := by
  rcases k with k | ⟨a, o, e, g, q⟩
  · exact .inl k
  · exact .inr ⟨a, o, e, h a o g, q⟩
theorem Keeps.gmono {G' : Hp} (h : ∀ b x, G b = some x → G' b = some x) : ∀ {vs : List V} {ds : List PyData}, Keeps K F G vs ds → Keeps K F G' vs ds
  | _, _, .nil => .nil
  | _, _, .cons a b => .cons (a.gmono h) (Keeps.gmono h b)
theorem Keep.rq (R : SR K Rf G ρ F' σ H) (s : Same F F') (k : Keep K F G v d) : Rq K F' H v d := by
  rcases k with k | ⟨a, o, rfl, g, q⟩
  · exact (k.mono s).rq R.fz
  · exact (q F' H s (R.gs a o g).1).rq
theorem Keeps.rq (R : SR K Rf G ρ F' σ H) (s : Same F F') : ∀ {vs : List V} {ds : List PyData}, Keeps K F G vs ds → RqA K F' H vs ds
  | _, _, .nil => .nil
  | _, _, .cons a b => .cons (a.rq R s) (Keeps.rq R s b)
def updL (G : Hp) : List (Addr × HO) → Hp
  | [] => G
  | p :: l => updL (upd G p.1 p.2) l
theorem updL_out {G : Hp} {b : Addr} : ∀ {L : List (Addr × HO)}, (∀ p ∈ L, p.1 ≠ b) → updL G L b = G b
  | [], _ => rfl
  | p :: l, h => by
    unfold updL
    rw [updL_out (fun q hq => h q (List.mem_cons_of_mem _ hq)), upd_ne (Ne.symm (h p List.mem_cons_self))]
theorem upd_comm {G : Hp} {a b : Addr} {x y : HO} (h : a ≠ b) : upd (upd G a x) b y = upd (upd G b y) a x := by
  funext c
  by_cases h1 : c = a
  · subst h1; rw [upd_ne h, upd_same, upd_same]
  · rw [upd_ne (a := a) h1]
    by_cases h2 : c = b
    · subst h2; rw [upd_same, upd_same]
    · rw [upd_ne h2, upd_ne h2, upd_ne h1]
theorem updL_comm {D : Addr} {o : HO} : ∀ {L : List (Addr × HO)} {G : Hp}, (∀ p ∈ L, p.1 ≠ D) → updL (upd G D o) L = upd (updL G L) D o
  | [], _, _ => rfl
  | p :: l, G, h => by
    unfold updL
    rw [upd_comm (Ne.symm (h p List.mem_cons_self)), updL_comm (fun q hq => h q (List.mem_cons_of_mem _ hq))]
theorem SR.lockR (R : SR K Rf G ρ F σ H) (o : OR K F σ v r) (e : r.get ρ = some d) :
    ∃ Rf' L, SR K Rf' (updL G L) (Z.lockR ρ r) F σ H ∧ Keep K F (updL G L) v d ∧ (∀ p ∈ L, G p.1 = none ∧ ∃ x, H p.1 = some x) ∧
      ∀ G0 ρ' F' σ' H' ρ'', (∀ p ∈ L, G0 p.1 = none) → SR K Rf' (updL G0 L) ρ' F' σ' H' → unlockR ρ r ρ' = some ρ'' → SR K Rf G0 ρ'' F' σ' H' := by
  have same : ∀ {d : PyData} {f : Ev → Option Ev}, (∀ ρ', f ρ' = some ρ') → ∀ {ρl}, ρl = ρ → Keep K F G v d → ∃ Rf' L, SR K Rf' (updL G L) ρl F σ H ∧ Keep K F (updL G L) v d ∧ (∀ p ∈ L, G p.1 = none ∧ ∃ x, H p.1 = some x) ∧
      ∀ G0 ρ' F' σ' H' ρ'', (∀ p ∈ L, G0 p.1 = none) → SR K Rf' (updL G0 L) ρ' F' σ' H' → f ρ' = some ρ'' → SR K Rf G0 ρ'' F' σ' H' := fun {d f} hf {ρl} hl hk => by
    subst hl
    exact ⟨Rf, [], R, hk, fun _ h => by simp at h, fun G0 ρ' F' σ' H' ρ'' _ R' e => by rw [hf] at e; cases e; exact R'⟩
  cases r with
  | val d' => cases e; exact same (f := unlockR ρ (.val d)) (fun _ => rfl) rfl (.inl o)
  | new d' => cases e; exact same (f := unlockR ρ (.new d)) (fun _ => rfl) rfl (.inl o)
  | slot j =>
    simp only [Res.get, Option.bind_eq_some_iff] at e
    obtain ⟨s, e1, e2⟩ := e
    have hv : σ[j]? = some (some v) := o
    have q := R.sl j s e1
    have mu : ∀ b, s.isMut = true → (∀ ρ', unlockR ρ (.slot j) ρ' = (match ρ'[j]? with | some (.lok _ d) => some (ρ'.set j (s.back d)) | _ => none)) → Z.lockR ρ (.slot j) = ρ.set j (.lok b d) →
        ∃ Rf' L, SR K Rf' (updL G L) (Z.lockR ρ (.slot j)) F σ H ∧ Keep K F (updL G L) v d ∧ (∀ p ∈ L, G p.1 = none ∧ ∃ x, H p.1 = some x) ∧
      ∀ G0 ρ' F' σ' H' ρ'', (∀ p ∈ L, G0 p.1 = none) → SR K Rf' (updL G0 L) ρ' F' σ' H' → unlockR ρ (.slot j) ρ' = some ρ'' → SR K Rf G0 ρ'' F' σ' H' := fun b hm hu hl => by
      obtain ⟨a, o', R', ea, ga, m, ho, un⟩ := R.lock1 (b := b) e1 hm e2
      rw [hv] at ea; cases ea
      refine ⟨pin Rf j a, [(a, o')], by rw [hl]; exact R', .inr ⟨a, o', rfl, upd_same, fun F2 H2 s2 h2 => m.mono (h2.trans ho.symm) s2⟩, fun p hp => ?_, fun G0 ρ' F' σ' H' ρ'' hG R2 eu => ?_⟩
      · obtain rfl : p = (a, o') := by simpa using hp
        exact ⟨ga, o', ho⟩
      · rw [hu] at eu
        split at eu
        · rename_i b2 d2 h2
          cases eu
          exact un G0 ρ' F' σ' H' b2 d2 _ (hG (a, o') (by simp)) R2 h2 rfl
        · cases eu
    cases s with
    | un => cases e2
    | dat d' =>
      cases e2
      obtain ⟨x, ex, rx⟩ := q
      rw [hv] at ex; cases ex
      exact same (f := unlockR ρ (.slot j)) (fun ρ' => by simp only [unlockR, e1]) (by simp only [Z.lockR, e1]) (.inl rx)
    | lok b d' =>
      cases e2
      obtain ⟨a, o', ex, _, g, m⟩ := q
      rw [hv] at ex; cases ex
      refine same (f := unlockR ρ (.slot j)) (fun ρ' => by simp only [unlockR, e1]) (by simp only [Z.lockR, e1]) (.inr ⟨a, o', rfl, g, fun F2 H2 s2 h2 => m.mono (h2.trans (R.gs a o' g).1.symm) s2⟩)
    | mat rs => cases e2
    | fn a => cases e2
    | own d' => cases e2; exact mu false rfl (fun ρ' => by simp only [unlockR, e1]; rfl) (by simp only [Z.lockR, e1])
    | ref d' => cases e2; exact mu true rfl (fun ρ' => by simp only [unlockR, e1]; rfl) (by simp only [Z.lockR, e1])
theorem lockR_get (R : SR K Rf G ρ F σ H) {r r' : Res} (e : r'.get ρ = some d) : r'.get (Z.lockR ρ r) = some d := by
  cases r with
  | slot j =>
    unfold Z.lockR
    have key : ∀ s b d0, ρ[j]? = some s → s.get = some d0 → r'.get (ρ.set j (.lok b d0)) = some d := fun s b d0 hs hg => by
      have hj : j < ρ.length := (List.getElem?_eq_some_iff.mp hs).1
      cases r' with
      | slot k =>
        simp only [Res.get, Option.bind_eq_some_iff] at e ⊢
        obtain ⟨t, e1, e2⟩ := e
        by_cases hk : k = j
        · subst hk
          rw [hs] at e1; cases e1
          exact ⟨.lok b d0, by rw [getSet hj, if_pos rfl], hg.symm.trans e2⟩
        · exact ⟨t, by rw [getSet hj, if_neg hk]; exact e1, e2⟩
      | _ => exact e
    simp only
    split
    · rename_i d0 h; exact key _ _ _ h rfl
    · rename_i d0 h; exact key _ _ _ h rfl
    · exact e
  | _ => exact e
theorem lockR_all (R : SR K Rf G ρ F σ H) {r : Res} : ∀ {rs : List Res} {ds : List PyData}, getAll ρ rs = some ds → getAll (Z.lockR ρ r) rs = some ds
  | [], _, e => e
  | r' :: rs, _, e => by
    simp only [getAll, Option.bind_eq_some_iff] at e ⊢
    obtain ⟨d, e1, ds, e2, e3⟩ := e
    exact ⟨d, lockR_get R e1, ds, lockR_all R e2, e3⟩
theorem SR.locks : ∀ {vs : List V} {rs : List Res} {ds : List PyData} {Rf : Nat → Option Addr} {G : Hp} {ρ : Ev}, SR K Rf G ρ F σ H → ORs K F σ vs rs → getAll ρ rs = some ds →
    ∃ Rf' L, SR K Rf' (updL G L) (lockAll rs ρ) F σ H ∧ Keeps K F (updL G L) vs ds ∧ (∀ p ∈ L, G p.1 = none ∧ ∃ x, H p.1 = some x) ∧
      ∀ G0 ρ' F' σ' H' ρ'', (∀ p ∈ L, G0 p.1 = none) → SR K Rf' (updL G0 L) ρ' F' σ' H' → unlockAll rs ρ ρ' = some ρ'' → SR K Rf G0 ρ'' F' σ' H'
  | _, _, _, Rf, G, ρ, R, .nil, e => by
    simp only [getAll, Option.some.injEq] at e
    subst e
    exact ⟨Rf, [], R, .nil, fun _ h => by simp at h, fun G0 ρ' F' σ' H' ρ'' _ R' e => by simp only [unlockAll, Option.some.injEq] at e; subst e; exact R'⟩
  | _, _, _, Rf, G, ρ, R, .cons (r := r) (rs := rs) o os, e => by
    simp only [getAll, Option.bind_eq_some_iff] at e
    obtain ⟨d, e1, ds, e2, e3⟩ := e
    simp only [Option.some.injEq] at e3
    subst e3
    obtain ⟨Rf1, L1, R1, k1, g1, u1⟩ := R.lockR o e1
    obtain ⟨Rf2, L2, R2, k2, g2, u2⟩ := SR.locks R1 os (lockR_all R e2)
    have app : ∀ {G : Hp} {l1 l2 : List (Addr × HO)}, updL G (l1 ++ l2) = updL (updL G l1) l2 := fun {G l1 l2} => by
      induction l1 generalizing G with
      | nil => rfl
      | cons p l ih => exact ih
    have sep : ∀ p ∈ L2, ∀ q ∈ L1, q.1 ≠ p.1 := fun p hp q hq z => by
      have n := (g2 p hp).1
      have there : ∀ {l : List (Addr × HO)} {G : Hp}, q ∈ l → ∃ x, updL G l q.1 = some x := by
        intro l
        induction l with
        | nil => intro G h; simp at h
        | cons y l ih =>
          intro G h
          unfold updL
          by_cases hl : q ∈ l
          · exact ih hl
          · have hy : q = y := by simpa [hl] using h
            subst hy
            by_cases hx : ∃ w ∈ l, w.1 = q.1
            · obtain ⟨w, hw, ew⟩ := hx
              have gen : ∀ {l : List (Addr × HO)} {G : Hp} {b : Addr}, (∃ x, G b = some x) → ∃ x, updL G l b = some x := by
                intro l
                induction l with
                | nil => intro G b h; exact h
                | cons y l ih =>
                  intro G b h
                  unfold updL
                  refine ih ?_
                  by_cases hb : b = y.1
                  · exact ⟨y.2, by rw [hb, upd_same]⟩
                  · rw [upd_ne hb]; exact h
              exact gen ⟨_, upd_same⟩
            · refine ⟨q.2, ?_⟩
              rw [updL_out (fun w hw e => hx ⟨w, hw, e⟩), upd_same]
      obtain ⟨x, hx⟩ := there (G := G) hq
      rw [z, n] at hx
      cases hx
    refine ⟨Rf2, L1 ++ L2, by rw [app]; exact R2, ?_, fun p hp => ?_, fun G0 ρ' F' σ' H' ρ'' hG R' e => ?_⟩
    · rw [app]
      refine .cons (k1.gmono fun b x e => ?_) k2
      rw [updL_out (fun p hp z => by rw [← z, (g2 p hp).1] at e; cases e)]
      exact e
    · rcases List.mem_append.mp hp with hp | hp
      · exact g1 p hp
      · obtain ⟨n, x, hx⟩ := g2 p hp
        rw [updL_out (fun q hq => sep p hp q hq)] at n
        exact ⟨n, x, hx⟩
    · simp only [unlockAll, Option.bind_eq_some_iff] at e
      obtain ⟨ρm, e4, e5⟩ := e
      rw [app] at R'
      refine u1 _ _ _ _ _ _ (fun p hp => hG p (List.mem_append_left _ hp)) (u2 _ _ _ _ _ _ (fun p hp => ?_) R' e4) e5
      rw [updL_out (fun q hq => sep p hp q hq)]
      exact hG p (List.mem_append_right _ hp)
end
def JOk (K : PySem.W.Frag) (vs : List V) (ds : List PyData) (items : List PyData) (J : It) : Prop := ∀ (Rf : Nat → Option Addr) (G : Hp) (ρ : Ev) (F : Hp) (σ : St) (H : Hp), SR K Rf G ρ F σ H → RqA K F H vs ds →
  (∀ i, items.length ≤ i → J.stop i H) ∧ (∀ i d, items[i]? = some d → J.go i H ∧ ∀ x H', J.yld i H x H' → ∃ F', SR K Rf G ρ F' σ H' ∧ Same F F' ∧ Rp K F' x d)
def tI (K : PySem.W.Frag) (f : Ev → Option (List Res × Ev)) (g : List PyData → Option (List PyData)) : TI := fun σ H R => ∃ Rf G ρ F rs ρ' ds items, SR K Rf G ρ F σ H ∧ f ρ = some (rs, ρ') ∧ getAll ρ' rs = some ds ∧ g ds = some items ∧
  ∀ vs F' H' J, SR K Rf G ρ' F' σ H' → Same F F' → ORs K F' σ vs rs → JOk K vs ds items J → items.length ≤ sizeLine → R J H'
theorem PI.imp {X : Cx} {tg e : Expr} {t t' : TI} (h : PI X tg e t) (hi : ∀ σ H R, t' σ H R → t σ H R) : PI X tg e t' := ⟨fun pins s σ H R I q => h.run pins s σ H R I (hi σ H R q)⟩
abbrev CI (X : Cx) (Φ : Fns) (bf : Nat → Option Nat) (tg it : Expr) (g : List PyData → Option (List PyData)) (xs : Xs) : Prop := PI X tg it (tI X.K (evs Φ bf xs) g)
section
variable {X : Cx} {Φ : Fns} {bf : Nat → Option Nat} {M : Nat} {tg it e : Expr} {xs : Xs} {t : Tg} {g : List PyData → Option (List PyData)} {b : List Stmt} {ss : Ss} {pos : Pos}
theorem cs_for (hp : PassesOwn (model X.prog X.w) X.A X.env X.xe) (hc : X.calm = true) (hi : CI X Φ bf tg it g xs) (hg : CG X tg t) (hb : CSs X Φ bf M b ss) (hs : ∀ x, foldedSetIterable it X.env x = pure x := by intro _; rfl) :
    CS X Φ bf M (.For tg it b [] pos) (.frr t g xs ss) := by
  refine PS.imp (ps_for hp hc hi hg hb hs) fun D σ H h => ?_
  obtain ⟨Rf, G, ρ, F, o, R, e, k⟩ := h
  simp only [evS, Option.bind_eq_some_iff] at e
  obtain ⟨⟨rs, ρ1⟩, e1, ds, e2, items, e3, o1, e4, e5⟩ := e
  refine ⟨Rf, G, ρ, F, rs, ρ1, ds, items, R, e1, e2, e3, fun vs F1 H1 J R1 s1 os hJ hlen => ?_⟩
  obtain ⟨Rf2, L, R2, kp, gl, un0⟩ := SR.locks R1 os e2
  have un : ∀ ρ' F' σ' H' ρ'', SR X.K Rf2 (updL G L) ρ' F' σ' H' → unlockAll rs ρ1 ρ' = some ρ'' → SR X.K Rf G ρ'' F' σ' H' := fun ρ' F' σ' H' ρ'' a b => un0 G ρ' F' σ' H' ρ'' (fun p hp => (gl p hp).1) a b
  generalize updL G L = G2 at R2 kp un
  refine ⟨fun i m σ H => m = items.length - i ∧ i ≤ items.length ∧ ∃ ρ F2, SR X.K Rf2 G2 ρ F2 σ H ∧ Same F1 F2 ∧ frLoop t (evSs Φ bf M ss) (items.drop i) ρ = some o1, ⟨items.length, by simp, Nat.zero_le _, _, F1, R2, Same.refl _, by simpa using e4⟩, ?_⟩
  rintro i m σ H ⟨rfl, hi, ρi, F2, R3, s2, e⟩
  have rq := kp.rq R3 s2
  obtain ⟨jstop, jgo⟩ := hJ Rf2 G2 ρi F2 σ H R3 rq
  by_cases hlt : i < items.length
  · have hd : items.drop i = items[i] :: items.drop (i + 1) := List.drop_eq_getElem_cons hlt
    rw [hd] at e
    simp only [frLoop, Option.bind_eq_some_iff] at e
    obtain ⟨ρ2, eb, o2, es, e⟩ := e
    obtain ⟨go, yl⟩ := jgo i items[i] (List.getElem?_eq_getElem hlt)
    refine .inr ⟨go, fun σ' H' => ∃ ρ F2, SR X.K Rf2 G2 ρ F2 σ' H' ∧ Same F1 F2 ∧ frLoop t (evSs Φ bf M ss) (items.drop (i + 1)) ρ = some o1, fun σ' H' q => ⟨items.length - (i + 1), by omega, rfl, hlt, q⟩, fun x H' y => ?_⟩
    obtain ⟨F3, R4, s3, q⟩ := yl x H' y
    refine ⟨Rf2, G2, ρi, F3, items[i], ρ2, R4, q, eb, fun σ' _ _ R5 => ?_⟩
    refine ⟨Rf2, G2, ρ2, F3, o2, R5, es, ?_⟩
    have back : ∀ {ρ' F' σ' H' ρ''}, SR X.K Rf2 G2 ρ' F' σ' H' → unlockAll rs ρ1 ρ' = some ρ'' → SR X.K Rf G ρ'' F' σ' H' := fun a b => un _ _ _ _ _ a b
    cases o2 with
    | nx ρ3 => exact fun σ7 F7 H7 R7 s7 => ⟨ρ3, F7, R7, s2.trans (s3.trans s7), e⟩
    | ct ρ3 => exact fun σ7 F7 H7 R7 s7 => ⟨ρ3, F7, R7, s2.trans (s3.trans s7), e⟩
    | bk ρ3 =>
      simp only [Option.some.injEq] at e
      subst e
      simp only [Out.mapM, Option.bind_eq_some_iff, Option.some.injEq] at e5
      obtain ⟨ρ4, e6, rfl⟩ := e5
      exact fun σ7 F7 H7 R7 s7 => k σ7 F7 H7 (back R7 e6) (s1.trans (s2.trans (s3.trans s7)))
    | xc n ρ3 => cases e
    | rt d ρ3 =>
      simp only [Option.some.injEq] at e
      subst e
      simp only [Out.mapM, Option.bind_eq_some_iff, Option.some.injEq] at e5
      obtain ⟨ρ4, e6, rfl⟩ := e5
      exact fun v σ7 F7 H7 R7 s7 q => k v σ7 F7 H7 (back R7 e6) (s1.trans (s2.trans (s3.trans s7))) q
  · have hi' : i = items.length := by omega
    rw [hi', List.drop_length] at e
    simp only [frLoop, Option.some.injEq] at e
    subst e
    simp only [Out.mapM, Option.bind_eq_some_iff, Option.some.injEq] at e5
    obtain ⟨ρ4, e6, rfl⟩ := e5
    refine .inl ⟨jstop i (by omega), ?_⟩
    exact k σ F2 H (un _ _ _ _ _ R3 e6) (s1.trans s2)
end
def gSeq : List PyData → Option (List PyData)
  | [.list ds] => some ds
  | [.tuple ds] => some ds
  | _ => none
def gRange1 : List PyData → Option (List PyData)
  | [.int n] => if -(2 ^ 62) ≤ n ∧ n ≤ sizeLine then some ((List.range n.toNat).map fun i => .int (i : Nat)) else none
  | _ => none
def gRange2 : List PyData → Option (List PyData)
  | [.int a, .int n] => if n - a ≤ sizeLine ∧ (-(2 ^ 62) ≤ a ∧ a < 2 ^ 62) ∧ -(2 ^ 62) ≤ n ∧ n < 2 ^ 62 then some ((List.range (n - a).toNat).map fun i => .int (a + (i : Nat))) else none
  | _ => none
theorem SqL.uniq {K : PySem.W.Frag} {H : Hp} {a : Addr} {xs ys : List V} (h : SqL K H a xs) (h' : SqL K H a ys) (hk : ∀ o, K.lookup a = some o → H a = none) : xs = ys := by
  rcases h with (h | ⟨o, h⟩) | ⟨o, its, n, k1, _, _, d1, _, r1⟩
  · rcases h' with (h' | ⟨o', h'⟩) | ⟨o', its', n', k2, _⟩
    · rw [h] at h'; cases h'; rfl
    · rw [h] at h'; cases h'
    · rw [hk _ k2] at h; cases h
  · rcases h' with (h' | ⟨o', h'⟩) | ⟨o', its', n', k2, _⟩
    · rw [h] at h'; cases h'
    · rw [h] at h'; cases h'; rfl
    · rw [hk _ k2] at h; cases h
  · rcases h' with (h' | ⟨o', h'⟩) | ⟨o', its', n', k2, _, _, d2, _, r2⟩
    · rw [hk _ k1] at h'; cases h'
    · rw [hk _ k1] at h'; cases h'
    · rw [k1] at k2; cases k2
      rw [d1] at d2; cases d2
      exact r1.inj r2
end L2.Z
namespace L2.Z
open PySem PySem.Spec PyProof.Rows
section
variable {K : PySem.W.Frag} {Rf Rf' : Nat → Option Addr} {G F F' H H' : Hp} {ρ ρ' ρw : Ev} {σ σ' : St} {a p : Addr} {d c : PyData} {v : V} {r : Res} {j i : Nat} {s : Slot}
theorem SR.wipe : ∀ {vs : List Nat} {ρw : Ev}, SR K Rf G ρ F σ H → wipeE vs ρ = some ρw →
    SR K Rf G ρw F (L2.wipe σ vs) H ∧ (∀ i, i ∉ vs → ρw[i]? = ρ[i]?) ∧ (∀ i, i ∈ vs → ∃ t, ρ[i]? = some t ∧ (t = .un ∨ ∃ d, t = .dat d)) ∧ ρw.length = ρ.length
  | [], _, R, e => by
    simp only [wipeE, Option.some.injEq] at e
    subst e
    exact ⟨R, fun _ _ => rfl, fun _ h => by simp at h, rfl⟩
  | k :: vs, ρw, R, e => by
    simp only [wipeE, Option.bind_eq_some_iff] at e
    obtain ⟨ρ1, e1, e2⟩ := e
    obtain ⟨R1, g1, o1, l1⟩ := SR.wipe R e1
    have key : ∃ t, ρ1[k]? = some t ∧ (t = .un ∨ ∃ d, t = .dat d) ∧ ρw = ρ1.set k .un := by
      split at e2
      · rename_i h; cases e2; exact ⟨_, h, .inl rfl, rfl⟩
      · rename_i d h; cases e2; exact ⟨_, h, .inr ⟨d, rfl⟩, rfl⟩
      · cases e2
    obtain ⟨t, ht, ho, rfl⟩ := key
    have hk : k < ρ1.length := (List.getElem?_eq_some_iff.mp ht).1
    have gσ : ∀ i, i ≠ k → (L2.wipe σ (k :: vs))[i]? = (L2.wipe σ vs)[i]? := fun i hi => by
      show ((L2.wipe σ vs).set k none)[i]? = _
      rw [List.getElem?_set_ne (Ne.symm hi)]
    have mutc : ∀ i, MutI (ρ1.set k .un) i → i ≠ k ∧ MutI ρ1 i := fun i ⟨u, eu, mu⟩ => by
      rw [getSet hk] at eu
      split at eu
      · cases eu; cases mu
      · rename_i z; exact ⟨z, u, eu, mu⟩
    refine ⟨⟨by rw [List.length_set, l1, wipe_length]; exact R.len, R.fz, fun i u eu => ?_, fun i l b mi ml ei el => ?_, fun i b mi ei => ?_, R.gs, fun i b eb => ?_, R.gt⟩, fun i hi => ?_, fun i hi => ?_, by rw [List.length_set, l1]⟩
    · rw [getSet hk] at eu
      split at eu
      · cases eu; trivial
      · rename_i z; rw [gσ i z]; exact R1.sl i u eu
    · rw [gσ i (mutc i mi).1] at ei
      rw [gσ l (mutc l ml).1] at el
      exact R1.dis i l b (mutc i mi).2 (mutc l ml).2 ei el
    · rw [gσ i (mutc i mi).1] at ei
      exact R1.gm i b (mutc i mi).2 ei
    · obtain ⟨z1, u, z2, z3⟩ := R1.rf i b eb
      have hi : i ≠ k := fun z => by
        subst z
        rw [ht] at z2; cases z2
        rcases ho with rfl | ⟨d, rfl⟩ <;> cases z3
      exact ⟨by rw [gσ i hi]; exact z1, u, by rw [getSet hk, if_neg hi]; exact z2, z3⟩
    · simp only [List.mem_cons, not_or] at hi
      rw [getSet hk, if_neg hi.1]
      exact g1 i hi.2
    · by_cases hv : i ∈ vs
      · exact o1 i hv
      · have hik : i = k := by simpa [hv] using hi
        subst hik
        rw [g1 i hv] at ht
        exact ⟨t, ht, ho⟩
theorem backE_get {ρ₀ ρ : Ev} (hl : ρ.length = ρ₀.length) : ∀ {vs : List Nat}, (backE ρ₀ vs ρ).length = ρ.length ∧ ∀ i, (backE ρ₀ vs ρ)[i]? = if i ∈ vs then (if i < ρ.length then ρ₀[i]? else none) else ρ[i]?
  | [] => ⟨rfl, fun i => by simp [backE]⟩
  | k :: vs => by
    obtain ⟨l1, g1⟩ := backE_get hl (vs := vs)
    unfold backE
    split
    · rename_i s h
      have hk : k < ρ₀.length := (List.getElem?_eq_some_iff.mp h).1
      refine ⟨by rw [List.length_set, l1], fun i => ?_⟩
      rw [getSet (by rw [l1, hl]; exact hk)]
      by_cases hi : i = k
      · subst hi
        rw [if_pos rfl, if_pos (by simp), if_pos (by omega), h]
      · rw [if_neg hi, g1 i]
        simp only [List.mem_cons, hi, false_or]
    · rename_i h
      have hk : ρ₀.length ≤ k := List.getElem?_eq_none_iff.mp h
      refine ⟨l1, fun i => ?_⟩
      rw [g1 i]
      by_cases hi : i = k
      · subst hi
        have e1 : (i ∈ i :: vs) = True := by simp
        have h2 : ¬ i < ρ.length := by omega
        have h3 : ρ[i]? = none := List.getElem?_eq_none (by omega)
        simp only [e1, if_true, if_neg h2, h3]
        split <;> rfl
      · simp only [List.mem_cons, hi, false_or]
theorem SR.unwipe {vs : List Nat} {G' : Hp} (R : SR K Rf G ρ F σ H) (e : wipeE vs ρ = some ρw) (R' : SR K Rf G' ρ' F' (L2.wipe σ vs) H') (s : Same F F') : SR K Rf G' (backE ρ vs ρ') F' σ H' := by
  obtain ⟨_, g1, o1, l1⟩ := R.wipe e
  have hl : ρ'.length = ρ.length := by rw [R'.len, wipe_length]; exact R.len.symm
  obtain ⟨l2, g2⟩ := backE_get (ρ₀ := ρ) hl (vs := vs)
  have hn : ∀ i, i ∉ vs → (backE ρ vs ρ')[i]? = ρ'[i]? := fun i hi => by rw [g2, if_neg hi]
  have hi' : ∀ i, i ∈ vs → ∃ t, (backE ρ vs ρ')[i]? = some t ∧ ρ[i]? = some t ∧ (t = .un ∨ ∃ d, t = .dat d) := fun i hi => by
    obtain ⟨t, ht, ho⟩ := o1 i hi
    refine ⟨t, ?_, ht, ho⟩
    rw [g2, if_pos hi, if_pos (by rw [hl]; exact (List.getElem?_eq_some_iff.mp ht).1)]
    exact ht
  have mutc : ∀ i, MutI (backE ρ vs ρ') i → i ∉ vs ∧ MutI ρ' i := fun i ⟨u, eu, mu⟩ => by
    by_cases hi : i ∈ vs
    · obtain ⟨t, ht, _, ho⟩ := hi' i hi
      rw [ht] at eu; cases eu
      rcases ho with rfl | ⟨d, rfl⟩ <;> cases mu
    · exact ⟨hi, u, by rw [← hn i hi]; exact eu, mu⟩
  refine ⟨by rw [l2, hl]; exact R.len, R'.fz, fun i t et => ?_, fun i l b mi ml ei el => ?_, fun i b mi ei => ?_, R'.gs, fun i b eb => ?_, R'.gt⟩
  · by_cases hi : i ∈ vs
    · obtain ⟨u, hu, ho, hh⟩ := hi' i hi
      rw [hu] at et; cases et
      have q := R.sl i _ ho
      rcases hh with rfl | ⟨d, rfl⟩
      · trivial
      · obtain ⟨x, ex, rx⟩ := q
        exact ⟨x, ex, rx.mono s⟩
    · rw [hn i hi] at et
      have q := R'.sl i t et
      rw [wipe_out hi] at q
      exact q
  · have h1 := mutc i mi
    have h2 := mutc l ml
    exact R'.dis i l b h1.2 h2.2 (by rw [wipe_out h1.1]; exact ei) (by rw [wipe_out h2.1]; exact el)
  · have h1 := mutc i mi
    exact R'.gm i b h1.2 (by rw [wipe_out h1.1]; exact ei)
  · obtain ⟨z1, u, z2, z3⟩ := R'.rf i b eb
    have hi : i ∉ vs := fun hi => by
      obtain ⟨y1, w, y2, y3⟩ := R.rf i b eb
      obtain ⟨t, _, ht, ho⟩ := hi' i hi
      rw [ht] at y2; cases y2
      rcases ho with rfl | ⟨d, rfl⟩ <;> cases y3
    exact ⟨by rw [wipe_out hi] at z1; exact z1, u, by rw [hn i hi]; exact z2, z3⟩
theorem SR.regrow {o o' : HO} (R : SR K Rf (upd G p o) ρ F σ H) (no : ∀ xs, o' ≠ .tup xs) (hr : ∀ i, Rf i ≠ some p) (no1 : noFrz o) : SR K Rf (upd G p o') ρ F σ (upd H p o') := by
  have g0 := R.gs p o upd_same
  have fzn : ∀ b x, F b = some x → b ≠ p := fun b x e z => by rw [z, g0.2] at e; cases e
  have mne : ∀ i b, MutI ρ i → σ[i]? = some (some (.ref b)) → b ≠ p := fun i b mi ei z => by
    have q := R.gm i b mi ei
    rw [z, upd_same] at q; cases q
  refine ⟨R.len, fun b x e => by rw [upd_ne (fzn b x e)]; exact R.fz b x e, fun i t et => ?_, R.dis, fun i b mi ei => ?_, fun b x e => ?_, R.rf, fun b xs e => by
    by_cases hb : b = p
    · subst hb; rw [upd_same] at e; exact no xs (Option.some.inj e)
    · rw [upd_ne hb] at e; exact R.gt b xs (by rw [upd_ne hb]; exact e)⟩
  · have q := R.sl i t et
    cases t with
    | un => trivial
    | dat d => exact q
    | own d =>
      obtain ⟨a, e, n, m⟩ := q
      exact ⟨a, e, n, m.mono (upd_ne (mne i a ⟨_, et, rfl⟩ e)) (Same.refl _)⟩
    | ref d =>
      obtain ⟨a, e, n, m, q⟩ := q
      exact ⟨a, e, n, m.mono (upd_ne (mne i a ⟨_, et, rfl⟩ e)) (Same.refl _), q⟩
    | mat rs =>
      obtain ⟨a, as, e, m⟩ := q
      exact ⟨a, as, e, m.to fun b x u z => by
        have z' := frz_upd' no1 b x u z
        by_cases h : b = p
        · subst h; rw [upd_same] at z; exact absurd (Option.some.inj z) (no1 x u)
        · rw [upd_ne h]; exact z'⟩
    | fn a => exact q
    | lok b d =>
      obtain ⟨a, x, e, q, g, m⟩ := q
      have ha : a ≠ p := fun z => hr i (by rw [q, z])
      rw [upd_ne ha] at g
      exact ⟨a, x, e, q, by rw [upd_ne ha]; exact g, m.mono (upd_ne ha) (Same.refl _)⟩
  · have q := R.gm i b mi ei
    rw [upd_ne (mne i b mi ei)] at q ⊢
    exact q
  · by_cases hb : b = p
    · subst hb; rw [upd_same] at e ⊢; cases e; exact ⟨rfl, g0.2⟩
    · rw [upd_ne hb] at e ⊢
      exact R.gs b x (by rw [upd_ne hb]; exact e)
end
section
variable {X : Cx} {Φ : Fns} {bf : Nat → Option Nat} {tg it e : Expr} {xs : Xs} {t : Tg} {x c : Z.X} {g : List PyData → Option (List PyData)}
theorem redLc {K : PySem.W.Frag} {own : List Nat} {σ : St} {H : Hp} {Q : VK} (hsub : ∀ i ∈ t.ixs, i ∈ own) (h : tX K (ev Φ bf (.lc x t g xs c own)) σ H Q) :
    tLc (tI K (evs Φ bf xs) g) (tG K t) (tB1 K (truth (ev Φ bf c))) (tX K (ev Φ bf x)) own σ H Q := by
  obtain ⟨Rf, G, ρ, F, r, ρ', R, e, k⟩ := h
  simp only [ev, Option.bind_eq_some_iff] at e
  obtain ⟨⟨rs, ρ1⟩, e1, ds, e2, items, e3, ρw, ew, ⟨res, ρe⟩, el, ρ2, eu, e⟩ := e
  simp only [Option.some.injEq, Prod.mk.injEq] at e
  obtain ⟨rfl, rfl⟩ := e
  refine ⟨Rf, G, ρ, F, rs, ρ1, ds, items, R, e1, e2, e3, fun vs F1 H1 J R1 s1 os hJ hlen D hD => ?_⟩
  obtain ⟨Rf2, L, R2, kp, gl, un⟩ := SR.locks R1 os e2
  have hDL : ∀ p ∈ L, p.1 ≠ D := fun p hp z => by
    obtain ⟨_, x, hx⟩ := gl p hp
    rw [z, hD] at hx; cases hx
  have lD0 : Loose G ρ1 F1 σ D := R1.loose_new hD
  have hr0 : ∀ i, Rf i ≠ some D := fun i => lD0.rf R1
  have unD : ∀ {va ρ' F' H' ρ''}, SR K Rf2 (upd (updL G L) D (.lst va)) ρ' F' σ H' → unlockAll rs ρ1 ρ' = some ρ'' → SR K Rf (upd G D (.lst va)) ρ'' F' σ H' := fun {va ρ' F' H' ρ''} a b => by
    rw [← updL_comm hDL] at a
    exact un _ _ _ _ _ _ (fun p hp => by rw [upd_ne (hDL p hp)]; exact (gl p hp).1) a b
  generalize updL G L = G2 at R2 kp unD
  have lD : Loose G2 (lockAll rs ρ1) F1 σ D := R2.loose_new hD
  have hr : ∀ i, Rf2 i ≠ some D := fun i => lD.rf R2
  have R3 : SR K Rf2 G2 (lockAll rs ρ1) F1 σ (upd H1 D (.lst [])) := R2.laid hD
  have R4 : SR K Rf2 (upd G2 D (.lst [])) (lockAll rs ρ1) F1 σ (upd H1 D (.lst [])) := R3.guard upd_same (fun _ z => by cases z) lD
  obtain ⟨R5, _, _, _⟩ := R4.wipe ew
  refine ⟨fun i m H => m = items.length - i ∧ i ≤ items.length ∧ ∃ (ρi : Ev) (Fi : Hp) (acc : List PyData) (va : List V), SR K Rf2 (upd G2 D (.lst va)) ρi Fi (wipe σ own) H ∧ Same F1 Fi ∧ RpA K Fi va acc ∧ acc.length ≤ i ∧
      lcLoop own t (truth (ev Φ bf c)) (valof (ev Φ bf x)) (items.drop i) acc ρi = some (res, ρe), ⟨items.length, by simp, Nat.zero_le _, ρw, F1, [], [], R5, Same.refl _, .nil, Nat.le_refl _, by simpa using el⟩, ?_⟩
  rintro i m H ⟨rfl, hi, ρi, Fi, acc, va, Ri, si, ra, hal, ei⟩
  have kp' : Keeps K F1 (upd G2 D (.lst va)) vs ds := kp.gmono fun b y e => by rw [upd_ne (fun z => by rw [z, lD.2.1] at e; cases e)]; exact e
  have rq := kp'.rq Ri si
  obtain ⟨jstop, jgo⟩ := hJ Rf2 _ ρi Fi _ H Ri rq
  by_cases hlt : i < items.length
  · have hd : items.drop i = items[i] :: items.drop (i + 1) := List.drop_eq_getElem_cons hlt
    rw [hd] at ei
    simp only [lcLoop, Option.bind_eq_some_iff] at ei
    obtain ⟨ρa, ea, ⟨b, ρb⟩, eb, ei⟩ := ei
    obtain ⟨go, yl⟩ := jgo i items[i] (List.getElem?_eq_getElem hlt)
    refine .inr ⟨go, fun H' => ∃ (ρi : Ev) (Fi : Hp) (acc : List PyData) (va : List V), SR K Rf2 (upd G2 D (.lst va)) ρi Fi (wipe σ own) H' ∧ Same F1 Fi ∧ RpA K Fi va acc ∧ acc.length ≤ i + 1 ∧
      lcLoop own t (truth (ev Φ bf c)) (valof (ev Φ bf x)) (items.drop (i + 1)) acc ρi = some (res, ρe), fun H' q => ⟨items.length - (i + 1), by omega, rfl, hlt, q⟩, fun y H' hy => ?_⟩
    obtain ⟨Fa, Ra, sa, q⟩ := yl y H' hy
    refine ⟨Rf2, _, ρi, Fa, items[i], ρa, Ra, q, ea, fun σ2 l2 g2 Rb => ?_⟩
    have hw : wipe σ2 own = wipe σ own := by
      apply List.ext_getElem?
      intro j
      by_cases hj : j ∈ own
      · have key : ∀ (τ : St) (vs : List Nat), j ∈ vs → (wipe τ vs)[j]? = if j < τ.length then some none else none := by
          intro τ vs
          induction vs with
          | nil => intro h; simp at h
          | cons k r ih =>
            intro h
            show ((wipe τ r).set k none)[j]? = _
            by_cases hk : j = k
            · subst hk
              by_cases hl : j < τ.length
              · rw [List.getElem?_set_self (by rw [wipe_length]; exact hl), if_pos hl]
              · rw [List.getElem?_eq_none (by rw [List.length_set, wipe_length]; omega), if_neg hl]
            · rw [List.getElem?_set_ne (Ne.symm hk)]
              exact ih (by simpa [hk] using h)
        rw [key _ _ hj, key _ _ hj, l2, wipe_length]
      · rw [wipe_out hj, wipe_out hj, g2 j (fun z => hj (hsub j z)), wipe_out hj]
    refine ⟨hw, Rf2, _, ρa, Fa, b, ρb, Rb, eb, fun Fb H3 Rc sb => ?_⟩
    cases b with
    | false =>
      simp only [Bool.false_eq_true, if_false]
      simp only [Option.bind_eq_some_iff] at ei
      obtain ⟨ρz, ez, ei⟩ := ei
      obtain ⟨Rd, _, _, _⟩ := Rc.wipe ez
      rw [hw] at Rd
      exact ⟨ρz, Fb, acc, va, Rd, si.trans (sa.trans sb), ra.mono (sa.trans sb), by omega, ei⟩
    | true =>
      simp only [if_true]
      simp only [Option.bind_eq_some_iff] at ei
      obtain ⟨⟨dv, ρy⟩, ey, ρz, ez, ei⟩ := ei
      refine tX_val Rc ey fun y F4 H4 Rd sd qd => ?_
      have hD4 := (Rd.gs D _ upd_same).1
      have hlv : va.length = acc.length := ra.length
      refine ⟨va, hD4, by omega, ?_⟩
      obtain ⟨Re, _, _, _⟩ := Rd.wipe ez
      rw [hw] at Re
      have Rf' := Re.regrow (o' := .lst (va ++ [y])) (fun _ z => by cases z) hr (fun _ _ z => by cases z)
      exact ⟨ρz, F4, acc ++ [dv], va ++ [y], Rf', si.trans (sa.trans (sb.trans sd)), (ra.mono (sa.trans (sb.trans sd))).append (.cons qd .nil), by rw [List.length_append, List.length_singleton]; omega, ei⟩
  · have hi' : i = items.length := by omega
    rw [hi', List.drop_length] at ei
    simp only [lcLoop, Option.some.injEq, Prod.mk.injEq] at ei
    obtain ⟨rfl, rfl⟩ := ei
    refine .inl ⟨jstop i (by omega), ?_⟩
    have R6 := R4.unwipe ew Ri si
    obtain ⟨R8, l8, h8⟩ := (unD R6 eu).unguard lD0.2.1 hr0 (fun _ _ z => by cases z)
    exact k (.ref D) Fi H R8 (s1.trans si) ⟨D, rfl, l8, va, h8, by rw [ra.length]; omega, ra⟩
end
end L2.Z
namespace L2.Z
open PySem PySem.Spec PyProof.Rows
section
variable {K : PySem.W.Frag}
theorem rr_val {G F H : Hp} {ρ : Ev} {σ : St} {v : V} {d : PyData} (h : Rp K F v d) : RR K G ρ F σ H v (mkR false d) := h
def pI2 (f : Int → Int → Int) : PyData → PyData → Option (Bool × PyData)
  | .int i, .int j => some (false, .int (f i j))
  | _, _ => none
theorem ok_I2 {f : Int → Int → Int} : Ok2 K (rI0 fun i j => .int (f i j)) (pI2 f) := by
  intro Rf G ρ F σ H v w d e n d' Q R q1 q2 h k
  cases d <;> cases e <;> simp only [pI2] at h <;> try cases h
  rename_i i j
  cases q1; cases q2
  exact ⟨i, j, rfl, rfl, k _ F H R (Same.refl _) (rr_val (.int _))⟩
def pIC (C : Int → Int → Prop) [∀ i j, Decidable (C i j)] (f : Int → Int → Int) : PyData → PyData → Option (Bool × PyData)
  | .int i, .int j => if C i j then some (false, .int (f i j)) else none
  | _, _ => none
theorem ok_IC {C : Int → Int → Prop} [∀ i j, Decidable (C i j)] {f : Int → Int → Int} : Ok2 K (rI C fun i j => .int (f i j)) (pIC C f) := by
  intro Rf G ρ F σ H v w d e n d' Q R q1 q2 h k
  cases d <;> cases e <;> simp only [pIC] at h <;> try cases h
  rename_i i j
  split at h
  · rename_i hc
    cases h
    cases q1; cases q2
    exact ⟨i, j, rfl, rfl, hc, k _ F H R (Same.refl _) (rr_val (.int _))⟩
  · cases h
abbrev pSubI := pI2 fun i j => i - j
def MulOk (i j : Int) : Prop := ((-(2 ^ 64) < i ∧ i < 2 ^ 64) ∨ (-(2 ^ 64) < j ∧ j < 2 ^ 64)) ∨ (i.natAbs < 2 ^ 8192 ∧ j.natAbs < 2 ^ 8192)
instance (i j : Int) : Decidable (MulOk i j) := by unfold MulOk; infer_instance
theorem MulOk.ok {i j : Int} (h : MulOk i j) : IntMulOk i j := by
  rcases h with h | ⟨h1, h2⟩
  · exact CMul.ok h
  · exact CMulW.ok (wide_mul h1 h2 (by decide) (by decide) (by decide))
theorem op_mulZ {X : Cx} : OpR X (binaryOp .Mult) (rI MulOk fun i j => .int (i * j)) := opI fun _ _ _ _ _ _ _ hc q => mul_int q hc.ok
instance (i j : Int) : Decidable (CDiv i j) := by unfold CDiv; infer_instance
instance (i j : Int) : Decidable (CPow i j) := by unfold CPow; infer_instance
abbrev pMulI := pIC MulOk fun i j => i * j
abbrev pDivI := pIC CDiv fun i j => i / j
abbrev pModI := pIC (fun _ j => 0 < j) fun i j => i % j
abbrev pPowI := pIC CPow fun i j => i ^ j.toNat
def pIB (f : Int → Int → Bool) : PyData → PyData → Option (Bool × PyData)
  | .int i, .int j => some (false, .bool (f i j))
  | _, _ => none
theorem ok_IB {f : Int → Int → Bool} : Ok2 K (rI0 fun i j => .bl (f i j)) (pIB f) := by
  intro Rf G ρ F σ H v w d e n d' Q R q1 q2 h k
  cases d <;> cases e <;> simp only [pIB] at h <;> try cases h
  rename_i i j
  cases q1; cases q2
  exact ⟨i, j, rfl, rfl, k _ F H R (Same.refl _) (rr_val (.bl _))⟩
abbrev pLt := pIB fun i j => decide (i < j)
abbrev pLe := pIB fun i j => decide (i ≤ j)
abbrev pGt := pIB fun i j => decide (j < i)
abbrev pGe := pIB fun i j => decide (j ≤ i)
def pI1 (f : Int → Int) : PyData → Option (Bool × PyData)
  | .int i => some (false, .int (f i))
  | _ => none
theorem ok_I1 {f : Int → Int} : Ok1 K (rU fun i => .int (f i)) (pI1 f) := by
  intro Rf G ρ F σ H v d n d' Q R q h k
  cases d <;> simp only [pI1] at h <;> try cases h
  rename_i i
  cases q
  exact ⟨i, rfl, k _ F H R (Same.refl _) (rr_val (.int _))⟩
abbrev pNeg := pI1 fun i => -i
def okEq (d e : PyData) : Bool := d.plain && e.plain && decide (min d.depth e.depth ≤ 60)
def pEq (d e : PyData) : Option (Bool × PyData) := if okEq d e = true then some (false, .bool (PyData.eqv d e)) else none
def pNe (d e : PyData) : Option (Bool × PyData) := if okEq d e = true then some (false, .bool (!PyData.eqv d e)) else none
def rEqZ (K : PySem.W.Frag) : R2 := fun x y H Q => ∃ d e, Dp K H x d ∧ Dp K H y e ∧ d.plain = true ∧ e.plain = true ∧ min d.depth e.depth ≤ 60 ∧ Q (.bl (PyData.eqv d e)) H
def rNeZ (K : PySem.W.Frag) : R2 := fun x y H Q => ∃ d e, Dp K H x d ∧ Dp K H y e ∧ d.plain = true ∧ e.plain = true ∧ min d.depth e.depth ≤ 60 ∧ Q (.bl (!PyData.eqv d e)) H
theorem op_eqZ {X : Cx} (hu : X.A.units + 64 < cLine) : OpR X (compareOp .Eq) (rEqZ X.K) := by
  intro pins s σ H x y v u Q I rx ry h
  obtain ⟨d, e, hd, he, sd, se, hm, q⟩ := h
  obtain ⟨as, r1⟩ := Dp.reads I d x v hd rx
  obtain ⟨bs, r2⟩ := Dp.reads I e y u he ry
  exact SeqAt.eq_plain r1 r2 sd se (by omega) ⟨.bl _, H, I, rfl, q⟩
theorem op_neZ {X : Cx} (hu : X.A.units + 64 < cLine) : OpR X (compareOp .NotEq) (rNeZ X.K) := by
  intro pins s σ H x y v u Q I rx ry h
  obtain ⟨d, e, hd, he, sd, se, hm, q⟩ := h
  obtain ⟨as, r1⟩ := Dp.reads I d x v hd rx
  obtain ⟨bs, r2⟩ := Dp.reads I e y u he ry
  exact SeqAt.ne_plain r1 r2 sd se (by omega) ⟨.bl _, H, I, rfl, q⟩
theorem okEq_iff {d e : PyData} : okEq d e = true ↔ d.plain = true ∧ e.plain = true ∧ min d.depth e.depth ≤ 60 := by
  unfold okEq
  rw [Bool.and_eq_true, Bool.and_eq_true, decide_eq_true_eq, and_assoc]
theorem ok_eq : Ok2 K (rEqZ K) pEq := by
  intro Rf G ρ F σ H v w d e n d' Q R q1 q2 h k
  unfold pEq at h
  split at h
  · rename_i hc
    obtain ⟨h1, h2, h3⟩ := okEq_iff.mp hc
    cases h
    exact ⟨d, e, (q1.rp R.fz).dp h1, (q2.rp R.fz).dp h2, h1, h2, h3, k _ F H R (Same.refl _) (rr_val (.bl _))⟩
  · cases h
theorem ok_ne : Ok2 K (rNeZ K) pNe := by
  intro Rf G ρ F σ H v w d e n d' Q R q1 q2 h k
  unfold pNe at h
  split at h
  · rename_i hc
    obtain ⟨h1, h2, h3⟩ := okEq_iff.mp hc
    cases h
    exact ⟨d, e, (q1.rp R.fz).dp h1, (q2.rp R.fz).dp h2, h1, h2, h3, k _ F H R (Same.refl _) (rr_val (.bl _))⟩
  · cases h
def isNone : PyData → Bool
  | .none => true
  | _ => false
def pIsN (d : PyData) : Option (Bool × PyData) := some (false, .bool (isNone d))
theorem isNone_rq {F H : Hp} {v : V} {d : PyData} (q : Rq K F H v d) : decide (v = .non) = isNone d := by
  cases d with
  | none => cases q; rfl
  | bool b => cases q; rfl
  | int i => cases q; rfl
  | str x => cases q; rfl
  | list ds => obtain ⟨a, xs, rfl, _⟩ := q; rfl
  | tuple ds => obtain ⟨a, xs, rfl, _⟩ := q; rfl
  | dict kvs => obtain ⟨a, rfl, _⟩ := q; rfl
theorem ok_isN : Ok1 K (fun x H Q => Q (.bl (decide (x = .non))) H) pIsN := by
  intro Rf G ρ F σ H v d n d' Q R q h k
  cases h
  have e := isNone_rq q
  show Q (.bl (decide (v = .non))) H
  rw [e]
  exact k _ F H R (Same.refl _) (rr_val (.bl _))
def tyD : PyData → String
  | .none => "NoneType" | .bool _ => "bool" | .int _ => "int" | .str _ => "str" | .list _ => "list" | .tuple _ => "tuple" | .dict _ => "dict"
theorem rq_ty {F H : Hp} {v : V} {d : PyData} (s : Same F H) (q : Rq K F H v d) : TyX K H v (.type (tyD d)) := by
  cases d with
  | none => cases q; exact .base .non
  | bool b => cases q; exact .base (.bl b)
  | int i => cases q; exact .base (.int i)
  | str x => cases q; exact .base (.str x)
  | list ds =>
    obtain ⟨a, xs, rfl, h, _⟩ := q
    rcases h with (h | ⟨o, h⟩) | ⟨o, its, n, k1, k2, _⟩
    · exact .base (.lst h)
    · exact .base (.frz h)
    · exact .kList k1 k2
  | tuple ds => obtain ⟨a, xs, rfl, h, _⟩ := q; exact .base (.tup (s _ _ h))
  | dict kvs =>
    obtain ⟨a, rfl, m⟩ := q
    rcases m with ⟨ps, e, _⟩ | ⟨ps, e, _⟩
    · exact .base (.dK e)
    · exact .base (.dT e)
def pIsInt : PyData → Option (Bool × PyData)
  | .int _ | .bool _ => some (false, .bool true)
  | _ => some (false, .bool false)
def pIsBool : PyData → Option (Bool × PyData)
  | .bool _ => some (false, .bool true)
  | _ => some (false, .bool false)
def pIsStr : PyData → Option (Bool × PyData)
  | .str _ => some (false, .bool true)
  | _ => some (false, .bool false)
def pIsTup : PyData → Option (Bool × PyData)
  | .tuple _ => some (false, .bool true)
  | _ => some (false, .bool false)
def pIsList : PyData → Option (Bool × PyData)
  | .list _ => some (false, .bool true)
  | _ => some (false, .bool false)
def rIs1 (K : PySem.W.Frag) (T : String) : V → Hp → VK → Prop := fun x H Q => rIsi K [x, .ty T] H Q
theorem ok_is {T : String} {f : PyData → Option (Bool × PyData)} (hf : ∀ d, ∃ b, f d = some (false, .bool b) ∧ kitB (tyD d) T = some b) : Ok1 K (rIs1 K T) f := by
  intro Rf G ρ F σ H v d n d' Q R q h k
  obtain ⟨b, e1, e2⟩ := hf d
  rw [e1] at h
  cases h
  exact ⟨_, _, _, _, b, rfl, .ty T, rq_ty R.fz q, kit_ty e2, k _ F H R (Same.refl _) (rr_val (.bl _))⟩
theorem ok_isInt : Ok1 K (rIs1 K "int") pIsInt := ok_is fun d => by
  cases d
  · exact ⟨_, rfl, show kitB "NoneType" "int" = _ by decide +kernel⟩
  · exact ⟨_, rfl, show kitB "bool" "int" = _ by decide +kernel⟩
  · exact ⟨_, rfl, show kitB "int" "int" = _ by decide +kernel⟩
  · exact ⟨_, rfl, show kitB "str" "int" = _ by decide +kernel⟩
  · exact ⟨_, rfl, show kitB "list" "int" = _ by decide +kernel⟩
  · exact ⟨_, rfl, show kitB "tuple" "int" = _ by decide +kernel⟩
  · exact ⟨_, rfl, show kitB "dict" "int" = _ by decide +kernel⟩
theorem ok_isBool : Ok1 K (rIs1 K "bool") pIsBool := ok_is fun d => by
  cases d
  · exact ⟨_, rfl, show kitB "NoneType" "bool" = _ by decide +kernel⟩
  · exact ⟨_, rfl, show kitB "bool" "bool" = _ by decide +kernel⟩
  · exact ⟨_, rfl, show kitB "int" "bool" = _ by decide +kernel⟩
  · exact ⟨_, rfl, show kitB "str" "bool" = _ by decide +kernel⟩
  · exact ⟨_, rfl, show kitB "list" "bool" = _ by decide +kernel⟩
  · exact ⟨_, rfl, show kitB "tuple" "bool" = _ by decide +kernel⟩
  · exact ⟨_, rfl, show kitB "dict" "bool" = _ by decide +kernel⟩
theorem ok_isStr : Ok1 K (rIs1 K "str") pIsStr := ok_is fun d => by
  cases d
  · exact ⟨_, rfl, show kitB "NoneType" "str" = _ by decide +kernel⟩
  · exact ⟨_, rfl, show kitB "bool" "str" = _ by decide +kernel⟩
  · exact ⟨_, rfl, show kitB "int" "str" = _ by decide +kernel⟩
  · exact ⟨_, rfl, show kitB "str" "str" = _ by decide +kernel⟩
  · exact ⟨_, rfl, show kitB "list" "str" = _ by decide +kernel⟩
  · exact ⟨_, rfl, show kitB "tuple" "str" = _ by decide +kernel⟩
  · exact ⟨_, rfl, show kitB "dict" "str" = _ by decide +kernel⟩
theorem ok_isTup : Ok1 K (rIs1 K "tuple") pIsTup := ok_is fun d => by
  cases d
  · exact ⟨_, rfl, show kitB "NoneType" "tuple" = _ by decide +kernel⟩
  · exact ⟨_, rfl, show kitB "bool" "tuple" = _ by decide +kernel⟩
  · exact ⟨_, rfl, show kitB "int" "tuple" = _ by decide +kernel⟩
  · exact ⟨_, rfl, show kitB "str" "tuple" = _ by decide +kernel⟩
  · exact ⟨_, rfl, show kitB "list" "tuple" = _ by decide +kernel⟩
  · exact ⟨_, rfl, show kitB "tuple" "tuple" = _ by decide +kernel⟩
  · exact ⟨_, rfl, show kitB "dict" "tuple" = _ by decide +kernel⟩
theorem ok_isList : Ok1 K (rIs1 K "list") pIsList := ok_is fun d => by
  cases d
  · exact ⟨_, rfl, show kitB "NoneType" "list" = _ by decide +kernel⟩
  · exact ⟨_, rfl, show kitB "bool" "list" = _ by decide +kernel⟩
  · exact ⟨_, rfl, show kitB "int" "list" = _ by decide +kernel⟩
  · exact ⟨_, rfl, show kitB "str" "list" = _ by decide +kernel⟩
  · exact ⟨_, rfl, show kitB "list" "list" = _ by decide +kernel⟩
  · exact ⟨_, rfl, show kitB "tuple" "list" = _ by decide +kernel⟩
  · exact ⟨_, rfl, show kitB "dict" "list" = _ by decide +kernel⟩
end
section
variable {X : Cx} {Φ : Fns} {bf : Nat → Option Nat} {a : Expr} {x y : Z.X} {p p2 pos : Pos} {e : Expr}
theorem ce_isi {T : String} {n : Str} {f : PyData → Option (Bool × PyData)} (ok : Ok1 X.K (rIs1 X.K T) f) (hv : bootBuiltins n = some (.type T)) (hn : n ≠ "__name__") (hdb : (n == ("__debug__" : Str)) = false) (hm : X.mg "isinstance" = none) (hm2 : X.mg n = none) (hg : Gl X "isinstance") (hg2 : Gl X n) (ha : CE X Φ bf a x)
    (he : starEach [a, .Name n p2] X.env = (false, eval a X.env) :: starEach [.Name n p2] X.env := by rfl) (hpl : (backTo pos (starEach [.Name n p2] X.env)).any (·.1) = false := by rfl) (he2 : starEach [.Name n p2] X.env = (false, eval (.Name n p2) X.env) :: starEach [] X.env := by rfl) :
    CE X Φ bf (.Call (.Name "isinstance" p) [a, .Name n p2] [] pos) (.op1 f x) := by
  refine ce1 ok (fun ta h => ?_) ha
  exact (pe_callB call_isi hg hm (by decide +kernel) (pa_cons h (pa_cons (pe_bltn (v := .ty T) hg2 hm2 hv rfl hn hdb) pa_nil he2) he) (by decide) (by decide) he hpl)
end
end L2.Z
namespace L2.Z
open PySem PySem.Spec PyProof.Rows
section
variable {K : PySem.W.Frag}
def pLen : PyData → Option (Bool × PyData)
  | .list ds => some (false, .int ds.length)
  | .tuple ds => some (false, .int ds.length)
  | _ => none
def r1 (r : List V → Hp → VK → Prop) : V → Hp → VK → Prop := fun x H Q => r [x] H Q
def r2 (r : List V → Hp → VK → Prop) : V → V → Hp → VK → Prop := fun x y H Q => r [x, y] H Q
abbrev rLen (K : PySem.W.Frag) : List V → Hp → VK → Prop := fun xs H Q => ∃ x n, xs = [x] ∧ LenV K x H n ∧ Q (.int n) H
theorem ok_len : Ok1 K (r1 (rLen K)) pLen := by
  intro Rf G ρ F σ H v d n d' Q R q h k
  cases d <;> simp only [pLen] at h <;> cases h
  · obtain ⟨a, xs, rfl, e, _, r⟩ := q
    refine ⟨_, xs.length, rfl, .inl ⟨xs, e, rfl⟩, ?_⟩
    rw [r.length]
    exact k _ F H R (Same.refl _) (rr_val (.int _))
  · obtain ⟨a, xs, rfl, e, _, r⟩ := q
    refine ⟨_, xs.length, rfl, .inr ⟨xs, SqT.of (R.fz _ _ e), rfl⟩, ?_⟩
    rw [r.length]
    exact k _ F H R (Same.refl _) (rr_val (.int _))
def pInt1 : PyData → Option (Bool × PyData)
  | .int i => some (false, .int i)
  | .bool b => some (false, .int (if b then 1 else 0))
  | _ => none
theorem ok_int1 : Ok1 K (r1 fun xs H Q => (∃ i, xs = [.int i] ∧ Q (.int i) H) ∨ ∃ k, xs = [.bl k] ∧ Q (.int (if k then 1 else 0)) H) pInt1 := by
  intro Rf G ρ F σ H v d n d' Q R q h k
  cases d <;> simp only [pInt1] at h <;> cases h
  · cases q; exact .inr ⟨_, rfl, k _ F H R (Same.refl _) (rr_val (.int _))⟩
  · cases q; exact .inl ⟨_, rfl, k _ F H R (Same.refl _) (rr_val (.int _))⟩
def boolsOf : List PyData → Option (List Bool)
  | [] => some []
  | .bool b :: r => (boolsOf r).bind fun bs => some (b :: bs)
  | _ => none
def intsOf : List PyData → Option (List Int)
  | [] => some []
  | .int b :: r => (intsOf r).bind fun bs => some (b :: bs)
  | _ => none
theorem rpa_bools {F : Hp} : ∀ {ds : List PyData} {xs : List V} {bs : List Bool}, RpA K F xs ds → boolsOf ds = some bs → xs = bs.map V.bl
  | [], _, _, r, e => by cases r; cases e; rfl
  | .bool b :: ds, _, _, r, e => by
    cases r with
    | cons a r =>
      simp only [boolsOf, Option.bind_eq_some_iff] at e
      obtain ⟨bs, e1, e⟩ := e
      cases e
      cases a
      rw [rpa_bools r e1]; rfl
theorem rpa_ints {F : Hp} : ∀ {ds : List PyData} {xs : List V} {bs : List Int}, RpA K F xs ds → intsOf ds = some bs → xs = bs.map V.int
  | [], _, _, r, e => by cases r; cases e; rfl
  | .int b :: ds, _, _, r, e => by
    cases r with
    | cons a r =>
      simp only [intsOf, Option.bind_eq_some_iff] at e
      obtain ⟨bs, e1, e⟩ := e
      cases e
      cases a
      rw [rpa_ints r e1]; rfl
def pAll : PyData → Option (Bool × PyData)
  | .list ds => (boolsOf ds).bind fun bs => some (false, .bool (bs.all id))
  | _ => none
theorem ok_all : Ok1 K (r1 (rAll K)) pAll := by
  intro Rf G ρ F σ H v d n d' Q R q h k
  cases d <;> simp only [pAll, Option.bind_eq_some_iff] at h <;> try cases h
  rename_i h
  obtain ⟨h1, h2⟩ := h
  cases h2
  obtain ⟨a, xs, rfl, e, _, r⟩ := q
  rw [rpa_bools r h1] at e
  exact ⟨a, _, rfl, e, k _ F H R (Same.refl _) (rr_val (.bl _))⟩
def pIdx : PyData → PyData → Option (Bool × PyData)
  | .list ds, .int i => (atI ds i).bind fun d => some (false, d)
  | .tuple ds, .int i => (atI ds i).bind fun d => some (false, d)
  | .dict kvs, k => (dGetP kvs k).bind fun o => o.bind fun d => some (false, d)
  | _, _ => none
theorem rpa_at {F : Hp} {xs : List V} {ds : List PyData} {i : Int} {d : PyData} (r : RpA K F xs ds) (e : atI ds i = some d) : ∃ v, atI xs i = some v ∧ Rp K F v d := by
  unfold atI at e ⊢
  rw [r.length]
  cases h : ixN ds.length i with
  | none => rw [h] at e; cases e
  | some j => rw [h] at e; exact r.get e
theorem rq_keyV {F H : Hp} {y : V} {d : PyData} (q : Rq K F H y d) (h : isK d = true ∨ isT d = true) : KeyV F y d := by
  rcases h with h | h
  · obtain ⟨k, rfl⟩ := isK_some h
    exact .inl ⟨k, rfl, by cases k <;> exact q⟩
  · obtain ⟨ks, rfl⟩ := isT_some h
    obtain ⟨a, xs, rfl, e, _, r⟩ := q
    exact .inr ⟨ks, a, rfl, rfl, by rw [rpa_keys r] at e; exact e⟩
theorem dGetP_kinds {kvs : List (PyData × PyData)} {d : PyData} {o : Option PyData} (h : dGetP kvs d = some o) : isK d = true ∨ isT d = true := by
  unfold dGetP at h
  split at h
  · rename_i hk; exact keyOk_kinds hk
  · cases h
theorem dPutP_kinds {kvs kvs' : List (PyData × PyData)} {d e : PyData} (h : dPutP kvs d e = some kvs') : isK d = true ∨ isT d = true := by
  unfold dPutP at h
  split at h
  · rename_i hk; exact keyOk_kinds hk.1
  · cases h
theorem ok_idx : Ok2 K (fun x y H Q => (rIxL K x y H Q ∨ rIxT K x y H Q) ∨ rIxDZ x y H Q) pIdx := by
  intro Rf G ρ F σ H v w d e n d' Q R q1 q2 h k
  cases d with
  | list ds =>
    cases e <;> simp only [pIdx] at h <;> try cases h
    simp only [Option.bind_eq_some_iff] at h
    obtain ⟨z, h1, h2⟩ := h
    cases h2
    cases q2
    obtain ⟨a, xs, rfl, e, _, r⟩ := q1
    obtain ⟨u, hu, ru⟩ := rpa_at r h1
    exact .inl (.inl ⟨a, xs, _, u, rfl, rfl, e, hu, k _ F H R (Same.refl _) (rr_val ru)⟩)
  | tuple ds =>
    cases e <;> simp only [pIdx] at h <;> try cases h
    simp only [Option.bind_eq_some_iff] at h
    obtain ⟨z, h1, h2⟩ := h
    cases h2
    cases q2
    obtain ⟨a, xs, rfl, e, _, r⟩ := q1
    obtain ⟨u, hu, ru⟩ := rpa_at r h1
    exact .inl (.inr ⟨a, xs, _, u, rfl, rfl, SqT.of (R.fz _ _ e), hu, k _ F H R (Same.refl _) (rr_val ru)⟩)
  | dict kvs =>
    simp only [pIdx, Option.bind_eq_some_iff] at h
    obtain ⟨o, h1, z, h2, h3⟩ := h
    cases h3
    subst h2
    obtain ⟨a, rfl, m⟩ := q1
    obtain ⟨o, g, r⟩ := dget_ok R.fz m (rq_keyV q2 (dGetP_kinds h1)) h1
    cases o with
    | none => exact r.elim
    | some u => exact .inr ⟨a, u, rfl, g, k _ F H R (Same.refl _) (rr_val r)⟩
  | _ => simp only [pIdx] at h; cases h
end
section
variable {X : Cx} {Φ : Fns} {bf : Nat → Option Nat} {M : Nat} {a b e it tg : Expr} {es : List Expr} {x y c : Z.X} {p pos apos : Pos} {n : Str} {xs : Xs} {t : Tg} {g : List PyData → Option (List PyData)}
theorem ce_b1 {id : String} {r : List V → Hp → VK → Prop} {f : PyData → Option (Bool × PyData)} (ok : Ok1 X.K (r1 r) f) (hc : CallR X (.builtin id) r) (hv : bootBuiltins n = some (.builtin id)) (hn : n ≠ "__name__") (hdb : (n == ("__debug__" : Str)) = false) (hm : X.mg n = none) (hg : Gl X n) (ha : CE X Φ bf a x)
    (he : starEach [a] X.env = (false, eval a X.env) :: starEach [] X.env := by rfl) (hpl : (backTo pos (starEach [] X.env)).any (·.1) = false := by rfl) : CE X Φ bf (.Call (.Name n p) [a] [] pos) (.op1 f x) :=
  ce1 ok (fun ta h => pe_callB hc hg hm hv (pa_cons h pa_nil he) hn hdb he hpl) ha
theorem ce_ty1 {T : String} {r : List V → Hp → VK → Prop} {f : PyData → Option (Bool × PyData)} (ok : Ok1 X.K (r1 r) f) (hc : CallR X (.type T) r) (hv : bootBuiltins n = some (.type T)) (hn : n ≠ "__name__") (hdb : (n == ("__debug__" : Str)) = false) (hm : X.mg n = none) (hg : Gl X n) (ha : CE X Φ bf a x)
    (he : starEach [a] X.env = (false, eval a X.env) :: starEach [] X.env := by rfl) (hpl : (backTo pos (starEach [] X.env)).any (·.1) = false := by rfl) : CE X Φ bf (.Call (.Name n p) [a] [] pos) (.op1 f x) :=
  ce1 ok (fun ta h => pe_callTy hc hg hm hv (pa_cons h pa_nil he) hn hdb he hpl) ha
theorem ce_idx (hu : X.A.units + 64 < cLine) (hs : PlainIx b) (ha : CE X Φ bf a x) (hb : CE X Φ bf b y) : CE X Φ bf (.Subscript a b pos) (.op2 pIdx x y) :=
  ce2 ok_idx (fun ta tb h h' => pe_ix (IxR.or (IxR.or ix_list ix_tup) (ix_dict hu)) h h' hs) ha hb
theorem ce_glob {v : V} {u : Value} {d : PyData} (hm : X.mg n = some u) (r : RelV v u) (hd : ∀ F, Rp X.K F v d) (hg : Gl X n) (hdb : (n == ("__debug__" : Str)) = false) : CE X Φ bf (.Name n pos) (.k d) := ce_k (pe_glob hg hm r hdb) hd
theorem ce_lc {scope : Scope} {own : List (Str × Nat)} {ifs : List Expr} (hc : X.calm = true) (hN : X.N.Nodup) (hsub : ∀ i ∈ t.ixs, i ∈ own.map (·.2)) (hi : CI X Φ bf tg it g xs) (ok : blkC X.N X.env.scope scope own = true)
    (hg : ∀ (s : Shared) (H : Hp) (C : Addr) (cl : List (Str × Addr)) (fp : List Addr), CG (X.blk s H scope (compEnvC scope cl C X.env) fp) tg t)
    (ht : ∀ (s : Shared) (H : Hp) (C : Addr) (cl : List (Str × Addr)) (fp : List Addr), PTs (X.blk s H scope (compEnvC scope cl C X.env) fp) ifs (tB1 X.K (truth (ev Φ bf c))))
    (he : ∀ (s : Shared) (H : Hp) (C : Addr) (cl : List (Str × Addr)) (fp : List Addr), CE (X.blk s H scope (compEnvC scope cl C X.env) fp) Φ bf e x) (hs : ∀ x, foldedSetIterable it X.env x = pure x := by intro _; rfl) :
    CE X Φ bf (.ListComp e [⟨tg, it, ifs, 0⟩] scope pos) (.lc x t g xs c (own.map (·.2))) :=
  PE.imp (pe_lc hc hN hi (blkOk_by ok) hg ht he hs) fun σ H Q h => redLc hsub h
theorem pts0 : PTs X [] (tB1 X.K (truth (ev Φ bf (.k (.bool true))))) := by
  refine ⟨fun pins s σ H Q I h => pts_nil.run pins s σ H Q I ?_⟩
  obtain ⟨Rf, G, ρ, F, b, ρ', R, e, k⟩ := h
  simp only [truth, ev, Option.bind_eq_some_iff] at e
  obtain ⟨_, e1, e2⟩ := e
  simp only [Option.some.injEq] at e1
  subst e1
  simp only [Res.get, Option.some.injEq, Prod.mk.injEq] at e2
  obtain ⟨rfl, rfl⟩ := e2
  exact k F H R (Same.refl _)
theorem pts1 {cc : Expr} (h : CT X Φ bf cc c) : PTs X [cc] (tB1 X.K (truth (ev Φ bf c))) := pts_one h
theorem cs_setLc (i : Nat) {y : Str} {py : Pos} {scope : Scope} {own : List (Str × Nat)} {ifs : List Expr} {spos : Pos} (hc : X.calm = true) (hN : X.N.Nodup) (hsub : ∀ i ∈ t.ixs, i ∈ own.map (·.2)) (hy : X.N[i]? = some y) (hyl : X.env.scope.names.lookup y = some .local)
    (hk : X.env.scope.kind = .function) (hl : (py.line == pos.line) = true) (hany : (scope.names.any fun (n, k) => n == y && (k == .local || k == .cell)) = false)
    (hi : CI X Φ bf tg it g xs) (ok : blkC X.N X.env.scope scope own = true)
    (hg : ∀ (s : Shared) (H : Hp) (C : Addr) (cl : List (Str × Addr)) (fp : List Addr), CG (X.blk s H scope (compEnvC scope cl C X.env) fp) tg t)
    (ht : ∀ (s : Shared) (H : Hp) (C : Addr) (cl : List (Str × Addr)) (fp : List Addr), PTs (X.blk s H scope (compEnvC scope cl C X.env) fp) ifs (tB1 X.K (truth (ev Φ bf c))))
    (he : ∀ (s : Shared) (H : Hp) (C : Addr) (cl : List (Str × Addr)) (fp : List Addr), CE (X.blk s H scope (compEnvC scope cl C X.env) fp) Φ bf e x) (hs : ∀ x, foldedSetIterable it X.env x = pure x := by intro _; rfl) :
    CS X Φ bf M (.Assign [.Name y py] (.ListComp e [⟨tg, it, ifs, 0⟩] scope pos) spos) (.set i (.lc x t g xs c (own.map (·.2)))) :=
  cs_set_by (ps_setLc hc hN hy hyl (sw_true hk hyl hl hany) hi (blkOk_by ok) hg ht he hs) fun σ H Q h => redLc hsub h
theorem jok_list {K : PySem.W.Frag} {a : Addr} {ds : List PyData} : JOk K [.ref a] [.list ds] ds (Itl K a) := by
  intro Rf G ρ F σ H R rq
  cases rq with
  | cons q _ =>
    obtain ⟨a', ys, e, h, _, r⟩ := q
    cases e
    refine ⟨fun i hi => ⟨ys, h, by rw [r.length]; exact hi⟩, fun i d hd => ?_⟩
    obtain ⟨v, hv, rv⟩ := r.get hd
    refine ⟨⟨ys, v, h, hv⟩, fun z H' hz => ?_⟩
    obtain ⟨e1, e2⟩ := hz
    subst e1
    have e3 := e2 ys h
    rw [hv] at e3; cases e3
    exact ⟨F, R, Same.refl _, rv⟩
theorem jok_tup {K : PySem.W.Frag} {a : Addr} {ds : List PyData} : JOk K [.ref a] [.tuple ds] ds (Itt K a) := by
  intro Rf G ρ F σ H R rq
  cases rq with
  | cons q _ =>
    obtain ⟨a', ys, e, h, _, r⟩ := q
    cases e
    refine ⟨fun i hi => ⟨ys, SqT.of (R.fz _ _ h), by rw [r.length]; exact hi⟩, fun i d hd => ?_⟩
    obtain ⟨v, hv, rv⟩ := r.get hd
    refine ⟨⟨ys, v, SqT.of (R.fz _ _ h), hv⟩, fun z H' hz => ?_⟩
    obtain ⟨e1, e2⟩ := hz
    subst e1
    have e3 := e2 ys (SqT.of (R.fz _ _ h))
    rw [hv] at e3; cases e3
    exact ⟨F, R, Same.refl _, rv⟩
def iSeq (K : PySem.W.Frag) (tl : TE) : TI := fun σ H R => tl σ H fun x H1 => (∃ a, x = .ref a ∧ (∃ xs, SqL K H1 a xs) ∧ R (Itl K a) H1) ∨ (∃ a, x = .ref a ∧ (∃ xs, SqT K H1 a xs) ∧ R (Itt K a) H1)
theorem pi_seq {l : Expr} {tl : TE} (hl : PE X l tl) : PI X tg l (iSeq X.K tl) := by
  refine ⟨fun pins s σ H R I h => ?_⟩
  refine thn (hl.run pins s σ H _ I h) fun v s1 ⟨x, H1, I1, r1, q1⟩ => ?_
  have nb : ∀ b ∈ [s1.heap.objs.size], FpOk X pins H1 b := fun b hb => by
    have e : b = s1.heap.objs.size := by simpa using hb
    subst e
    exact I1.fpOk (Nat.le_refl _) (I1.hok.fresh (Nat.le_refl _))
  rcases q1 with ⟨a, e, ⟨xs, hq⟩, q⟩ | ⟨a, e, ⟨xs, hq⟩, q⟩
  · subst e
    cases r1
    obtain ⟨its, rv, p, hz⟩ := I1.list hq
    exact wpAny_pyIter_list p.isList ⟨s1.heap.objs.size, [s1.heap.objs.size], _, _, H1, rfl, I1.kept (t' := s1.toks) (fun b o e => Heap.get?_push_of_some _ e), turn_list a _, ⟨_, Heap.get?_push_size _ rfl, rfl, rfl⟩, nb, q⟩
  · subst e
    cases r1
    obtain ⟨its, rv, p, hz⟩ := I1.tuple hq
    exact wpAny_pyIter_tuple (show s1.heap.IsTuple a its.toArray from p) ⟨s1.heap.objs.size, [s1.heap.objs.size], _, _, H1, rfl, I1.kept (t' := s1.toks) (fun b o e => Heap.get?_push_of_some _ e), turn_tuple a _, ⟨_, Heap.get?_push_size _ rfl, rfl, rfl⟩, nb, q⟩
theorem getAll1 {ρ : Ev} {r : Res} {ds : List PyData} (e : getAll ρ [r] = some ds) : ∃ d, r.get ρ = some d ∧ ds = [d] := by
  simp only [getAll, Option.bind_eq_some_iff] at e
  obtain ⟨d, e1, ds', e2, e3⟩ := e
  simp only [Option.some.injEq] at e2 e3
  subst e2 e3
  exact ⟨d, e1, rfl⟩
theorem evs1 {x : Z.X} {ρ ρ' : Ev} {rs : List Res} (e : evs Φ bf (.cons x .nil) ρ = some (rs, ρ')) : ∃ r, ev Φ bf x ρ = some (r, ρ') ∧ rs = [r] := by
  simp only [evs, Option.bind_eq_some_iff] at e
  obtain ⟨⟨r, ρ1⟩, e1, ⟨rs', ρ2⟩, e2, e⟩ := e
  simp only [Option.some.injEq, Prod.mk.injEq] at e2 e
  obtain ⟨rfl, rfl⟩ := e2
  obtain ⟨rfl, rfl⟩ := e
  exact ⟨r, e1, rfl⟩
theorem ci_seq (ha : CE X Φ bf it x) : CI X Φ bf tg it gSeq (.cons x .nil) := by
  refine PI.imp (pi_seq ha) fun σ H R' h => ?_
  obtain ⟨Rf, G, ρ, F, rs, ρ', ds, items, R, e1, e2, e3, k⟩ := h
  obtain ⟨r, e4, rfl⟩ := evs1 e1
  obtain ⟨d, e5, rfl⟩ := getAll1 e2
  refine tX_opd R e4 fun v F1 H1 R1 s1 o => ?_
  have q := R1.rq o e5
  cases d <;> simp only [gSeq] at e3 <;> try cases e3
  · obtain ⟨a, ys, rfl, h, z, ra⟩ := q
    exact .inl ⟨a, rfl, ⟨ys, h⟩, k [.ref a] F1 H1 _ R1 s1 (.cons o .nil) jok_list (by rw [← ra.length]; exact z)⟩
  · obtain ⟨a, ys, rfl, h, z, ra⟩ := q
    exact .inr ⟨a, rfl, ⟨ys, SqT.of (R1.fz _ _ h)⟩, k [.ref a] F1 H1 _ R1 s1 (.cons o .nil) jok_tup (by rw [← ra.length]; exact z)⟩
theorem jok_range {K : PySem.W.Frag} {vs : List V} {ds : List PyData} {lo : Int} {n : Nat} : JOk K vs ds ((List.range n).map fun i => .int (lo + (i : Nat))) (Itr lo n) := by
  intro Rf G ρ F σ H R rq
  refine ⟨fun i hi => (show n ≤ i by simpa using hi), fun i d hd => ?_⟩
  rw [List.getElem?_map] at hd
  cases h : (List.range n)[i]? with
  | none => rw [h] at hd; cases hd
  | some j =>
    rw [h] at hd
    have hi : i < n := by
      have := (List.getElem?_eq_some_iff.mp h).1
      simpa using this
    rw [List.getElem?_range hi] at h
    cases h
    cases hd
    refine ⟨hi, fun z H' hz => ?_⟩
    obtain ⟨e1, e2⟩ := hz
    subst e1 e2
    exact ⟨F, R, Same.refl _, .int _⟩
theorem ci_range1 (hg : Gl X "range") (hm : X.mg "range" = none) (ha : CE X Φ bf a x) (hs : starEach [a] X.env = [(false, eval a X.env)] := by rfl) (he : starEach [a] X.env = (false, eval a X.env) :: starEach [] X.env := by rfl) : CI X Φ bf tg (.Call (.Name "range" p) [a] [] pos) gRange1 (.cons x .nil) := by
  refine PI.imp (pi_range1 hg hm (pa_cons ha pa_nil he) hs) fun σ H R' h => ?_
  obtain ⟨Rf, G, ρ, F, rs, ρ', ds, items, R, e1, e2, e3, k⟩ := h
  obtain ⟨r, e4, rfl⟩ := evs1 e1
  obtain ⟨d, e5, rfl⟩ := getAll1 e2
  refine tX_opd R e4 fun v F1 H1 R1 s1 o => ?_
  have q := R1.rq o e5
  cases d <;> simp only [gRange1] at e3 <;> try cases e3
  rename_i n
  cases q
  split at e3
  · rename_i hn
    cases e3
    have hz : (sizeLine : Int) < 2 ^ 62 := by rw [sizeLine_eq]; decide
    obtain ⟨h0, hn⟩ := hn
    refine ⟨n, rfl, h0, by omega, ?_⟩
    have j := jok_range (K := X.K) (vs := [.int n]) (ds := [.int n]) (lo := 0) (n := n.toNat)
    have ej : ((List.range n.toNat).map fun i : Nat => PyData.int (0 + (i : Nat))) = (List.range n.toNat).map fun i : Nat => PyData.int (i : Nat) := by
      congr 1; funext i; rw [Int.zero_add]
    rw [ej] at j
    exact k [.int n] F1 H1 _ R1 s1 (.cons o .nil) j (by rw [List.length_map, List.length_range]; omega)
  · cases e3
theorem ci_range2 (hg : Gl X "range") (hm : X.mg "range" = none) (ha : CE X Φ bf a x) (hb : CE X Φ bf b y) (hs : starEach [a, b] X.env = [(false, eval a X.env), (false, eval b X.env)] := by rfl) (hs2 : starEach [b] X.env = [(false, eval b X.env)] := by rfl)
    (he : starEach [a, b] X.env = (false, eval a X.env) :: starEach [b] X.env := by rfl) (he2 : starEach [b] X.env = (false, eval b X.env) :: starEach [] X.env := by rfl) : CI X Φ bf tg (.Call (.Name "range" p) [a, b] [] pos) gRange2 (.cons x (.cons y .nil)) := by
  refine PI.imp (pi_range2 hg hm (pa_cons ha (pa_cons hb pa_nil he2) he) hs hs2) fun σ H R' h => ?_
  obtain ⟨Rf, G, ρ, F, rs, ρ', ds, items, R, e1, e2, e3, k⟩ := h
  simp only [evs, Option.bind_eq_some_iff] at e1
  obtain ⟨⟨ra, ρ1⟩, ea, ⟨rs1, ρ2⟩, ⟨⟨rb, ρ3⟩, eb, ⟨rs2, ρ4⟩, e4, e5⟩, e6⟩ := e1
  simp only [Option.some.injEq, Prod.mk.injEq] at e4 e5 e6
  obtain ⟨rfl, rfl⟩ := e4
  obtain ⟨rfl, rfl⟩ := e5
  obtain ⟨rfl, rfl⟩ := e6
  simp only [getAll, Option.bind_eq_some_iff] at e2
  obtain ⟨da, e7, ds1, ⟨db, e8, ds2, e9, e10⟩, e11⟩ := e2
  simp only [Option.some.injEq] at e9 e10 e11
  subst e9 e10 e11
  refine tX_opd R ea fun v F1 H1 R1 s1 o => ?_
  refine tX_opd R1 eb fun w F2 H2 R2 s2 o2 => ?_
  have q1 := R2.rq (o.mono s2) e7
  have q2 := R2.rq o2 e8
  cases da <;> cases db <;> simp only [gRange2] at e3 <;> try cases e3
  rename_i m n
  cases q1
  cases q2
  split at e3
  · rename_i hn
    cases e3
    exact ⟨m, n, rfl, ⟨hn.2.1.1, hn.2.1.2, hn.2.2.1, hn.2.2.2⟩, k [.int m, .int n] F2 H2 _ R2 (s1.trans s2) (.cons (o.mono s2) (.cons o2 .nil)) jok_range (by rw [List.length_map, List.length_range]; omega)⟩
  · cases e3
theorem lstAt_some {K : PySem.W.Frag} {Rf : Nat → Option Addr} {G F H : Hp} {ρ : Ev} {σ : St} {j : Nat} {ds : List PyData} (R : SR K Rf G ρ F σ H) (e : lstAt ρ j = some ds) : ∃ a, σ[j]? = some (some (.ref a)) ∧ ∃ vs, H a = some (.lst vs) ∧ vs.length ≤ sizeLine ∧ RpA K F vs ds := by
  simp only [lstAt, Option.bind_eq_some_iff] at e
  obtain ⟨c, e1, e2⟩ := e
  obtain ⟨a, ea, _, m, _⟩ := conOf_some R e1
  cases c <;> simp only at e2 <;> cases e2
  exact ⟨a, ea, m⟩
theorem cs_app (i : Nat) {nm : Str} {p1 p2 p3 p4 : Pos} (hN : X.N[i]? = some nm) (hv : Vis X.env.scope nm) (hd : (nm == ("__debug__" : Str)) = false) (hcd : (nm == ("__classdict__" : Str)) = false) (hb : CE X Φ bf e x)
    (hbase : attributeBase (.Name nm p1) "append" X.env (eval (.Name nm p1) X.env) = eval (.Name nm p1) X.env := by rfl)
    (hfew : ((backTo p3 (starEach [e] X.env)).all (fun x => !x.1) && (backToKw p3 (keywordEach [] X.env)).all (fun x => x.1.isSome) && decide ([e].length + ([] : List Keyword).length + (if ([] : List Keyword).isEmpty then 0 else 1) < 30)) = true := by rfl)
    (hline : (p2.endLine == p3.line) = true := by rfl) (hs : starEach [e] X.env = (false, eval e X.env) :: starEach [] X.env := by rfl) (hplain : (backTo p3 (starEach [] X.env)).any (·.1) = false := by rfl)
    (hsw : swapsWith (.Call (.Attribute (.Name nm p1) "append" p2) [e] [] p3) none p4.line X.env = pure false := by rfl) :
    CS X Φ bf M (.Expr (.Call (.Attribute (.Name nm p1) "append" p2) [e] [] p3) p4) (.app i x) := by
  refine PS.imp (ps_expr (pe_bm PySem.F.plainAttrs_list PySem.F.slot_list_append PySem.F.type_list_append mt_append (pe_var hN hv hd hcd) (pa_cons hb pa_nil hs) hbase hfew hline hs hplain) hsw) fun D σ H h => ?_
  obtain ⟨Rf, G, ρ, F, o, R, e, k⟩ := h
  simp only [evS, Option.bind_eq_some_iff] at e
  obtain ⟨ds0, e0, ⟨d, ρ1⟩, e1, c, e2, c', e3, ρ2, e4, e⟩ := e
  simp only [Option.some.injEq] at e
  subst e
  obtain ⟨a0, ea0, va0, ha0, _, ra0⟩ := lstAt_some R e0
  refine ⟨.ref a0, ea0, .inl ⟨rfl, va0, SqL.of ha0⟩, ?_⟩
  refine tX_val R e1 fun v F1 H1 R1 s1 q => ?_
  obtain ⟨a, ea, na, m, mj, _⟩ := conOf_some R1 e2
  rw [ea0] at ea; cases ea
  cases c with
  | list ds =>
    simp only [appD] at e3
    split at e3
    · rename_i hz
      cases e3
      obtain ⟨vs, hv1, hvz, rv⟩ := m
      refine ⟨a0, vs, v, rfl, rfl, hv1, by have := rv.length; simp only [List.length_singleton] at hz; omega, ?_⟩
      exact k σ F1 _ (R1.write e4 ea0 na mj ⟨vs ++ [v], upd_same, by rw [List.length_append, rv.length]; exact hz, rv.append (.cons q .nil)⟩) s1
    · cases e3
  | _ => cases e3
theorem cs_setL (hu : X.A.units + 64 < cLine) (i : Nat) {nm : Str} {p1 p2 p3 : Pos} {kx : Expr} (hN : X.N[i]? = some nm) (hv : Vis X.env.scope nm) (hd : (nm == ("__debug__" : Str)) = false) (hcd : (nm == ("__classdict__" : Str)) = false) (hk : CE X Φ bf kx y) (he : CE X Φ bf e x)
    (ha : ∀ v, assign (.Subscript (.Name nm p1) kx p2) X.env v = (do
      let ov ← holding [v] (eval (.Name nm p1) X.env)
      let iv ← holding [v, ov] (eval kx X.env)
      standAt p2
      holding [v, ov, iv] (setItem ov iv v)
      release [v, ov, iv] []) := by intro _; rfl)
    (hs : swapsWithSole [.Subscript (.Name nm p1) kx p2] e p3.line X.env = pure false := by rfl) (hw : swappedStores [.Subscript (.Name nm p1) kx p2] e X.env = pure none := by rfl)
    (h1 : (assignEach [.Subscript (.Name nm p1) kx p2] X.env).map (·.2) = [assign (.Subscript (.Name nm p1) kx p2) X.env] := by rfl) :
    CS X Φ bf M (.Assign [.Subscript (.Name nm p1) kx p2] e p3) (.setAt i y x) := by
  refine PS.imp (ps_asg he (pg_sub (pe_var hN hv hd hcd) hk (PSet.or set_list (set_dict hu)) ha) hs hw h1) fun D σ H h => ?_
  obtain ⟨Rf, G, ρ, F, o, R, e, k⟩ := h
  simp only [evS, Option.bind_eq_some_iff] at e
  obtain ⟨⟨d, ρ1⟩, e1, c0, e0, ⟨r, ρ2⟩, e2, dk, e3, c, e4, c', e5, ρ3, e6, e⟩ := e
  simp only [Option.some.injEq] at e
  subst e
  refine tX_val R e1 fun v F1 H1 R1 s1 q => ?_
  obtain ⟨a0, ea0, _⟩ := conOf_some R1 e0
  refine ⟨.ref a0, ea0, ?_⟩
  refine tX_opd R1 e2 fun w F2 H2 R2 s2 o2 => ?_
  obtain ⟨a, ea, na, m, mj, _⟩ := conOf_some R2 e4
  rw [ea0] at ea; cases ea
  have qk := R2.rq o2 e3
  cases c with
  | list ds =>
    cases dk <;> simp only [setD] at e5 <;> try cases e5
    simp only [Option.bind_eq_some_iff] at e5
    obtain ⟨j, e7, e8⟩ := e5
    simp only [Option.some.injEq] at e8
    subst e8
    cases qk
    obtain ⟨vs, hv1, hvz, rv⟩ := m
    refine .inl ⟨a0, vs, _, j, rfl, rfl, hv1, by rw [rv.length]; exact e7, ?_⟩
    exact k σ F2 _ (R2.write e6 ea0 na mj ⟨vs.set j v, upd_same, by rw [List.length_set]; exact hvz, RpA.set (q.mono s2) j rv⟩) (s1.trans s2)
  | dict kvs =>
    simp only [setD, Option.bind_eq_some_iff] at e5
    obtain ⟨kvs', e7, e8⟩ := e5
    simp only [Option.some.injEq] at e8
    subst e8
    obtain ⟨u, g, m'⟩ := dput_ok R2.fz na m (rq_keyV qk (dPutP_kinds e7)) (q.mono s2) e7
    exact .inr ⟨a0, _, rfl, g, k σ F2 _ (R2.write e6 ea0 na mj m') (s1.trans s2)⟩
  | _ => cases e5
end
end L2.Z
namespace L2.Z
open PySem PySem.Spec PyProof.Rows
section
variable {K : PySem.W.Frag} {Rf : Nat → Option Addr} {G F F' H H' : Hp} {ρ ρ' : Ev} {σ : St} {v : V} {d : PyData}
def Pend (K : PySem.W.Frag) (Rf : Nat → Option Addr) (ρ : Ev) (F : Hp) (σ : St) (H : Hp) : Hp → List V → List Slot → Prop
  | G, [], [] => SR K Rf G ρ F σ H
  | G, v :: vs, .dat d :: ss => Rp K F v d ∧ Pend K Rf ρ F σ H G vs ss
  | G, v :: vs, .own d :: ss => ∃ p o, v = .ref p ∧ G p = none ∧ (∀ i, Rf i ≠ some p) ∧ MutAt K F H p d ∧ Pend K Rf ρ F σ H (upd G p o) vs ss
  | _, _, _ => False
theorem Pend.gs : ∀ {vs : List V} {ss : List Slot} {G : Hp}, Pend K Rf ρ F σ H G vs ss → ∀ b o, G b = some o → H b = some o ∧ F b = none
  | [], [], G, R, b, o, e => SR.gs R b o e
  | v :: vs, .dat d :: ss, G, R, b, o, e => Pend.gs R.2 b o e
  | v :: vs, .own d :: ss, G, R, b, o, e => by
    obtain ⟨p, o', _, g, _, _, R'⟩ := R
    exact Pend.gs R' b o (by rw [upd_ne (fun z => by rw [z, g] at e; cases e)]; exact e)
theorem Pend.grow (s : Same H H') : ∀ {vs : List V} {ss : List Slot} {G : Hp}, Pend K Rf ρ F σ H G vs ss → Pend K Rf ρ F σ H' G vs ss
  | [], [], G, R => SR.grow R s
  | v :: vs, .dat d :: ss, G, R => ⟨R.1, Pend.grow s R.2⟩
  | v :: vs, .own d :: ss, G, R => by
    obtain ⟨p, o', e, g, hr, m, R'⟩ := R
    obtain ⟨o, eo⟩ := m.there
    exact ⟨p, o', e, g, hr, m.mono ((s p o eo).trans eo.symm) (Same.refl _), Pend.grow s R'⟩
theorem Pend.length : ∀ {vs : List V} {ss : List Slot} {G : Hp}, Pend K Rf ρ F σ H G vs ss → vs.length = ss.length
  | [], [], G, _ => rfl
  | v :: vs, .dat d :: ss, G, R => by simp [Pend.length R.2]
  | v :: vs, .own d :: ss, G, R => by obtain ⟨p, o', _, _, _, _, R'⟩ := R; simp [Pend.length R']
def setAll (σ : St) : List Nat → List V → St
  | i :: is, v :: vs => (setAll σ is vs).set i (some v)
  | _, _ => σ
theorem Pend.store : ∀ {vs : List V} {ss : List Slot} {is : List Nat} {G : Hp} {ρ' : Ev}, Pend K Rf ρ F σ H G vs ss → asgAll is ss ρ = some ρ' → SR K Rf G ρ' F (setAll σ is vs) H
  | [], [], [], G, _, R, e => by simp only [asgAll, Option.some.injEq] at e; subst e; exact R
  | v :: vs, .dat d :: ss, i :: is, G, _, R, e => by
    simp only [asgAll, Option.bind_eq_some_iff] at e
    obtain ⟨ρ1, e1, e2⟩ := e
    exact (Pend.store R.2 e1).asg e2 R.1
  | v :: vs, .own d :: ss, i :: is, G, _, R, e => by
    simp only [asgAll, Option.bind_eq_some_iff] at e
    obtain ⟨ρ1, e1, e2⟩ := e
    obtain ⟨p, o, rfl, g, hr, m, R'⟩ := R
    have R0 := Pend.store R' e1
    obtain ⟨R1, l, ho⟩ := R0.unguard g hr (m.noFrz (R0.gs p o upd_same).1)
    exact R1.asg e2 ⟨p, rfl, l, m⟩
  | [], [], i :: is, G, _, R, e => by simp only [asgAll] at e; cases e
  | v :: vs, .dat d :: ss, [], G, _, R, e => by simp only [asgAll] at e; cases e
  | v :: vs, .own d :: ss, [], G, _, R, e => by simp only [asgAll] at e; cases e
end
def tSl (K : PySem.W.Frag) (f : Ev → Option (List Slot × Ev)) : TA := fun σ H Q => ∃ Rf G ρ F ss ρ', SR K Rf G ρ F σ H ∧ f ρ = some (ss, ρ') ∧ ∀ vs F' H', Pend K Rf ρ' F' σ H' G vs ss → Same F F' → Q vs H'
abbrev CL (X : Cx) (Φ : Fns) (bf : Nat → Option Nat) (es : List Expr) (xs : Xs) : Prop := PA X es (tSl X.K (evst Φ bf xs))
section
variable {X : Cx} {Φ : Fns} {bf : Nat → Option Nat} {M : Nat} {a b e e1 e2 e3 e4 : Expr} {es : List Expr} {x y : Z.X} {xs : Xs} {pos pt pt2 px py pz : Pos} {n : Str} {kt k2 : Nat} {st : Stmt}
theorem cl_nil : CL X Φ bf [] .nil := by
  refine PA.imp pa_nil fun σ H Q h => ?_
  obtain ⟨Rf, G, ρ, F, r, ρ', R, e, k⟩ := h
  simp only [evst, Option.some.injEq, Prod.mk.injEq] at e
  obtain ⟨rfl, rfl⟩ := e
  exact k [] F H R (Same.refl _)
theorem cl_cons (ha : CE X Φ bf a x) (hr : CL X Φ bf es xs) (hs : starEach (a :: es) X.env = (false, eval a X.env) :: starEach es X.env := by rfl) : CL X Φ bf (a :: es) (.cons x xs) := by
  refine PA.imp (pa_cons ha hr hs) fun σ H Q h => ?_
  obtain ⟨Rf, G, ρ, F, r, ρ', R, e, k⟩ := h
  simp only [evst, Option.bind_eq_some_iff] at e
  obtain ⟨⟨r1, ρ1⟩, e1, ⟨s, ρ2⟩, e2, ⟨ss, ρ3⟩, e3, e⟩ := e
  simp only [Option.some.injEq, Prod.mk.injEq] at e
  obtain ⟨rfl, rfl⟩ := e
  refine ⟨Rf, G, ρ, F, r1, ρ1, R, e1, fun v F1 H1 R1 s1 q => ?_⟩
  obtain ⟨F2, R2, s2, so⟩ := R1.stored q e2
  cases s with
  | dat d => exact ⟨Rf, G, ρ2, F2, ss, ρ3, R2, e3, fun vs F3 H3 P s3 => k (v :: vs) F3 H3 ⟨Rp.mono s3 so, P⟩ (s1.trans (s2.trans s3))⟩
  | own d =>
    obtain ⟨p, rfl, l, m⟩ := so
    obtain ⟨o, eo⟩ := m.there
    refine ⟨Rf, upd G p o, ρ2, F2, ss, ρ3, R2.guard eo (m.noTup eo) l, e3, fun vs F3 H3 P s3 => ?_⟩
    have g3 := P.gs p o upd_same
    exact k (.ref p :: vs) F3 H3 ⟨p, o, rfl, l.2.1, fun i => l.rf R2, m.mono (g3.1.trans eo.symm) s3, P⟩ (s1.trans (s2.trans s3))
  | un => exact so.elim
  | ref d => exact so.elim
  | lok b d => exact so.elim
  | mat rs => exact so.elim
  | fn a => exact so.elim
theorem redPar {K : PySem.W.Frag} {is : List Nat} {D : Ends} {σ : St} {H : Hp} (h : tS K (evS Φ bf M (.par is xs)) D σ H) : tSl K (evst Φ bf xs) σ H fun vs H1 => (∃ s : List Slot, s.length = vs.length ∧ s.length = is.length) ∧ D.nx (setAll σ is vs) H1 ∧ True := by
  obtain ⟨Rf, G, ρ, F, o, R, e, k⟩ := h
  simp only [evS, Option.bind_eq_some_iff] at e
  obtain ⟨⟨ss, ρ1⟩, e1, ρ2, e2, e⟩ := e
  simp only [Option.some.injEq] at e
  subst e
  have len : ∀ {is : List Nat} {ss : List Slot} {ρ ρ' : Ev}, asgAll is ss ρ = some ρ' → ss.length = is.length := by
    intro is
    induction is with
    | nil => intro ss ρ ρ' e; cases ss with
      | nil => rfl
      | cons _ _ => simp only [asgAll] at e; cases e
    | cons i is ih => intro ss ρ ρ' e; cases ss with
      | nil => simp only [asgAll] at e; cases e
      | cons s ss =>
        simp only [asgAll, Option.bind_eq_some_iff] at e
        obtain ⟨ρ1, e1, _⟩ := e
        simp [ih e1]
  exact ⟨Rf, G, ρ, F, ss, ρ1, R, e1, fun vs F1 H1 P s1 => ⟨⟨ss, P.length.symm, len e2⟩, k _ F1 H1 (P.store e2) s1, trivial⟩⟩
theorem cs_par2 {i j : Nat} {nx ny : Str} (hc : X.calm = true) (hN : X.N.Nodup) (hi : X.N[i]? = some nx) (hj : X.N[j]? = some ny) (hij : i ≠ j) (hx : X.env.scope.names.lookup nx = some .local) (hy : X.env.scope.names.lookup ny = some .local) (ha : CL X Φ bf [a, b] xs)
    (hw : swappedStores [.Tuple [.Name nx px, .Name ny py] kt pt] (.Tuple [a, b] k2 pt2) X.env = pure (some [nx, ny]))
    (hs : swapsWithSole [.Tuple [.Name nx px, .Name ny py] kt pt] (.Tuple [a, b] k2 pt2) pos.line X.env = pure false := by rfl) :
    CS X Φ bf M (.Assign [.Tuple [.Name nx px, .Name ny py] kt pt] (.Tuple [a, b] k2 pt2) pos) (.par [i, j] xs) := by
  refine PS.imp (ps_par hc hN hi hj hij hx hy ha hw hs) fun D σ H h => ?_
  obtain ⟨Rf, G, ρ, F, ss, ρ', R, e, k⟩ := redPar h
  refine ⟨Rf, G, ρ, F, ss, ρ', R, e, fun vs F' H' P s => ?_⟩
  obtain ⟨⟨s0, l1, l2⟩, q, _⟩ := k vs F' H' P s
  have l3 : vs.length = 2 := by rw [← l1, l2]; rfl
  match vs, l3, q with
  | [v, w], _, q =>
    refine ⟨v, w, rfl, ?_⟩
    have e0 : setAll σ [i, j] [v, w] = (σ.set i (some v)).set j (some w) := List.set_comm _ _ (Ne.symm hij)
    rw [← e0]
    exact q
theorem cs_par3 {i j l : Nat} {nx ny nz : Str} (hc : X.calm = true) (hN : X.N.Nodup) (hi : X.N[i]? = some nx) (hj : X.N[j]? = some ny) (hl : X.N[l]? = some nz) (hij : i ≠ j) (hil : i ≠ l) (hjl : j ≠ l)
    (hp : ∀ {ta : TA}, PA X [a, b, e] ta → PS X st (tPar3 i j l ta)) (ha : CL X Φ bf [a, b, e] xs) : CS X Φ bf M st (.par [i, j, l] xs) := by
  refine PS.imp (hp ha) fun D σ H h => ?_
  obtain ⟨Rf, G, ρ, F, ss, ρ', R, e, k⟩ := redPar h
  refine ⟨Rf, G, ρ, F, ss, ρ', R, e, fun vs F' H' P s => ?_⟩
  obtain ⟨⟨s0, l1, l2⟩, q, _⟩ := k vs F' H' P s
  have l3 : vs.length = 3 := by rw [← l1, l2]; rfl
  match vs, l3, q with
  | [u, v, w], _, q =>
    refine ⟨u, v, w, rfl, ?_⟩
    have e0 : setAll σ [i, j, l] [u, v, w] = ((σ.set i (some u)).set j (some v)).set l (some w) := by
      show ((σ.set l (some w)).set j (some v)).set i (some u) = _
      rw [List.set_comm (l := σ) _ _ (Ne.symm hjl), List.set_comm _ _ (Ne.symm hil), List.set_comm (l := σ) _ _ (Ne.symm hij)]
    rw [← e0]
    exact q
theorem redParT {K : PySem.W.Frag} {is : List Nat} {D : Ends} {σ : St} {H : Hp} (hz : is.length ≤ sizeLine) (h : tS K (evS Φ bf M (.par is xs)) D σ H) : tSl K (evst Φ bf xs) σ H fun vs H1 => vs.length ≤ sizeLine ∧ ∀ p, H1 p = none → (vs.length = is.length ∧ D.nx (setAll σ is vs) (upd H1 p (.tup vs))) := by
  obtain ⟨Rf, G, ρ, F, o, R, e, k⟩ := h
  have len : ∀ {is : List Nat} {ss : List Slot} {ρ ρ' : Ev}, asgAll is ss ρ = some ρ' → ss.length = is.length := by
    intro is
    induction is with
    | nil => intro ss ρ ρ' e; cases ss with
      | nil => rfl
      | cons _ _ => simp only [asgAll] at e; cases e
    | cons i is ih => intro ss ρ ρ' e; cases ss with
      | nil => simp only [asgAll] at e; cases e
      | cons s ss =>
        simp only [asgAll, Option.bind_eq_some_iff] at e
        obtain ⟨ρ1, e1, _⟩ := e
        simp [ih e1]
  simp only [evS, Option.bind_eq_some_iff] at e
  obtain ⟨⟨ss, ρ1⟩, e1, ρ2, e2, e⟩ := e
  simp only [Option.some.injEq] at e
  subst e
  refine ⟨Rf, G, ρ, F, ss, ρ1, R, e1, fun vs F1 H1 P s1 => ?_⟩
  have l : vs.length = is.length := P.length.trans (len e2)
  refine ⟨by omega, fun p hp => ⟨l, ?_⟩⟩
  have P' : Pend K Rf ρ1 F1 σ (upd H1 p (.tup vs)) G vs ss := P.grow (upd_Same hp)
  exact k _ F1 _ (P'.store e2) s1
theorem cs_parT2 {i j : Nat} {t1 t2 : Expr} (hc : X.calm = true) (hij : i ≠ j) (h1 : PG X t1 (gName i)) (h2 : PG X t2 (gName j)) (ha : CL X Φ bf [a, b] xs)
    (hs : swapsWithSole [.Tuple [t1, t2] kt pt] (.Tuple [a, b] k2 pt2) pos.line X.env = pure false := by rfl) (hw : swappedStores [.Tuple [t1, t2] kt pt] (.Tuple [a, b] k2 pt2) X.env = pure none)
    (g1 : (assignEach [.Tuple [t1, t2] kt pt] X.env).map (·.2) = [assign (.Tuple [t1, t2] kt pt) X.env] := by rfl)
    (s1 : (assignEach [t1, t2] X.env).map (·.2) = assign t1 X.env :: (assignEach [t2] X.env).map (·.2) := by rfl) (s2 : (assignEach [t2] X.env).map (·.2) = assign t2 X.env :: (assignEach [] X.env).map (·.2) := by rfl)
    (hn : (assignEach [t1, t2] X.env).length = 2 := by rfl) (hst : (assignEach [t1, t2] X.env).findIdx? (·.1) = none := by rfl) :
    CS X Φ bf M (.Assign [.Tuple [t1, t2] kt pt] (.Tuple [a, b] k2 pt2) pos) (.par [i, j] xs) := by
  refine PS.imp (ps_asg (pe_tup ha) (pg_tup (n := 2) hc (pgs_cons h1 (pgs_cons h2 pgs_nil s2) s1) hn hst) hs hw g1) fun D σ H h => ?_
  obtain ⟨Rf, G, ρ, F, ss, ρ', R, e, k⟩ := redParT (by show 2 ≤ sizeLine; rw [sizeLine_eq]; decide) h
  refine ⟨Rf, G, ρ, F, ss, ρ', R, e, fun vs F' H' P s => ?_⟩
  obtain ⟨z, k'⟩ := k vs F' H' P s
  refine ⟨z, fun p hp => ?_⟩
  obtain ⟨l3, q⟩ := k' p hp
  match vs, l3, q with
  | [v, w], _, q =>
    refine ⟨p, [v, w], rfl, SqT.of upd_same, rfl, v, [w], rfl, w, [], rfl, rfl, ?_⟩
    have e0 : setAll σ [i, j] [v, w] = (σ.set i (some v)).set j (some w) := List.set_comm _ _ (Ne.symm hij)
    rw [← e0]
    exact q
def outOf (d : PyData) (ρ : Ev) : Option Nat → Option (PyData × PyData)
  | none => some (d, .none)
  | some k => match ρ[k]? with
    | some (.ref c) => some (d, c)
    | _ => none
def conArg (ds : List PyData) : Option Nat → PyData
  | none => .none
  | some k => ds.getD k .none
def callBody (Φ : Fns) (bf : Nat → Option Nat) (M : Nat) (b : Ss) (np ns : Nat) (k : Option Nat) (ds : List PyData) : Option (PyData × PyData) :=
  if ds.length = np then
    match evSs Φ bf M b (slotsOf ds (conArg ds k) k ++ List.replicate (ns - np) .un) with
    | some (.rt d ρ) => outOf d ρ k
    | some (.nx ρ) => outOf .none ρ k
    | _ => none
  else none
theorem SR.more {K : PySem.W.Frag} {Rf : Nat → Option Addr} {G F H : Hp} {ρ : Ev} {σ : St} (R : SR K Rf G ρ F σ H) (n : Nat) : SR K Rf G (ρ ++ List.replicate n .un) F (σ ++ List.replicate n none) H := by
  have nl : ∀ i s, (ρ ++ List.replicate n Slot.un)[i]? = some s → (i < ρ.length ∧ ρ[i]? = some s) ∨ s = .un := fun i s e => by
    by_cases h : i < ρ.length
    · rw [List.getElem?_append_left h] at e; exact .inl ⟨h, e⟩
    · rw [List.getElem?_append_right (by omega), List.getElem?_replicate] at e
      split at e
      · cases e; exact .inr rfl
      · cases e
  have sl : ∀ i, i < ρ.length → (σ ++ List.replicate n none)[i]? = σ[i]? := fun i h => List.getElem?_append_left (by rw [← R.len]; exact h)
  have mu : ∀ i, MutI (ρ ++ List.replicate n .un) i → i < ρ.length ∧ MutI ρ i := fun i ⟨s, e, m⟩ => by
    rcases nl i s e with ⟨h, e'⟩ | rfl
    · exact ⟨h, s, e', m⟩
    · cases m
  refine ⟨by rw [List.length_append, List.length_append, R.len, List.length_replicate, List.length_replicate], R.fz, fun i s e => ?_, fun i j a mi mj ei ej => ?_, fun i a mi ei => ?_, R.gs, fun i a e => ?_, R.gt⟩
  · rcases nl i s e with ⟨h, e'⟩ | rfl
    · rw [sl i h]; exact R.sl i s e'
    · trivial
  · rw [sl i (mu i mi).1] at ei
    rw [sl j (mu j mj).1] at ej
    exact R.dis i j a (mu i mi).2 (mu j mj).2 ei ej
  · rw [sl i (mu i mi).1] at ei
    exact R.gm i a (mu i mi).2 ei
  · obtain ⟨z1, s, z2, z3⟩ := R.rf i a e
    have h : i < ρ.length := (List.getElem?_eq_some_iff.mp z2).1
    exact ⟨by rw [sl i h]; exact z1, s, by rw [List.getElem?_append_left h]; exact z2, z3⟩
theorem SR.leave {K : PySem.W.Frag} {k : Option Nat} {vs : List V} {G F F' H H' : Hp} {ds : List PyData} {c d c' : PyData} {ρ : Ev} {σ : St} (R : SR K (rfOf k vs) G (slotsOf ds c k) F (vs.map some) H) (R' : SR K (rfOf k vs) G ρ F' σ H') (s : Same F F') (e : outOf d ρ k = some (d, c')) :
    SR K (rfOf k vs) G (slotsOf ds c' k) F' (vs.map some) H' := by
  have hl : vs.length = ds.length := by have := R.len; rw [slotsOf_length, List.length_map] at this; exact this.symm
  have key : ∀ i, k = some i → ∃ a, vs[i]? = some (.ref a) ∧ F' a = none ∧ MutAt K F' H' a c' ∧ G a = none := fun i hk => by
    subst hk
    simp only [outOf] at e
    split at e
    · rename_i c2 hc
      cases e
      obtain ⟨a, ea, na, m, q⟩ := R'.sl i _ hc
      unfold rfOf at q
      rw [if_pos rfl] at q
      split at q
      · rename_i b hb
        cases q
        exact ⟨a, hb, na, m, R'.gm i a ⟨_, hc, rfl⟩ ea⟩
      · cases q
    · cases e
  have mk : ∀ i, MutI (slotsOf ds c' k) i → k = some i := fun i ⟨t, et, mt⟩ => by
    rcases slotsOf_get et with ⟨z, _⟩ | ⟨_, d, _, rfl⟩
    · exact z
    · cases mt
  refine ⟨by rw [slotsOf_length, List.length_map, hl], R'.fz, fun i t et => ?_, fun i j a mi mj _ _ => by have h1 := mk i mi; have h2 := mk j mj; rw [h1] at h2; exact Option.some.inj h2, fun i a mi ei => ?_, R'.gs, fun i a ea => ?_, R'.gt⟩
  · rcases slotsOf_get et with ⟨z, rfl, _⟩ | ⟨hk, d, ed, rfl⟩
    · obtain ⟨a, ha, na, m, _⟩ := key i z
      exact ⟨a, by rw [List.getElem?_map, ha]; rfl, na, m, by unfold rfOf; rw [if_pos z, ha]⟩
    · have h0 : (slotsOf ds c k)[i]? = some (.dat d) := by
        cases k with
        | none => unfold slotsOf; rw [List.getElem?_map, ed]; rfl
        | some k => unfold slotsOf; rw [List.getElem?_set_ne (fun z => hk (by rw [z])), List.getElem?_map, ed]; rfl
      obtain ⟨x, ex, rx⟩ := R.sl i _ h0
      exact ⟨x, ex, rx.mono s⟩
  · obtain ⟨b, hb, _, _, g⟩ := key i (mk i mi)
    rw [List.getElem?_map, hb] at ei
    cases ei
    exact g
  · unfold rfOf at ea
    split at ea
    · rename_i hk
      obtain ⟨b, hb, _⟩ := key i hk
      rw [hb] at ea
      cases ea
      subst hk
      have hi : i < ds.length := by rw [← hl]; exact (List.getElem?_eq_some_iff.mp hb).1
      refine ⟨by rw [List.getElem?_map, hb]; rfl, .ref c', ?_, rfl⟩
      unfold slotsOf
      rw [List.getElem?_set_self (by rw [List.length_map]; exact hi)]
    · cases ea
theorem outOf_fst {d : PyData} {ρ : Ev} {k : Option Nat} {r : PyData × PyData} (e : outOf d ρ k = some r) : r.1 = d ∧ outOf d ρ k = some (d, r.2) := by
  cases k with
  | none => simp only [outOf, Option.some.injEq] at e; subst e; exact ⟨rfl, rfl⟩
  | some k =>
    simp only [outOf] at e ⊢
    split at e
    · rename_i c h; cases e; exact ⟨rfl, rfl⟩
    · cases e
theorem fn_ok {P : Program} {w : World} {K : PySem.W.Frag} {mg : Str → Option Value} {base : Heap} {nm qual : Str} {st : Stmt} {f : Addr} {fd : FuncData} {N ps : List Str} {lv : Nat} {k : Option Nat} {body : Ss} {φ : List PyData → Option (PyData × PyData)}
    (F : Fun K nm qual st f fd) (S : FnScope N ps (defScope st))
    (hb : ∀ (cdv : Value) (A : Around) (outer : List Env) (s : Shared) (H : Hp) (E : XK), Room lv (A.deeper (envOfC qual (defScope st) s.heap.objs.size f cdv)) →
      CSs (cxOf CX0 P w K mg base N qual (defScope st) f cdv A outer s H E).nox Φ bf M (defBody st) body)
    (hφ : ∀ ds r, φ ds = some r → callBody Φ bf M body ps.length N.length k ds = some r) : FnOk P w K mg base CX0 (lv + 1) f fd ps (spF K k ps.length φ) := by
  refine F.ok S (fun vs H Q E h => h.1) (fun cdv A outer s H vs Q E hr h => ⟨_, hb cdv A outer s H E hr, ?_⟩)
  obtain ⟨hl, G, F0, ds, c, d, c', R, hk, e, kk⟩ := h
  have e := hφ _ _ e
  unfold callBody at e
  split at e
  · rename_i hdl
    have hc : slotsOf ds (conArg ds k) k = slotsOf ds c k := by
      cases k with
      | none => rfl
      | some k => simp only [slotsOf, conArg]; rw [List.getD_eq_getElem?_getD, hk k rfl]; rfl
    rw [hc] at e
    have R1 := R.more (N.length - vs.length)
    rw [hl] at R1
    have st0 : start N vs = vs.map some ++ List.replicate (N.length - ps.length) none := by unfold start; rw [hl]
    show tS K (evSs Φ bf M body) { nx := fun _ H' => Q .non H', rt := Q } (start N vs) H
    rw [st0]
    split at e
    · rename_i dv ρ he
      obtain ⟨h1, h2⟩ := outOf_fst e
      simp only at h1; subst h1
      exact ⟨_, G, _, F0, _, R1, he, fun v σ' F' H' R' s' q => kk v F' H' (R.leave R' s' h2) s' q⟩
    · rename_i ρ he
      obtain ⟨h1, h2⟩ := outOf_fst e
      simp only at h1; subst h1
      exact ⟨_, G, _, F0, _, R1, he, fun σ' F' H' R' s' => kk .non F' H' (R.leave R' s' h2) s' .non⟩
    · cases e
  · cases e
end
end L2.Z
namespace L2.Z
open PySem PySem.Spec PyProof.Rows
theorem lenZ {xs : Xs} (h : Nat.ble xs.len 1000 = true) : xs.len ≤ sizeLine := Nat.le_trans (Nat.le_of_ble_eq_true h) (by decide)
theorem blkX {N : List Str} {sc scope : Scope} {own : List (Str × Nat)} (h : blkC N sc scope own = true) : blkC N sc scope own = true := h
section
variable {X : Cx} {Φ : Fns} {bf : Nat → Option Nat} {M : Nat} {a b : Expr} {x y : L2.Z.X} {pos : Pos}
theorem ct_isN {j : Nat} {pos' : Pos} (ha : CE X Φ bf a x) : CT X Φ bf (.Compare a [.Is] [.Constant .none j pos'] pos) (.op1 pIsN x) :=
  PT.imp (pt_cmp (t := tIsN _) (pc_isN ha) rfl) fun σ H Q q => red1 ok_isN (redT q)
theorem fn_zero {P : Program} {w : World} {K : PySem.W.Frag} {mg : Str → Option Value} {base : Heap} {lv : Nat} {f : Addr} {fd : FuncData} {ps : List Str} {k : Option Nat} :
    FnOk P w K mg base CX0 lv f fd ps (spF K k ps.length fun _ => none) :=
  ⟨fun vs H Q E h => h.1, fun _ _ _ _ _ _ _ _ _ _ _ _ _ h => by obtain ⟨_, _, _, _, _, _, _, _, _, e, _⟩ := h; cases e⟩
theorem callBody_len {b : Ss} {np ns : Nat} {k : Option Nat} {ds : List PyData} {r : PyData × PyData} (h : callBody Φ bf M b np ns k ds = some r) : ds.length = np := by
  unfold callBody at h
  split at h
  · assumption
  · cases h
end
def spLaw (K : PySem.W.Frag) : Sp := fun vs H Q _ => ∃ (a : Addr) (ns : List Int), vs = [.ref a] ∧ SqL K H a (ns.map V.int) ∧ ns.length ≤ 63 ∧ ∀ H', Q (.bl true) H'
theorem rpa_mapInt {K : PySem.W.Frag} {F : Hp} : ∀ ns : List Int, RpA K F (ns.map V.int) (ns.map PyData.int)
  | [] => .nil
  | i :: r => .cons (.int i) (rpa_mapInt r)
theorem law_ok {P : Program} {w : World} {K : PySem.W.Frag} {mg : Str → Option Value} {base : Heap} {lv : Nat} {f : Addr} {fd : FuncData} {x : Str} {φ : List PyData → Option (PyData × PyData)}
    (Fk : FnOk P w K mg base CX0 lv f fd [x] (spF K none 1 φ)) (h : ∀ ns : List Int, ns.length ≤ 63 → φ [.list (ns.map .int)] = some (.bool true, .none)) : FnOk P w K mg base CX0 lv f fd [x] (spLaw K) := by
  refine Fk.imp fun vs H Q E q => ?_
  obtain ⟨a, ns, rfl, hS, hl, k⟩ := q
  refine ⟨rfl, fun _ => none, H, [.list (ns.map .int)], .none, .bool true, .none, ?_, fun _ z => (by cases z), h ns hl, fun v F' H' R s r => ?_⟩
  · refine ⟨rfl, Same.refl _, fun i s e => ?_, fun i j b mi mj _ _ => ?_, fun i b mi _ => ?_, fun _ _ e => (by cases e), fun i b e => (by cases e), fun _ _ e => (by cases e)⟩
    · cases i with
      | zero =>
        cases e
        exact ⟨.ref a, rfl, .lst hS (by rw [List.length_map]; exact Nat.le_trans hl (by decide)) (rpa_mapInt ns)⟩
      | succ i => cases e
    all_goals
      obtain ⟨s, e, m⟩ := mi
      cases i with
      | zero => cases e; cases m
      | succ i => cases e
  · cases r
    exact k H'
end L2.Z
namespace L2.Z
open PySem
section
variable {Φ : Fns} {bf : Nat → Option Nat} {M : Nat} {ρ : Ev}
@[simp] theorem z_v {i : Nat} : ev Φ bf (.v i) ρ = (ρ[i]?).bind fun s => s.get.bind fun _ => some (.slot i, ρ) := by simp only [ev]
@[simp] theorem z_k {d : PyData} : ev Φ bf (.k d) ρ = some (.val d, ρ) := by simp only [ev]
@[simp] theorem z_op1 {f} {a : X} : ev Φ bf (.op1 f a) ρ = (ev Φ bf a ρ).bind fun p => (p.1.get p.2).bind fun d => (f d).bind fun q => some (mkR q.1 q.2, p.2) := by simp only [ev]
@[simp] theorem z_op2 {f} {a b : X} : ev Φ bf (.op2 f a b) ρ = (ev Φ bf a ρ).bind fun p => (ev Φ bf b p.2).bind fun p' => (p.1.get p'.2).bind fun d => (p'.1.get p'.2).bind fun d' => (f d d').bind fun q => some (mkR q.1 q.2, p'.2) := by simp only [ev]
@[simp] theorem z_and {a b : X} : ev Φ bf (.and a b) ρ = (truth (ev Φ bf a) ρ).bind fun p => if p.1 = true then (truth (ev Φ bf b) p.2).bind fun q => some (.val (.bool q.1), q.2) else some (.val (.bool false), p.2) := by simp only [ev]
@[simp] theorem z_or {a b : X} : ev Φ bf (.or a b) ρ = (truth (ev Φ bf a) ρ).bind fun p => if p.1 = true then some (.val (.bool true), p.2) else (truth (ev Φ bf b) p.2).bind fun q => some (.val (.bool q.1), q.2) := by simp only [ev]
@[simp] theorem z_ite {c a b : X} : ev Φ bf (.ite c a b) ρ = (truth (ev Φ bf c) ρ).bind fun p => if p.1 = true then ev Φ bf a p.2 else ev Φ bf b p.2 := by simp only [ev]
@[simp] theorem z_chain {f g} {a b c : X} : ev Φ bf (.chain f g a b c) ρ = (ev Φ bf a ρ).bind fun p => (ev Φ bf b p.2).bind fun p' => (p.1.get p'.2).bind fun d => (p'.1.get p'.2).bind fun d' => match f d d' with
    | some (false, .bool true) => (ev Φ bf c p'.2).bind fun p'' => (p'.1.get p''.2).bind fun e => (p''.1.get p''.2).bind fun e' => match g e e' with
      | some (false, .bool z) => some (.val (.bool z), p''.2)
      | _ => none
    | some (false, .bool false) => some (.val (.bool false), p'.2)
    | _ => none := by simp only [ev] <;> rfl
@[simp] theorem z_call {f : Nat} {as : Xs} : ev Φ bf (.call f as) ρ = (evs Φ bf as ρ).bind fun p => (callArgs p.2 p.1 (bf f)).bind fun q => (Φ f q.1).bind fun z => (callBack q.2 p.1 z.2 (bf f)).bind fun ρ' => some (.val z.1, ρ') := by simp only [ev]
@[simp] theorem z_tup {as : Xs} : ev Φ bf (.tup as) ρ = (evv Φ bf as ρ).bind fun p => some (.val (.tuple p.1), p.2) := by simp only [ev]
@[simp] theorem z_lst {as : Xs} : ev Φ bf (.lst as) ρ = (evv Φ bf as ρ).bind fun p => some (.new (.list p.1), p.2) := by simp only [ev]
@[simp] theorem z_s0 : evs Φ bf .nil ρ = some ([], ρ) := by simp only [evs]
@[simp] theorem z_s1 {x : X} {r : Xs} : evs Φ bf (.cons x r) ρ = (ev Φ bf x ρ).bind fun p => (evs Φ bf r p.2).bind fun q => some (p.1 :: q.1, q.2) := by simp only [evs]
@[simp] theorem z_v0 : evv Φ bf .nil ρ = some ([], ρ) := by simp only [evv]
@[simp] theorem z_v1 {x : X} {r : Xs} : evv Φ bf (.cons x r) ρ = (valof (ev Φ bf x) ρ).bind fun p => (evv Φ bf r p.2).bind fun q => some (p.1 :: q.1, q.2) := by simp only [evv]
@[simp] theorem z_set {i : Nat} {e : X} : evS Φ bf M (.set i e) ρ = (ev Φ bf e ρ).bind fun p => (stored p.2 p.1).bind fun q => (asg i q.1 q.2).bind fun ρ => some (.nx ρ) := by simp only [evS]
@[simp] theorem z_put {t : Tg} {e : X} : evS Φ bf M (.put t e) ρ = (valof (ev Φ bf e) ρ).bind fun p => (t.bind p.1 p.2).bind fun ρ => some (.nx ρ) := by simp only [evS]
@[simp] theorem z_par {is : List Nat} {es : Xs} : evS Φ bf M (.par is es) ρ = (evst Φ bf es ρ).bind fun p => (asgAll is p.1 p.2).bind fun ρ => some (.nx ρ) := by simp only [evS]
@[simp] theorem z_setAt {i : Nat} {k e : X} : evS Φ bf M (.setAt i k e) ρ = (valof (ev Φ bf e) ρ).bind fun p => (conOf p.2 i).bind fun _ => (ev Φ bf k p.2).bind fun q => (q.1.get q.2).bind fun dk => (conOf q.2 i).bind fun c => (setD c dk p.1).bind fun c' => (conSet q.2 i c').bind fun ρ => some (.nx ρ) := by simp only [evS]
@[simp] theorem z_app {i : Nat} {e : X} : evS Φ bf M (.app i e) ρ = (lstAt ρ i).bind fun _ => (valof (ev Φ bf e) ρ).bind fun p => (conOf p.2 i).bind fun c => (appD c [p.1]).bind fun c' => (conSet p.2 i c').bind fun ρ => some (.nx ρ) := by simp only [evS]
@[simp] theorem z_expr {e : X} : evS Φ bf M (.expr e) ρ = (ev Φ bf e ρ).bind fun p => some (.nx p.2) := by simp only [evS]
@[simp] theorem z_if {c : X} {a b : Ss} : evS Φ bf M (.ite c a b) ρ = (truth (ev Φ bf c) ρ).bind fun p => if p.1 = true then evSs Φ bf M a p.2 else evSs Φ bf M b p.2 := by simp only [evS]
@[simp] theorem z_ret {e : X} : evS Φ bf M (.ret e) ρ = (valof (ev Φ bf e) ρ).bind fun p => some (.rt p.1 p.2) := by simp only [evS]
@[simp] theorem z_pass : evS Φ bf M .pass ρ = some (.nx ρ) := by simp only [evS]
@[simp] theorem z_brk : evS Φ bf M .brk ρ = some (.bk ρ) := by simp only [evS]
@[simp] theorem z_cnt : evS Φ bf M .cnt ρ = some (.ct ρ) := by simp only [evS]
@[simp] theorem z_stuck : evS Φ bf M .stuck ρ = none := by simp only [evS]
theorem z_lc {e : X} {t : Tg} {g} {as : Xs} {c : X} {own : List Nat} : ev Φ bf (.lc e t g as c own) ρ = (evs Φ bf as ρ).bind fun p => (getAll p.2 p.1).bind fun ds => (g ds).bind fun items =>
      (wipeE own (lockAll p.1 p.2)).bind fun ρ₁ => (lcLoop own t (truth (ev Φ bf c)) (valof (ev Φ bf e)) items [] ρ₁).bind fun q =>
      (unlockAll p.1 p.2 (backE (lockAll p.1 p.2) own q.2)).bind fun ρ₂ => some (.new (.list q.1), ρ₂) := by simp only [ev]
theorem z_whl {c : X} {b : Ss} : evS Φ bf M (.whl c b) ρ = whLoop (truth (ev Φ bf c)) (evSs Φ bf M b) M ρ := by simp only [evS]
theorem z_frr {t : Tg} {g} {as : Xs} {b : Ss} : evS Φ bf M (.frr t g as b) ρ = (evs Φ bf as ρ).bind fun p => (getAll p.2 p.1).bind fun ds => (g ds).bind fun items =>
      (frLoop t (evSs Φ bf M b) items (lockAll p.1 p.2)).bind fun o => o.mapM (unlockAll p.1 p.2) := by simp only [evS]
@[simp] theorem z_n : evSs Φ bf M .nil ρ = some (.nx ρ) := by simp only [evSs]
@[simp] theorem z_c {s : S} {r : Ss} : evSs Φ bf M (.cons s r) ρ = (evS Φ bf M s ρ).bind fun o => match o with
    | .nx ρ => evSs Φ bf M r ρ
    | o => some o := by simp only [evSs] <;> rfl
end
section
variable {ρ : Ev} {d d' : PyData} {i j : Int} {b : Bool} {x y : Str}
@[simp] theorem g_val : (Res.val d).get ρ = some d := rfl
@[simp] theorem g_new : (Res.new d).get ρ = some d := rfl
@[simp] theorem g_slot {k : Nat} : (Res.slot k).get ρ = (ρ[k]?).bind Slot.get := rfl
@[simp] theorem g_un : Slot.get .un = none := rfl
@[simp] theorem g_dat : Slot.get (.dat d) = some d := rfl
@[simp] theorem g_own : Slot.get (.own d) = some d := rfl
@[simp] theorem g_ref : Slot.get (.ref d) = some d := rfl
@[simp] theorem g_lok : Slot.get (.lok b d) = some d := rfl
@[simp] theorem m_ff : mkR false d = .val d := rfl
@[simp] theorem m_tt : mkR true d = .new d := rfl
@[simp] theorem e_val : esc ρ (.val d) = some (d, ρ) := rfl
@[simp] theorem e_new : esc ρ (.new d) = some (d, ρ) := rfl
theorem e_dat {k : Nat} (h : ρ[k]? = some (.dat d)) : esc ρ (.slot k) = some (d, ρ) := by simp only [esc, h]
theorem e_own {k : Nat} (h : ρ[k]? = some (.own d)) : esc ρ (.slot k) = some (d, ρ.set k (.dat d)) := by simp only [esc, h]
@[simp] theorem st_new : stored ρ (.new d) = some (.own d, ρ) := rfl
@[simp] theorem st_val : stored ρ (.val d) = some (.dat d, ρ) := rfl
@[simp] theorem st_slot {k : Nat} : stored ρ (.slot k) = (esc ρ (.slot k)).bind fun p => some (.dat p.1, p.2) := rfl
@[simp] theorem p_isTup1 {ds} : pIsTup (.tuple ds) = some (false, .bool true) := rfl
@[simp] theorem p_isInt1 : pIsInt (.int i) = some (false, .bool true) := rfl
@[simp] theorem p_isBool1 : pIsBool (.int i) = some (false, .bool false) := rfl
@[simp] theorem p_not : pNot (.bool b) = some (false, .bool (!b)) := rfl
@[simp] theorem p_I2 {f : Int → Int → Int} : pI2 f (.int i) (.int j) = some (false, .int (f i j)) := rfl
@[simp] theorem p_IB {f : Int → Int → Bool} : pIB f (.int i) (.int j) = some (false, .bool (f i j)) := rfl
@[simp] theorem p_I1 {f : Int → Int} : pI1 f (.int i) = some (false, .int (f i)) := rfl
theorem p_IC {C : Int → Int → Prop} [∀ i j, Decidable (C i j)] {f : Int → Int → Int} (h : C i j) : pIC C f (.int i) (.int j) = some (false, .int (f i j)) := by simp only [pIC, if_pos h]
@[simp] theorem p_lenT {ds} : pLen (.tuple ds) = some (false, .int ds.length) := rfl
@[simp] theorem p_lenL {ds} : pLen (.list ds) = some (false, .int ds.length) := rfl
@[simp] theorem p_idxT {ds} : pIdx (.tuple ds) (.int i) = (atI ds i).bind fun d => some (false, d) := rfl
@[simp] theorem p_idxL {ds} : pIdx (.list ds) (.int i) = (atI ds i).bind fun d => some (false, d) := rfl
@[simp] theorem p_int1 : pInt1 (.int i) = some (false, .int i) := rfl
theorem at_nat {α : Type} {xs : List α} {k : Nat} (h : k < xs.length) : atI xs (k : Int) = xs[k]? := by
  unfold atI ixN
  rw [if_pos (by omega), if_pos (by omega)]
  rfl
@[simp] theorem at_0 {α : Type} {a : α} {r : List α} : atI (a :: r) 0 = some a := at_nat (k := 0) (by simp)
@[simp] theorem at_1 {α : Type} {a c : α} {r : List α} : atI (a :: c :: r) 1 = some c := at_nat (k := 1) (by simp)
@[simp] theorem at_2 {α : Type} {a c e : α} {r : List α} : atI (a :: c :: e :: r) 2 = some e := at_nat (k := 2) (by simp)
@[simp] theorem at_3 {α : Type} {a c e f : α} {r : List α} : atI (a :: c :: e :: f :: r) 3 = some f := at_nat (k := 3) (by simp)
@[simp] theorem ou_none : outOf d ρ none = some (d, .none) := rfl
end
theorem callBody_rt {Φ : Fns} {bf : Nat → Option Nat} {M : Nat} {b : Ss} {np ns : Nat} {ds : List PyData} {d : PyData} {ρ : Ev} (hl : ds.length = np)
    (h : evSs Φ bf M b (slotsOf ds (conArg ds none) none ++ List.replicate (ns - np) .un) = some (.rt d ρ)) : callBody Φ bf M b np ns none ds = some (d, .none) := by
  unfold callBody
  rw [if_pos hl, h]
  rfl
end L2.Z
namespace L2.Z
open PySem PySem.Spec PyProof.Rows
section
variable {K : PySem.W.Frag}
def pTup : PyData → Option (Bool × PyData)
  | .list ds => some (false, .tuple ds)
  | .tuple ds => some (false, .tuple ds)
  | _ => none
def rTupOf (K : PySem.W.Frag) : List V → Hp → VK → Prop := fun xs H Q => ∃ p ys, xs = [.ref p] ∧ ((SqL K H p ys ∧ ∀ l, H l = none → Q (.ref l) (L2.upd H l (.tup ys))) ∨ (SqT K H p ys ∧ Q (.ref p) H))
theorem ok_tupOf : Ok1 K (r1 (rTupOf K)) pTup := by
  intro Rf G ρ F σ H v d n d' Q R q h k
  cases d <;> simp only [pTup] at h <;> cases h
  · obtain ⟨a, xs, rfl, e, z, r⟩ := q
    refine ⟨a, xs, rfl, .inl ⟨e, fun p hp => ?_⟩⟩
    obtain ⟨F2, R2, s2, q2⟩ := R.newTup hp z r
    exact k _ F2 _ R2 s2 q2
  · obtain ⟨a, xs, rfl, e, z, r⟩ := q
    exact ⟨a, xs, rfl, .inr ⟨SqT.of (R.fz _ _ e), k _ F _ R (Same.refl _) (rr_val (.tup e z r))⟩⟩
def pLst : PyData → Option (Bool × PyData)
  | .list ds => some (true, .list ds)
  | .tuple ds => some (true, .list ds)
  | _ => none
theorem cr_tupOf {X : Cx} : CallR X (.type "tuple") (rTupOf X.K) := call_tuple_of
def itemsOf : PyData → Option (List PyData)
  | .list ds => some ds
  | .tuple ds => some ds
  | _ => none
def okIn (d : PyData) (ds : List PyData) : Bool := d.plain && PyData.plainAll ds && decide (min (PyData.depthAll ds) d.depth ≤ 60)
def pIn (d c : PyData) : Option (Bool × PyData) := match c with
  | .dict kvs => (dGetP kvs d).bind fun o => some (false, .bool (o.isSome))
  | c => (itemsOf c).bind fun ds => if okIn d ds = true then some (false, .bool (ds.any fun y => PyData.eqv y d)) else none
def pNotIn (d c : PyData) : Option (Bool × PyData) := match c with
  | .dict kvs => (dGetP kvs d).bind fun o => some (false, .bool (!o.isSome))
  | c => (itemsOf c).bind fun ds => if okIn d ds = true then some (false, .bool (!ds.any fun y => PyData.eqv y d)) else none
def rInZ (K : PySem.W.Frag) (neg : Bool) : R2 := fun x y H Q => ∃ d ds, Dp K H x d ∧ (Dp K H y (.list ds) ∨ Dp K H y (.tuple ds)) ∧ okIn d ds = true ∧ Q (.bl (if neg then !ds.any (fun y => PyData.eqv y d) else ds.any fun y => PyData.eqv y d)) H
theorem okIn_iff {d : PyData} {ds : List PyData} : okIn d ds = true ↔ d.plain = true ∧ PyData.plainAll ds = true ∧ min (PyData.depthAll ds) d.depth ≤ 60 := by
  unfold okIn
  rw [Bool.and_eq_true, Bool.and_eq_true, decide_eq_true_eq, and_assoc]
theorem op_inZ {X : Cx} (hu : X.A.units + 64 < cLine) : OpR X (compareOp .In) (rInZ X.K false) := by
  intro pins s σ H x y v u Q I rx ry h
  obtain ⟨d, ds, hd, hc, ok, q⟩ := h
  obtain ⟨h1, h2, h3⟩ := okIn_iff.mp ok
  obtain ⟨as, r1⟩ := Dp.reads I d x v hd rx
  rcases hc with hc | hc
  · obtain ⟨bs, r2⟩ := Dp.reads I _ y u hc ry
    exact SeqAt.in_list_data r2 r1 h2 h1 (by omega) ⟨.bl _, H, I, rfl, q⟩
  · obtain ⟨bs, r2⟩ := Dp.reads I _ y u hc ry
    exact SeqAt.in_tuple_data r2 r1 h2 h1 (by omega) ⟨.bl _, H, I, rfl, q⟩
theorem op_notInZ {X : Cx} (hu : X.A.units + 64 < cLine) : OpR X (compareOp .NotIn) (rInZ X.K true) := by
  intro pins s σ H x y v u Q I rx ry h
  obtain ⟨d, ds, hd, hc, ok, q⟩ := h
  obtain ⟨h1, h2, h3⟩ := okIn_iff.mp ok
  obtain ⟨as, r1⟩ := Dp.reads I d x v hd rx
  rcases hc with hc | hc
  · obtain ⟨bs, r2⟩ := Dp.reads I _ y u hc ry
    exact SeqAt.notIn_list_data r2 r1 h2 h1 (by omega) ⟨.bl _, H, I, rfl, q⟩
  · obtain ⟨bs, r2⟩ := Dp.reads I _ y u hc ry
    exact SeqAt.notIn_tuple_data r2 r1 h2 h1 (by omega) ⟨.bl _, H, I, rfl, q⟩
theorem inDp {F H : Hp} (s : Same F H) {w : V} {c : PyData} {ds : List PyData} (q : Rq K F H w c) (e : itemsOf c = some ds) (hp : PyData.plainAll ds = true) : Dp K H w (.list ds) ∨ Dp K H w (.tuple ds) := by
  cases c <;> simp only [itemsOf] at e <;> cases e
  · exact .inl ((q.rp s).dp (by simpa [PyData.plain] using hp))
  · exact .inr ((q.rp s).dp (by simpa [PyData.plain] using hp))
theorem ok_in : Ok2 K (fun x y H Q => rInZ K false x y H Q ∨ rInDZ false x y H Q) pIn := by
  intro Rf G ρ F σ H v w d e n d' Q R q1 q2 h k
  cases e with
  | dict kvs =>
    simp only [pIn, Option.bind_eq_some_iff] at h
    obtain ⟨o, h1, h2⟩ := h
    cases h2
    obtain ⟨a, rfl, m⟩ := q2
    obtain ⟨o', g, r⟩ := dget_ok R.fz m (rq_keyV q1 (dGetP_kinds h1)) h1
    have e : o'.isSome = o.isSome := by
      cases o' <;> cases o <;> first | rfl | exact r.elim
    refine .inr ⟨a, o', rfl, g, ?_⟩
    simp only [e]
    exact k _ F H R (Same.refl _) (rr_val (.bl _))
  | _ =>
    simp only [pIn, Option.bind_eq_some_iff] at h
    obtain ⟨ds, hi, h⟩ := h
    split at h
    · rename_i hc
      obtain ⟨h1, h2, h3⟩ := okIn_iff.mp hc
      cases h
      exact .inl ⟨d, ds, (q1.rp R.fz).dp h1, inDp R.fz q2 hi h2, hc, k _ F H R (Same.refl _) (rr_val (.bl _))⟩
    · cases h
theorem ok_notIn : Ok2 K (fun x y H Q => rInZ K true x y H Q ∨ rInDZ true x y H Q) pNotIn := by
  intro Rf G ρ F σ H v w d e n d' Q R q1 q2 h k
  cases e with
  | dict kvs =>
    simp only [pNotIn, Option.bind_eq_some_iff] at h
    obtain ⟨o, h1, h2⟩ := h
    cases h2
    obtain ⟨a, rfl, m⟩ := q2
    obtain ⟨o', g, r⟩ := dget_ok R.fz m (rq_keyV q1 (dGetP_kinds h1)) h1
    have e : o'.isSome = o.isSome := by
      cases o' <;> cases o <;> first | rfl | exact r.elim
    refine .inr ⟨a, o', rfl, g, ?_⟩
    simp only [e]
    exact k _ F H R (Same.refl _) (rr_val (.bl _))
  | _ =>
    simp only [pNotIn, Option.bind_eq_some_iff] at h
    obtain ⟨ds, hi, h⟩ := h
    split at h
    · rename_i hc
      obtain ⟨h1, h2, h3⟩ := okIn_iff.mp hc
      cases h
      exact .inl ⟨d, ds, (q1.rp R.fz).dp h1, inDp R.fz q2 hi h2, hc, k _ F H R (Same.refl _) (rr_val (.bl _))⟩
    · cases h
theorem op_inZD {X : Cx} (hu : X.A.units + 64 < cLine) : OpR X (compareOp .In) (fun x y H Q => rInZ X.K false x y H Q ∨ rInDZ false x y H Q) := (op_inZ hu).or (op_inDZ hu)
theorem op_notInZD {X : Cx} (hu : X.A.units + 64 < cLine) : OpR X (compareOp .NotIn) (fun x y H Q => rInZ X.K true x y H Q ∨ rInDZ true x y H Q) := (op_notInZ hu).or (op_notInDZ hu)
end
end L2.Z
namespace L2.Z
open PySem PySem.Spec PyProof.Rows
section
variable {K : PySem.W.Frag}
def isTupN : PyData → Bool
  | .tuple (_ :: _) => true
  | _ => false
def isNoT : PyData → Bool
  | .none => false
  | .tuple _ => false
  | _ => true
def okSort (ds : List PyData) : Bool := ds.all (fun d => ds.all fun e => PySem.W.alike d e) && (ds.all isTupN || ds.all isNoT) && ds.all (fun d => decide (d.depth ≤ 60) && d.plain)
def leD : PyData → PyData → Bool := PySem.W.dataLe false id
def pSorted : PyData → Option (Bool × PyData)
  | .list ds => if okSort ds = true then some (true, .list (ds.mergeSort leD)) else none
  | _ => none
theorem DpAll.length {H : Hp} : ∀ {xs : List V} {ds : List PyData}, DpAll K H xs ds → xs.length = ds.length
  | _, _, .nil => rfl
  | _, _, .cons _ b => by simp [DpAll.length b]
end
end L2.Z
namespace L2.Z
open PySem PySem.Spec PyProof.Rows
section
variable {X : Cx} {Φ : Fns} {bf : Nat → Option Nat} {a b : Expr} {x y : Z.X} {p pos tpos : Pos} {elts : List Expr} {kk : Nat}
end
end L2.Z
namespace PySem
open Sem (wp)
theorem meets_enum_newZ {v : Value} {o : Obj} {H : Heap → Prop} (B : Begins v o H) :
    Meets (Builtin.«enumerate.__new__» ⟨[.type "enumerate", v], []⟩) (fun _ R s => H s.heap ∧
      R (.ok (.ret (.ref (s.heap.push o).objs.size))) { s with heap := (s.heap.push o).push { cls := .type "enumerate", data := .fields #[.none, .bool false, .ref s.heap.objs.size, rawInt 0, .none, .none] } }) :=
  .of_wp fun prog w A R s h => by
    obtain ⟨hp, g, d, tk, os⟩ := s; obtain ⟨h1, h⟩ := h
    have hsub := sub_enumerate
    have q1 : ∀ {A' : Around} {E : Value → Shared → Prop} {Q : Value → Shared → Prop}, Q (.ref hp.objs.size) ⟨hp.push o, g, d, tk, os⟩ → wpAny (model prog w) A' (pyIter v) Q E ⟨hp, g, d, tk, os⟩ :=
      fun q => B.iter prog w _ _ ⟨hp, g, d, tk, os⟩ _ h1 q
    wp_walk using q1
    refine wpAny_stack_any fun st => wpAny_pure ?_
    split
    · rename_i c _ _ _ _ _
      cases (c == Value.type "enumerate")
      · wp_walk using q1
        exact ⟨_, rfl, h⟩
      · wp_walk using q1
        exact ⟨_, rfl, h⟩
    · wp_walk using q1
      exact ⟨_, rfl, h⟩
section
variable {prog : Program} {w : World} {A : Around} {E : Value → Shared → Prop} {s : Shared}
theorem enum_beginsZ {v : Value} {o : Obj} {H : Heap → Prop} {Q : Value → Shared → Prop} (B : Begins v o H) (h1 : H s.heap)
    (h : ∀ h', IsEnum h' (s.heap.objs.size + 1) s.heap.objs.size 0 .none → h'.get? s.heap.objs.size = some o → h'.objs.size = s.heap.objs.size + 2 →
      (∀ b o, s.heap.get? b = some o → h'.get? b = some o) → Q (.ref (s.heap.objs.size + 1)) { s with heap := h' }) :
    wpAny (model prog w) A (call (.type "enumerate") [v]) Q E s := by
  refine callType_new F.called_enumerate (by decide) (F.typeCall_enumerate_1 _) (F.newCall_enumerate_1 _) (fun obj => F.args_object_init_2 obj _) F.entry_enumerate_new
    (meets_enum_newZ B) ⟨h1, ?_⟩
  have hz : (s.heap.push o).objs.size = s.heap.objs.size + 1 := Heap.size_push ..
  show _ ∧ _
  rw [hz]
  have he : IsEnum ((s.heap.push o).push { cls := .type "enumerate", data := .fields #[.none, .bool false, .ref s.heap.objs.size, rawInt 0, .none, .none] }) (s.heap.objs.size + 1) s.heap.objs.size 0 .none := by
    have := Heap.get?_push_size (s.heap.push o) (o := { cls := .type "enumerate", data := .fields #[.none, .bool false, .ref s.heap.objs.size, rawInt 0, .none, .none] }) rfl
    rw [hz] at this; exact this
  refine ⟨⟨_, he, rfl⟩, h _ he (Heap.get?_push_of_some _ (Heap.get?_push_size _ B.free)) (by rw [Heap.size_push, hz]) fun b o x => Heap.get?_push_of_some _ (Heap.get?_push_of_some _ x)⟩
theorem enum_endT {e it l : Addr} {items : Array Value} {k : Nat} {i : Int} {old : Value} {Q : Option Value → Shared → Prop} (hh : A.in1.handled = none)
    (he : IsEnum s.heap e it i old) (hit : s.heap.IsTupleIter it l k) (hl : s.heap.IsTuple l items) (hx : items[k]? = none)
    (hQ : ∀ h', Heap.ExtBut it s.heap h' → Q none { s with heap := h' }) : wpAny (model prog w) A (pyNext (.ref e)) Q E s := by
  have hT : s.TypeIs (.ref e) "enumerate" := ⟨_, he, rfl⟩
  unfold pyNext
  refine wpAny_bind (wpAny_attempt (wpAny_callSpecial?_slot (name := Str.ofString "__next__") hT F.slot_enumerate_next
    (wpAny_call_entry F.slot_enumerate_next hT F.entry_enumerate_next ?_ (F.args_enumerate_next_1 _))))
  show wpAny _ _ (field (.ref e) 2 >>= _) _ _ _
  refine wpAny_bind (wpAny_field he rfl (x := .ref it) rfl ?_)
  refine wpAny_bind (wpAny_nextOf_tuple_end hh hit hl hx fun h' x he' hx' => ?_)
  obtain ⟨o, ho, hc⟩ := hx'
  refine wpAny_bind (wpAny_isInstance (T := "StopIteration") (b := true) ⟨o, ho, hc⟩ isSubtype_stop ?_)
  exact wpAny_pure (hQ _ he')
end
end PySem
namespace L2.Z
open PySem PySem.Spec PyProof.Rows
def IteT (K : PySem.W.Frag) (a : Addr) : It :=
  ⟨fun i H => ∃ (xs : List V) (x : V), SqT K H a xs ∧ xs[i]? = some x, fun i H v H' => ∃ T x, v = .ref T ∧ H T = none ∧ H' = L2.upd H T (.tup [.int (i : Nat), x]) ∧ ∀ xs, SqT K H a xs → xs[i]? = some x, fun i H => ∃ xs : List V, SqT K H a xs ∧ xs.length ≤ i⟩
theorem turn_enumT {P : Program} {w : World} {K : PySem.W.Frag} {elts : List Expr} {kk : Nat} {tpos : Pos} (a e it : Addr) (hai : a ≠ it) (hea : e ≠ a) :
    Turn P w K (.Tuple elts kk tpos) (IteT K a) [e, it] e (fun i h => (∃ old, IsEnum h e it ((i : Nat) : Int) old) ∧ h.IsTupleIter it a i ∧ e ≠ it) where
  mem := by simp
  obj := fun i h st b hb => by
    obtain ⟨⟨old, he⟩, ⟨o, ho, hc, hd⟩, _⟩ := st
    have e' : b = e ∨ b = it := by simpa using hb
    rcases e' with z | z
    · rw [z]; exact ⟨_, he, fun v q => nomatch q⟩
    · rw [z]; exact ⟨o, ho, fun v q => by rw [hd] at q; cases q⟩
  keep := fun i h h' st k => let ⟨⟨old, he⟩, hi, hne⟩ := st; ⟨⟨old, k e (by simp) _ he⟩, hi.at fun o q => k it (by simp) o q, hne⟩
  item := by
    intro X hP hw hK hc i pins s σ H E I hf st hg
    subst hP hw hK
    obtain ⟨⟨old, he⟩, hit, hne⟩ := st
    obtain ⟨xs, x, hq, hx⟩ := hg
    obtain ⟨its, rv, p, hz⟩ := I.tuple hq
    have hT : s.heap.IsTuple a its.toArray := p
    obtain ⟨u, hu, ru⟩ := rv.get hx
    have hel : e < s.heap.objs.size := Heap.lt_size he
    have hil : it < s.heap.objs.size := by obtain ⟨_, q, _⟩ := hit; exact Heap.lt_size q
    have hi : i < its.toArray.size := by
      have := (List.getElem?_eq_some_iff.mp hu).1
      simpa using this
    refine wpAny_pyNext_enum_itemC (Draws.tuple (A := X.A.in1) (show X.A.in1.handled = none from I.ok.hd hc) it a hai its.toArray) he ⟨hit, hT⟩ hi hne (by simp; exact ⟨hne, hea⟩) fun y h' tk hy ho ⟨hit', _⟩ hT hsz hk => ?_
    have ey : y = u := by
      have : its[i]? = some y := by simpa using hy
      rw [hu] at this; cases this; rfl
    subst ey
    refine ⟨_, rfl, wpAny_letOwnedTupleGo_enum (s := { s with heap := h', toks := tk + 1 }) ho fun h'' he' sb => ?_⟩
    have hT2 : h''.get? s.heap.objs.size = some { cls := .type "tuple", data := .seq #[.int i tk, y] } := (sb.2 _ (Nat.ne_of_gt hel)).trans hT
    have new : ObjOk X.prog X.w (L2.upd H s.heap.objs.size (.tup [.int (i : Nat), x])) h'' s.heap.objs.size (.tup [.int (i : Nat), x]) :=
      ⟨by show 2 ≤ sizeLine; decide, [.int i tk, y], .cons ⟨_, rfl⟩ (.cons ru .nil), ⟨_, hT2, rfl, _, rfl⟩⟩
    have I1 : Inv X pins σ (L2.upd H s.heap.objs.size (.tup [.int (i : Nat), x])) { s with heap := h'', toks := tk + 1 } :=
      I.turnedNew (ch := [e, it]) (fun b ob hb q => (sb.2 b (fun z => hb (by simp [z]))).trans (hk b ob (fun z => hb (by simp [z])) (fun z => hb (by simp [z])) q)) hf (Nat.le_refl _) new
    refine ⟨.ref s.heap.objs.size, _, I1, rfl, ⟨_, x, rfl, I.hok.fresh (Nat.le_refl _), rfl, fun ys hy => by rw [I.tuple_inj hy hq]; exact hx⟩, ⟨⟨y, ?_⟩, hit'.at fun o q => (sb.2 it (Ne.symm hne)).trans q, hne⟩, fun b hb => ?_⟩
    · have e1 : ((i + 1 : Nat) : Int) = (i : Int) + 1 := by omega
      rw [e1]; exact he'
    · have hb' : b < s.heap.objs.size := by
        have e' : b = e ∨ b = it := by simpa using hb
        rcases e' with z | z
        · rw [z]; exact hel
        · rw [z]; exact hil
      rw [upd_ne (Nat.ne_of_lt hb')]
      exact (hf b hb).1
  done := by
    intro X hP hw hK hc i pins s σ H E I hf st hg
    subst hP hw hK
    obtain ⟨⟨old, he⟩, hit, hne⟩ := st
    obtain ⟨xs, hq, hx⟩ := hg
    obtain ⟨its, rv, p, hz⟩ := I.tuple hq
    obtain ⟨f0, f1, f2, f3, f4, f5⟩ := hf it (by simp)
    have hl := rv.length
    have hT : s.heap.IsTuple a its.toArray := p
    have hx2 : its.toArray[i]? = none := by
      have : its.length ≤ i := by omega
      simpa using this
    exact enum_endT (show X.A.in1.handled = none from I.ok.hd hc) he hit hT hx2 fun h' eb => ⟨rfl, I.turned (t' := s.toks) (fun b o hb q => eb b o hb q) f0 f1 f3 f4 f5⟩
  self := fun A i s Q E st h => let ⟨⟨_, he⟩, _⟩ := st; wpAny_pyIter_enum he h
def iEnumZ (K : PySem.W.Frag) (ta : TA) : TI := fun σ H R => ta σ H fun vs H1 => ∃ a xs, vs = [.ref a] ∧ ((SqL K H1 a xs ∧ R (Ite K a) H1) ∨ (SqT K H1 a xs ∧ R (IteT K a) H1))
theorem pi_enumZ {X : Cx} {e : Expr} {ta : TA} {p pos tpos : Pos} {elts : List Expr} {kk : Nat} (hg : Gl X "enumerate") (hm : X.mg "enumerate" = none) (ha : PA X [e] ta) (hs : starEach [e] X.env = [(false, eval e X.env)] := by rfl) :
    PI X (.Tuple elts kk tpos) (.Call (.Name "enumerate" p) [e] [] pos) (iEnumZ X.K ta) := by
  refine ⟨fun pins s σ H R I h => ?_⟩
  refine Call_ (ld_blt I hg hm boot_enumerate (PyProof.Rows.callWith_type1 (thn (ha.run pos pins s σ H _ I h) fun us s1 ⟨vs, H1, I1, r1, q1⟩ => ?_) hs rfl))
  obtain ⟨a, xs, ex, q⟩ := q1
  subst ex
  cases r1 with
  | cons r rr =>
    cases rr
    cases r
    have fp : ∀ b ∈ [s1.heap.objs.size + 1, s1.heap.objs.size], FpOk X pins H1 b := fun b hb => by
      have e' : b = s1.heap.objs.size + 1 ∨ b = s1.heap.objs.size := by simpa using hb
      have hle : s1.heap.objs.size ≤ b := by
        rcases e' with z | z
        · rw [z]; exact Nat.le_add_right _ _
        · rw [z]; exact Nat.le_refl _
      exact I1.fpOk hle (I1.hok.fresh hle)
    rcases q with ⟨hq, q⟩ | ⟨hq, q⟩
    · obtain ⟨its, rv, p', hz⟩ := I1.list hq
      refine call_enumerate_list p'.isList fun h' he hit hsz hk => wpAny_pyIter_enum he ?_
      have I2 : Inv X pins σ H1 { s1 with heap := h' } := I1.kept (t' := s1.toks) hk
      exact ⟨s1.heap.objs.size + 1, [s1.heap.objs.size + 1, s1.heap.objs.size], _, _, H1, rfl, I2, turn_enum a (s1.heap.objs.size + 1) s1.heap.objs.size, ⟨⟨.none, he⟩, hit, Nat.succ_ne_self _⟩, fp, q⟩
    · obtain ⟨its, rv, p', hz⟩ := I1.tuple hq
      have hT : s1.heap.IsTuple a its.toArray := p'
      have hal : a < s1.heap.objs.size := by obtain ⟨o, ho, _⟩ := p'; exact Heap.lt_size ho
      refine enum_beginsZ (begins_tuple a its.toArray) hT fun h' he hit hsz hk => wpAny_pyIter_enum he ?_
      have I2 : Inv X pins σ H1 { s1 with heap := h' } := I1.kept (t' := s1.toks) hk
      exact ⟨s1.heap.objs.size + 1, [s1.heap.objs.size + 1, s1.heap.objs.size], _, _, H1, rfl, I2, turn_enumT a (s1.heap.objs.size + 1) s1.heap.objs.size (Nat.ne_of_lt hal) (Nat.ne_of_gt (Nat.lt_succ_of_lt hal)), ⟨⟨.none, he⟩, ⟨_, hit, rfl, rfl⟩, Nat.succ_ne_self _⟩, fp, q⟩
def enumD : Nat → List PyData → List PyData
  | _, [] => []
  | i, x :: xs => .tuple [.int (i : Nat), x] :: enumD (i + 1) xs
theorem enumD_len : ∀ (i : Nat) (xs : List PyData), (enumD i xs).length = xs.length
  | _, [] => rfl
  | i, _ :: xs => by simp [enumD, enumD_len (i + 1) xs]
theorem enumD_get : ∀ (k : Nat) (xs : List PyData) (i : Nat) (d : PyData), (enumD k xs)[i]? = some d → ∃ x, xs[i]? = some x ∧ d = .tuple [.int ((k + i : Nat) : Int), x]
  | _, [], _, _, h => by simp [enumD] at h
  | k, x :: xs, 0, d, h => by simp [enumD] at h; exact ⟨x, rfl, by rw [← h]; rfl⟩
  | k, x :: xs, i + 1, d, h => by
    obtain ⟨y, h1, h2⟩ := enumD_get (k + 1) xs i d (by simpa [enumD] using h)
    exact ⟨y, by simpa using h1, by rw [h2, show k + 1 + i = k + (i + 1) by omega]⟩
def gEnum : List PyData → Option (List PyData)
  | [.list xs] => some (enumD 0 xs)
  | [.tuple xs] => some (enumD 0 xs)
  | _ => none
theorem jok_enumL {K : PySem.W.Frag} {a : Addr} {xs : List PyData} : JOk K [.ref a] [.list xs] (enumD 0 xs) (Ite K a) := by
  intro Rf G ρ F σ H R rq
  cases rq with
  | cons q _ =>
    obtain ⟨a', us, e, h, zu, r⟩ := q
    cases e
    refine ⟨fun i hi => ⟨us, h, by rw [r.length]; rw [enumD_len] at hi; exact hi⟩, fun i d hd => ?_⟩
    obtain ⟨x, hx, rfl⟩ := enumD_get _ _ _ _ hd
    obtain ⟨v, hv, rv⟩ := r.get hx
    refine ⟨⟨us, v, h, hv⟩, fun z H' hz => ?_⟩
    obtain ⟨T, x', rfl, hT, rfl, e1⟩ := hz
    have e3 := e1 us h; rw [hv] at e3; cases e3
    rw [Nat.zero_add]
    obtain ⟨F2, R2, s2, q2⟩ := R.newTup hT (by show 2 ≤ sizeLine; decide) (.cons (.int _) (.cons rv .nil))
    exact ⟨F2, R2, s2, q2⟩
theorem jok_enumT {K : PySem.W.Frag} {a : Addr} {xs : List PyData} : JOk K [.ref a] [.tuple xs] (enumD 0 xs) (IteT K a) := by
  intro Rf G ρ F σ H R rq
  cases rq with
  | cons q _ =>
    obtain ⟨a', us, e, h, zu, r⟩ := q
    cases e
    refine ⟨fun i hi => ⟨us, SqT.of (R.fz _ _ h), by rw [r.length]; rw [enumD_len] at hi; exact hi⟩, fun i d hd => ?_⟩
    obtain ⟨x, hx, rfl⟩ := enumD_get _ _ _ _ hd
    obtain ⟨v, hv, rv⟩ := r.get hx
    refine ⟨⟨us, v, SqT.of (R.fz _ _ h), hv⟩, fun z H' hz => ?_⟩
    obtain ⟨T, x', rfl, hT, rfl, e1⟩ := hz
    have e3 := e1 us (SqT.of (R.fz _ _ h)); rw [hv] at e3; cases e3
    rw [Nat.zero_add]
    obtain ⟨F2, R2, s2, q2⟩ := R.newTup hT (by show 2 ≤ sizeLine; decide) (.cons (.int _) (.cons rv .nil))
    exact ⟨F2, R2, s2, q2⟩
section
variable {X : Cx} {Φ : Fns} {bf : Nat → Option Nat} {a : Expr} {x : Z.X} {p pos tpos : Pos} {elts : List Expr} {kk : Nat}
theorem ci_enum (hg : Gl X "enumerate") (hm : X.mg "enumerate" = none) (ha : CE X Φ bf a x) (hs : starEach [a] X.env = [(false, eval a X.env)] := by rfl) (he : starEach [a] X.env = (false, eval a X.env) :: starEach [] X.env := by rfl) :
    CI X Φ bf (.Tuple elts kk tpos) (.Call (.Name "enumerate" p) [a] [] pos) gEnum (.cons x .nil) := by
  refine PI.imp (pi_enumZ hg hm (pa_cons ha pa_nil he) hs) fun σ H R' h => ?_
  obtain ⟨Rf, G, ρ, F, rs, ρ', ds, items, R, e1, e2, e3, k⟩ := h
  obtain ⟨r, e4, rfl⟩ := evs1 e1
  obtain ⟨d, e5, rfl⟩ := getAll1 e2
  refine tX_opd R e4 fun v F1 H1 R1 s1 o => ?_
  have q := R1.rq o e5
  cases d <;> simp only [gEnum] at e3 <;> try cases e3
  · obtain ⟨a', us, rfl, h, z, r⟩ := q
    exact ⟨a', us, rfl, .inl ⟨h, k [.ref a'] F1 H1 _ R1 s1 (.cons o .nil) jok_enumL (by rw [enumD_len, ← r.length]; exact z)⟩⟩
  · obtain ⟨a', us, rfl, h, z, r⟩ := q
    exact ⟨a', us, rfl, .inr ⟨SqT.of (R1.fz _ _ h), k [.ref a'] F1 H1 _ R1 s1 (.cons o .nil) jok_enumT (by rw [enumD_len, ← r.length]; exact z)⟩⟩
end
end L2.Z
namespace L2.Z
open PySem PySem.Spec PyProof.Rows
def cutD {α : Type} (xs : List α) (lo hi : Option Int) : List α := (xs.drop (HT.sIx xs.length 0 lo)).take (HT.sIx xs.length xs.length hi - HT.sIx xs.length 0 lo)
def slD (d : PyData) (lo hi : Option Int) : Option (Bool × PyData) := match d with
  | .list ds => some (true, .list (cutD ds lo hi))
  | .tuple ds => some (false, .tuple (cutD ds lo hi))
  | _ => none
def pSlF : PyData → PyData → Option (Bool × PyData)
  | d, .int i => slD d (some i) none
  | _, _ => none
def pSlT : PyData → PyData → Option (Bool × PyData)
  | d, .int i => slD d none (some i)
  | _, _ => none
section
variable {K : PySem.W.Frag}
def rSlZ (K : PySem.W.Frag) : V → Option Int → Option Int → Hp → VK → Prop := fun x lo hi H Q => rSlL K x lo hi H Q ∨ rSlA K x lo hi H Q
theorem sl_Z {X : Cx} : SlR X (rSlZ X.K) := SlR.or sl_list sl_tupA
theorem rpa_cut {F : Hp} {xs : List V} {ds : List PyData} (r : RpA K F xs ds) (lo hi : Option Int) : RpA K F (cutV xs lo hi) (cutD ds lo hi) := by
  unfold cutV cutD
  rw [r.length]
  exact (r.drop _).take _
theorem ok_sl {lo hi : Option Int} : Ok1 K (fun x H Q => rSlZ K x lo hi H Q) fun d => slD d lo hi := by
  intro Rf G ρ F σ H v d n d' Q R q h k
  cases d <;> simp only [slD] at h <;> cases h
  · obtain ⟨a, xs, rfl, e, z, r⟩ := q
    refine .inl ⟨a, xs, rfl, e, fun p hp => ?_⟩
    exact k _ F _ (R.laid hp) (Same.refl _) ⟨p, rfl, R.loose_new hp, ⟨_, upd_same, Nat.le_trans (cutV_length xs lo hi) z, rpa_cut r lo hi⟩⟩
  · obtain ⟨a, xs, rfl, e, z, r⟩ := q
    rename_i ds
    refine .inr ⟨a, xs, rfl, SqT.of (R.fz _ _ e), fun hw => ?_, fun _ p hp => ?_⟩
    · have : cutD ds lo hi = ds := by
        unfold cutD
        rw [← r.length, hw.1, hw.2, List.drop_zero, Nat.sub_zero, r.length, List.take_length]
      rw [this] at k
      exact k _ F _ R (Same.refl _) (rr_val (.tup e z r))
    · obtain ⟨F2, R2, s2, q2⟩ := R.newTup hp (Nat.le_trans (cutV_length xs lo hi) z) (rpa_cut r lo hi)
      exact k _ F2 _ R2 s2 q2
theorem ok_slF : Ok2 K (fun x y H Q => ∃ i, y = .int i ∧ rSlZ K x (some i) none H Q) pSlF := by
  intro Rf G ρ F σ H v w d e n d' Q R q1 q2 h k
  cases e <;> simp only [pSlF] at h <;> try cases h
  cases q2
  exact ⟨_, rfl, ok_sl _ _ _ _ _ _ _ _ _ _ _ R q1 h k⟩
theorem ok_slT : Ok2 K (fun x y H Q => ∃ i, y = .int i ∧ rSlZ K x none (some i) H Q) pSlT := by
  intro Rf G ρ F σ H v w d e n d' Q R q1 q2 h k
  cases e <;> simp only [pSlT] at h <;> try cases h
  cases q2
  exact ⟨_, rfl, ok_sl _ _ _ _ _ _ _ _ _ _ _ R q1 h k⟩
end
section
variable {X : Cx} {Φ : Fns} {bf : Nat → Option Nat} {a b c : Expr} {x y z : Z.X} {pos p2 : Pos}
theorem ce_slF (ha : CE X Φ bf a x) (hb : CE X Φ bf b y) : CE X Φ bf (.Subscript a (.Slice (some b) none none p2) pos) (.op2 pSlF x y) :=
  ce2 ok_slF (fun ta tb h h' => pe_slice sl_Z h (po_some h') po_none) ha hb
theorem ce_slT (ha : CE X Φ bf a x) (hb : CE X Φ bf b y) : CE X Φ bf (.Subscript a (.Slice none (some b) none p2) pos) (.op2 pSlT x y) :=
  ce2 ok_slT (fun ta tb h h' => pe_slice sl_Z h po_none (po_some h')) ha hb
end
def pAdd : PyData → PyData → Option (Bool × PyData)
  | .int i, .int j => some (false, .int (i + j))
  | .tuple xs, .tuple ys => if xs.length + ys.length ≤ sizeLine then some (false, .tuple (xs ++ ys)) else none
  | .list xs, .list ys => if xs.length + ys.length ≤ sizeLine then some (true, .list (xs ++ ys)) else none
  | _, _ => none
def rCatL (K : PySem.W.Frag) : R2 := fun x y H Q => ∃ a b xs ys, x = .ref a ∧ y = .ref b ∧ SqL K H a xs ∧ SqL K H b ys ∧ xs.length + ys.length ≤ sizeLine ∧ ∀ p, H p = none → Q (.ref p) (upd H p (.lst (xs ++ ys)))
def rAddZ (K : PySem.W.Frag) : R2 := fun x y H Q => (rI0 (fun i j => .int (i + j)) x y H Q ∨ rCatA K x y H Q) ∨ rCatL K x y H Q
theorem op_catL {X : Cx} : OpR X (binaryOp .Add) (rCatL X.K) := by
  intro pins s σ H x y v u Q I rx ry h
  obtain ⟨l, b, xs, zs, rfl, rfl, hH, hB, hz, q⟩ := h
  cases rx
  cases ry
  obtain ⟨its, r, p, _⟩ := I.list hH
  obtain ⟨its2, r2, p2, _⟩ := I.list hB
  obtain ⟨⟨cls, dd, data, sl⟩, ho, hc, n, hd⟩ := id p.isList
  obtain ⟨⟨cls2, dd2, data2, sl2⟩, ho2, hc2, n2, hd2⟩ := id p2.isList
  simp only at hc hd hc2 hd2
  subst hc hd hc2 hd2
  have ea : its.toArray ++ its2.toArray = (its ++ its2).toArray := by simp
  have hsz : its.toArray.size + its2.toArray.size ≤ sizeLine := by rw [List.size_toArray, List.size_toArray, ← r.length, ← r2.length]; exact hz
  refine concat_meets ⟨_, ho, rfl⟩ ⟨_, ho2, rfl⟩ noFill_list_add seq_list_add PySem.F.slot_list_add PySem.F.entry_list_add (PySem.F.args_list_add_2 _ _) (list_addW l b its.toArray its2.toArray n n2 dd dd2 sl sl2 hsz) ⟨ho, ho2, ?_⟩
  rw [ea]
  refine ⟨.ref s.heap.objs.size, upd H s.heap.objs.size (.lst (xs ++ zs)), I.laid (t' := s.toks) (fun b ob q => Heap.get?_push_of_some _ q) (Nat.le_refl _) ⟨by rw [List.length_append]; exact hz, its ++ its2, 0, r.append r2, ?_⟩, rfl, q _ (I.hok.fresh (Nat.le_refl _))⟩
  exact Heap.get?_push_size _ rfl
theorem op_addZ {X : Cx} : OpR X (binaryOp .Add) (rAddZ X.K) := OpR.or (OpR.or op_add op_catA) op_catL
section
variable {K : PySem.W.Frag}
theorem rpa_nil {F : Hp} {ds : List PyData} (r : RpA K F [] ds) : ds = [] := by cases r; rfl
theorem ok_add : Ok2 K (rAddZ K) pAdd := by
  intro Rf G ρ F σ H v w d e n d' Q R q1 q2 h k
  cases d <;> cases e <;> simp only [pAdd] at h <;> try cases h
  · rename_i i j
    cases q1; cases q2
    exact .inl (.inl ⟨i, j, rfl, rfl, k _ F H R (Same.refl _) (rr_val (.int _))⟩)
  · rename_i ds es
    split at h
    · rename_i hz
      cases h
      obtain ⟨a, xs, rfl, e1, z1, r1⟩ := q1
      obtain ⟨b, ys, rfl, e2, z2, r2⟩ := q2
      refine .inr ⟨a, b, xs, ys, rfl, rfl, e1, e2, by rw [r1.length, r2.length]; exact hz, fun p hp => ?_⟩
      exact k _ F _ (R.laid hp) (Same.refl _) ⟨p, rfl, R.loose_new hp, ⟨_, upd_same, by rw [List.length_append, r1.length, r2.length]; exact hz, r1.append r2⟩⟩
    · cases h
  · rename_i ds es
    split at h
    · rename_i hz
      cases h
      obtain ⟨a, xs, rfl, e1, z1, r1⟩ := q1
      obtain ⟨b, ys, rfl, e2, z2, r2⟩ := q2
      refine .inl (.inr ⟨a, b, xs, ys, rfl, rfl, SqT.of (R.fz _ _ e1), SqT.of (R.fz _ _ e2), by rw [r1.length, r2.length]; exact hz, fun hx => ?_, fun _ hy => ?_, fun _ _ p hp => ?_⟩)
      · subst hx
        have := rpa_nil r1
        subst this
        exact k _ F _ R (Same.refl _) (rr_val (.tup e2 z2 r2))
      · subst hy
        have := rpa_nil r2
        subst this
        rw [List.append_nil] at k
        exact k _ F _ R (Same.refl _) (rr_val (.tup e1 z1 r1))
      · obtain ⟨F2, R2, s2, q2⟩ := R.newTup hp (by rw [List.length_append, r1.length, r2.length]; exact hz) (r1.append r2)
        exact k _ F2 _ R2 s2 q2
    · cases h
end
end L2.Z
namespace L2.Z
open PySem PySem.Spec PyProof.Rows
def notNone : PyData → Bool
  | .none => false
  | _ => true
def okMM (ds : List PyData) : Bool := ds.all (fun d => ds.all fun e => PySem.W.alike d e) && ds.all notNone && PyData.plainAll ds && decide (PyData.depthAll ds ≤ 60)
def pMaxS (c : PyData) : Option (Bool × PyData) := match itemsOf c with
  | some (d :: ds) => if okMM (d :: ds) = true then some (false, PySem.W.maxD d ds) else none
  | _ => none
def pMinS (c : PyData) : Option (Bool × PyData) := match itemsOf c with
  | some (d :: ds) => if okMM (d :: ds) = true then some (false, PySem.W.minD d ds) else none
  | _ => none
theorem fold_mem {f : PyData → PyData → PyData} (hf : ∀ a y, f a y = a ∨ f a y = y) : ∀ (ds : List PyData) (d : PyData), ds.foldl f d ∈ d :: ds
  | [], d => by simp
  | y :: ds, d => by
    have := fold_mem hf ds (f d y)
    rw [List.foldl_cons]
    rcases hf d y with e | e
    · rw [e] at this ⊢
      rcases List.mem_cons.mp this with h | h
      · rw [h]; simp
      · simp [h]
    · rw [e] at this ⊢
      rcases List.mem_cons.mp this with h | h
      · rw [h]; simp
      · simp [h]
theorem maxD_mem (d : PyData) (ds : List PyData) : PySem.W.maxD d ds ∈ d :: ds := fold_mem (fun a y => by by_cases h : PySem.W.dataLt a y = true <;> simp [h]) ds d
theorem minD_mem (d : PyData) (ds : List PyData) : PySem.W.minD d ds ∈ d :: ds := fold_mem (fun a y => by by_cases h : PySem.W.dataLt y a = true <;> simp [h]) ds d
theorem okMM_iff {ds : List PyData} (h : okMM ds = true) : PySem.W.AlikeAll ds ∧ PyData.plainAll ds = true ∧ PyData.depthAll ds ≤ 60 := by
  unfold okMM at h
  simp only [Bool.and_eq_true, List.all_eq_true, decide_eq_true_eq] at h
  obtain ⟨⟨⟨h1, h2⟩, h3⟩, h4⟩ := h
  refine ⟨⟨h1, fun x hx e => ?_⟩, h3, h4⟩
  have := h2 x hx
  subst e
  simp [notNone] at this
def rMM (K : PySem.W.Frag) (m : PyData → List PyData → PyData) : List V → Hp → VK → Prop := fun vs H Q => ∃ (a : Addr) (xs : List V) (d : PyData) (ds : List PyData), vs = [V.ref a] ∧ (SqL K H a xs ∨ SqT K H a xs) ∧ DpAll K H xs (d :: ds) ∧ okMM (d :: ds) = true ∧
  ∀ (i : Nat) (x : V), xs[i]? = some x → (d :: ds)[i]? = some (m d ds) → Q x H
theorem vals_at : ∀ {xs : List V} {its : List Value} {i : Nat} {v : Value}, Vals xs its → its[i]? = some v → ∃ x, xs[i]? = some x ∧ RelV x v
  | _, _, _, _, .nil, e => by simp at e
  | _, _, 0, _, .cons a _, e => by simp at e; subst e; exact ⟨_, rfl, a⟩
  | _, _, i + 1, v, .cons _ b, e => by
    obtain ⟨x, h1, h2⟩ := vals_at (i := i) (v := v) b (by simpa using e)
    exact ⟨x, by simpa using h1, h2⟩
theorem mm_end {X : Cx} {pins : List (Addr × Obj)} {σ : St} {H : Hp} {s : Shared} {Q : VK} (I : Inv X pins σ H s) {xs : List V} {ds : List PyData} {m : PyData} {its : List Value} (rv : Vals xs its) (hd : DpAll X.K H xs ds) (hm : m ∈ ds) (ha : PySem.W.AlikeAll ds)
    (q : ∀ (i : Nat) (x : V), xs[i]? = some x → ds[i]? = some m → Q x H) {i : Nat} {v : Value} {h' : Heap} {tk : Nat} {bs : List Addr} (hv : its.toArray[i]? = some v) (r : Reads h' v m bs) (hk : ∀ b o, s.heap.get? b = some o → h'.get? b = some o) : EP X pins σ Q v { s with heap := h', toks := tk } := by
  have I1 : Inv X pins σ H { s with heap := h', toks := tk } := I.kept hk
  obtain ⟨x, hx, rx⟩ := vals_at rv (by simpa using hv)
  obtain ⟨as, ra⟩ := Dp.readsAll I1 ds xs its hd rv
  obtain ⟨cs, rc, hi, hmem, _⟩ := PySem.W.readsAll_at ra i v (by simpa using hv)
  have e : ds.getD i .none = m := PySem.W.alike_unique _ _ _ _ _ (ha.1 _ hmem _ hm) rc r
  refine ⟨x, H, I1, rx, q i x hx ?_⟩
  rw [← e, List.getD_eq_getElem?_getD, List.getElem?_eq_getElem hi]
  rfl
theorem cr_maxS {X : Cx} (hc : X.calm = true) (hu : X.A.units + 64 < cLine) : CallR X (.builtin "max") (rMM X.K PySem.W.maxD) := by
  intro pins s σ H vs us Q I r h
  obtain ⟨a, xs, d, ds, rfl, hs, hd, ok, q⟩ := h
  rw [Vals.ref1 r]
  obtain ⟨k1, k2, k3⟩ := okMM_iff ok
  rcases hs with hs | hs
  · obtain ⟨its, rv, hl, hz⟩ := I.list hs
    obtain ⟨as, ra⟩ := Dp.readsAll I _ _ _ hd rv
    exact PySem.W.max_list_data (I.ok.hd hc) hl.isList ra k1 (by omega) fun i v h' tk bs hv rr hk => mm_end I rv hd (maxD_mem _ _) k1 q hv rr hk
  · obtain ⟨its, rv, hl, hz⟩ := I.tuple hs
    obtain ⟨as, ra⟩ := Dp.readsAll I _ _ _ hd rv
    exact PySem.W.max_tuple_data (I.ok.hd hc) (show s.heap.IsTuple a its.toArray from hl) ra k1 (by omega) fun i v h' tk bs hv rr hk => mm_end I rv hd (maxD_mem _ _) k1 q hv rr hk
theorem cr_minS {X : Cx} (hc : X.calm = true) (hu : X.A.units + 64 < cLine) : CallR X (.builtin "min") (rMM X.K PySem.W.minD) := by
  intro pins s σ H vs us Q I r h
  obtain ⟨a, xs, d, ds, rfl, hs, hd, ok, q⟩ := h
  rw [Vals.ref1 r]
  obtain ⟨k1, k2, k3⟩ := okMM_iff ok
  rcases hs with hs | hs
  · obtain ⟨its, rv, hl, hz⟩ := I.list hs
    obtain ⟨as, ra⟩ := Dp.readsAll I _ _ _ hd rv
    exact PySem.W.min_list_data (I.ok.hd hc) hl.isList ra k1 (by omega) fun i v h' tk bs hv rr hk => mm_end I rv hd (minD_mem _ _) k1 q hv rr hk
  · obtain ⟨its, rv, hl, hz⟩ := I.tuple hs
    obtain ⟨as, ra⟩ := Dp.readsAll I _ _ _ hd rv
    exact PySem.W.min_tuple_data (I.ok.hd hc) (show s.heap.IsTuple a its.toArray from hl) ra k1 (by omega) fun i v h' tk bs hv rr hk => mm_end I rv hd (minD_mem _ _) k1 q hv rr hk
section
variable {K : PySem.W.Frag}
theorem ok_mm {m : PyData → List PyData → PyData} {f : PyData → Option (Bool × PyData)} (hf : ∀ c n d', f c = some (n, d') → ∃ d ds, itemsOf c = some (d :: ds) ∧ okMM (d :: ds) = true ∧ n = false ∧ d' = m d ds) : Ok1 K (r1 (rMM K m)) f := by
  intro Rf G ρ F σ H v c n d' Q R q h k
  obtain ⟨d, ds, e1, ok, rfl, rfl⟩ := hf _ _ _ h
  obtain ⟨k1, k2, k3⟩ := okMM_iff ok
  have fin : ∀ (xs : List V), RpA K F xs (d :: ds) → ∀ (i : Nat) (x : V), xs[i]? = some x → (d :: ds)[i]? = some (m d ds) → Q x H := fun xs r i x hx hd => by
    obtain ⟨y, hy, ry⟩ := r.get hd
    rw [hx] at hy; cases hy
    exact k _ F _ R (Same.refl _) (rr_val ry)
  cases c <;> simp only [itemsOf] at e1 <;> try cases e1
  · obtain ⟨a, xs, rfl, e, z, r⟩ := q
    exact ⟨a, xs, d, ds, rfl, .inl e, (r.mono R.fz).dp k2, ok, fin xs r⟩
  · obtain ⟨a, xs, rfl, e, z, r⟩ := q
    exact ⟨a, xs, d, ds, rfl, .inr (SqT.of (R.fz _ _ e)), (r.mono R.fz).dp k2, ok, fin xs r⟩
theorem ok_maxS : Ok1 K (r1 (rMM K PySem.W.maxD)) pMaxS := ok_mm fun c n d' h => by
  unfold pMaxS at h
  split at h
  · rename_i d ds e
    split at h
    · rename_i ok; cases h; exact ⟨d, ds, e, ok, rfl, rfl⟩
    · cases h
  · cases h
theorem ok_minS : Ok1 K (r1 (rMM K PySem.W.minD)) pMinS := ok_mm fun c n d' h => by
  unfold pMinS at h
  split at h
  · rename_i d ds e
    split at h
    · rename_i ok; cases h; exact ⟨d, ds, e, ok, rfl, rfl⟩
    · cases h
  · cases h
end
end L2.Z
namespace L2.Z
open PySem PySem.Spec PyProof.Rows
def rgD (a b : Int) : List PyData := (List.range (b - a).toNat).map fun i => .int (a + (i : Nat))
instance (a b : Int) : Decidable (RgOk a b) := by unfold RgOk; infer_instance
def pTupRg1 : PyData → Option (Bool × PyData)
  | .int b => if RgOk 0 b then some (false, .tuple (rgD 0 b)) else none
  | _ => none
section
variable {K : PySem.W.Frag}
theorem rpa_rg {F : Hp} (a : Int) : ∀ l : List Nat, RpA K F (l.map fun i => V.int (a + (i : Nat))) (l.map fun i => .int (a + (i : Nat)))
  | [] => .nil
  | i :: l => .cons (.int _) (rpa_rg a l)
theorem rg_size {a b : Int} (h : RgOk a b) : (rgV a b).length ≤ sizeLine := by rw [rgV_length, sizeLine_eq]; have := h.2.2.2.2; omega
theorem ok_tupRg1 : Ok1 K (fun x H Q => ∃ n, x = .int n ∧ RgOk 0 n ∧ ∀ q, H q = none → Q (.ref q) (L2.upd H q (.tup (rgV 0 n)))) pTupRg1 := by
  intro Rf G ρ F σ H v d n d' Q R q h k
  cases d <;> simp only [pTupRg1] at h <;> try cases h
  split at h
  · rename_i ok
    cases h; cases q
    refine ⟨_, rfl, ok, fun p hp => ?_⟩
    obtain ⟨F2, R2, s2, q2⟩ := R.newTup hp (rg_size ok) (rpa_rg 0 _)
    exact k _ F2 _ R2 s2 q2
  · cases h
end
section
variable {X : Cx} {Φ : Fns} {bf : Nat → Option Nat} {a b : Expr} {x y : Z.X} {p p2 pos pos2 : Pos}
theorem ce_tupRg1 (hg : Gl X "tuple") (hm : X.mg "tuple" = none) (hg2 : Gl X "range") (hm2 : X.mg "range" = none) (hc : X.calm = true) (ha : CE X Φ bf a x) (na : starEach [a] X.env = (false, eval a X.env) :: starEach [] X.env := by rfl)
    (nb : starEach [.Call (.Name "range" p2) [a] [] pos2] X.env = (false, eval (.Call (.Name "range" p2) [a] [] pos2) X.env) :: starEach [] X.env := by rfl) : CE X Φ bf (.Call (.Name "tuple" p) [.Call (.Name "range" p2) [a] [] pos2] [] pos) (.op1 pTupRg1 x) :=
  ce1 ok_tupRg1 (fun ta h => pe_tupRg hc hg hm (prg_1 hg2 hm2 h na) nb) ha
end
end L2.Z
namespace L2.Z
open PySem PySem.Spec PyProof.Rows
def pIsTL : PyData → Option (Bool × PyData)
  | .tuple _ => some (false, .bool true)
  | .list _ => some (false, .bool true)
  | _ => some (false, .bool false)
def Is2 (T1 T2 : String) (f : PyData → Option (Bool × PyData)) : Prop := ∀ d, ∃ b c, kitB (tyD d) T1 = some b ∧ kitB (tyD d) T2 = some c ∧ f d = some (false, .bool (b || c))
theorem is_TL : Is2 "tuple" "list" pIsTL := fun d => by
  cases d
  · exact ⟨false, false, show kitB "NoneType" "tuple" = _ by decide +kernel, show kitB "NoneType" "list" = _ by decide +kernel, rfl⟩
  · exact ⟨false, false, show kitB "bool" "tuple" = _ by decide +kernel, show kitB "bool" "list" = _ by decide +kernel, rfl⟩
  · exact ⟨false, false, show kitB "int" "tuple" = _ by decide +kernel, show kitB "int" "list" = _ by decide +kernel, rfl⟩
  · exact ⟨false, false, show kitB "str" "tuple" = _ by decide +kernel, show kitB "str" "list" = _ by decide +kernel, rfl⟩
  · exact ⟨false, true, show kitB "list" "tuple" = _ by decide +kernel, show kitB "list" "list" = _ by decide +kernel, rfl⟩
  · exact ⟨true, false, show kitB "tuple" "tuple" = _ by decide +kernel, show kitB "tuple" "list" = _ by decide +kernel, rfl⟩
  · exact ⟨false, false, show kitB "dict" "tuple" = _ by decide +kernel, show kitB "dict" "list" = _ by decide +kernel, rfl⟩
section
variable {X : Cx} {Φ : Fns} {bf : Nat → Option Nat} {a : Expr} {x : Z.X} {p q1 q2 q3 pos : Pos} {kk : Nat}
theorem ce_isi2 {T1 T2 : String} {n1 n2 : Str} {f : PyData → Option (Bool × PyData)} (ok : Is2 T1 T2 f) (hv1 : bootBuiltins n1 = some (.type T1)) (hv2 : bootBuiltins n2 = some (.type T2)) (hn1 : n1 ≠ "__name__") (hn2 : n2 ≠ "__name__") (hd1 : (n1 == ("__debug__" : Str)) = false) (hd2 : (n2 == ("__debug__" : Str)) = false)
    (hm : X.mg "isinstance" = none) (hm1 : X.mg n1 = none) (hm2 : X.mg n2 = none) (hg : Gl X "isinstance") (hg1 : Gl X n1) (hg2 : Gl X n2) (ha : CE X Φ bf a x)
    (s1 : starEach [a, .Tuple [.Name n1 q1, .Name n2 q2] kk q3] X.env = (false, eval a X.env) :: starEach [.Tuple [.Name n1 q1, .Name n2 q2] kk q3] X.env := by rfl)
    (s2 : starEach [.Tuple [.Name n1 q1, .Name n2 q2] kk q3] X.env = (false, eval (.Tuple [.Name n1 q1, .Name n2 q2] kk q3) X.env) :: starEach [] X.env := by rfl)
    (s3 : starEach [.Name n1 q1, .Name n2 q2] X.env = (false, eval (.Name n1 q1) X.env) :: starEach [.Name n2 q2] X.env := by rfl) (s4 : starEach [.Name n2 q2] X.env = (false, eval (.Name n2 q2) X.env) :: starEach [] X.env := by rfl)
    (hpl : (backTo pos (starEach [.Tuple [.Name n1 q1, .Name n2 q2] kk q3] X.env)).any (·.1) = false := by rfl) :
    CE X Φ bf (.Call (.Name "isinstance" p) [a, .Tuple [.Name n1 q1, .Name n2 q2] kk q3] [] pos) (.op1 f x) := by
  refine PE.imp (pe_callB call_isiT hg hm (by decide +kernel) (pa_cons ha (pa_cons (pe_tup (pa_cons (pe_bltn (v := .ty T1) hg1 hm1 hv1 rfl hn1 hd1) (pa_cons (pe_bltn (v := .ty T2) hg2 hm2 hv2 rfl hn2 hd2) pa_nil s4) s3)) pa_nil s2) s1) (by decide) (by decide) s1 hpl) fun σ H Q h => ?_
  obtain ⟨Rf, G, ρ, F, r, ρ', R, e, k⟩ := h
  simp only [ev, Option.bind_eq_some_iff] at e
  obtain ⟨⟨ra, ρ1⟩, ea, d, ed, ⟨n, d'⟩, ef, e⟩ := e
  simp only [Option.some.injEq, Prod.mk.injEq] at e
  obtain ⟨rfl, rfl⟩ := e
  obtain ⟨b, c, h1, h2, h3⟩ := ok d
  rw [h3] at ef
  cases ef
  refine tX_opd R ea fun v F1 H1 R1 s1 o => ?_
  refine ⟨by show 2 ≤ sizeLine; decide, fun t ht => ?_⟩
  have R2 := R1.laid (o := .tup [.ty T1, .ty T2]) ht
  refine ⟨v, t, [.ty T1, .ty T2], .type (tyD d), [.type T1, .type T2], b || c, rfl, upd_same, .cons (.ty T1) (.cons (.ty T2) .nil), rq_ty R2.fz (R2.rq o ed), ?_, k _ F1 _ R2 s1 (rr_val (.bl _))⟩
  refine kitAny_cons (kit_ty h1) (fun hb => kitAny_cons (kit_ty h2) (fun hc => ?_) fun hc => ?_) fun hb => ?_
  · subst hb hc; exact kitAny_nil
  · subst hb hc; rfl
  · subst hb; rfl
end
end L2.Z
namespace L2.Z
open PySem
section
variable {i j : Int} {xs ys ds : List PyData} {d : PyData} {x : Str}
@[simp] theorem p_add : pAdd (.int i) (.int j) = some (false, .int (i + j)) := rfl
theorem p_addL (h : xs.length + ys.length ≤ sizeLine) : pAdd (.list xs) (.list ys) = some (true, .list (xs ++ ys)) := by simp only [pAdd, if_pos h]
@[simp] theorem p_tupL : pTup (.list ds) = some (false, .tuple ds) := rfl
@[simp] theorem p_tupT : pTup (.tuple ds) = some (false, .tuple ds) := rfl
@[simp] theorem p_lstL : pLst (.list ds) = some (true, .list ds) := rfl
@[simp] theorem p_lstT : pLst (.tuple ds) = some (true, .list ds) := rfl
@[simp] theorem p_isTL1 : pIsTL (.tuple ds) = some (false, .bool true) := rfl
@[simp] theorem p_isTL2 : pIsTL (.list ds) = some (false, .bool true) := rfl
@[simp] theorem p_isTL3 : pIsTL (.int i) = some (false, .bool false) := rfl
@[simp] theorem p_isTupL : pIsTup (.list ds) = some (false, .bool false) := rfl
@[simp] theorem p_isTupI : pIsTup (.int i) = some (false, .bool false) := rfl
@[simp] theorem p_isLstL : pIsList (.list ds) = some (false, .bool true) := rfl
@[simp] theorem p_isLstT : pIsList (.tuple ds) = some (false, .bool false) := rfl
@[simp] theorem p_isStrS : pIsStr (.str x) = some (false, .bool true) := rfl
@[simp] theorem p_isStrI : pIsStr (.int i) = some (false, .bool false) := rfl
@[simp] theorem p_slF : pSlF d (.int i) = slD d (some i) none := rfl
@[simp] theorem p_slT : pSlT d (.int i) = slD d none (some i) := rfl
@[simp] theorem p_slD1 {lo hi : Option Int} : slD (.list ds) lo hi = some (true, .list (cutD ds lo hi)) := rfl
@[simp] theorem p_slD2 {lo hi : Option Int} : slD (.tuple ds) lo hi = some (false, .tuple (cutD ds lo hi)) := rfl
theorem p_tupRg1 (h : RgOk 0 i) : pTupRg1 (.int i) = some (false, .tuple (rgD 0 i)) := by simp only [pTupRg1, if_pos h]
theorem peq_int : pEq (.int i) (.int j) = some (false, .bool (decide (i = j))) := by
  simp [pEq, okEq, PyData.plain, PyData.depth, PyData.eqv]
  by_cases h : i = j <;> simp [h]
end
end L2.Z
namespace L2.Z
open PySem PySem.Spec PyProof.Rows
section
variable {K : PySem.W.Frag}
def pSumA (c : PyData) : Option (Bool × PyData) := (itemsOf c).bind fun ds => (intsOf ds).bind fun bs => some (false, .int bs.sum)
def rSumA (K : PySem.W.Frag) : List V → Hp → VK → Prop := fun vs H Q => ∃ (a : Addr) (ns : List Int), vs = [V.ref a] ∧ (SqL K H a (ns.map V.int) ∨ SqT K H a (ns.map V.int)) ∧ Q (.int ns.sum) H
theorem cr_sumA {X : Cx} (hc : X.calm = true) : CallR X (.builtin "sum") (rSumA X.K) := by
  intro pins s σ H vs us Q I r h
  obtain ⟨a, ns, rfl, hs, q⟩ := h
  rcases hs with hs | hs
  · exact cr_sum hc pins s σ H _ us Q I r ⟨a, ns, rfl, hs, q⟩
  · obtain ⟨its, rv, hl, _⟩ := I.tuple hs
    rw [Vals.ref1 r]
    have hi : IntsAre its ns := rv.ints
    have hl : s.heap.IsTuple a its.toArray := hl
    obtain ⟨xs, hx⟩ := (show IntsAre its.toArray.toList ns by simpa using hi).allInts.items
    have hn : numsOf its.toArray.toList = ns := by rw [show its.toArray.toList = its from rfl, hi.numsOf]
    rw [hx] at hl hn
    rw [nums_intItems] at hn
    refine PySem.W.ktm_sumG (I.ok.hd hc) hl fun h' tk t' hk => ?_
    rw [preSum_eq, List.take_of_length_le (by simp), hn]
    exact ⟨.int _, H, I.kept hk, ⟨_, rfl⟩, q⟩
theorem ok_sumA : Ok1 K (r1 (rSumA K)) pSumA := by
  intro Rf G ρ F σ H v d n d' Q R q h k
  simp only [pSumA, Option.bind_eq_some_iff] at h
  obtain ⟨ds, hi, bs, hb, h⟩ := h
  cases h
  have fin := k (.int bs.sum) F H R (Same.refl _) (rr_val (.int _))
  cases d <;> simp only [itemsOf] at hi <;> cases hi
  · obtain ⟨a, xs, rfl, e, _, r⟩ := q
    rw [rpa_ints r hb] at e
    exact ⟨a, bs, rfl, .inl e, fin⟩
  · obtain ⟨a, xs, rfl, e, _, r⟩ := q
    rw [rpa_ints r hb] at e
    exact ⟨a, bs, rfl, .inr (SqT.of (R.fz _ _ e)), fin⟩
def okFind (d : PyData) (ds : List PyData) : Bool := d.plain && PyData.plainAll ds && decide (min (PyData.depthAll ds) d.depth ≤ 60)
def pIndex : PyData → PyData → Option (Bool × PyData)
  | .list ds, d => if okFind d ds = true then (ds.findIdx? fun y => PyData.eqv y d).bind fun j => some (false, .int (j : Nat)) else none
  | _, _ => none
theorem okFind_iff {d : PyData} {ds : List PyData} : okFind d ds = true ↔ d.plain = true ∧ PyData.plainAll ds = true ∧ min (PyData.depthAll ds) d.depth ≤ 60 := by
  unfold okFind
  rw [Bool.and_eq_true, Bool.and_eq_true, decide_eq_true_eq, and_assoc]
def rIndexD (K : PySem.W.Frag) : V → List V → Hp → VK → Prop := fun x xs H Q => ∃ (a : Addr) (ys : List V) (y : V) (ds : List PyData) (d : PyData) (j : Nat), x = V.ref a ∧ xs = [y] ∧ SqL K H a ys ∧ DpAll K H ys ds ∧ Dp K H y d ∧ okFind d ds = true ∧
  ds.findIdx? (fun y => PyData.eqv y d) = some j ∧ Q (.int (j : Nat)) H
theorem mt_indexD {X : Cx} (hu : X.A.units + 64 < cLine) : MtR X "list.index" (rIndexD X.K) := by
  intro pins s σ H x xs v us Q I rx rxs h
  obtain ⟨a, ys, y, ds, d, j, rfl, rfl, hs, hds, hd, ok, hj, q⟩ := h
  cases rx
  obtain ⟨u, rfl, ru⟩ := rxs.one
  obtain ⟨its, rv, hl, hz⟩ := I.list hs
  obtain ⟨as, ra⟩ := Dp.readsAll I _ _ _ hds rv
  obtain ⟨bs, rb⟩ := Dp.reads I _ _ _ hd ru
  obtain ⟨k1, k2, k3⟩ := okFind_iff.mp ok
  have ra' : ReadsAll s.heap its.toArray.toList ds as := by simpa using ra
  obtain ⟨hj', hit, hno⟩ := PySem.SeqAt.hit_at (vs := its.toArray) ra' k2 hj
  have hlen := rv.length
  obtain ⟨⟨cls, dd, data, sl⟩, n, ho, hc, hdn, hd'⟩ := hl
  simp only at hc hd'
  subst hc hd'
  exact call_meets PySem.F.slot_list_index ⟨_, ho, rfl⟩ PySem.F.entry_list_index (PySem.F.args_list_index_2 _ _)
    (PySem.SeqAt.list_indexAt a its.toArray n dd sl u _ j hj' (by rw [sizeLine_eq] at hz; simp at hj'; omega) hit hno) ⟨ho, PySem.SeqAt.items_plain ra' rb k2 k1 (by omega), ⟨.int _, H, I.tok _, ⟨_, rfl⟩, q⟩⟩
end
end L2.Z
namespace L2.Z
open PySem PySem.Spec PyProof.Rows
section
variable {K : PySem.W.Frag}
structure OkM (K : PySem.W.Frag) (T : String) (chk : PyData → Bool) (r : V → List V → Hp → VK → Prop) (f : PyData → List PyData → Option (Bool × PyData)) : Prop where
  ty : ∀ (F H : Hp) (v : V) (d : PyData), chk d = true → Rq K F H v d → tyV K T v H
  ok : ∀ (Rf : Nat → Option Addr) (G : Hp) (ρ : Ev) (F : Hp) (σ : St) (H : Hp) (v : V) (d : PyData) (vs : List V) (ds : List PyData) (n : Bool) (d' : PyData) (Q : VK),
    SR K Rf G ρ F σ H → Rq K F H v d → RqA K F H vs ds → f d ds = some (n, d') → (∀ v' F' H', SR K Rf G ρ F' σ H' → Same F F' → RR K G ρ F' σ H' v' (mkR n d') → Q v' H') → r v vs H Q
theorem redM {Φ : Fns} {bf : Nat → Option Nat} {T : String} {chk : PyData → Bool} {r : V → List V → Hp → VK → Prop} {f : PyData → List PyData → Option (Bool × PyData)} (ok : OkM K T chk r f) {x : Z.X} {xs : Xs} {σ : St} {H : Hp} {Q : VK}
    (h : tX K (ev Φ bf (.meth chk f x xs)) σ H Q) : tX K (ev Φ bf x) σ H fun v H1 => tyV K T v H1 ∧ tOs K (evs Φ bf xs) σ H1 fun vs H2 => r v vs H2 Q := by
  obtain ⟨Rf, G, ρ, F, res, ρ', R, e, k⟩ := h
  simp only [ev, Option.bind_eq_some_iff] at e
  obtain ⟨⟨ra, ρ1⟩, ea, d0, e0, e⟩ := e
  split at e
  · rename_i hc
    simp only [Option.bind_eq_some_iff] at e
    obtain ⟨⟨rs, ρ2⟩, eb, d, ed, ds, eds, ⟨n, d'⟩, ef, e⟩ := e
    simp only [Option.some.injEq, Prod.mk.injEq] at e
    obtain ⟨rfl, rfl⟩ := e
    refine tX_opd R ea fun v F1 H1 R1 s1 o => ⟨ok.ty _ _ _ _ hc (R1.rq o e0), Rf, G, ρ1, F1, rs, ρ2, R1, eb, fun vs F2 H2 R2 s2 os => ?_⟩
    exact ok.ok _ _ _ _ _ _ _ _ _ _ _ _ _ R2 (R2.rq (o.mono s2) ed) (R2.rqs os eds) ef fun v' F' H' R' s' q => k v' F' H' R' (s1.trans (s2.trans s')) q
  · cases e
end
section
variable {X : Cx} {Φ : Fns} {bf : Nat → Option Nat} {o e : Expr} {es : List Expr} {x : Z.X} {xs : Xs} {name : Str} {apos cpos : Pos} {T id : String} {r : V → List V → Hp → VK → Prop} {chk : PyData → Bool} {f : PyData → List PyData → Option (Bool × PyData)}
theorem ce_meth (ok : OkM X.K T chk r f) (pa : PlainAttrs T) (slot : PySem.Slot T name id) (hty : typeOf (.builtin id) = pure (.type "method_descriptor")) (hm : MtR X id r) (ho : CE X Φ bf o x) (ha : CA X Φ bf (e :: es) xs)
    (hbase : attributeBase o name X.env (eval o X.env) = eval o X.env := by rfl)
    (hfew : ((backTo cpos (starEach (e :: es) X.env)).all (fun x => !x.1) && (backToKw cpos (keywordEach [] X.env)).all (fun x => x.1.isSome)
      && decide ((e :: es).length + ([] : List Keyword).length + (if ([] : List Keyword).isEmpty then 0 else 1) < 30)) = true := by rfl)
    (hline : (apos.endLine == cpos.line) = true := by rfl) (hs : starEach (e :: es) X.env = (false, eval e X.env) :: starEach es X.env := by rfl) (hplain : (backTo cpos (starEach es X.env)).any (·.1) = false := by rfl) :
    CE X Φ bf (.Call (.Attribute o name apos) (e :: es) [] cpos) (.meth chk f x xs) :=
  PE.imp (pe_bm pa slot hty hm ho ha hbase hfew hline hs hplain) fun σ H Q h => redM ok h
end
def isLst : PyData → Bool
  | .list _ => true
  | _ => false
def flat : PyData → Bool
  | .list _ => false
  | .dict _ => false
  | _ => true
def pIndexM : PyData → List PyData → Option (Bool × PyData)
  | c, [d] => pIndex c d
  | _, _ => none
section
variable {K : PySem.W.Frag} {F H : Hp}
theorem Rq.flat {v : V} {d : PyData} (q : Rq K F H v d) (h : flat d = true) : Rp K F v d := by
  cases d with
  | list _ => cases h
  | dict _ => cases h
  | tuple ds => obtain ⟨a, xs, rfl, e, z, r⟩ := q; exact .tup e z r
  | none => cases q; exact .non
  | bool b => cases q; exact .bl b
  | int i => cases q; exact .int i
  | str x => cases q; exact .str x
theorem ty_lst {v : V} {d : PyData} (h : isLst d = true) (q : Rq K F H v d) : tyV K "list" v H := by
  cases d with
  | list ds =>
    obtain ⟨a, xs, rfl, e, _⟩ := q
    exact .inl ⟨rfl, _, e⟩
  | _ => cases h
theorem findM (s : Same F H) {v : V} {ds : List PyData} (q : Rq K F H v (.list ds)) (hp : PyData.plainAll ds = true) : ∃ a ys, v = .ref a ∧ SqL K H a ys ∧ DpAll K H ys ds := by
  obtain ⟨a, xs, rfl, e, _, r⟩ := q
  exact ⟨a, xs, rfl, e, (r.mono s).dp hp⟩
theorem ok_indexM : OkM K "list" isLst (rIndexD K) pIndexM where
  ty := fun _ _ _ _ h q => ty_lst h q
  ok := by
    intro Rf G ρ F σ H v d vs ds n d' Q R q qs h k
    match ds, h, qs with
    | [e], h, .cons q1 .nil =>
      cases d with
      | list ds =>
        simp only [pIndexM, pIndex] at h
        split at h
        · rename_i hk
          simp only [Option.bind_eq_some_iff] at h
          obtain ⟨j, h1, h2⟩ := h
          cases h2
          obtain ⟨k1, k2, k3⟩ := okFind_iff.mp hk
          obtain ⟨a, ys, rfl, e1, e2⟩ := findM R.fz q k2
          exact ⟨a, ys, _, ds, e, j, rfl, rfl, e1, e2, (q1.rp R.fz).dp k1, hk, h1, k _ F H R (Same.refl _) (rr_val (.int _))⟩
        · cases h
      | _ => simp only [pIndexM, pIndex] at h; cases h
    | [], h, _ => simp only [pIndexM] at h; cases h
    | _ :: _ :: _, h, _ => simp only [pIndexM] at h; cases h
end
section
variable {X : Cx} {Φ : Fns} {bf : Nat → Option Nat} {o e : Expr} {es : List Expr} {x : Z.X} {xs : Xs} {apos cpos : Pos}
theorem ce_index (hu : X.A.units + 64 < cLine) (ho : CE X Φ bf o x) (ha : CA X Φ bf (e :: es) xs)
    (hbase : attributeBase o "index" X.env (eval o X.env) = eval o X.env := by rfl)
    (hfew : ((backTo cpos (starEach (e :: es) X.env)).all (fun x => !x.1) && (backToKw cpos (keywordEach [] X.env)).all (fun x => x.1.isSome)
      && decide ((e :: es).length + ([] : List Keyword).length + (if ([] : List Keyword).isEmpty then 0 else 1) < 30)) = true := by rfl)
    (hline : (apos.endLine == cpos.line) = true := by rfl) (hs : starEach (e :: es) X.env = (false, eval e X.env) :: starEach es X.env := by rfl) (hplain : (backTo cpos (starEach es X.env)).any (·.1) = false := by rfl) :
    CE X Φ bf (.Call (.Attribute o "index" apos) (e :: es) [] cpos) (.meth isLst pIndexM x xs) := ce_meth ok_indexM PySem.F.plainAttrs_list PySem.F.slot_list_index PySem.F.type_list_index (mt_indexD hu) ho ha hbase hfew hline hs hplain
end
@[simp] theorem z_dnew {Φ : Fns} {bf : Nat → Option Nat} {ρ : Ev} : ev Φ bf .dnew ρ = some (.new (.dict []), ρ) := by simp only [ev]
@[simp] theorem z_meth {Φ : Fns} {bf : Nat → Option Nat} {ρ : Ev} {chk : PyData → Bool} {f : PyData → List PyData → Option (Bool × PyData)} {a : Z.X} {as : Xs} : ev Φ bf (.meth chk f a as) ρ = (ev Φ bf a ρ).bind fun p => (p.1.get p.2).bind fun d0 => if chk d0 = true then (evs Φ bf as p.2).bind fun q => (p.1.get q.2).bind fun d => (getAll q.2 q.1).bind fun ds => (f d ds).bind fun z => some (mkR z.1 z.2, q.2) else none := by simp only [ev] <;> rfl
end L2.Z
namespace L2.Z
open PySem PySem.Spec PyProof.Rows
def pairsD : List PyData → Option (List (PyData × PyData))
  | [] => some []
  | .tuple [k, v] :: ds => if isK k = true then (pairsD ds).bind fun r => some ((k, v) :: r) else none
  | _ :: _ => none
def dMerge (acc kvs : List (PyData × PyData)) : List (PyData × PyData) := kvs.foldl (fun a p => dPut a p.1 p.2) acc
def pDictP : PyData → Option (Bool × PyData)
  | .list ds => (pairsD ds).bind fun kvs => some (true, .dict (dMerge [] kvs))
  | _ => none
def rDictP (K : PySem.W.Frag) : List V → Hp → VK → Prop := fun xs H Q => ∃ (a : Addr) (ps : List Addr) (kvs : List (Key × V)), xs = [.ref a] ∧ SqL K H a (ps.map V.ref) ∧ Paired (fun p kv => SqT K H p [kV kv.1, kv.2]) ps kvs ∧
    ∀ p, H p = none → Q (.ref p) (L2.upd H p (.dK (mergeK [] kvs)))
section
variable {K : PySem.W.Frag} {F H : Hp}
theorem rpa_pairs : ∀ {xs : List V} {ds : List PyData} {kvs : List (PyData × PyData)}, RpA K F xs ds → pairsD ds = some kvs →
    ∃ (ps : List Addr) (vs : List (Key × V)), xs = ps.map V.ref ∧ Paired (fun p kv => F p = some (.tup [kV kv.1, kv.2])) ps vs ∧ kvs.map Prod.fst = vs.map (fun p => kD p.1) ∧ RpA K F (vs.map Prod.snd) (kvs.map Prod.snd)
  | [], _, kvs, .nil, e => by
    simp only [pairsD] at e; cases e; exact ⟨[], [], rfl, .nil, rfl, .nil⟩
  | x :: xs, d :: ds, kvs, .cons r t, e => by
    unfold pairsD at e
    split at e
    · rename_i h; cases h
    · rename_i k v ds' h
      cases h
      split at e
      · rename_i hk
        simp only [Option.bind_eq_some_iff] at e
        obtain ⟨r', e1, e2⟩ := e
        cases e2
        obtain ⟨ps, vs, h1, h2, h3, h4⟩ := rpa_pairs t e1
        obtain ⟨key, rfl⟩ := isK_some hk
        cases r with
        | tup q z e =>
          rename_i a ys
          match ys, q, e with
          | [y1, y2], q, .cons rk (.cons rv .nil) =>
            have e3 : y1 = kV key := by cases key <;> cases rk <;> rfl
            subst e3
            exact ⟨a :: ps, (key, y2) :: vs, by rw [h1]; rfl, .cons q h2, by simp [h3], .cons rv h4⟩
      · cases e
    · cases e
theorem merge_rel : ∀ {vs : List (Key × V)} {kvs : List (PyData × PyData)} {acc : List (Key × V)} {accd : List (PyData × PyData)}, kvs.map Prod.fst = vs.map (fun p => kD p.1) → RpA K F (vs.map Prod.snd) (kvs.map Prod.snd) →
    accd.map Prod.fst = acc.map (fun p => kD p.1) → RpA K F (acc.map Prod.snd) (accd.map Prod.snd) → (dMerge accd kvs).map Prod.fst = (mergeK acc vs).map (fun p => kD p.1) ∧ RpA K F ((mergeK acc vs).map Prod.snd) ((dMerge accd kvs).map Prod.snd)
  | [], [], _, _, _, _, h3, h4 => ⟨h3, h4⟩
  | [], _ :: _, _, _, h, _, _, _ => by simp at h
  | _ :: _, [], _, _, h, _, _, _ => by simp at h
  | p :: vs, q :: kvs, acc, accd, h1, h2, h3, h4 => by
    simp only [List.map_cons, List.cons.injEq] at h1
    cases h2 with
    | cons a b =>
      obtain ⟨i1, i2⟩ := put_rel (ps := acc) (kvs := accd) kD keyEq_K p.1 a h3 h4
      rw [← h1.1] at i1 i2
      exact merge_rel (vs := vs) (kvs := kvs) (acc := putK acc p.1 p.2) (accd := dPut accd q.1 q.2) h1.2 b i1 i2
theorem ok_dictP : Ok1 K (r1 (rDictP K)) pDictP := by
  intro Rf G ρ F σ H v d n d' Q R q h k
  cases d <;> simp only [pDictP] at h <;> try cases h
  rename_i ds
  simp only [Option.bind_eq_some_iff] at h
  obtain ⟨kvs, e1, e2⟩ := h
  cases e2
  obtain ⟨a, xs, rfl, e, z, r⟩ := q
  obtain ⟨ps, vs, rfl, h2, h3, h4⟩ := rpa_pairs r e1
  have hl : ps.length = vs.length := Paired.length h2
  rw [List.length_map] at z
  refine ⟨a, ps, vs, rfl, e, ?_, fun p hp => ?_⟩
  · have : ∀ {ps : List Addr} {vs : List (Key × V)}, Paired (fun p kv => F p = some (.tup [kV kv.1, kv.2])) ps vs → Paired (fun p kv => SqT K H p [kV kv.1, kv.2]) ps vs := by
      intro ps vs h
      induction h with
      | nil => exact .nil
      | cons a b ih => exact .cons (SqT.of (R.fz _ _ a)) ih
    exact this h2
  · obtain ⟨m1, m2⟩ := merge_rel (acc := []) (accd := []) h3 h4 rfl .nil
    have := length_mergeK vs []
    simp only [List.length_nil, Nat.zero_add] at this
    exact k _ F _ (R.laid hp) (Same.refl _) ⟨p, rfl, R.loose_new hp, .inl ⟨_, upd_same, by omega, m1, m2⟩⟩
end
def isKs (kvs : List (PyData × PyData)) : Bool := kvs.all fun p => isK p.1
def pMaxV : PyData → Option (Bool × PyData)
  | .dict kvs => if isKs kvs = true then (intsOf (kvs.map Prod.snd)).bind fun is => (match is with
    | i :: is => some (false, .int (is.foldl max i))
    | [] => none) else none
  | _ => none
def rMaxV : V → Hp → VK → Prop := fun x H Q => ∃ a kvs is, x = V.ref a ∧ H a = some (.dK kvs) ∧ kvs.map (·.2) = is.map V.int ∧ is ≠ [] ∧ ∀ m, m ∈ is → (∀ j ∈ is, j ≤ m) → Q (.int m) H
theorem fmax_le : ∀ (is : List Int) (i : Int), i ≤ is.foldl max i ∧ ∀ j ∈ is, j ≤ is.foldl max i
  | [], i => ⟨Int.le_refl _, fun _ h => by cases h⟩
  | x :: is, i => by
    obtain ⟨h1, h2⟩ := fmax_le is (max i x)
    rw [List.foldl_cons]
    refine ⟨by omega, fun j hj => ?_⟩
    rcases List.mem_cons.mp hj with rfl | hj
    · omega
    · exact h2 j hj
theorem fmax_mem : ∀ (is : List Int) (i : Int), is.foldl max i ∈ i :: is
  | [], i => by simp
  | x :: is, i => by
    have := fmax_mem is (max i x)
    rw [List.foldl_cons]
    rcases List.mem_cons.mp this with h | h
    · rw [h]
      rcases Int.le_total i x with z | z
      · rw [Int.max_eq_right z]; simp
      · rw [Int.max_eq_left z]; simp
    · simp [h]
section
variable {K : PySem.W.Frag} {F H : Hp}
theorem mutK {a : Addr} {kvs : List (PyData × PyData)} (m : MutAt K F H a (.dict kvs)) (hk : isKs kvs = true) (hn : kvs ≠ []) : ∃ ps : List (Key × V), H a = some (.dK ps) ∧ ps.length ≤ sizeLine ∧ kvs.map Prod.fst = ps.map (fun p => kD p.1) ∧ RpA K F (ps.map Prod.snd) (kvs.map Prod.snd) := by
  rcases m with m | ⟨ps, e, z, ek, r⟩
  · exact m
  · cases kvs with
    | nil => exact (hn rfl).elim
    | cons p kvs => cases ps with
      | nil => simp at ek
      | cons q ps =>
        simp only [List.map_cons, List.cons.injEq] at ek
        simp [isKs, ek.1, isK_T] at hk
theorem ok_maxV : Ok1 K rMaxV pMaxV := by
  intro Rf G ρ F σ H v d n d' Q R q h k
  cases d <;> simp only [pMaxV] at h <;> try cases h
  rename_i kvs
  split at h
  · rename_i hk
    simp only [Option.bind_eq_some_iff] at h
    obtain ⟨is, e1, h⟩ := h
    cases is with
    | nil => cases h
    | cons i is =>
      cases h
      obtain ⟨a, rfl, m⟩ := q
      have hn : kvs ≠ [] := fun z => by subst z; simp [intsOf] at e1
      obtain ⟨ps, e, _, _, r⟩ := mutK m hk hn
      refine ⟨a, ps, i :: is, rfl, e, rpa_ints r e1, by simp, fun m hm hle => ?_⟩
      obtain ⟨l1, l2⟩ := fmax_le is i
      have l3 := hle _ (fmax_mem is i)
      have l4 : m ≤ is.foldl max i := by
        rcases List.mem_cons.mp hm with rfl | hm
        · exact l1
        · exact l2 _ hm
      rw [show m = is.foldl max i by omega]
      exact k _ F H R (Same.refl _) (rr_val (.int _))
  · cases h
end
section
variable {X : Cx} {o : Expr} {p pos apos mpos : Pos} {td : TE}
theorem pe_maxVals (hc : X.calm = true) (hg : Gl X "max") (hm : X.mg "max" = none) (hd : PE X o td) (hbase : attributeBase o "values" X.env (eval o X.env) = eval o X.env := by rfl) (hline : (apos.endLine == mpos.line) = true := by rfl)
    (hse : starEach [Expr.Call (.Attribute o "values" apos) [] [] mpos] X.env = [(false, eval (Expr.Call (.Attribute o "values" apos) [] [] mpos) X.env)] := by rfl) :
    PE X (.Call (.Name "max" p) [.Call (.Attribute o "values" apos) [] [] mpos] [] pos) (fun σ H Q => td σ H fun x H1 => rMaxV x H1 Q) := by
  refine ⟨fun pins s σ H Q I h => ?_⟩
  refine wpAny_Call_Name_kw (ld_blt I hg hm (u := .builtin "max") (by first | rfl | decide +kernel) ?_ (by first | decide +kernel | decide) (by first | decide +kernel | decide))
  rw [hse]
  refine PySem.callWith_builtin1 (wpAny_Call_method0_late hbase hline (thn (hd.run pins s σ H _ I h) fun v s1 ⟨x, H1, I1, r1, a, kvs, is, ex, ha, hv, hne, q⟩ => ?_))
  subst ex
  obtain rfl : v = Value.ref a := r1
  obtain ⟨_, hsys, vs, rel, dof⟩ := dk_of I1.hok ha
  obtain ⟨ep, dat⟩ := dof.dictAt
  have dat' := dat
  obtain ⟨ob, es, ho, ex, hdat, hko, hpr, hnd⟩ := dat'
  refine ⟨"dict", "dict.values", F.plainAttrs_dict, F.slot_dict_values, F.type_dict_values, ⟨ob, ho, ex.1⟩, fun b e => ?_, Calls.callWith_builtin rfl (PySem.evalArgs_none ?_)⟩
  · cases e
    exact ⟨ob, ho, ex.2.1⟩
  refine call_meetsIn F.slot_dict_values ⟨ob, ho, ex.1⟩ F.entry_dict_values (F.args_dict_values_1 _) (meets_dict_values (mixKind X.prog X.w) a hsys) ⟨⟨vs, dof⟩, ?_⟩
  have k1 : ∀ b u, s1.heap.get? b = some u → (s1.heap.push { cls := .type "dict_values", data := .fields #[.ref a] }).get? b = some u := fun b u e => Heap.get?_push_of_some _ e
  have dat1 : (s1.heap.push { cls := .type "dict_values", data := .fields #[.ref a] }).DictAt (mixKind X.prog X.w) a vs ep := dat.keep k1
  have hlv : vs.length = is.length := by
    have e1 := congrArg List.length hv
    rw [List.length_map, List.length_map] at e1
    rw [← e1]
    exact (KV.length rel).symm
  have hlen : 0 < vs.length := by
    rw [hlv]
    exact List.length_pos_iff.mpr hne
  have hval : ∀ (i : Nat) (v : Value), (∃ k, vs[i]? = some (k, v)) → ∃ t, v = Value.int (is.getD i 0) t := fun i v ⟨k, hk⟩ => by
    obtain ⟨x, h1, h2⟩ := KV.at' rel hk
    have e1 : (kvs.map (·.2))[i]? = some x := by rw [List.getElem?_map, h1] <;> rfl
    rw [hv, List.getElem?_map] at e1
    obtain ⟨j, hj, e2⟩ := Option.map_eq_some_iff.mp e1
    subst e2
    obtain ⟨t, e3⟩ := h2
    refine ⟨t, ?_⟩
    rw [e3, List.getD_eq_getElem?_getD, hj] <;> rfl
  refine call_max_walk (wpAny_pyIter_values (v := s1.heap.objs.size) (d := a) ⟨_, Heap.get?_push_size _ rfl, rfl, rfl⟩ dat1 ?_)
  have hlt : a < s1.heap.objs.size := Heap.lt_size ho
  have hsz : (s1.heap.push { cls := .type "dict_values", data := .fields #[.ref a] }).objs.size = s1.heap.objs.size + 1 := Heap.size_push _ _
  refine ⟨_, _, _, _, _, _, _, rfl, Walks.dictValues (knd := mixKind X.prog X.w) (A := X.A.in1) (I.ok.hd hc) (s1.heap.push { cls := .type "dict_values", data := .fields #[.ref a] }).objs.size a (by rw [hsz]; exact Nat.ne_of_lt (Nat.lt_succ_of_lt hlt)) vs ep,
    ⟨⟨_, Heap.get?_push_size _ rfl, rfl, rfl⟩, dat1.keep fun b u e => Heap.get?_push_of_some _ e⟩, fun b hb => ?_, hlen, CmpOf.ints_gt (fun i => is.getD i 0) hval, fun v h' tk hP hk => ?_⟩
  · show b < ((s1.heap.push _).push _).objs.size
    rw [Heap.size_push, Heap.size_push]
    rw [hsz] at hb
    rcases List.mem_cons.mp hb with e | hb
    · rw [e]
      exact Nat.lt_succ_self _
    · have e : b = a := List.mem_singleton.mp hb
      rw [e]
      exact Nat.lt_succ_of_lt (Nat.lt_succ_of_lt hlt)
  · obtain ⟨t, rfl⟩ := hval _ v hP
    obtain ⟨b1, b2⟩ := argBest_gt (fun i => is.getD i 0) (vs.length - 1)
    refine ⟨.int _, H1, I1.kept (t' := tk) fun b u e => hk b u (fun hmem => ?_) (Heap.get?_push_of_some _ (k1 b u e)), ⟨t, rfl⟩, q _ ?_ fun j hj => ?_⟩
    · have e1 : b = (s1.heap.push { cls := .type "dict_values", data := .fields #[.ref a] }).objs.size := List.mem_singleton.mp hmem
      have e2 := Heap.lt_size e
      rw [hsz] at e1
      rw [e1] at e2
      exact absurd e2 (Nat.not_lt.mpr (Nat.le_succ _))
    · have hb : argBest (fun i j => decide (is.getD i 0 > is.getD j 0)) (vs.length - 1) < is.length := by omega
      rw [List.getD_eq_getElem?_getD, List.getElem?_eq_getElem hb]
      exact List.getElem_mem hb
    · obtain ⟨i, hi, e⟩ := List.mem_iff_getElem.mp hj
      have e2 : is.getD i 0 = j := by rw [List.getD_eq_getElem?_getD, List.getElem?_eq_getElem hi, ← e] <;> rfl
      rw [← e2]
      exact b2 i (by omega)
variable {Φ : Fns} {bf : Nat → Option Nat} {x : Z.X}
theorem ce_maxV (hc : X.calm = true) (hg : Gl X "max") (hm : X.mg "max" = none) (ho : CE X Φ bf o x) (hbase : attributeBase o "values" X.env (eval o X.env) = eval o X.env := by rfl) (hline : (apos.endLine == mpos.line) = true := by rfl)
    (hse : starEach [Expr.Call (.Attribute o "values" apos) [] [] mpos] X.env = [(false, eval (Expr.Call (.Attribute o "values" apos) [] [] mpos) X.env)] := by rfl) :
    CE X Φ bf (.Call (.Name "max" p) [.Call (.Attribute o "values" apos) [] [] mpos] [] pos) (.op1 pMaxV x) := ce1 ok_maxV (fun _ h => pe_maxVals hc hg hm h hbase hline hse) ho
end
def rSortK : List V → Hp → VK → Prop := fun xs H Q => ∃ (a : Addr) (kvs : List (Key × V)) (is : List Int), xs = [.ref a] ∧ H a = some (.dK kvs) ∧ kvs.map (·.1) = is.map Sum.inl ∧
  ∀ p, H p = none → Q (.ref p) (L2.upd H p (.lst ((is.mergeSort (PySem.W.dataLe false PyData.int)).map V.int)))
def pSortK : PyData → Option (Bool × PyData)
  | .dict kvs => (intsOf (kvs.map Prod.fst)).bind fun is => if is = [] then none else some (true, .list ((is.map PyData.int).mergeSort leD))
  | _ => none
theorem each_of {α β : Type} {R : α → β → Prop} : ∀ {as : List α} {bs : List β}, as.length = bs.length → (∀ (j : Nat) (a : α) (b : β), as[j]? = some a → bs[j]? = some b → R a b) → PySem.W.EachIs R as bs
  | [], [], _, _ => .nil
  | [], _ :: _, h, _ => by simp at h
  | _ :: _, [], h, _ => by simp at h
  | a :: as, b :: bs, h, q => .cons (q 0 a b rfl rfl) (each_of (by simpa using h) fun j x y h1 h2 => q (j + 1) x y (by simpa using h1) (by simpa using h2))
theorem each_ints : ∀ {out : List Value} {bs : List Int}, PySem.W.EachIs (fun v b => RelV (.int b) v) out bs → Vals (bs.map V.int) out
  | _, _, .nil => .nil
  | _, _, .cons a b => .cons a (each_ints b)
section
variable {K : PySem.W.Frag} {F H : Hp}
theorem cr_sortK {X : Cx} (hc : X.calm = true) (hu : X.A.units + 64 < cLine) : CallR X (.builtin "sorted") rSortK := by
  intro pins s σ H vs us Q I r h
  obtain ⟨a, kvs, is, rfl, ha, hk, q⟩ := h
  rw [Vals.ref1 r]
  obtain ⟨hz, hsys, es, rel, dof⟩ := dk_of I.hok ha
  obtain ⟨ep, hat⟩ := dof.dictAt
  have hh := I.ok.hd hc
  have l1 : kvs.length = es.length := KV.length rel
  have l2 : kvs.length = is.length := by
    have := congrArg List.length hk
    simpa using this
  refine PySem.Calls.call_function_entry PyProof.Rows.kind_sorted PyProof.Rows.plain_sorted PyProof.Rows.entry_sorted (PyProof.Rows.args_sorted1 _) ?_
  unfold Builtin.«sorted»
  refine wpAny_bind (m := checkCount "sorted" 1 1 _) (wpAny_pure ?_)
  refine wpAny_bind (PySem.W.kdu_collect (A := X.A.in1) (PySem.W.kdl_dict (knd := mixKind X.prog X.w) (kvs := es) (ep := ep) hsys) hh hat (by omega) fun h' tk acc hkeep hacc => ?_)
  have hl : acc.toList.length = is.length := by rw [Array.length_toList, hacc.1]; omega
  refine wpAny_bind (wpAny_newList ?_ (by rw [hl]; omega))
  have I1 : Inv X pins σ H { s with heap := h', toks := tk } := I.kept hkeep
  have hkeep2 : ∀ b o, h'.get? b = some o → (h'.push (seqObj "list" acc.toList.toArray 0)).get? b = some o := fun b o e => Heap.get?_push_of_some _ e
  have hit : ∀ (j : Nat) (v : Value) (b : Int), acc.toList[j]? = some v → is[j]? = some b → RelV (.int b) v := fun j v b hj hb => by
    obtain ⟨k, x, e1, e2⟩ := hacc.2 j v (by rw [← Array.getElem?_toList]; exact hj)
    obtain ⟨y, h1, _⟩ := KV.at' rel e1
    have e3 : (kvs.map (·.1))[j]? = some k := by rw [List.getElem?_map, h1] <;> rfl
    rw [hk, List.getElem?_map, hb] at e3
    have e4 : Sum.inl b = k := Option.some.inj e3
    subst e4
    rcases keyIs_shape (k := Sum.inl b) (v := v) e2 with ⟨i, t, e5, e6⟩ | ⟨i, t, e5, e6⟩
    · cases e5; exact ⟨t, e6⟩
    · cases e5
  have hE := each_of (R := fun v b => RelV (.int b) v) hl hit
  have hg : wpAny (model X.prog X.w) X.A.in1 (call (.builtin "list.sort") [.ref h'.objs.size]) (fun _ s' => EP X pins σ Q (.ref h'.objs.size) s') X.xe { s with heap := h'.push (seqObj "list" acc.toList.toArray 0), toks := tk } := by
    refine PySem.W.list_sort_data (vs := acc.toList) (bs := is) (enc := PyData.int) (R := fun v b => RelV (.int b) v) (n := 0) (Heap.get?_push_size _ rfl) hE (hE.mono fun v b ⟨t, e⟩ => ⟨[], by subst e; exact .int _ _, by simp⟩) ?_ ?_ (by omega) (fun b _ => ?_) fun out hlen ho => ?_
    · intro d hd d' hd'
      obtain ⟨i, _, rfl⟩ := List.mem_map.mp hd
      obtain ⟨j, _, rfl⟩ := List.mem_map.mp hd'
      simp [PySem.W.alike]
    · refine .inr fun d hd => ?_
      obtain ⟨i, _, rfl⟩ := List.mem_map.mp hd
      exact ⟨(fun z => nomatch z), (fun xs z => nomatch z)⟩
    · simp only [PyData.depth]
      have : X.A.in1.units = X.A.units + 1 := rfl
      omega
    · have ho0 : (h'.push (seqObj "list" acc.toList.toArray 0)).get? h'.objs.size = some (seqObj "list" acc.toList.toArray 0) := Heap.get?_push_size _ rfl
      obtain ⟨ep', he'⟩ := PyProof.Rows.sortedHeap_at (out := out.toArray) ho0
      have hv := each_ints ho
      have hl2 : ((is.mergeSort (PySem.W.dataLe false PyData.int)).map V.int).length = is.length := by rw [List.length_map, List.length_mergeSort]
      have hz3 : is.length ≤ sizeLine := by omega
      refine ⟨.ref h'.objs.size, L2.upd H h'.objs.size (.lst ((is.mergeSort (PySem.W.dataLe false PyData.int)).map V.int)), I1.laid (t' := tk) (fun b o e => ?_) (Nat.le_refl _) ⟨by rw [hl2]; exact hz3, out, ep', hv, he'⟩, rfl, q _ (I1.hok.fresh (Nat.le_refl _))⟩
      have hlt := Heap.lt_size e
      have hlt2 : b < (h'.push (seqObj "list" acc.toList.toArray 0)).objs.size := Heap.lt_size (hkeep2 b o e)
      exact (PyProof.Rows.sortedHeap_old (Nat.ne_of_lt hlt) hlt2).trans (hkeep2 b o e)
  refine wpAny_bind (wpAny_holding (wpAny_mono hg (fun _ s' x => ?_) fun _ _ e => e))
  exact wpAny_pure ⟨_, rfl, x⟩
theorem ok_sortK : Ok1 K (r1 rSortK) pSortK := by
  intro Rf G ρ F σ H v d n d' Q R q h k
  cases d <;> simp only [pSortK] at h <;> try cases h
  rename_i kvs
  simp only [Option.bind_eq_some_iff] at h
  obtain ⟨is, e1, h⟩ := h
  split at h
  · cases h
  · rename_i hne
    cases h
    obtain ⟨a, rfl, m⟩ := q
    have key : ∀ {ds : List PyData} {is : List Int}, intsOf ds = some is → ds = is.map PyData.int := by
      intro ds
      induction ds with
      | nil => intro is h; simp [intsOf] at h; subst h; rfl
      | cons d ds ih =>
        intro is h
        cases d with
        | int i =>
          rw [intsOf, Option.bind_eq_some_iff] at h
          obtain ⟨js, h1, h2⟩ := h
          cases h2
          rw [ih h1]; rfl
        | _ => simp only [intsOf] at h; cases h
    have hks : isKs kvs = true := by
      have e2 := key e1
      unfold isKs
      rw [List.all_eq_true]
      intro p hp
      have : p.1 ∈ is.map PyData.int := by rw [← e2]; exact List.mem_map.mpr ⟨p, hp, rfl⟩
      obtain ⟨i, _, e3⟩ := List.mem_map.mp this
      rw [← e3]; rfl
    have hn : kvs ≠ [] := fun z => by subst z; simp [intsOf] at e1; exact hne e1
    obtain ⟨ps, e, z, ek, r⟩ := mutK m hks hn
    have hp1 : ps.map (·.1) = is.map Sum.inl := by
      have e2 : is.map PyData.int = ps.map (fun p => kD p.1) := by rw [← key e1]; exact ek
      have : ∀ {is : List Int} {ps : List (Key × V)}, is.map PyData.int = ps.map (fun p => kD p.1) → ps.map (·.1) = is.map Sum.inl := by
        intro is
        induction is with
        | nil => intro ps h; cases ps with
          | nil => rfl
          | cons _ _ => simp at h
        | cons i is ih => intro ps h; cases ps with
          | nil => simp at h
          | cons p ps =>
            simp only [List.map_cons, List.cons.injEq] at h
            rw [List.map_cons, List.map_cons, ih h.2]
            congr 1
            cases hp : p.1 with
            | inl j => rw [hp] at h; have := h.1; simp [kD] at this; rw [this]
            | inr j => rw [hp] at h; have := h.1; simp [kD] at this
      exact this e2
    refine ⟨a, ps, is, rfl, e, hp1, fun p hp => ?_⟩
    have hm : (is.mergeSort (PySem.W.dataLe false PyData.int)).map PyData.int = (is.map PyData.int).mergeSort leD := List.map_mergeSort (r := PySem.W.dataLe false PyData.int) (s := leD) (f := PyData.int) (fun a _ b _ => rfl)
    have ra : ∀ l : List Int, RpA K F (l.map V.int) (l.map PyData.int) := by
      intro l
      induction l with
      | nil => exact .nil
      | cons i l ih => exact .cons (.int i) ih
    have hl : is.length ≤ sizeLine := by
      have := congrArg List.length hp1
      simp at this; omega
    refine k _ F _ (R.laid hp) (Same.refl _) ⟨p, rfl, R.loose_new hp, ⟨_, upd_same, by rw [List.length_map, List.length_mergeSort]; exact hl, ?_⟩⟩
    rw [← hm]
    exact ra _
end
end L2.Z
namespace L2.Z
open PySem PySem.Spec PyProof.Rows
def rRepL (K : PySem.W.Frag) : R2 := fun x y H Q => ∃ a xs k, x = V.ref a ∧ y = V.int k ∧ SqL K H a xs ∧ 0 ≤ k ∧ k ≤ 100000 ∧ xs.length ≤ 100 ∧ ∀ p, H p = none → Q (.ref p) (L2.upd H p (.lst (List.replicate k.toNat xs).flatten))
section
variable {X : Cx}
theorem op_repL : OpR X (binaryOp .Mult) (rRepL X.K) := by
  intro pins s σ H x y v u Q I rx ry h
  obtain ⟨a, xs, k, rfl, rfl, hs, k0, k1, hl, q⟩ := h
  obtain rfl : v = Value.ref a := rx
  obtain ⟨t, rfl⟩ := ry
  obtain ⟨its, rv, ⟨⟨cls, dd, data, sl⟩, n, ho, hc, hdn, hd⟩, hlen⟩ := I.list hs
  have hc1 : cls = Value.type "list" := hc
  have hd1 : data = Data.seq its.toArray n := hd
  subst hc1 hd1
  have hi : its.length = xs.length := rv.length.symm
  have hm : its.toArray.size * k.toNat ≤ 100 * 100000 := by
    rw [List.size_toArray]
    exact Nat.mul_le_mul (by omega) (by omega)
  have hsl := sizeLine_eq
  have hfit : ¬ (!Builtin.List.listFitsIndex k) = true := by
    rw [fitsIndex_both (by omega) (by omega)]
    exact Bool.false_ne_true
  have flen : (List.replicate k.toNat its).flatten.length ≤ sizeLine := by
    rw [PyProof.Rows.lm_len_rep_flat]
    rw [List.size_toArray] at hm
    have := Nat.mul_comm k.toNat its.length
    omega
  refine wpAny_binaryOp_repeat_ref (T := "list") (U := "int") (by decide) ⟨_, ho, rfl⟩ (fun s' => typeIs_int s' k t) noFill_list_mul F.fills_int_mul F.slot_int_rmul repeat_list F.slot_int_index.lookup
    (call_meets F.slot_int_rmul (typeIs_int s k t) F.entry_int_rmul (F.args_int_rmul_2 _ _) (PySem.lm_int_rmul_list_any k t a its.toArray n dd sl)
      ⟨ho, rfl, ⟨_, ho, rfl⟩, call_meets F.slot_list_mul ⟨_, ho, rfl⟩ F.entry_list_mul (F.args_list_mul_2 _ _)
        (PySem.lm_list_mul_any a its.toArray n dd sl k t hfit (by omega) (by simp only [Builtin.List.listTooLong, decide_eq_true_eq]; omega))
        ⟨ho, ?_⟩⟩)
  have e : List.foldl (fun x1 x2 => x1 ++ x2) #[] (List.replicate (if its.toArray.isEmpty = true then 0 else k.toNat) its.toArray) = (List.replicate k.toNat its).flatten.toArray := by
    have f0 : ∀ m : Nat, List.foldl (fun x1 x2 => x1 ++ x2) #[] (List.replicate m its.toArray) = (List.replicate m its).flatten.toArray := fun m => by
      have := foldl_rep its m []
      rw [List.nil_append] at this
      exact this
    rw [f0]
    cases its with
    | nil => simp
    | cons a r' => rw [if_neg (by simp)]
  rw [e]
  refine ⟨.ref s.heap.objs.size, L2.upd H s.heap.objs.size (.lst (List.replicate k.toNat xs).flatten), I.laid (t' := s.toks) (fun b o e => Heap.get?_push_of_some _ e) (Nat.le_refl _) ⟨?_, _, 0, rv.rep k.toNat, Heap.get?_push_size _ rfl⟩, rfl, q _ (I.hok.fresh (Nat.le_refl _))⟩
  rw [PyProof.Rows.lm_len_rep_flat, ← hi]
  rw [PyProof.Rows.lm_len_rep_flat] at flen
  exact flen
theorem tuple_mul_one (l : Addr) (items : Array Value) (n : Nat) (dd : Option Addr) (sl : Array (Option Value)) (u : Tok) :
    Meets (Builtin.«tuple.__mul__» ⟨[.ref l, .int 1 u], []⟩) (fun _ R s => s.heap.get? l = some { cls := .type "tuple", dict := dd, data := .seq items n, slots := sl } ∧ R (.ok (.ret (Value.ref l))) s) :=
  .of_wp fun prog w A R s h => by
    obtain ⟨hp, g, d, tk, os⟩ := s
    obtain ⟨hl, h⟩ := h
    have f1 := AutoSeq1.idx_int
    wp_walk using wpAny_loadPart' hl
    exact ⟨_, rfl, h⟩
theorem tuple_mul_none (l : Addr) (items : Array Value) (n : Nat) (dd : Option Addr) (sl : Array (Option Value)) (u : Tok) (c1 : items.isEmpty = false) :
    Meets (Builtin.«tuple.__mul__» ⟨[.ref l, .int 0 u], []⟩) (fun _ R s => s.heap.get? l = some { cls := .type "tuple", dict := dd, data := .seq items n, slots := sl } ∧
      R (.ok (.ret (Value.ref s.heap.objs.size))) { s with heap := s.heap.push { cls := Value.type "tuple", data := Data.seq #[] }, toks := s.toks }) :=
  .of_wp fun prog w A R s h => by
    obtain ⟨hp, g, d, tk, os⟩ := s
    obtain ⟨hl, h⟩ := h
    have f1 := AutoSeq1.idx_int
    wp_walk using wpAny_loadPart' hl
    repeat (first
      | (refine wpAny_ite_false (decide_eq_false (by rw [c1]; exact Bool.false_ne_true)) ?_; wp_walk using wpAny_loadPart' hl))
    exact ⟨_, rfl, h⟩
def rRepTZ (K : PySem.W.Frag) : R2 := fun x y H Q => ∃ l k xs, x = V.ref l ∧ y = V.int k ∧ SqT K H l xs ∧ xs ≠ [] ∧ 0 ≤ k ∧ k ≤ 1000 ∧ xs.length ≤ 1000 ∧ (k = 1 → Q (.ref l) H) ∧ (k ≠ 1 → ∀ p, H p = none → Q (.ref p) (L2.upd H p (.tup (List.replicate k.toNat xs).flatten)))
theorem op_repTZ : OpR X (binaryOp .Mult) (rRepTZ X.K) := by
  intro pins s σ H x y v u Q I rx ry h
  obtain ⟨l, k, xs, rfl, rfl, hT, hne, h1, h2, hz, q1, q2⟩ := h
  by_cases c : 2 ≤ k
  · exact op_repT pins s σ H _ _ v u Q I rx ry ⟨l, k, xs, rfl, rfl, hT, hne, c, h2, hz, q2 (by omega)⟩
  · cases rx
    obtain ⟨t, rfl⟩ := ry
    obtain ⟨its, r, ⟨⟨cls, dd, data, sl⟩, ho, hc, n, hd⟩, hs⟩ := I.tuple hT
    simp only at hc hd
    subst hc hd
    have hle : its.length = xs.length := r.length.symm
    have hn : its ≠ [] := fun e => hne (by
      rw [e] at hle
      exact List.eq_nil_of_length_eq_zero hle.symm)
    have hi : its.toArray.isEmpty = false := by
      cases its with
      | nil => exact absurd rfl hn
      | cons a b => rfl
    rcases (show k = 0 ∨ k = 1 by omega) with rfl | rfl
    · refine wpAny_binaryOp_repeat_ref (T := "tuple") (U := "int") (by decide) ⟨_, ho, rfl⟩ (fun s' => typeIs_int s' 0 t) noFill_tuple_mul F.fills_int_mul F.slot_int_rmul repeat_tuple F.slot_int_index.lookup
        (call_meets F.slot_int_rmul (typeIs_int s 0 t) F.entry_int_rmul (F.args_int_rmul_2 _ _) (int_rmul_tuple 0 t l its.toArray n dd sl)
          ⟨ho, rfl, ⟨_, ho, rfl⟩, call_meets F.slot_tuple_mul ⟨_, ho, rfl⟩ F.entry_tuple_mul (F.args_tuple_mul_2 _ _) (tuple_mul_none l its.toArray n dd sl t hi) ⟨ho, ?_⟩⟩)
      refine ⟨.ref s.heap.objs.size, _, I.laid (t' := s.toks) (o := .tup (List.replicate (0 : Int).toNat xs).flatten) (fun b ob q => Heap.get?_push_of_some _ q) (Nat.le_refl _) ?_, rfl, q2 (by omega) _ (I.hok.fresh (Nat.le_refl _))⟩
      exact ⟨by simp, [], .nil, IsTup.new _ _⟩
    · refine wpAny_binaryOp_repeat_ref (T := "tuple") (U := "int") (by decide) ⟨_, ho, rfl⟩ (fun s' => typeIs_int s' 1 t) noFill_tuple_mul F.fills_int_mul F.slot_int_rmul repeat_tuple F.slot_int_index.lookup
        (call_meets F.slot_int_rmul (typeIs_int s 1 t) F.entry_int_rmul (F.args_int_rmul_2 _ _) (int_rmul_tuple 1 t l its.toArray n dd sl)
          ⟨ho, rfl, ⟨_, ho, rfl⟩, call_meets F.slot_tuple_mul ⟨_, ho, rfl⟩ F.entry_tuple_mul (F.args_tuple_mul_2 _ _) (tuple_mul_one l its.toArray n dd sl t) ⟨ho, ?_⟩⟩)
      exact ⟨.ref l, H, I, rfl, q1 rfl⟩
theorem op_mulS : OpR X (binaryOp .Mult) (fun x y H Q => rRepL X.K x y H Q ∨ rRepTZ X.K x y H Q) := OpR.or op_repL op_repTZ
end
def rep (k : Int) (ds : List PyData) : List PyData := (List.replicate k.toNat ds).flatten
def pMulS : PyData → PyData → Option (Bool × PyData)
  | .list ds, .int k => if 0 ≤ k ∧ k ≤ 100000 ∧ ds.length ≤ 100 then some (true, .list (rep k ds)) else none
  | .tuple ds, .int k => if ds.isEmpty = false ∧ 0 ≤ k ∧ k ≤ 1000 ∧ ds.length ≤ 1000 then some (false, .tuple (rep k ds)) else none
  | _, _ => none
section
variable {K : PySem.W.Frag}
theorem RpA.rep {F : Hp} {xs : List V} {ds : List PyData} (r : RpA K F xs ds) : ∀ n : Nat, RpA K F (List.replicate n xs).flatten (List.replicate n ds).flatten
  | 0 => .nil
  | n + 1 => by
    rw [List.replicate_succ, List.replicate_succ, List.flatten_cons, List.flatten_cons]
    exact r.append (RpA.rep r n)
theorem ok_mulS : Ok2 K (fun x y H Q => rRepL K x y H Q ∨ rRepTZ K x y H Q) pMulS := by
  intro Rf G ρ F σ H v w d e n d' Q R q1 q2 h k
  cases d <;> cases e <;> simp only [pMulS] at h <;> try cases h
  · rename_i ds i
    split at h
    · rename_i hz
      cases h
      obtain ⟨a, xs, rfl, e1, z1, r1⟩ := q1
      cases q2
      refine .inl ⟨a, xs, i, rfl, rfl, e1, hz.1, hz.2.1, by rw [r1.length]; exact hz.2.2, fun p hp => ?_⟩
      have hl : (List.replicate i.toNat xs).flatten.length ≤ sizeLine := by
        rw [PyProof.Rows.lm_len_rep_flat, r1.length, sizeLine_eq]
        have : i.toNat * ds.length ≤ 100000 * 100 := Nat.mul_le_mul (by omega) hz.2.2
        omega
      exact k _ F _ (R.laid hp) (Same.refl _) ⟨p, rfl, R.loose_new hp, ⟨_, upd_same, hl, r1.rep _⟩⟩
    · cases h
  · rename_i ds i
    split at h
    · rename_i hz
      cases h
      obtain ⟨a, xs, rfl, e1, z1, r1⟩ := q1
      cases q2
      obtain ⟨z2, z3, z4, z5⟩ := hz
      refine .inr ⟨a, i, xs, rfl, rfl, SqT.of (R.fz _ _ e1), fun hx => ?_, z3, z4, by rw [r1.length]; exact z5, fun h1 => ?_, fun _ p hp => ?_⟩
      · subst hx
        have := rpa_nil r1
        subst this
        cases z2
      · subst h1
        have e : Z.rep 1 ds = ds := by simp [Z.rep]
        rw [e] at k
        exact k _ F _ R (Same.refl _) (rr_val (.tup e1 z1 r1))
      · have hl : (List.replicate i.toNat xs).flatten.length ≤ sizeLine := by
          rw [PyProof.Rows.lm_len_rep_flat, r1.length, sizeLine_eq]
          have : i.toNat * ds.length ≤ 1000 * 1000 := Nat.mul_le_mul (by omega) z5
          omega
        obtain ⟨F2, R2, s2, q2⟩ := R.newTup hp hl (r1.rep _)
        exact k _ F2 _ R2 s2 q2
    · cases h
end
end L2.Z
namespace L2.Z
open PySem PySem.Spec PyProof.Rows
section
variable {prog : Program} {w : World} {A : Around} {E : Value → Shared → Prop} {s : Shared}
end
section
variable {K : PySem.W.Frag} {F H : Hp}
end
end L2.Z
namespace L2.Z
open PySem PySem.Spec PyProof.Rows
section
variable {prog : Program} {w : World} {A : Around} {E : Value → Shared → Prop} {s : Shared}
end
section
variable {X : Cx} {e st : Expr} {te ts : TE} {pos p2 : Pos}
end
section
variable {K : PySem.W.Frag}
end
section
variable {X : Cx} {Φ : Fns} {bf : Nat → Option Nat} {a b : Expr} {x y : Z.X} {pos p2 : Pos}
end
end L2.Z
namespace L2.Z
open PySem PySem.Spec PyProof.Rows
@[simp] theorem z_frz {Φ : Fns} {bf : Nat → Option Nat} {ρ : Ev} {i : Nat} {x : X} : ev Φ bf (.frz i x) ρ = ev Φ bf x (frzE i ρ) := by simp only [ev]
section
variable {X : Cx} {Φ : Fns} {bf : Nat → Option Nat} {e : Expr} {x : Z.X}
end
end L2.Z
namespace L2.Z
open PySem PySem.Spec PyProof.Rows L2
section
variable {P : Program} {w : World} {A : Around} {E : Value → Shared → Prop} {s : Shared}
end
section
variable {X : Cx} {a : Expr} {p p2 q pos : Pos} {ta : TE}
end
def srtI (ns : List Int) : List Int := ns.eraseDups.mergeSort fun a b => decide (a ≤ b)
section
variable {K : PySem.W.Frag}
end
section
variable {X : Cx} {a : Expr} {p p2 q pos : Pos} {Φ : Fns} {bf : Nat → Option Nat} {x : Z.X}
end
end L2.Z
namespace L2.Z
open PySem PySem.Spec PyProof.Rows
open PySem.W (EachIs KdlSrc)
section
variable {prog : Program} {w : World} {A : Around} {E : Value → Shared → Prop} {s : Shared}
end
section
variable {prog : Program} {w : World} {A : Around} {E : Value → Shared → Prop} {s : Shared}
end
section
variable {prog : Program} {w : World} {A : Around} {E : Value → Shared → Prop} {s : Shared} {β : Type} {vs : List Value} {bs : List β} {enc : β → PyData} {R : Value → β → Prop}
end
mutual
theorem reads_kD {h : Heap} : ∀ {ks : List Key} {vs : List Value} {as : List Addr}, ReadsAll h vs (ks.map kD) as → as = []
  | [], _, _, r => by cases r; rfl
  | k :: ks, _, _, r => by
    cases r with
    | cons r1 r2 =>
      rw [reads_kD r2]
      cases k <;> (cases r1; rfl)
end
section
variable {K : PySem.W.Frag} {Rf : Nat → Option Addr} {G F H : Hp} {ρ : Ev} {σ : St}
end
section
variable {X : Cx} {Φ : Fns} {bf : Nat → Option Nat}
theorem SR.put {K : PySem.W.Frag} {Rf : Nat → Option Addr} {G F H : Hp} {ρ : Ev} {σ : St} (R : SR K Rf G ρ F σ H) {p : Addr} {u : HO} (l : Loose G ρ F σ p) : SR K Rf G ρ F σ (upd H p u) := by
  obtain ⟨l1, l2, l3⟩ := l
  have hb : ∀ i b, MutI ρ i → σ[i]? = some (some (.ref b)) → b ≠ p := fun i b mi ei z => l3 i mi (z ▸ ei)
  have hg : ∀ b o, G b = some o → b ≠ p := fun b o e z => by rw [z, l2] at e; cases e
  refine ⟨R.len, fun b x e => ?_, fun i t e => (R.sl i t e).mono (Same.refl _) (fun b mi ei => ⟨(R.mutNone ⟨t, e, mi⟩ ei).1, upd_ne (hb i b ⟨t, e, mi⟩ ei)⟩) (fun b o e => upd_ne (hg b o e)), R.dis, R.gm, fun b o e => ⟨by rw [upd_ne (hg b o e)]; exact (R.gs b o e).1, (R.gs b o e).2⟩, R.rf, R.gt⟩
  rw [upd_ne (fun z => by rw [z, l1] at e; cases e)]
  exact R.fz b x e
end
section
variable {X : Cx} {Φ : Fns} {bf : Nat → Option Nat} {k v : Expr} {x y : Z.X} {pos : Pos}
end
end L2.Z
namespace L2.Z
open PySem PySem.Spec PyProof.Rows L2
section
variable {X : Cx} {pins : List (Addr × Obj)} {σ : St} {H : Hp} {s : Shared}
end
section
variable {X : Cx} {a : Expr} {p p2 q pos : Pos} {ta : TE}
end
section
variable {K : PySem.W.Frag}
end
section
variable {X : Cx} {a : Expr} {p p2 q pos : Pos} {Φ : Fns} {bf : Nat → Option Nat} {x : Z.X}
end
end L2.Z
namespace L2.Z
open PySem PySem.Spec PyProof.Rows
open PySem.W (EachIs KdlSrc)
section
variable {K : PySem.W.Frag}
end
section
variable {prog : Program} {w : World} {A : Around} {E : Value → Shared → Prop} {s : Shared} {β : Type} {vs : List Value} {bs : List β} {enc : β → PyData} {R : Value → β → Prop}
end
section
variable {K : PySem.W.Frag}
end
end L2.Z
namespace L2.Z
open PySem PySem.Spec PyProof.Rows
section
variable {prog : Program} {w : World} {A : Around} {E : Value → Shared → Prop} {s : Shared}
end
section
variable {X : Cx} {pins : List (Addr × Obj)} {σ : St} {H : Hp} {s : Shared} {a : Addr}
end
section
variable {K : PySem.W.Frag}
end
end L2.Z
namespace L2.Z
open PySem PySem.Spec PyProof.Rows
section
variable {K : PySem.W.Frag}
def pIsB : PyData → PyData → Option (Bool × PyData)
  | .bool a, .bool b => some (false, .bool (decide (a = b)))
  | _, _ => none
def pNotB : PyData → PyData → Option (Bool × PyData)
  | .bool a, .bool b => some (false, .bool (!decide (a = b)))
  | _, _ => none
end
@[simp] theorem p_isB (a b : Bool) : pIsB (.bool a) (.bool b) = some (false, .bool (decide (a = b))) := rfl
@[simp] theorem p_notB (a b : Bool) : pNotB (.bool a) (.bool b) = some (false, .bool (!decide (a = b))) := rfl
end L2.Z
namespace L2.Z
open PySem
end L2.Z
namespace L2.Z
open PySem
section
variable {Φ : Fns} {bf : Nat → Option Nat} {ρ : Ev}
@[simp] theorem z_tups {as : Xs} : ev Φ bf (.tups as) ρ = (evv Φ bf as ρ).bind fun p => if p.1.length ≤ sizeLine then some (.val (.tuple p.1), p.2) else none := by simp only [ev]
@[simp] theorem z_lsts {as : Xs} : ev Φ bf (.lsts as) ρ = (evv Φ bf as ρ).bind fun p => if p.1.length ≤ sizeLine then some (.new (.list p.1), p.2) else none := by simp only [ev]
def seqOf : Option PyData → Option (List PyData)
  | some (.list ds) | some (.tuple ds) => some ds
  | _ => none
@[simp] theorem sq_l {ds} : seqOf (some (.list ds)) = some ds := rfl
@[simp] theorem sq_t {ds} : seqOf (some (.tuple ds)) = some ds := rfl
@[simp] theorem z_v2 {x : X} {r : Xs} : evv Φ bf (.star x r) ρ = (ev Φ bf x ρ).bind fun p => (seqOf (p.1.get p.2)).bind fun ds => (evv Φ bf r p.2).bind fun q => some (ds ++ q.1, q.2) := by
  simp only [evv]
  congr 1
  funext p
  cases p.1.get p.2 with
  | none => rfl
  | some d => cases d <;> rfl
end
theorem lcLoop_map {α : Type} {own : List Nat} {t : Tg} {c : Ev → Option (Bool × Ev)} {e : Ev → Option (PyData × Ev)} {ρ : Ev} {enc : α → PyData} {p : α → Bool} {f : α → PyData} :
    ∀ (xs : List α) (acc : List PyData), (∀ x ∈ xs, (t.bind (enc x) ρ).bind (fun ρ => (c ρ).bind fun q => match q.1 with
      | true => (e q.2).bind fun r => (wipeE own r.2).bind fun ρ => some (some r.1, ρ)
      | false => (wipeE own q.2).bind fun ρ => some (none, ρ)) = some (if p x then some (f x) else none, ρ)) →
    lcLoop own t c e (xs.map enc) acc ρ = some (acc ++ (xs.filter p).map f, ρ)
  | [], acc, _ => by simp [lcLoop]
  | x :: xs, acc, h => by
    have h0 := h x (by simp)
    have ih := fun a => lcLoop_map (f := f) xs a fun y hy => h y (by simp [hy])
    rw [List.map_cons, lcLoop]
    simp only [Option.bind_eq_some_iff] at h0
    obtain ⟨ρ1, e1, ⟨b, ρ2⟩, e2, h0⟩ := h0
    rw [e1, Option.bind_some, e2, Option.bind_some]
    cases b with
    | true =>
      simp only [Option.bind_eq_some_iff] at h0
      obtain ⟨⟨d, ρ3⟩, e3, ρ4, e4, h0⟩ := h0
      simp only [Option.some.injEq, Prod.mk.injEq] at h0
      obtain ⟨h1, h2⟩ := h0
      simp only [e3, e4, Option.bind_some]
      rw [h2, ih]
      by_cases q : p x = true
      · rw [if_pos q] at h1
        cases h1
        rw [List.filter_cons_of_pos q, List.map_cons, List.append_assoc]; rfl
      · rw [if_neg q] at h1; cases h1
    | false =>
      simp only [Option.bind_eq_some_iff] at h0
      obtain ⟨ρ4, e4, h0⟩ := h0
      simp only [Option.some.injEq, Prod.mk.injEq] at h0
      obtain ⟨h1, h2⟩ := h0
      simp only [e4, Option.bind_some]
      rw [h2, ih]
      by_cases q : p x = true
      · rw [if_pos q] at h1; cases h1
      · rw [List.filter_cons_of_neg q]
section
variable {Φ : Fns} {bf : Nat → Option Nat} {M : Nat} {ρ ρ1 : Ev}
theorem lc_eval {α : Type} (enc : α → PyData) (xs : List α) (p : α → Bool) (f : α → PyData) {e : X} {t : Tg} {g : List PyData → Option (List PyData)} {as : Xs} {c : X} {own : List Nat} {rs : List Res} {ds : List PyData} (ρ1 : Ev)
    (h1 : evs Φ bf as ρ = some (rs, ρ)) (h2 : getAll ρ rs = some ds) (h3 : g ds = some (xs.map enc)) (h4 : wipeE own (lockAll rs ρ) = some ρ1)
    (h5 : ∀ x ∈ xs, (t.bind (enc x) ρ1).bind (fun ρ => (truth (ev Φ bf c) ρ).bind fun q => match q.1 with
      | true => (valof (ev Φ bf e) q.2).bind fun r => (wipeE own r.2).bind fun ρ => some (some r.1, ρ)
      | false => (wipeE own q.2).bind fun ρ => some (none, ρ)) = some (if p x then some (f x) else none, ρ1))
    (h6 : unlockAll rs ρ (backE (lockAll rs ρ) own ρ1) = some ρ) : ev Φ bf (.lc e t g as c own) ρ = some (.new (.list ((xs.filter p).map f)), ρ) := by
  simp only [ev, h1, h2, h3, h4, h6, Option.bind_some, lcLoop_map xs [] h5, List.nil_append]
end
end L2.Z
namespace L2.Z
open PySem
structure EncOk {α : Type} [DecidableEq α] (e : α → PyData) (k : Nat) : Prop where
  plain : ∀ a, (e a).plain = true
  depth : ∀ a, (e a).depth ≤ k
  eqv : ∀ a b, PyData.eqv (e a) (e b) = decide (a = b)
section
variable {α β : Type} [DecidableEq α] [DecidableEq β] {e : α → PyData} {e2 : β → PyData} {k j : Nat}
theorem EncOk.mono (h : EncOk e k) (q : k ≤ j) : EncOk e j := ⟨h.plain, fun a => Nat.le_trans (h.depth a) q, h.eqv⟩
theorem EncOk.int : EncOk PyData.int 0 := ⟨fun _ => by simp [PyData.plain], fun _ => by simp [PyData.depth], fun a b => by
  simp only [PyData.eqv]; by_cases h : a = b <;> simp [h]⟩
theorem EncOk.bool : EncOk PyData.bool 0 := ⟨fun _ => by simp [PyData.plain], fun _ => by simp [PyData.depth], fun a b => by
  simp only [PyData.eqv]; by_cases h : a = b <;> simp [h]⟩
theorem EncOk.nat : EncOk (fun n : Nat => PyData.int n) 0 := ⟨fun _ => by simp [PyData.plain], fun _ => by simp [PyData.depth], fun a b => by
  simp only [PyData.eqv]; by_cases h : a = b
  · simp [h]
  · have h' : ¬ ((a : Int) = (b : Int)) := by omega
    simp [h, h']⟩
theorem plainAll_map (h : EncOk e k) : ∀ l : List α, PyData.plainAll (l.map e) = true
  | [] => by simp [PyData.plainAll]
  | a :: l => by simp [PyData.plainAll, h.plain a, plainAll_map h l]
theorem depthAll_map (h : EncOk e k) : ∀ l : List α, PyData.depthAll (l.map e) ≤ k
  | [] => by simp [PyData.depthAll]
  | a :: l => by
    have h1 := h.depth a
    have h2 := depthAll_map h l
    simp only [List.map_cons, PyData.depthAll]
    omega
theorem eqvAll_map (h : EncOk e k) : ∀ l m : List α, PyData.eqvAll (l.map e) (m.map e) = decide (l = m)
  | [], [] => by simp [PyData.eqvAll]
  | [], b :: m => by simp [PyData.eqvAll]
  | a :: l, [] => by simp [PyData.eqvAll]
  | a :: l, b :: m => by
    simp only [List.map_cons, PyData.eqvAll, h.eqv, eqvAll_map h l m]
    by_cases q : a = b <;> by_cases r : l = m <;> simp [q, r]
theorem EncOk.tup (h : EncOk e k) : EncOk (fun l : List α => PyData.tuple (l.map e)) (k + 1) := ⟨fun l => by simp [PyData.plain, plainAll_map h], fun l => by
  have := depthAll_map h l
  simp only [PyData.depth]; omega, fun l m => by simp only [PyData.eqv, eqvAll_map h]⟩
theorem EncOk.lst (h : EncOk e k) : EncOk (fun l : List α => PyData.list (l.map e)) (k + 1) := ⟨fun l => by simp [PyData.plain, plainAll_map h], fun l => by
  have := depthAll_map h l
  simp only [PyData.depth]; omega, fun l m => by simp only [PyData.eqv, eqvAll_map h]⟩
theorem EncOk.pair (h : EncOk e k) (h2 : EncOk e2 k) : EncOk (fun p : α × β => PyData.tuple [e p.1, e2 p.2]) (k + 1) := ⟨fun p => by simp [PyData.plain, PyData.plainAll, h.plain, h2.plain], fun p => by
  have h3 := h.depth p.1
  have h4 := h2.depth p.2
  simp only [PyData.depth, PyData.depthAll]; omega, fun p q => by
  simp only [PyData.eqv, PyData.eqvAll, h.eqv, h2.eqv]
  obtain ⟨a, b⟩ := p; obtain ⟨c, d⟩ := q
  by_cases x : a = c <;> by_cases y : b = d <;> simp [x, y]⟩
theorem okEq_enc (h : EncOk e k) (hk : k ≤ 60) (a b : α) : okEq (e a) (e b) = true := by
  unfold okEq
  have := h.depth a
  simp only [h.plain, Bool.and_true, Bool.true_and, decide_eq_true_eq]
  omega
theorem pEq_enc (h : EncOk e k) (hk : k ≤ 60) (a b : α) : pEq (e a) (e b) = some (false, .bool (decide (a = b))) := by
  unfold pEq
  rw [if_pos (okEq_enc h hk a b), h.eqv]
theorem pNe_enc (h : EncOk e k) (hk : k ≤ 60) (a b : α) : pNe (e a) (e b) = some (false, .bool (!decide (a = b))) := by
  unfold pNe
  rw [if_pos (okEq_enc h hk a b), h.eqv]
theorem any_enc (h : EncOk e k) (a : α) : ∀ l : List α, (l.map e).any (fun y => PyData.eqv y (e a)) = decide (a ∈ l)
  | [] => by simp
  | b :: l => by
    simp only [List.map_cons, List.any_cons, h.eqv, any_enc h a l]
    by_cases q : b = a
    · subst q; simp
    · have : ¬ a = b := fun z => q z.symm
      simp [q, this]
theorem okIn_enc (h : EncOk e k) (hk : k ≤ 60) (a : α) (l : List α) : okIn (e a) (l.map e) = true := by
  have h1 := h.depth a
  exact okIn_iff.mpr ⟨h.plain a, plainAll_map h l, by omega⟩
theorem pIn_tup (h : EncOk e k) (hk : k ≤ 60) (a : α) (l : List α) : pIn (e a) (.tuple (l.map e)) = some (false, .bool (decide (a ∈ l))) := by
  simp only [pIn, itemsOf, Option.bind_some, if_pos (okIn_enc h hk a l), any_enc h]
theorem pIn_lst (h : EncOk e k) (hk : k ≤ 60) (a : α) (l : List α) : pIn (e a) (.list (l.map e)) = some (false, .bool (decide (a ∈ l))) := by
  simp only [pIn, itemsOf, Option.bind_some, if_pos (okIn_enc h hk a l), any_enc h]
theorem pNotIn_tup (h : EncOk e k) (hk : k ≤ 60) (a : α) (l : List α) : pNotIn (e a) (.tuple (l.map e)) = some (false, .bool (!decide (a ∈ l))) := by
  simp only [pNotIn, itemsOf, Option.bind_some, if_pos (okIn_enc h hk a l), any_enc h]
theorem pNotIn_lst (h : EncOk e k) (hk : k ≤ 60) (a : α) (l : List α) : pNotIn (e a) (.list (l.map e)) = some (false, .bool (!decide (a ∈ l))) := by
  simp only [pNotIn, itemsOf, Option.bind_some, if_pos (okIn_enc h hk a l), any_enc h]
end
abbrev eI (n : Nat) : PyData := .int (n : Int)
abbrev eT (l : List Nat) : PyData := .tuple (l.map eI)
abbrev eN (l : List Nat) : PyData := .list (l.map eI)
theorem ok_eI : EncOk eI 0 := EncOk.nat
theorem ok_eT : EncOk eT 1 := ok_eI.tup
theorem ok_eN : EncOk eN 1 := ok_eI.lst
@[simp] theorem in_T (a : Nat) (l : List Nat) : pIn (.int (a : Int)) (.tuple (l.map eI)) = some (false, .bool (decide (a ∈ l))) := pIn_tup ok_eI (by decide) a l
@[simp] theorem in_N (a : Nat) (l : List Nat) : pIn (.int (a : Int)) (.list (l.map eI)) = some (false, .bool (decide (a ∈ l))) := pIn_lst ok_eI (by decide) a l
@[simp] theorem notIn_T (a : Nat) (l : List Nat) : pNotIn (.int (a : Int)) (.tuple (l.map eI)) = some (false, .bool (!decide (a ∈ l))) := pNotIn_tup ok_eI (by decide) a l
@[simp] theorem notIn_N (a : Nat) (l : List Nat) : pNotIn (.int (a : Int)) (.list (l.map eI)) = some (false, .bool (!decide (a ∈ l))) := pNotIn_lst ok_eI (by decide) a l
@[simp] theorem eq_T (l m : List Nat) : pEq (.tuple (l.map eI)) (.tuple (m.map eI)) = some (false, .bool (decide (l = m))) := pEq_enc ok_eT (by decide) l m
@[simp] theorem eq_N (l m : List Nat) : pEq (.list (l.map eI)) (.list (m.map eI)) = some (false, .bool (decide (l = m))) := pEq_enc ok_eN (by decide) l m
@[simp] theorem ne_T (l m : List Nat) : pNe (.tuple (l.map eI)) (.tuple (m.map eI)) = some (false, .bool (!decide (l = m))) := pNe_enc ok_eT (by decide) l m
@[simp] theorem ne_N (l m : List Nat) : pNe (.list (l.map eI)) (.list (m.map eI)) = some (false, .bool (!decide (l = m))) := pNe_enc ok_eN (by decide) l m
theorem eq_N0 (l : List Nat) : pEq (.list (l.map eI)) (.list []) = some (false, .bool (decide (l = []))) := eq_N l []
theorem okSort_ints (l : List Int) : okSort (l.map .int) = true := by
  unfold okSort
  simp only [Bool.and_eq_true, Bool.or_eq_true, List.all_eq_true, List.mem_map, decide_eq_true_eq]
  refine ⟨⟨?_, .inr ?_⟩, ?_⟩
  · rintro _ ⟨a, _, rfl⟩ _ ⟨b, _, rfl⟩; simp [PySem.W.alike]
  · rintro _ ⟨a, _, rfl⟩; rfl
  · rintro _ ⟨a, _, rfl⟩; exact ⟨by simp [PyData.depth], by simp [PyData.plain]⟩
theorem leD_int (a b : Int) : leD (.int a) (.int b) = decide (a ≤ b) := by
  have h := congrFun (congrFun (PySem.W.dataLe_int (fun x : Int => x)) a) b
  exact h
def srt (l : List Nat) : List Nat := l.mergeSort (fun a b => decide (a ≤ b))
theorem sorted_N (l : List Nat) : pSorted (.list (l.map eI)) = some (true, .list ((srt l).map eI)) := by
  have e : l.map eI = (l.map (fun n : Nat => (n : Int))).map PyData.int := by rw [List.map_map]; rfl
  have ok : okSort (l.map eI) = true := by rw [e]; exact okSort_ints _
  simp only [pSorted, if_pos ok]
  rw [srt, List.map_mergeSort (r := fun a b : Nat => decide (a ≤ b)) (s := leD) (f := eI) (fun a _ b _ => by rw [leD_int]; simp)]
theorem srt_perm (l : List Nat) : (srt l).Perm l := List.mergeSort_perm l _
theorem mem_srt {a : Nat} {l : List Nat} : a ∈ srt l ↔ a ∈ l := (srt_perm l).mem_iff
theorem srt_sorted (l : List Nat) : (srt l).Pairwise (· ≤ ·) := by
  have := List.pairwise_mergeSort (le := fun a b : Nat => decide (a ≤ b)) (fun a b c h1 h2 => by simp at *; omega) (fun a b => by simp; omega) l
  exact this.imp fun h => by simpa using h
theorem srt_id {l : List Nat} (h : l.Pairwise (· ≤ ·)) : srt l = l := List.mergeSort_of_pairwise (h.imp fun q => by simpa using q)
theorem srt_congr {l m : List Nat} (h : l.Perm m) : srt l = srt m := by
  have h1 : (srt l).Perm (srt m) := (srt_perm l).trans (h.trans (srt_perm m).symm)
  exact h1.eq_of_pairwise (le := (· ≤ ·)) (fun a b _ _ x y => Nat.le_antisymm x y) (srt_sorted l) (srt_sorted m)
theorem srt_length (l : List Nat) : (srt l).length = l.length := (srt_perm l).length_eq
theorem gRange1_nat {n : Nat} (h : n ≤ 1000) : gRange1 [.int (n : Int)] = some ((List.range n).map eI) := by
  have : -(2 ^ 62) ≤ (n : Int) ∧ (n : Int) ≤ sizeLine := ⟨by omega, by have := sizeLine_eq; omega⟩
  simp only [gRange1, if_pos this, Int.toNat_natCast]
theorem cutD_from {α : Type} (xs : List α) (k : Nat) : cutD xs (some (k : Int)) none = xs.drop k := by
  simp only [cutD, HT.sIx_nat, HT.sIx_none]
  by_cases h : k ≤ xs.length
  · rw [Nat.min_eq_left h, List.take_of_length_le (by simp)]
  · rw [Nat.min_eq_right (by omega), List.drop_of_length_le (Nat.le_refl _), List.drop_of_length_le (by omega)]; simp
theorem cutD_to {α : Type} (xs : List α) (k : Nat) : cutD xs none (some (k : Int)) = xs.take k := by
  simp only [cutD, HT.sIx_nat, HT.sIx_none, List.drop_zero, Nat.sub_zero]
  by_cases h : k ≤ xs.length
  · rw [Nat.min_eq_left h]
  · rw [Nat.min_eq_right (by omega), List.take_of_length_le (Nat.le_refl _), List.take_of_length_le (by omega)]
def Jk (s : Slot) : Prop := s = .un ∨ (∃ d, s = .dat d) ∨ ∃ d, s = .own d
theorem Jk.un : Jk .un := .inl rfl
theorem Jk.dat (d : PyData) : Jk (.dat d) := .inr (.inl ⟨d, rfl⟩)
theorem Jk.own (d : PyData) : Jk (.own d) := .inr (.inr ⟨d, rfl⟩)
theorem Jk.asg {i : Nat} {s j : Slot} {ρ : Ev} (h : Jk j) (e : ρ[i]? = some j) : asg i s ρ = some (ρ.set i s) := by
  rcases h with rfl | ⟨d, rfl⟩ | ⟨d, rfl⟩ <;> simp [Z.asg, e]
def Jd (s : Slot) : Prop := s = .un ∨ ∃ d, s = .dat d
theorem Jd.un : Jd .un := .inl rfl
theorem Jd.dat (d : PyData) : Jd (.dat d) := .inr ⟨d, rfl⟩
theorem Jd.jk {s : Slot} (h : Jd s) : Jk s := h.elim .inl fun h => .inr (.inl h)
theorem sum2 (a b : Int) : pSumA (.tuple [.int a, .int b]) = some (false, .int (a + b)) := by
  simp [pSumA, itemsOf, intsOf]
theorem okMM_ints (l : List Int) : okMM (l.map .int) = true := by
  unfold okMM
  simp only [Bool.and_eq_true, List.all_eq_true, List.mem_map, decide_eq_true_eq]
  refine ⟨⟨⟨?_, ?_⟩, plainAll_map EncOk.int l⟩, Nat.le_trans (depthAll_map EncOk.int l) (by decide)⟩
  · rintro _ ⟨a, _, rfl⟩ _ ⟨b, _, rfl⟩; simp [PySem.W.alike]
  · rintro _ ⟨a, _, rfl⟩; rfl
theorem foldl_max : ∀ (l : List Int) (a : Int), l.foldl max a ∈ a :: l ∧ ∀ x ∈ a :: l, x ≤ l.foldl max a
  | [], a => by simp
  | b :: l, a => by
    obtain ⟨h1, h2⟩ := foldl_max l (max a b)
    rw [List.foldl_cons]
    have h3 := h2 (max a b) (by simp)
    constructor
    · rcases List.mem_cons.mp h1 with h | h
      · rw [h]
        rcases Int.le_total a b with q | q
        · rw [Int.max_eq_right q]; simp
        · rw [Int.max_eq_left q]; simp
      · simp [h]
    · intro x hx
      simp only [List.mem_cons] at hx
      rcases hx with rfl | rfl | hx
      · omega
      · omega
      · exact h2 x (by simp [hx])
theorem foldl_min : ∀ (l : List Int) (a : Int), l.foldl min a ∈ a :: l ∧ ∀ x ∈ a :: l, l.foldl min a ≤ x
  | [], a => by simp
  | b :: l, a => by
    obtain ⟨h1, h2⟩ := foldl_min l (min a b)
    rw [List.foldl_cons]
    have h3 := h2 (min a b) (by simp)
    constructor
    · rcases List.mem_cons.mp h1 with h | h
      · rw [h]
        rcases Int.le_total a b with q | q
        · rw [Int.min_eq_left q]; simp
        · rw [Int.min_eq_right q]; simp
      · simp [h]
    · intro x hx
      simp only [List.mem_cons] at hx
      rcases hx with rfl | rfl | hx
      · omega
      · omega
      · exact h2 x (by simp [hx])
end L2.Z
namespace L2.Z
open PySem
section
variable {Φ : Fns} {bf : Nat → Option Nat} {M : Nat}
theorem callBody_ref {b : Ss} {np ns : Nat} {ds : List PyData} {d c : PyData} {ρ : Ev} (hl : ds.length = np)
    (h : evSs Φ bf M b (slotsOf ds (conArg ds (some 0)) (some 0) ++ List.replicate (ns - np) .un) = some (.rt d ρ)) (hc : ρ[0]? = some (.ref c)) : callBody Φ bf M b np ns (some 0) ds = some (d, c) := by
  unfold callBody
  rw [if_pos hl, h]
  simp only [outOf, hc]
end
end L2.Z
namespace L2.Z
open PySem
end L2.Z
namespace L2.Z
open PySem
section
theorem dLt_irr (d : PyData) : PySem.W.dataLt d d = false := PyProof.Rows.lex_irrefl _
theorem dLt_tr {a b c : PyData} (h : PySem.W.dataLt a b = true) (h2 : PySem.W.dataLt b c = true) : PySem.W.dataLt a c = true := PyProof.Rows.lex_trans _ _ _ h h2
end
section
variable {α : Type} {e : α → PyData} {k : Nat}
structure EncLt (e : α → PyData) : Prop where
  like : ∀ a b, PySem.W.alike (e a) (e b) = true
  some : ∀ a, notNone (e a) = true
theorem okMM_enc [DecidableEq α] (h : EncOk e k) (hk : k < 60) (h2 : EncLt e) (xs : List α) : okMM (xs.map e) = true := by
  unfold okMM
  simp only [Bool.and_eq_true, List.all_eq_true, List.mem_map, decide_eq_true_eq]
  refine ⟨⟨⟨?_, ?_⟩, plainAll_map h xs⟩, Nat.le_trans (depthAll_map h xs) (by omega)⟩
  · rintro _ ⟨a, _, rfl⟩ _ ⟨b, _, rfl⟩; exact h2.like a b
  · rintro _ ⟨a, _, rfl⟩; exact h2.some a
theorem index_enc [DecidableEq α] (h : EncOk e k) (hk : k ≤ 60) {xs : List α} {a : α} (ha : a ∈ xs) : pIndexM (.list (xs.map e)) [e a] = some (false, .int ((xs.idxOf a : Nat) : Int)) := by
  have ok : okFind (e a) (xs.map e) = true := okFind_iff.mpr ⟨h.plain a, plainAll_map h xs, by have := h.depth a; omega⟩
  have : ∀ l : List α, a ∈ l → (l.map e).findIdx? (fun y => PyData.eqv y (e a)) = some (l.idxOf a) := by
    intro l
    induction l with
    | nil => intro h; cases h
    | cons b l ih =>
      intro hm
      rw [List.map_cons, List.findIdx?_cons, h.eqv, List.idxOf_cons]
      by_cases c : b = a
      · subst c; simp
      · have hl : a ∈ l := by
          rcases List.mem_cons.mp hm with z | z
          · exact absurd z.symm c
          · exact z
        have c' : (b == a) = false := by simpa using c
        simp [c, c', ih hl]
  simp only [pIndexM, pIndex, if_pos ok, this xs ha, Option.bind_some]
end
abbrev e2 (p : Int × Int) : PyData := .tuple [.int p.1, .int p.2]
abbrev e3 (p : Int × Int × Int) : PyData := .tuple [.int p.1, .int p.2.1, .int p.2.2]
end L2.Z
namespace L2.Z
end L2.Z
namespace L2.Z
open PySem
section
variable {α β : Type} [DecidableEq α]
def aGet (ps : List (α × β)) (a : α) : Option β := (ps.find? fun p => decide (p.1 = a)).map (·.2)
def aPut (ps : List (α × β)) (a : α) (b : β) : List (α × β) := if ps.any (fun p => decide (p.1 = a)) then ps.map (fun p => if p.1 = a then (p.1, b) else p) else ps ++ [(a, b)]
structure KEnc (ek : α → PyData) : Prop where
  eq : ∀ a b, keyEq (ek a) (ek b) = decide (a = b)
  kind : (∀ a, isK (ek a) = true) ∨ ∀ a, isT (ek a) = true
abbrev eKV (ek : α → PyData) (ev : β → PyData) (p : α × β) : PyData × PyData := (ek p.1, ev p.2)
abbrev eD (ek : α → PyData) (ev : β → PyData) (ps : List (α × β)) : PyData := .dict (ps.map (eKV ek ev))
variable {ek : α → PyData} {ev : β → PyData}
theorem KEnc.ok (h : KEnc ek) (ps : List (α × β)) (a : α) : keyOk (ps.map (eKV ek ev)) (ek a) = true := by
  cases ps with
  | nil =>
    simp only [List.map_nil, keyOk, Bool.or_eq_true]
    rcases h.kind with z | z
    · exact .inl (z a)
    · exact .inr (z a)
  | cons p ps =>
    simp only [List.map_cons, keyOk, Bool.or_eq_true, Bool.and_eq_true]
    rcases h.kind with z | z
    · exact .inl ⟨z a, z _⟩
    · exact .inr ⟨z a, z _⟩
theorem KEnc.find (h : KEnc ek) (a : α) : ∀ ps : List (α × β), dFind (ps.map (eKV ek ev)) (ek a) = (aGet ps a).map ev
  | [] => rfl
  | p :: ps => by
    have ih := KEnc.find h a ps
    unfold dFind aGet at ih ⊢
    rw [List.map_cons, List.find?_cons, List.find?_cons]
    rw [show keyEq (eKV ek ev p).1 (ek a) = decide (p.1 = a) from h.eq _ _]
    by_cases z : p.1 = a
    · simp [z]
    · simp only [z, decide_false]; exact ih
theorem dGetP_enc (h : KEnc ek) (ps : List (α × β)) (a : α) : dGetP (ps.map (eKV ek ev)) (ek a) = some ((aGet ps a).map ev) := by
  unfold dGetP
  rw [if_pos (h.ok ps a), h.find]
end
theorem kEnc_eI : KEnc eI := ⟨fun a b => by simp [keyEq, kEq, eI]; omega, .inl fun a => rfl⟩
section
variable {α β : Type} [DecidableEq α] {ek : α → PyData} {ev : β → PyData} (h : KEnc ek) (ps : List (α × β)) (a : α)
include h
theorem idx_D {b : β} (e : aGet ps a = some b) : pIdx (eD ek ev ps) (ek a) = some (false, ev b) := by
  have : pIdx (eD ek ev ps) (ek a) = (dGetP (ps.map (eKV ek ev)) (ek a)).bind fun o => o.bind fun d => some (false, d) := by
    cases ek a <;> rfl
  rw [this, dGetP_enc h, e]; rfl
end
end L2.Z
namespace L2.Z
open PySem
abbrev Bd := List (List (Int × Int))
abbrev eP (p : Int × Int) : PyData := .tuple [.int p.1, .int p.2]
abbrev eR (r : List (Int × Int)) : PyData := .tuple (r.map eP)
abbrev eB (b : Bd) : PyData := .tuple (b.map eR)
namespace Bd
def hi (b : Bd) : Nat := b.length
def wi (b : Bd) : Nat := (b.headD []).length
structure Good (b : Bd) : Prop where
  h1 : 1 ≤ b.hi
  h6 : b.hi ≤ 6
  w1 : 1 ≤ b.wi
  w6 : b.wi ≤ 6
  rect : ∀ r ∈ b, r.length = b.wi
  val : ∀ r ∈ b, ∀ p ∈ r, (-1000 ≤ p.1 ∧ p.1 ≤ 1000) ∧ -1000 ≤ p.2 ∧ p.2 ≤ 1000
def num (b : Bd) (x y : Nat) : Int := if x < b.hi then ((b[x]?.getD [])[y - b.hi]?.getD (0, 0)).1 else ((b[y]?.getD [])[x - b.hi]?.getD (0, 0)).2
def lns (b : Bd) : List Nat := List.range (b.hi + b.wi)
def rowsL (b : Bd) (l : List Nat) : List Nat := (List.range b.hi).filter fun x => !decide (x ∈ l)
def colsL (b : Bd) (l : List Nat) : List Nat := (List.range' b.hi b.wi).filter fun x => !decide (x ∈ l)
def cross (b : Bd) (l : List Nat) (x : Nat) : List Nat := if x < b.hi then b.colsL l else b.rowsL l
def nums (b : Bd) (l : List Nat) (x : Nat) : List Int := (b.cross l x).map (b.num x)
def same (b : Bd) (x y : Nat) : Bool := decide (x < b.hi) == decide (y < b.hi)
def isG (b : Bd) (l : List Nat) (x y : Nat) : Bool := b.same x y && (b.cross l x).all fun c => decide (b.num x c < b.num y c)
def canF (b : Bd) (l : List Nat) (x : Nat) : Bool := (b.lns.filter fun y => !decide (y ∈ l ++ [x])).any fun y => b.isG l x y
def ready (b : Bd) (l : List Nat) : List Nat := b.lns.filter fun x => !decide (x ∈ l) && b.canF l x
def wl (l : List Nat) (x : Nat) : List Nat := srt (l ++ [x])
def clo (b : Bd) (ws : List Nat) : Nat → List Nat → List Nat → List Nat
  | 0, _, o => o
  | k + 1, l, o => match ws.filter fun x => !decide (x ∈ l) && b.canF l x with
    | [] => o
    | x :: _ => clo b ws k (wl l x) (o ++ [x])
def closure (b : Bd) (ws : List Nat) : List Nat := b.clo ws 12 [] []
def last (b : Bd) : List Nat := srt (b.closure b.lns)
def rnds (b : Bd) : Nat → List Nat → List (List Nat)
  | 0, _ => []
  | k + 1, l => match b.ready l with
    | [] => []
    | x :: s => (x :: s) :: rnds b k (srt (l ++ x :: s))
def rounds (b : Bd) : List (List Nat) := b.rnds 12 []
theorem mem_lns {b : Bd} {x : Nat} : x ∈ b.lns ↔ x < b.hi + b.wi := List.mem_range
theorem mem_rowsL {b : Bd} {l : List Nat} {x : Nat} : x ∈ b.rowsL l ↔ x < b.hi ∧ x ∉ l := by simp [rowsL]
theorem mem_colsL {b : Bd} {l : List Nat} {x : Nat} : x ∈ b.colsL l ↔ (b.hi ≤ x ∧ x < b.hi + b.wi) ∧ x ∉ l := by simp [colsL, List.mem_range'_1]
theorem mem_wl {l : List Nat} {x y : Nat} : y ∈ wl l x ↔ y ∈ l ∨ y = x := by simp [wl, mem_srt]
theorem wl_length (l : List Nat) (x : Nat) : (wl l x).length = l.length + 1 := by simp [wl, srt_length]
theorem mem_ready {b : Bd} {l : List Nat} {x : Nat} : x ∈ b.ready l ↔ x < b.hi + b.wi ∧ x ∉ l ∧ b.canF l x = true := by
  simp [ready, mem_lns]
theorem canF_iff {b : Bd} {l : List Nat} {x : Nat} : b.canF l x = true ↔ ∃ y, y < b.hi + b.wi ∧ y ∉ l ∧ y ≠ x ∧ b.isG l x y = true := by
  simp [canF, mem_lns, and_assoc]
theorem rect_get {b : Bd} (g : b.Good) {x : Nat} (h : x < b.hi) : ∃ r, b[x]? = some r ∧ r.length = b.wi := by
  have h : x < b.length := h
  exact ⟨b[x], List.getElem?_eq_getElem h, g.rect _ (List.getElem_mem h)⟩
theorem num_row {b : Bd} (g : b.Good) {x y : Nat} (hx : x < b.hi) (hy : y < b.wi) : ∃ r p, b[x]? = some r ∧ r[y]? = some p ∧ b.num x (y + b.hi) = p.1 := by
  obtain ⟨r, h1, h2⟩ := rect_get g hx
  have hy' : y < r.length := by omega
  refine ⟨r, r[y], h1, List.getElem?_eq_getElem hy', ?_⟩
  rw [num, if_pos hx, h1, Nat.add_sub_cancel]
  simp [hy']
theorem num_col {b : Bd} (g : b.Good) {x y : Nat} (hx : x < b.hi) (hy : y < b.wi) : ∃ r p, b[x]? = some r ∧ r[y]? = some p ∧ b.num (y + b.hi) x = p.2 := by
  obtain ⟨r, h1, h2⟩ := rect_get g hx
  have hy' : y < r.length := by omega
  refine ⟨r, r[y], h1, List.getElem?_eq_getElem hy', ?_⟩
  rw [num, if_neg (by omega), h1, Nat.add_sub_cancel]
  simp [hy']
structure Lot (b : Bd) (l : List Nat) : Prop where
  nd : l.Nodup
  lt : ∀ x ∈ l, x < b.hi + b.wi
theorem Lot.nil (b : Bd) : Lot b [] := ⟨List.nodup_nil, fun _ h => by simp at h⟩
theorem nodup_bound {l : List Nat} {n : Nat} (h : l.Nodup) (h2 : ∀ x ∈ l, x < n) : l.length ≤ n := by
  have := List.Nodup.length_le_of_subset h (l₂ := List.range n) fun x hx => List.mem_range.mpr (h2 x hx)
  simpa using this
theorem Lot.len {b : Bd} {l : List Nat} (h : Lot b l) : l.length ≤ b.hi + b.wi := nodup_bound h.nd h.lt
theorem Lot.len12 {b : Bd} (g : b.Good) {l : List Nat} (h : Lot b l) : l.length ≤ 12 := by
  have := h.len
  have := g.h6
  have := g.w6
  omega
theorem Lot.sorted {b : Bd} {l : List Nat} (h : Lot b l) : Lot b (srt l) := ⟨(srt_perm l).nodup_iff.mpr h.nd, fun x hx => h.lt x (mem_srt.mp hx)⟩
theorem Lot.app {b : Bd} {l s : List Nat} (h : Lot b l) (h2 : Lot b s) (h3 : ∀ x ∈ s, x ∉ l) : Lot b (l ++ s) :=
  ⟨List.nodup_append.mpr ⟨h.nd, h2.nd, fun a ha c hc e => h3 c hc (e ▸ ha)⟩, fun x hx => by rcases List.mem_append.mp hx with q | q; exact h.lt x q; exact h2.lt x q⟩
theorem Lot.one {b : Bd} {x : Nat} (h : x < b.hi + b.wi) : Lot b [x] := ⟨by simp, fun y hy => by simp at hy; omega⟩
theorem Lot.withl {b : Bd} {l : List Nat} {x : Nat} (h : Lot b l) (h2 : x < b.hi + b.wi) (h3 : x ∉ l) : Lot b (wl l x) := (h.app (Lot.one h2) fun y hy => by simp at hy; subst hy; exact h3).sorted
theorem lns_nodup (b : Bd) : b.lns.Nodup := List.nodup_range
theorem Lot.ready {b : Bd} {l : List Nat} : Lot b (b.ready l) := ⟨(lns_nodup b).filter _, fun x hx => (mem_ready.mp hx).1⟩
theorem Lot.rd {b : Bd} {l : List Nat} (h : Lot b l) : Lot b (srt (l ++ b.ready l)) := (h.app Lot.ready fun x hx => (mem_ready.mp hx).2.1).sorted
end Bd
end L2.Z
namespace L2.Z
open PySem
abbrev zI : Int → PyData := fun i => .int i
abbrev zB : Bool → PyData := fun b => .bool b
abbrev zS : Str → PyData := fun x => .str x
abbrev zU : Unit → PyData := fun _ => .none
abbrev zT {α : Type} (e : α → PyData) (l : List α) : PyData := .tuple (l.map e)
abbrev zL {α : Type} (e : α → PyData) (l : List α) : PyData := .list (l.map e)
abbrev zP {α β : Type} (e : α → PyData) (f : β → PyData) (p : α × β) : PyData := .tuple [e p.1, f p.2]
def zO {α : Type} (e : α → PyData) : Option α → PyData
  | none => .none
  | some a => e a
abbrev Row := List Int × Int × Int × Int
abbrev zRow (r : Row) : PyData := .list [.list (r.1.map .int), .int r.2.1, .int r.2.2.1, .int r.2.2.2]
section
variable {α β σ : Type}
def catL (l m : List α) : Option (List α) := if l.length + m.length ≤ sizeLine then some (l ++ m) else none
def oMul (i j : Int) : Option Int := if MulOk i j then some (i * j) else none
def oMulN (i j : Nat) : Option Nat := if MulOk i j then some (i * j) else none
def oDiv (i j : Int) : Option Int := if CDiv i j then some (i / j) else none
def oMod (i j : Int) : Option Int := if 0 < j then some (i % j) else none
def oPow (i j : Int) : Option Int := if CPow i j then some (i ^ j.toNat) else none
def oNat (i : Int) : Option Nat := if 0 ≤ i then some i.toNat else none
def rg1 (n : Int) : Option (List Nat) := if -(2 ^ 62) ≤ n ∧ n ≤ sizeLine then some (List.range n.toNat) else none
def rg2 (a n : Nat) : Option (List Nat) := if (n : Int) - a ≤ sizeLine ∧ (-(2 ^ 62) ≤ (a : Int) ∧ (a : Int) < 2 ^ 62) ∧ -(2 ^ 62) ≤ (n : Int) ∧ (n : Int) < 2 ^ 62 then some (List.range' a (n - a)) else none
def rgv (n : Int) : Option (List Nat) := if RgOk 0 n then some (List.range n.toNat) else none
def oMax : List Int → Option Int
  | [] => none
  | a :: l => some (l.foldl max a)
def oMin : List Int → Option Int
  | [] => none
  | a :: l => some (l.foldl min a)
def oMinN : List Nat → Option Nat
  | [] => none
  | a :: l => some (l.foldl min a)
def oRepL (l : List α) (k : Int) : Option (List α) := if 0 ≤ k ∧ k ≤ 100000 ∧ l.length ≤ 100 then some (List.replicate k.toNat l).flatten else none
def oIndex [DecidableEq α] (l : List α) (a : α) : Option Nat := if a ∈ l then some (l.idxOf a) else none
def enumL (l : List α) : List (Nat × α) := (l.zipIdx).map fun p => (p.2, p.1)
def lcM (xs : List α) (p : α → Option Bool) (f : α → Option β) : Option (List β) := match xs with
  | [] => some []
  | x :: xs => (p x).bind fun b => if b = true then (f x).bind fun y => (lcM xs p f).bind fun ys => some (y :: ys) else lcM xs p f
def lcS (xs : List α) (f : α → σ → Option (β × σ)) (s : σ) : Option (List β × σ) := match xs with
  | [] => some ([], s)
  | x :: xs => (f x s).bind fun y => (lcS xs f y.2).bind fun z => some (y.1 :: z.1, z.2)
inductive Stp (σ β : Type) where
  | nx (s : σ) | bk (s : σ) | rt (b : β)
def loopM (xs : List α) (f : α → σ → Option σ) (s : σ) : Option σ := match xs with
  | [] => some s
  | x :: xs => (f x s).bind fun s => loopM xs f s
def whM (n : Nat) (c : σ → Option Bool) (f : σ → Option σ) (s : σ) : Option σ := match n with
  | 0 => none
  | n + 1 => (c s).bind fun b => if b = true then (f s).bind fun s => whM n c f s else some s
abbrev FU : Nat := 10 ^ 200
end
section
variable {α β : Type} {e : α → PyData} {f : β → PyData} {l m : List α} {i j : Int} {n k : Nat}
theorem bs {γ δ : Type} {o : Option γ} {g : γ → Option δ} {d : δ} (h : o.bind g = some d) : ∃ x, o = some x ∧ g x = some d := Option.bind_eq_some_iff.mp h
theorem atI_map {i : Int} : atI (l.map e) i = (atI l i).map e := by
  unfold atI
  rw [List.length_map]
  cases ixN l.length i with
  | none => rfl
  | some k => simp
theorem o_atT {x : α} (h : atI l i = some x) : pIdx (.tuple (l.map e)) (.int i) = some (false, e x) := by
  rw [p_idxT, atI_map, h]; rfl
theorem o_atL {x : α} (h : atI l i = some x) : pIdx (.list (l.map e)) (.int i) = some (false, e x) := by
  rw [p_idxL, atI_map, h]; rfl
theorem o_atP {p : α × α} {x : α} (h : atI [p.1, p.2] i = some x) : pIdx (.tuple [e p.1, e p.2]) (.int i) = some (false, e x) := o_atT (l := [p.1, p.2]) h
theorem o_p0 {a : PyData} {r : List PyData} : pIdx (.tuple (a :: r)) (.int 0) = some (false, a) := by rw [p_idxT, at_0]; rfl
theorem o_p1 {a b : PyData} {r : List PyData} : pIdx (.tuple (a :: b :: r)) (.int 1) = some (false, b) := by rw [p_idxT, at_1]; rfl
theorem o_lenT : pLen (.tuple (l.map e)) = some (false, .int (l.length : Nat)) := by rw [p_lenT, List.length_map]
theorem o_lenL : pLen (.list (l.map e)) = some (false, .int (l.length : Nat)) := by rw [p_lenL, List.length_map]
theorem o_addI : pAdd (.int i) (.int j) = some (false, .int (i + j)) := rfl
theorem o_addN : pAdd (.int (n : Int)) (.int (k : Int)) = some (false, .int ((n + k : Nat) : Int)) := by rw [Int.natCast_add]; rfl
theorem o_subI : pSubI (.int i) (.int j) = some (false, .int (i - j)) := rfl
theorem o_mulI {x : Int} (h : oMul i j = some x) : pMulI (.int i) (.int j) = some (false, .int x) := by
  unfold oMul at h
  split at h
  · rename_i q; cases h; exact p_IC q
  · cases h
theorem o_mulN {x : Nat} (h : oMulN n k = some x) : pMulI (.int (n : Int)) (.int (k : Int)) = some (false, .int (x : Int)) := by
  unfold oMulN at h
  split at h
  · rename_i q; cases h; rw [Int.natCast_mul]; exact p_IC q
  · cases h
theorem o_divI {x : Int} (h : oDiv i j = some x) : pDivI (.int i) (.int j) = some (false, .int x) := by
  unfold oDiv at h
  split at h
  · rename_i q; cases h; exact p_IC q
  · cases h
theorem o_modI {x : Int} (h : oMod i j = some x) : pModI (.int i) (.int j) = some (false, .int x) := by
  unfold oMod at h
  split at h
  · rename_i q; cases h; exact p_IC (C := fun _ j => 0 < j) q
  · cases h
theorem o_powI {x : Int} (h : oPow i j = some x) : pPowI (.int i) (.int j) = some (false, .int x) := by
  unfold oPow at h
  split at h
  · rename_i q; cases h; exact p_IC q
  · cases h
theorem o_catL {x : List α} (h : catL l m = some x) : pAdd (.list (l.map e)) (.list (m.map e)) = some (true, .list (x.map e)) := by
  unfold catL at h
  split at h
  · rename_i q; cases h; rw [p_addL (by simpa using q), List.map_append]
  · cases h
theorem o_ltN : pLt (.int (n : Int)) (.int (k : Int)) = some (false, .bool (decide (n < k))) := by simp
theorem o_leN : pLe (.int (n : Int)) (.int (k : Int)) = some (false, .bool (decide (n ≤ k))) := by simp
theorem o_gtN : pGt (.int (n : Int)) (.int (k : Int)) = some (false, .bool (decide (k < n))) := by simp
theorem o_ltI : pLt (.int i) (.int j) = some (false, .bool (decide (i < j))) := rfl
theorem o_leI : pLe (.int i) (.int j) = some (false, .bool (decide (i ≤ j))) := rfl
theorem o_gtI : pGt (.int i) (.int j) = some (false, .bool (decide (j < i))) := rfl
theorem o_geI : pGe (.int i) (.int j) = some (false, .bool (decide (j ≤ i))) := rfl
theorem o_negI : pNeg (.int i) = some (false, .int (-i)) := rfl
theorem o_notB {b : Bool} : pNot (.bool b) = some (false, .bool (!b)) := rfl
theorem o_int1I : pInt1 (.int i) = some (false, .int i) := rfl
theorem o_tupL : pTup (.list (l.map e)) = some (false, .tuple (l.map e)) := rfl
theorem boolsOf_m : ∀ l : List Bool, boolsOf (l.map zB) = some l
  | [] => rfl
  | b :: l => by
    show (boolsOf (l.map zB)).bind _ = _
    rw [boolsOf_m l]; rfl
theorem o_all {l : List Bool} : pAll (.list (l.map zB)) = some (false, .bool (l.all id)) := by
  show (boolsOf _).bind _ = _
  rw [boolsOf_m]; rfl
theorem intsOf_m : ∀ l : List Int, intsOf (l.map zI) = some l
  | [] => rfl
  | b :: l => by
    show (intsOf (l.map zI)).bind _ = _
    rw [intsOf_m l]; rfl
theorem mapN (l : List Nat) : l.map eI = (l.map (fun n : Nat => (n : Int))).map zI := by rw [List.map_map]; rfl
theorem intsOf_n (l : List Nat) : intsOf (l.map eI) = some (l.map fun n : Nat => (n : Int)) := by rw [mapN]; exact intsOf_m _
theorem o_sumPN {n k : Nat} : pSumA (.tuple [.int (n : Int), .int (k : Int)]) = some (false, .int ((n + k : Nat) : Int)) := by rw [sum2, Int.natCast_add]
theorem o_sumPI : pSumA (.tuple [.int i, .int j]) = some (false, .int (i + j)) := sum2 _ _
theorem o_maxLI {l : List Int} {x : Int} (h : oMax l = some x) : pMaxS (.list (l.map zI)) = some (false, .int x) ∧ pMaxS (.tuple (l.map zI)) = some (false, .int x) := by
  cases l with
  | nil => cases h
  | cons a l =>
    cases h
    have ok := okMM_ints (a :: l)
    rw [List.map_cons] at ok ⊢
    exact ⟨by simp only [pMaxS, itemsOf, if_pos ok, PySem.W.maxD_ints], by simp only [pMaxS, itemsOf, if_pos ok, PySem.W.maxD_ints]⟩
theorem o_minLI {l : List Int} {x : Int} (h : oMin l = some x) : pMinS (.list (l.map zI)) = some (false, .int x) ∧ pMinS (.tuple (l.map zI)) = some (false, .int x) := by
  cases l with
  | nil => cases h
  | cons a l =>
    cases h
    have ok := okMM_ints (a :: l)
    rw [List.map_cons] at ok ⊢
    exact ⟨by simp only [pMinS, itemsOf, if_pos ok, PySem.W.minD_ints], by simp only [pMinS, itemsOf, if_pos ok, PySem.W.minD_ints]⟩
theorem foldl_minN : ∀ (l : List Nat) (a : Nat), (l.map (fun n : Nat => (n : Int))).foldl min (a : Int) = ((l.foldl min a : Nat) : Int)
  | [], a => rfl
  | b :: l, a => by
    rw [List.map_cons, List.foldl_cons, List.foldl_cons, show min (a : Int) (b : Int) = ((min a b : Nat) : Int) by omega]
    exact foldl_minN l _
theorem o_minLN {l : List Nat} {x : Nat} (h : oMinN l = some x) : pMinS (.list (l.map eI)) = some (false, .int (x : Int)) ∧ pMinS (.tuple (l.map eI)) = some (false, .int (x : Int)) := by
  rw [mapN]
  apply o_minLI
  cases l with
  | nil => cases h
  | cons a l => cases h; rw [List.map_cons, oMin, foldl_minN]
theorem cut_map {lo hi : Option Int} : cutD (l.map e) lo hi = (cutD l lo hi).map e := by
  simp only [cutD, List.length_map, List.map_take, List.map_drop]
theorem o_slFT : pSlF (.tuple (l.map e)) (.int i) = some (false, .tuple ((cutD l (some i) none).map e)) := by simp only [p_slF, p_slD2, cut_map]
theorem o_slFL : pSlF (.list (l.map e)) (.int i) = some (true, .list ((cutD l (some i) none).map e)) := by simp only [p_slF, p_slD1, cut_map]
theorem o_slTL : pSlT (.list (l.map e)) (.int i) = some (true, .list ((cutD l none (some i)).map e)) := by simp only [p_slT, p_slD1, cut_map]
theorem o_repL {x : List α} (h : oRepL l i = some x) : pMulS (.list (l.map e)) (.int i) = some (true, .list (x.map e)) := by
  unfold oRepL at h
  split at h
  · rename_i q; cases h
    simp only [pMulS]
    rw [if_pos (by simpa using q)]
    simp only [rep, List.map_flatten, List.map_replicate]
  · cases h
theorem i_T : gSeq [.tuple (l.map e)] = some (l.map e) := rfl
theorem i_L : gSeq [.list (l.map e)] = some (l.map e) := rfl
theorem i_rg1 {x : List Nat} (h : rg1 i = some x) : gRange1 [.int i] = some (x.map eI) := by
  unfold rg1 at h
  split at h
  · rename_i q; cases h; simp only [gRange1, if_pos q]
  · cases h
theorem i_rg2 {x : List Nat} (h : rg2 n k = some x) : gRange2 [.int (n : Int), .int (k : Int)] = some (x.map eI) := by
  unfold rg2 at h
  split at h
  · rename_i q; cases h
    simp only [gRange2, if_pos q]
    rw [show ((k : Int) - n).toNat = k - n by omega, List.range'_eq_map_range, List.map_map]
    rfl
  · cases h
theorem o_rgvT {x : List Nat} (h : rgv i = some x) : pTupRg1 (.int i) = some (false, .tuple (x.map eI)) := by
  unfold rgv at h
  split at h
  · rename_i q; cases h; rw [p_tupRg1 q]; simp [rgD]
  · cases h
theorem enumD_m (k : Nat) : enumD k (l.map e) = ((l.zipIdx k).map fun p => (p.2, p.1)).map (zP eI e) := by
  induction l generalizing k with
  | nil => rfl
  | cons a l ih => simp only [List.map_cons, enumD, List.zipIdx_cons, ih]
end
section
theorem EncOk.str : EncOk zS 0 := ⟨fun _ => by simp [PyData.plain], fun _ => by simp [PyData.depth], fun a b => by
  simp only [PyData.eqv]; by_cases h : a = b <;> simp [h]⟩
theorem EncOk.intI : EncOk zI 0 := EncOk.int
theorem EncOk.natI : EncOk eI 0 := EncOk.nat
theorem EncOk.boolI : EncOk zB 0 := EncOk.bool
variable {α β γ : Type} [DecidableEq α] [DecidableEq β] [DecidableEq γ] {e : α → PyData} {f : β → PyData} {g : γ → PyData} {k : Nat}
theorem EncOk.tT (h : EncOk e k) : EncOk (zT e) (k + 1) := h.tup
theorem EncOk.tL (h : EncOk e k) : EncOk (zL e) (k + 1) := h.lst
theorem EncOk.tP (h : EncOk e k) (h2 : EncOk f k) : EncOk (zP e f) (k + 1) := h.pair h2
theorem o_index (h : EncOk e k) (hk : k ≤ 60) {l : List α} {a : α} {x : Nat} (q : oIndex l a = some x) : pIndexM (.list (l.map e)) [e a] = some (false, .int (x : Nat)) := by
  unfold oIndex at q
  split at q
  · rename_i m; cases q; exact index_enc h hk m
  · cases q
end
end L2.Z
namespace L2.Z
open PySem
section
variable {Φ : Fns} {bf : Nat → Option Nat} {M : Nat} {ρ ρ1 ρ2 ρ3 : Ev} {a b c X : Z.X} {d d' da db dc : PyData} {r ra rb rc : Res} {s : Slot} {i j : Nat} {t u v : Bool}
theorem xv (h : ρ[i]? = some s) (g : s.get = some d) : ev Φ bf (.v i) ρ = some (.slot i, ρ) := by rw [z_v, h, Option.bind_some, g]; rfl
theorem xk : ev Φ bf (.k d) ρ = some (.val d, ρ) := z_k
theorem x1v {f} (h : ev Φ bf a ρ = some (ra, ρ1)) (g : ra.get ρ1 = some d) (hf : f d = some (false, d')) : ev Φ bf (.op1 f a) ρ = some (.val d', ρ1) := by simp only [z_op1, h, Option.bind_some, g, hf]; rfl
theorem x1n {f} (h : ev Φ bf a ρ = some (ra, ρ1)) (g : ra.get ρ1 = some d) (hf : f d = some (true, d')) : ev Φ bf (.op1 f a) ρ = some (.new d', ρ1) := by simp only [z_op1, h, Option.bind_some, g, hf]; rfl
theorem x2v {f} (ha : ev Φ bf a ρ = some (ra, ρ1)) (hb : ev Φ bf b ρ1 = some (rb, ρ2)) (ga : ra.get ρ2 = some da) (gb : rb.get ρ2 = some db) (hf : f da db = some (false, d)) : ev Φ bf (.op2 f a b) ρ = some (.val d, ρ2) := by simp only [z_op2, ha, hb, Option.bind_some, ga, gb, hf]; rfl
theorem x2n {f} (ha : ev Φ bf a ρ = some (ra, ρ1)) (hb : ev Φ bf b ρ1 = some (rb, ρ2)) (ga : ra.get ρ2 = some da) (gb : rb.get ρ2 = some db) (hf : f da db = some (true, d)) : ev Φ bf (.op2 f a b) ρ = some (.new d, ρ2) := by simp only [z_op2, ha, hb, Option.bind_some, ga, gb, hf]; rfl
theorem xt (h : ev Φ bf X ρ = some (r, ρ1)) (g : r.get ρ1 = some (.bool t)) : truth (ev Φ bf X) ρ = some (t, ρ1) := by simp only [truth, h, Option.bind_some, g]
theorem xand (h1 : truth (ev Φ bf a) ρ = some (t, ρ1)) (h2 : t = true → truth (ev Φ bf b) ρ1 = some (u, ρ1)) : ev Φ bf (.and a b) ρ = some (.val (.bool (t && u)), ρ1) := by
  simp only [z_and, h1, Option.bind_some]
  cases t with
  | true => simp [h2]
  | false => simp
theorem xor (h1 : truth (ev Φ bf a) ρ = some (t, ρ1)) (h2 : t = false → truth (ev Φ bf b) ρ1 = some (u, ρ1)) : ev Φ bf (.or a b) ρ = some (.val (.bool (t || u)), ρ1) := by
  simp only [z_or, h1, Option.bind_some]
  cases t with
  | true => simp
  | false => simp [h2]
theorem xandP {m : Option Bool} (h : (if t = true then m else some false) = some u) (h1 : truth (ev Φ bf a) ρ = some (t, ρ1)) (h2 : t = true → m = some u → truth (ev Φ bf b) ρ1 = some (u, ρ1)) : ev Φ bf (.and a b) ρ = some (.val (.bool u), ρ1) := by
  simp only [z_and, h1, Option.bind_some]
  cases t with
  | true => simp [h2 rfl h]
  | false => cases h; rfl
theorem xorP {m : Option Bool} (h : (if t = true then some true else m) = some u) (h1 : truth (ev Φ bf a) ρ = some (t, ρ1)) (h2 : t = false → m = some u → truth (ev Φ bf b) ρ1 = some (u, ρ1)) : ev Φ bf (.or a b) ρ = some (.val (.bool u), ρ1) := by
  simp only [z_or, h1, Option.bind_some]
  cases t with
  | true => cases h; rfl
  | false => simp [h2 rfl h]
def Soft (r : Res) (ρ : Ev) (d : PyData) : Prop := r.get ρ = some d ∧ esc ρ r = some (d, ρ)
theorem Soft.val : Soft (.val d) ρ d := ⟨rfl, rfl⟩
theorem Soft.dat (h : ρ[i]? = some (.dat d)) : Soft (.slot i) ρ d := ⟨by simp [Res.get, h], e_dat h⟩
theorem Soft.new : Soft (.new d) ρ d := ⟨rfl, rfl⟩
theorem Soft.stored (h : Soft r ρ d) (hn : ∀ d, r ≠ .new d) : stored ρ r = some (.dat d, ρ) := by
  cases r with
  | new d => exact absurd rfl (hn d)
  | val d' => simp only [Z.stored, h.2, Option.bind_some]
  | slot i => simp only [Z.stored, h.2, Option.bind_some]
theorem xch {f g} (ha : ev Φ bf a ρ = some (ra, ρ1)) (hb : ev Φ bf b ρ1 = some (rb, ρ2)) (ga : ra.get ρ2 = some da) (gb : rb.get ρ2 = some db) (h1 : f da db = some (false, .bool t)) (hc : ev Φ bf c ρ2 = some (rc, ρ2)) (gc : rc.get ρ2 = some dc) (h2 : g db dc = some (false, .bool u)) : ev Φ bf (.chain f g a b c) ρ = some (.val (.bool (t && u)), ρ2) := by
  simp only [z_chain, ha, hb, Option.bind_some, ga, gb, h1]
  cases t with
  | true => simp only [hc, Option.bind_some, gb, gc, h2, Bool.true_and]
  | false => rfl
theorem s0 : evs Φ bf .nil ρ = some ([], ρ) := z_s0
theorem s1 {rs : Xs} {l : List Res} (h : ev Φ bf a ρ = some (r, ρ1)) (k : evs Φ bf rs ρ1 = some (l, ρ2)) : evs Φ bf (.cons a rs) ρ = some (r :: l, ρ2) := by simp only [z_s1, h, k, Option.bind_some]
theorem yv (h : ev Φ bf X ρ = some (.val d, ρ1)) : valof (ev Φ bf X) ρ = some (d, ρ1) := by simp only [valof, h, Option.bind_some, esc]
theorem yn (h : ev Φ bf X ρ = some (.new d, ρ1)) : valof (ev Φ bf X) ρ = some (d, ρ1) := by simp only [valof, h, Option.bind_some, esc]
theorem yd (h : ev Φ bf X ρ = some (.slot i, ρ1)) (g : ρ1[i]? = some (.dat d)) : valof (ev Φ bf X) ρ = some (d, ρ1) := by simp only [valof, h, Option.bind_some, e_dat g]
theorem yo (h : ev Φ bf X ρ = some (.slot i, ρ1)) (g : ρ1[i]? = some (.own d)) (e : ρ1.set i (.dat d) = ρ2) : valof (ev Φ bf X) ρ = some (d, ρ2) := by simp only [valof, h, Option.bind_some, e_own g, e]
theorem ys (h : ev Φ bf X ρ = some (r, ρ1)) (q : Soft r ρ1 d) : valof (ev Φ bf X) ρ = some (d, ρ1) := by simp only [valof, h, Option.bind_some, q.2]
theorem v0 : evv Φ bf .nil ρ = some ([], ρ) := z_v0
theorem v1 {rs : Xs} {l : List PyData} (h : valof (ev Φ bf a) ρ = some (d, ρ1)) (k : evv Φ bf rs ρ1 = some (l, ρ2)) : evv Φ bf (.cons a rs) ρ = some (d :: l, ρ2) := by simp only [z_v1, h, k, Option.bind_some]
theorem xtup {as : Xs} {ds : List PyData} (h : evv Φ bf as ρ = some (ds, ρ1)) : ev Φ bf (.tup as) ρ = some (.val (.tuple ds), ρ1) := by simp only [z_tup, h, Option.bind_some]
theorem xlst {as : Xs} {ds : List PyData} (h : evv Φ bf as ρ = some (ds, ρ1)) : ev Φ bf (.lst as) ρ = some (.new (.list ds), ρ1) := by simp only [z_lst, h, Option.bind_some]
theorem xcall {f : Nat} {as : Xs} {rs : List Res} {ds : List PyData} {w : PyData} (hb : bf f = none) (h1 : evs Φ bf as ρ = some (rs, ρ1)) (h2 : escAll ρ1 rs = some (ds, ρ2)) (h3 : Φ f ds = some (d, w)) : ev Φ bf (.call f as) ρ = some (.val d, ρ2) := by
  simp only [z_call, h1, Option.bind_some, hb, callArgs, h2, h3, callBack]
theorem xcallR {f k : Nat} {as : Xs} {rs : List Res} {ds : List PyData} {w : PyData} (hb : bf f = some k) (h1 : evs Φ bf as ρ = some (rs, ρ1)) (h2 : callArgs ρ1 rs (some k) = some (ds, ρ2)) (h3 : Φ f ds = some (d, w)) (h4 : callBack ρ2 rs w (some k) = some ρ3) : ev Φ bf (.call f as) ρ = some (.val d, ρ3) := by
  simp only [z_call, h1, Option.bind_some, hb, h2, h3, h4]
theorem xmeth {chk f} {as : Xs} {rs : List Res} {ds : List PyData} (h : ev Φ bf a ρ = some (ra, ρ1)) (g : ra.get ρ1 = some da) (hk : chk da = true) (h2 : evs Φ bf as ρ1 = some (rs, ρ2)) (g2 : ra.get ρ2 = some da) (h3 : getAll ρ2 rs = some ds) (hf : f da ds = some (false, d)) : ev Φ bf (.meth chk f a as) ρ = some (.val d, ρ2) := by
  simp only [ev, h, Option.bind_some, g, hk, if_true, h2, g2, h3, hf]; rfl
theorem gn (h : asg i (.dat d) ρ = some ρ1) : (Tg.n i).bind d ρ = some ρ1 := h
theorem gt {p q : Tg} {x y : PyData} (h1 : p.bind x ρ = some ρ1) (h2 : q.bind y ρ1 = some ρ2) : (Tg.t p q).bind (.tuple [x, y]) ρ = some ρ2 := by simp only [Tg.bind, h1, Option.bind_some, h2]
end
section
variable {α β σ : Type} {Φ : Fns} {bf : Nat → Option Nat} {M : Nat} {ρ ρ0 ρ1 ρ' : Ev}
theorem lcLoopM {own : List Nat} {t : Tg} {c : Ev → Option (Bool × Ev)} {e : Ev → Option (PyData × Ev)} {enc : α → PyData} {en2 : β → PyData} {p : α → Option Bool} {f : α → Option β} :
    ∀ (xs : List α) (ys : List β) (acc : List PyData), (∀ x ∈ xs, ∃ ρ2, t.bind (enc x) ρ = some ρ2 ∧ ∀ b, p x = some b → c ρ2 = some (b, ρ2) ∧ wipeE own ρ2 = some ρ ∧ (b = true → ∀ y, f x = some y → ∃ ρ3, e ρ2 = some (en2 y, ρ3) ∧ wipeE own ρ3 = some ρ)) → lcM xs p f = some ys →
      lcLoop own t c e (xs.map enc) acc ρ = some (acc ++ ys.map en2, ρ)
  | [], ys, acc, _, h => by cases h; simp [lcLoop]
  | x :: xs, ys, acc, k, h => by
    obtain ⟨ρ2, e1, k1⟩ := k x (by simp)
    obtain ⟨b, hb, h⟩ := bs h
    obtain ⟨e2, e3, k2⟩ := k1 b hb
    have ih := fun ys acc => lcLoopM xs ys acc fun y hy => k y (by simp [hy])
    rw [List.map_cons, lcLoop, e1, Option.bind_some, e2, Option.bind_some]
    cases b with
    | true =>
      rw [if_pos rfl] at h
      obtain ⟨y, hy, h⟩ := bs h
      obtain ⟨zs, hz, h⟩ := bs h
      cases h
      obtain ⟨ρ3, e4, e5⟩ := k2 rfl y hy
      simp only [e4, Option.bind_some, e5]
      rw [ih zs _ hz]
      simp
    | false =>
      rw [if_neg (by simp)] at h
      simp only [e3, Option.bind_some]
      exact ih ys acc h
theorem xlc {enc : α → PyData} {en2 : β → PyData} {xs : List α} {ys : List β} {p : α → Option Bool} {f : α → Option β} {e : X} {t : Tg} {g : List PyData → Option (List PyData)} {as : Xs} {c : X} {own : List Nat} {rs : List Res} {ds : List PyData}
    (h : lcM xs p f = some ys) (h1 : evs Φ bf as ρ = some (rs, ρ0)) (h2 : getAll ρ0 rs = some ds) (h3 : g ds = some (xs.map enc)) (h4 : wipeE own (lockAll rs ρ0) = some ρ1)
    (h5 : ∀ x ∈ xs, ∃ ρ2, t.bind (enc x) ρ1 = some ρ2 ∧ ∀ b, p x = some b → truth (ev Φ bf c) ρ2 = some (b, ρ2) ∧ wipeE own ρ2 = some ρ1 ∧ (b = true → ∀ y, f x = some y → ∃ ρ3, valof (ev Φ bf e) ρ2 = some (en2 y, ρ3) ∧ wipeE own ρ3 = some ρ1))
    (h6 : unlockAll rs ρ0 (backE (lockAll rs ρ0) own ρ1) = some ρ') : ev Φ bf (.lc e t g as c own) ρ = some (.new (.list (ys.map en2)), ρ') := by
  simp only [ev, h1, h2, h3, h4, h6, Option.bind_some, lcLoopM xs ys [] h5 h, List.nil_append]
theorem lcLoopS {own : List Nat} {t : Tg} {c : Ev → Option (Bool × Ev)} {e : Ev → Option (PyData × Ev)} {enc : α → PyData} {en2 : β → PyData} {E : σ → Ev} {f : α → σ → Option (β × σ)} :
    ∀ (xs : List α) (s : σ) (z : List β × σ) (acc : List PyData), (∀ x ∈ xs, ∀ s y, f x s = some y → ∃ ρ2 ρ3, t.bind (enc x) (E s) = some ρ2 ∧ c ρ2 = some (true, ρ2) ∧ e ρ2 = some (en2 y.1, ρ3) ∧ wipeE own ρ3 = some (E y.2)) → lcS xs f s = some z →
      lcLoop own t c e (xs.map enc) acc (E s) = some (acc ++ z.1.map en2, E z.2)
  | [], s, z, acc, _, h => by cases h; simp [lcLoop]
  | x :: xs, s, z, acc, k, h => by
    obtain ⟨y, hy, h⟩ := bs h
    obtain ⟨z', hz, h⟩ := bs h
    cases h
    obtain ⟨ρ2, ρ3, e1, e2, e3, e4⟩ := k x (by simp) s y hy
    have ih := lcLoopS xs y.2 z' (acc ++ [en2 y.1]) (fun y hy => k y (by simp [hy])) hz
    rw [List.map_cons, lcLoop]
    simp only [e1, e2, e3, e4, Option.bind_some]
    rw [ih]
    simp
theorem xlcS {enc : α → PyData} {en2 : β → PyData} {xs : List α} {s : σ} {z : List β × σ} {E : σ → Ev} {f : α → σ → Option (β × σ)} {e : X} {t : Tg} {g : List PyData → Option (List PyData)} {as : Xs} {c : X} {own : List Nat} {rs : List Res} {ds : List PyData}
    (h : lcS xs f s = some z) (h1 : evs Φ bf as ρ = some (rs, ρ0)) (h2 : getAll ρ0 rs = some ds) (h3 : g ds = some (xs.map enc)) (h4 : wipeE own (lockAll rs ρ0) = some (E s))
    (h5 : ∀ x ∈ xs, ∀ s y, f x s = some y → ∃ ρ2 ρ3, t.bind (enc x) (E s) = some ρ2 ∧ truth (ev Φ bf c) ρ2 = some (true, ρ2) ∧ valof (ev Φ bf e) ρ2 = some (en2 y.1, ρ3) ∧ wipeE own ρ3 = some (E y.2))
    (h6 : unlockAll rs ρ0 (backE (lockAll rs ρ0) own (E z.2)) = some ρ') : ev Φ bf (.lc e t g as c own) ρ = some (.new (.list (z.1.map en2)), ρ') := by
  simp only [ev, h1, h2, h3, h4, h6, Option.bind_some, lcLoopS xs s z [] h5 h, List.nil_append]
end
section
variable {Φ : Fns} {bf : Nat → Option Nat} {M : Nat}
def Rn (Φ : Fns) (bf : Nat → Option Nat) (M : Nat) (b : Ss) (ρ : Ev) (Q : Out → Prop) : Prop := ∃ o, evSs Φ bf M b ρ = some o ∧ Q o
variable {ρ ρ0 ρ1 ρ2 ρ3 : Ev} {Q : Out → Prop} {s : S} {rest : Ss} {X Y : Z.X} {r : Res} {d : PyData} {i j : Nat} {sl : Slot}
theorem k_nx (h : evS Φ bf M s ρ = some (.nx ρ1)) (k : Rn Φ bf M rest ρ1 Q) : Rn Φ bf M (.cons s rest) ρ Q := by
  obtain ⟨o, e, q⟩ := k
  exact ⟨o, by rw [z_c, h]; exact e, q⟩
theorem knil (q : Q (.nx ρ)) : Rn Φ bf M .nil ρ Q := ⟨_, z_n, q⟩
theorem kset (h : ev Φ bf X ρ = some (r, ρ1)) (hs : stored ρ1 r = some (sl, ρ2)) (ha : asg i sl ρ2 = some ρ3) (k : Rn Φ bf M rest ρ3 Q) : Rn Φ bf M (.cons (.set i X) rest) ρ Q :=
  k_nx (by simp only [z_set, h, hs, ha, Option.bind_some]) k
theorem kput {t : Tg} (h : valof (ev Φ bf X) ρ = some (d, ρ1)) (ht : t.bind d ρ1 = some ρ2) (k : Rn Φ bf M rest ρ2 Q) : Rn Φ bf M (.cons (.put t X) rest) ρ Q :=
  k_nx (by simp only [z_put, h, ht, Option.bind_some]) k
theorem t0 : evst Φ bf .nil ρ = some ([], ρ) := by simp only [evst]
theorem t1 {xs : Xs} {ss : List Slot} (h : ev Φ bf X ρ = some (r, ρ1)) (hs : stored ρ1 r = some (sl, ρ2)) (k : evst Φ bf xs ρ2 = some (ss, ρ3)) : evst Φ bf (.cons X xs) ρ = some (sl :: ss, ρ3) := by simp only [evst, h, hs, k, Option.bind_some]
theorem a0 : asgAll [] [] ρ = some ρ := rfl
theorem a1 {is : List Nat} {ss : List Slot} (k : asgAll is ss ρ = some ρ1) (h : asg i sl ρ1 = some ρ2) : asgAll (i :: is) (sl :: ss) ρ = some ρ2 := by simp only [asgAll, k, h, Option.bind_some]
theorem kpar {is : List Nat} {es : Xs} {ss : List Slot} (h : evst Φ bf es ρ = some (ss, ρ1)) (ha : asgAll is ss ρ1 = some ρ2) (k : Rn Φ bf M rest ρ2 Q) : Rn Φ bf M (.cons (.par is es) rest) ρ Q :=
  k_nx (by simp only [z_par, h, ha, Option.bind_some]) k
theorem ksetAt {c c' dk d0 : PyData} (h : valof (ev Φ bf Y) ρ = some (d, ρ1)) (h0 : conOf ρ1 i = some d0) (hk : ev Φ bf X ρ1 = some (r, ρ2)) (g : r.get ρ2 = some dk) (hc : conOf ρ2 i = some c) (hs : setD c dk d = some c') (he : conSet ρ2 i c' = some ρ3) (k : Rn Φ bf M rest ρ3 Q) : Rn Φ bf M (.cons (.setAt i X Y) rest) ρ Q :=
  k_nx (by simp only [z_setAt, h, h0, hk, g, hc, hs, he, Option.bind_some]) k
theorem kapp {α : Type} {e : α → PyData} {l x : List α} {y : α} (q : catL l [y] = some x) (h0 : conOf ρ i = some (.list (l.map e))) (h : valof (ev Φ bf X) ρ = some (e y, ρ1)) (h1 : conOf ρ1 i = some (.list (l.map e))) (hs : conSet ρ1 i (.list (x.map e)) = some ρ2) (k : Rn Φ bf M rest ρ2 Q) : Rn Φ bf M (.cons (.app i X) rest) ρ Q := by
  unfold catL at q
  split at q
  · rename_i z; cases q
    refine k_nx (ρ1 := ρ2) ?_ k
    have : appD (.list (l.map e)) [e y] = some (.list ((l ++ [y]).map e)) := by
      rw [List.map_append]; exact if_pos (by simpa using z)
    simp only [z_app, lstAt, h0, h, h1, Option.bind_some, this, hs]
  · cases q
theorem kexpr (h : ev Φ bf X ρ = some (r, ρ1)) (k : Rn Φ bf M rest ρ1 Q) : Rn Φ bf M (.cons (.expr X) rest) ρ Q :=
  k_nx (by simp only [z_expr, h, Option.bind_some]) k
theorem kret (h : valof (ev Φ bf X) ρ = some (d, ρ1)) (q : Q (.rt d ρ1)) : Rn Φ bf M (.cons (.ret X) rest) ρ Q := by
  refine ⟨.rt d ρ1, ?_, q⟩
  rw [z_c, z_ret, h]; rfl
def Th (Φ : Fns) (bf : Nat → Option Nat) (M : Nat) (rest : Ss) (Q : Out → Prop) : Out → Prop
  | .nx ρ => Rn Φ bf M rest ρ Q
  | o => Q o
theorem kif {t : Bool} {a b : Ss} (h : truth (ev Φ bf X) ρ = some (t, ρ1)) (k1 : t = true → Rn Φ bf M a ρ1 (Th Φ bf M rest Q)) (k2 : t = false → Rn Φ bf M b ρ1 (Th Φ bf M rest Q)) : Rn Φ bf M (.cons (.ite X a b) rest) ρ Q := by
  have key : ∀ c : Ss, (evS Φ bf M (.ite X a b) ρ = evSs Φ bf M c ρ1) → Rn Φ bf M c ρ1 (Th Φ bf M rest Q) → Rn Φ bf M (.cons (.ite X a b) rest) ρ Q := fun c e ⟨o, e1, q⟩ => by
    cases o with
    | nx ρ' => obtain ⟨o2, e2, q2⟩ := q; exact ⟨o2, by rw [z_c, e, e1]; exact e2, q2⟩
    | rt d ρ' => exact ⟨_, by rw [z_c, e, e1]; rfl, q⟩
    | xc n ρ' => exact ⟨_, by rw [z_c, e, e1]; rfl, q⟩
    | bk ρ' => exact ⟨_, by rw [z_c, e, e1]; rfl, q⟩
    | ct ρ' => exact ⟨_, by rw [z_c, e, e1]; rfl, q⟩
  cases t with
  | true => exact key a (by simp only [z_if, h, Option.bind_some, if_true]) (k1 rfl)
  | false => exact key b (by simp only [z_if, h, Option.bind_some, Bool.false_eq_true, if_false]) (k2 rfl)
def Jn (J : Ev → Prop) (Q : Out → Prop) : Out → Prop
  | .nx ρ => J ρ
  | o => Q o
theorem kifJ {t : Bool} {a b : Ss} (J : Ev → Prop) (h : truth (ev Φ bf X) ρ = some (t, ρ1)) (k1 : t = true → Rn Φ bf M a ρ1 (Jn J Q)) (k2 : t = false → Rn Φ bf M b ρ1 (Jn J Q)) (k3 : ∀ ρ, J ρ → Rn Φ bf M rest ρ Q) : Rn Φ bf M (.cons (.ite X a b) rest) ρ Q := by
  have key : ∀ c : Ss, Rn Φ bf M c ρ1 (Jn J Q) → Rn Φ bf M c ρ1 (Th Φ bf M rest Q) := fun c ⟨o, e1, q⟩ => by
    refine ⟨o, e1, ?_⟩
    cases o with
    | nx ρ' => exact k3 _ q
    | rt d ρ' => exact q
    | xc n ρ' => exact q
    | bk ρ' => exact q
    | ct ρ' => exact q
  exact kif h (fun e => key a (k1 e)) (fun e => key b (k2 e))
end
section
variable {α β σ : Type} {Φ : Fns} {bf : Nat → Option Nat} {M : Nat} {ρ ρ0 : Ev} {Q : Out → Prop} {rest b : Ss} {rs : List Res} {ds : List PyData} {t : Tg} {g : List PyData → Option (List PyData)} {as : Xs} {enc : α → PyData} {xs : List α} {c : X}
def En (I : σ → Ev → Prop) (z : σ) : Out → Prop
  | .nx ρ => I z ρ
  | .ct ρ => I z ρ
  | _ => False
theorem kfor {f : α → σ → Option σ} {s z : σ} (I : σ → Ev → Prop) (h : loopM xs f s = some z) (h1 : evs Φ bf as ρ = some (rs, ρ0)) (h2 : getAll ρ0 rs = some ds) (h3 : g ds = some (xs.map enc)) (h4 : I s (lockAll rs ρ0))
    (h5 : ∀ x ∈ xs, ∀ s y ρ, f x s = some y → I s ρ → ∃ ρ', t.bind (enc x) ρ = some ρ' ∧ Rn Φ bf M b ρ' (En I y))
    (h6 : ∀ ρ, I z ρ → ∃ ρ', unlockAll rs ρ0 ρ = some ρ' ∧ Rn Φ bf M rest ρ' Q) : Rn Φ bf M (.cons (.frr t g as b) rest) ρ Q := by
  have key : ∀ (xs : List α) (s : σ) (ρ : Ev), (∀ x ∈ xs, ∀ s y ρ, f x s = some y → I s ρ → ∃ ρ', t.bind (enc x) ρ = some ρ' ∧ Rn Φ bf M b ρ' (En I y)) → loopM xs f s = some z → I s ρ → ∃ ρ', frLoop t (evSs Φ bf M b) (xs.map enc) ρ = some (.nx ρ') ∧ I z ρ' := fun xs => by
    induction xs with
    | nil => intro s ρ _ h hI; cases h; exact ⟨ρ, rfl, hI⟩
    | cons x xs ih =>
      intro s ρ k h hI
      obtain ⟨y, hy, h⟩ := bs h
      obtain ⟨ρ', e1, o, e2, q⟩ := k x (by simp) s y ρ hy hI
      rw [List.map_cons, frLoop, e1, Option.bind_some, e2, Option.bind_some]
      cases o with
      | nx ρ'' => exact ih y ρ'' (fun w hw => k w (by simp [hw])) h q
      | ct ρ'' => exact ih y ρ'' (fun w hw => k w (by simp [hw])) h q
      | bk ρ'' => exact q.elim
      | rt d ρ'' => exact q.elim
      | xc n ρ'' => exact q.elim
  obtain ⟨ρ1, e1, q⟩ := key xs s _ h5 h h4
  obtain ⟨ρ2, e2, k⟩ := h6 ρ1 q
  exact k_nx (by simp only [evS, h1, h2, h3, Option.bind_some, e1, Out.mapM, e2]) k
theorem kwhl {cM : σ → Option Bool} {f : σ → Option σ} {s z : σ} (I : σ → Ev → Prop) (h : whM M cM f s = some z) (h4 : I s ρ)
    (hc : ∀ s t ρ, cM s = some t → I s ρ → truth (ev Φ bf c) ρ = some (t, ρ))
    (h5 : ∀ s y ρ, cM s = some true → f s = some y → I s ρ → Rn Φ bf M b ρ (En I y))
    (h6 : ∀ ρ, I z ρ → cM z = some false → Rn Φ bf M rest ρ Q) : Rn Φ bf M (.cons (.whl c b) rest) ρ Q := by
  have key : ∀ (n : Nat) (s : σ) (ρ : Ev), whM n cM f s = some z → I s ρ → ∃ ρ', whLoop (truth (ev Φ bf c)) (evSs Φ bf M b) n ρ = some (.nx ρ') ∧ I z ρ' ∧ cM z = some false := fun n => by
    induction n with
    | zero => intro s ρ h; cases h
    | succ n ih =>
      intro s ρ h hI
      rw [whM] at h
      obtain ⟨t, ht, h⟩ := bs h
      rw [whLoop, hc s t ρ ht hI, Option.bind_some]
      cases t with
      | false => rw [if_neg (by simp)] at h ⊢; cases h; exact ⟨ρ, rfl, hI, ht⟩
      | true =>
        rw [if_pos rfl] at h ⊢
        obtain ⟨y, hy, h⟩ := bs h
        obtain ⟨o, e2, q⟩ := h5 s y ρ ht hy hI
        rw [e2, Option.bind_some]
        cases o with
        | nx ρ'' => exact ih y ρ'' h q
        | ct ρ'' => exact ih y ρ'' h q
        | bk ρ'' => exact q.elim
        | rt d ρ'' => exact q.elim
        | xc n ρ'' => exact q.elim
  obtain ⟨ρ1, e1, q, hf⟩ := key M s ρ h h4
  exact k_nx (by rw [z_whl]; exact e1) (h6 ρ1 q hf)
end
section
variable {Φ : Fns} {bf : Nat → Option Nat} {M : Nat} {b : Ss} {np ns : Nat} {ds : List PyData} {d c : PyData}
theorem kbody (hl : ds.length = np) (h : Rn Φ bf M b (slotsOf ds (conArg ds none) none ++ List.replicate (ns - np) .un) (fun o => ∃ σ, o = .rt d σ)) : callBody Φ bf M b np ns none ds = some (d, .none) := by
  obtain ⟨o, e, σ, rfl⟩ := h
  exact callBody_rt hl e
theorem kbodyN (hl : ds.length = np) (h : Rn Φ bf M b (slotsOf ds (conArg ds none) none ++ List.replicate (ns - np) .un) (fun o => (∃ σ, o = .rt .none σ) ∨ ∃ σ, o = .nx σ)) : callBody Φ bf M b np ns none ds = some (.none, .none) := by
  obtain ⟨o, e, ⟨σ, rfl⟩ | ⟨σ, rfl⟩⟩ := h
  · exact callBody_rt hl e
  · unfold callBody; rw [if_pos hl, e]; rfl
theorem kbodyR (hl : ds.length = np) (h : Rn Φ bf M b (slotsOf ds (conArg ds (some 0)) (some 0) ++ List.replicate (ns - np) .un) (fun o => ∃ σ, o = .rt d σ ∧ σ[0]? = some (.ref c))) : callBody Φ bf M b np ns (some 0) ds = some (d, c) := by
  obtain ⟨o, e, σ, rfl, hc⟩ := h
  exact callBody_ref hl e hc
end
end L2.Z
namespace L2.Z
open PySem PySem.Spec PyProof.Rows
section
variable {X : Cx} {e : Expr} {te : TE} {p p2 pos kp : Pos}
end
section
variable {K : PySem.W.Frag}
end
section
variable {X : Cx} {a : Expr} {p p2 pos kp : Pos} {Φ : Fns} {bf : Nat → Option Nat} {x : Z.X}
end
end L2.Z
namespace L2.Z
open PySem PySem.Spec PyProof.Rows
theorem RpA.reverse {K : PySem.W.Frag} {F : Hp} {xs : List V} {ds : List PyData} (r : RpA K F xs ds) : RpA K F xs.reverse ds.reverse := by
  have app : ∀ {xs : List V} {ds : List PyData} {ys : List V} {es : List PyData}, RpA K F xs ds → RpA K F ys es → RpA K F (xs ++ ys) (ds ++ es) := fun {xs} => by
    induction xs with
    | nil => intro ds ys es r1 r2; cases r1; exact r2
    | cons x xs ih => intro ds ys es r1 r2; cases r1 with | cons a b => exact .cons a (ih b r2)
  induction xs generalizing ds with
  | nil => cases r; exact .nil
  | cons x xs ih =>
    cases r with
    | cons a b => rw [List.reverse_cons, List.reverse_cons]; exact app (ih b) (.cons a .nil)
end L2.Z
namespace L2.Z
open PySem
section
variable {α β γ : Type} {Φ : Fns} {bf : Nat → Option Nat} {M : Nat} {ρ ρ1 ρ2 : Ev} {X : X} {d : PyData} {e : α → PyData} {f : β → PyData} {l : List α} {m : List β} {i j : Nat}
theorem _root_.L2.Z.Jk.ite {p q : Slot} {t : Bool} (h1 : Jk p) (h2 : Jk q) : Jk (if t = true then p else q) := by cases t <;> assumption
theorem xiteV {a b c : Z.X} {t : Bool} {m1 m2 : Option α} {x : α} (h : (if t = true then m1 else m2) = some x) (hc : truth (ev Φ bf c) ρ = some (t, ρ1)) (h1 : t = true → m1 = some x → ev Φ bf a ρ1 = some (.val (e x), ρ2)) (h2 : t = false → m2 = some x → ev Φ bf b ρ1 = some (.val (e x), ρ2)) : ev Φ bf (.ite c a b) ρ = some (.val (e x), ρ2) := by
  cases t with
  | true => simp only [z_ite, hc, Option.bind_some, if_true, h1 rfl h]
  | false => simp only [z_ite, hc, Option.bind_some, Bool.false_eq_true, if_false, h2 rfl h]
def frzS : Slot → Slot
  | .own d => .dat d
  | s => s
theorem _root_.L2.Z.Jk.frz {s : Slot} (h : Jk s) : Jd (frzS s) := by
  rcases h with rfl | ⟨d, rfl⟩ | ⟨d, rfl⟩
  · exact .un
  · exact .dat d
  · exact .dat d
theorem kj {J : Ev → Prop} {Q : Out → Prop} (h : J ρ) : Rn Φ bf M .nil ρ (Jn J Q) := knil h
theorem eqV {e : α → PyData} {t x : α} (hx : some t = some x) (h : ev Φ bf X ρ = some (.val (e t), ρ1)) : ev Φ bf X ρ = some (.val (e x), ρ1) := by cases hx; exact h
theorem eqNat {t : Int} {x : Nat} (hx : oNat t = some x) (h : ev Φ bf X ρ = some (.val (.int t), ρ1)) : ev Φ bf X ρ = some (.val (eI x), ρ1) := by
  unfold oNat at hx
  split at hx
  · rename_i q; cases hx
    rw [h]
    congr 4
    omega
  · cases hx
theorem ift {t : Bool} {a b : Option γ} {d : γ} (ht : t = true) (h : (if t = true then a else b) = some d) : a = some d := by rwa [if_pos ht] at h
theorem iff_ {t : Bool} {a b : Option γ} {d : γ} (ht : t = false) (h : (if t = true then a else b) = some d) : b = some d := by rwa [if_neg (by rw [ht]; exact Bool.false_ne_true)] at h
theorem lcM_pure {xs : List α} {p : α → Bool} {f : α → β} : lcM xs (fun x => some (p x)) (fun x => some (f x)) = some ((xs.filter p).map f) := by
  induction xs with
  | nil => rfl
  | cons x xs ih =>
    rw [lcM, Option.bind_some]
    cases hp : p x with
    | true => rw [if_pos rfl, Option.bind_some, ih, List.filter_cons_of_pos hp]; rfl
    | false => rw [if_neg (by simp), ih, List.filter_cons_of_neg (by rw [hp]; simp)]
theorem lcM_map {xs : List α} {f : α → β} : lcM xs (fun _ => some true) (fun x => some (f x)) = some (xs.map f) := by
  rw [lcM_pure (p := fun _ => true), List.filter_eq_self.mpr (fun _ _ => rfl)]
theorem lcM_filter {xs : List α} {p : α → Bool} : lcM xs (fun x => some (p x)) (fun x => some x) = some (xs.filter p) := by
  rw [lcM_pure (f := fun x => x)]; simp
theorem i_enumT : gEnum [.tuple (l.map e)] = some ((enumL l).map (zP eI e)) := by simp only [gEnum, enumD_m, enumL]
theorem o_row0 {R : Row} : pIdx (zRow R) (.int ((0 : Nat) : Int)) = some (false, zL zI R.1) := rfl
theorem o_row1 {R : Row} : pIdx (zRow R) (.int ((1 : Nat) : Int)) = some (false, zI R.2.1) := rfl
theorem o_row2 {R : Row} : pIdx (zRow R) (.int ((2 : Nat) : Int)) = some (false, zI R.2.2.1) := rfl
theorem o_row3 {R : Row} : pIdx (zRow R) (.int ((3 : Nat) : Int)) = some (false, zI R.2.2.2) := rfl
theorem set_row1 {R : Row} {v : Int} : setD (zRow R) (.int ((1 : Nat) : Int)) (.int v) = some (zRow (R.1, v, R.2.2.1, R.2.2.2)) := rfl
theorem set_row2 {R : Row} {v : Int} : setD (zRow R) (.int ((2 : Nat) : Int)) (.int v) = some (zRow (R.1, R.2.1, v, R.2.2.2)) := rfl
theorem set_row3 {R : Row} {v : Int} : setD (zRow R) (.int ((3 : Nat) : Int)) (.int v) = some (zRow (R.1, R.2.1, R.2.2.1, v)) := rfl
theorem srtI_mapN (l : List Nat) : (l.map eI).mergeSort leD = (srt l).map eI := by
  have := sorted_N l
  have ok : okSort (l.map eI) = true := by rw [mapN]; exact okSort_ints _
  simp only [pSorted, if_pos ok, Option.some.injEq, Prod.mk.injEq, true_and, PyData.list.injEq] at this
  exact this
end
section
variable {α β γ κ : Type} {e : α → PyData} {f : β → PyData} {ek : κ → PyData} {ev : β → PyData}
theorem map_fst_kv {ps : List (κ × β)} : (ps.map (eKV ek ev)).map Prod.fst = (ps.map Prod.fst).map ek := by rw [List.map_map, List.map_map]; rfl
theorem map_snd_kv {ps : List (κ × β)} : (ps.map (eKV ek ev)).map Prod.snd = (ps.map Prod.snd).map ev := by rw [List.map_map, List.map_map]; rfl
def oSortKN (ps : List (Nat × β)) : Option (List Nat) := if ps = [] then none else some (srt (ps.map Prod.fst))
theorem o_sortKN {ps : List (Nat × β)} {x : List Nat} (h : oSortKN ps = some x) : pSortK (eD eI ev ps) = some (true, .list (x.map eI)) := by
  unfold oSortKN at h
  split at h
  · cases h
  · rename_i q; cases h
    simp only [pSortK, map_fst_kv, intsOf_n, Option.bind_some]
    rw [if_neg (by simpa using q), List.map_map]
    rw [← srtI_mapN]
    rfl
def mergeD [DecidableEq κ] (l : List (κ × β)) : List (κ × β) := l.foldl (fun a p => aPut a p.1 p.2) []
theorem dPut_enc [DecidableEq κ] (h : KEnc ek) (ps : List (κ × β)) (a : κ) (b : β) : dPut (ps.map (eKV ek ev)) (ek a) (ev b) = (aPut ps a b).map (eKV ek ev) := by
  unfold dPut aPut
  have e : (ps.map (eKV ek ev)).any (fun p => keyEq p.1 (ek a)) = ps.any fun p => decide (p.1 = a) := by
    rw [List.any_map]
    congr 1
    funext p
    exact h.eq _ _
  rw [e]
  split
  · rw [List.map_map, List.map_map]
    refine List.map_congr_left fun p _ => ?_
    simp only [Function.comp]
    rw [show keyEq (eKV ek ev p).1 (ek a) = decide (p.1 = a) from h.eq _ _]
    by_cases z : p.1 = a <;> simp [z, eKV]
  · simp
theorem pairsD_enc (hk : ∀ a, isK (ek a) = true) : ∀ l : List (κ × β), pairsD (l.map (zP ek ev)) = some (l.map (eKV ek ev))
  | [] => rfl
  | p :: l => by
    rw [List.map_cons, List.map_cons]
    show (if isK (ek p.1) = true then (pairsD (l.map (zP ek ev))).bind _ else none) = _
    rw [if_pos (hk _), pairsD_enc hk l]; rfl
theorem o_dictP [DecidableEq κ] (h : KEnc ek) (hk : ∀ a, isK (ek a) = true) {l : List (κ × β)} : pDictP (.list (l.map (zP ek ev))) = some (true, eD ek ev (mergeD l)) := by
  show (pairsD _).bind _ = _
  rw [pairsD_enc hk, Option.bind_some]
  congr 3
  unfold dMerge mergeD
  have key : ∀ (l a : List (κ × β)), (l.map (eKV ek ev)).foldl (fun a p => dPut a p.1 p.2) (a.map (eKV ek ev)) = (l.foldl (fun a p => aPut a p.1 p.2) a).map (eKV ek ev) := fun l => by
    induction l with
    | nil => intro a; rfl
    | cons p l ih =>
      intro a
      rw [List.map_cons, List.foldl_cons, List.foldl_cons, ← ih, ← dPut_enc h]
  exact key l []
theorem o_maxV {ps : List (κ × Int)} {x : Int} (hk : ∀ a, isK (ek a) = true) (h : oMax (ps.map Prod.snd) = some x) : pMaxV (eD ek zI ps) = some (false, .int x) := by
  have q : isKs (ps.map (eKV ek zI)) = true := by simp [isKs, hk]
  simp only [pMaxV, if_pos q, map_snd_kv, intsOf_m, Option.bind_some]
  cases ps with
  | nil => cases h
  | cons p ps => cases h; rfl
def maxD (e : α → PyData) : List α → Option α
  | [] => none
  | a :: l => some (l.foldl (fun m x => if PySem.W.dataLt (e m) (e x) = true then x else m) a)
def minD (e : α → PyData) : List α → Option α
  | [] => none
  | a :: l => some (l.foldl (fun m x => if PySem.W.dataLt (e x) (e m) = true then x else m) a)
theorem o_maxD [DecidableEq α] {k : Nat} (h : EncOk e k) (hk : k < 60) (h2 : EncLt e) {l : List α} {x : α} (q : maxD e l = some x) : pMaxS (.list (l.map e)) = some (false, e x) ∧ pMaxS (.tuple (l.map e)) = some (false, e x) := by
  cases l with
  | nil => cases q
  | cons a l =>
    have ok := okMM_enc h hk h2 (a :: l)
    cases q
    have key : ∀ (l : List α) (a : α), PySem.W.maxD (e a) (l.map e) = e (l.foldl (fun m x => if PySem.W.dataLt (e m) (e x) = true then x else m) a) := fun l => by
      induction l with
      | nil => intro a; rfl
      | cons b l ih =>
        intro a
        unfold PySem.W.maxD at ih ⊢
        rw [List.map_cons, List.foldl_cons, List.foldl_cons, ← ih]
        congr 1
        split <;> rfl
    rw [List.map_cons] at ok ⊢
    exact ⟨by simp only [pMaxS, itemsOf, if_pos ok, key], by simp only [pMaxS, itemsOf, if_pos ok, key]⟩
theorem lt_P2 (he : ∀ a, ∃ i, e a = .int i) (hf : ∀ a, ∃ i, f a = .int i) : EncLt (zP e f) := ⟨fun a b => by
  obtain ⟨i, hi⟩ := he a.1; obtain ⟨j, hj⟩ := hf a.2; obtain ⟨i', hi'⟩ := he b.1; obtain ⟨j', hj'⟩ := hf b.2
  simp [hi, hj, hi', hj', PySem.W.alike, PySem.W.alikeAll], fun a => rfl⟩
end
def al : Nat → PyData → Bool
  | _, .none => true
  | _, .bool _ => true
  | _, .int _ => true
  | _, .str _ => true
  | k + 1, .tuple ds => ds.all (al k) && decide (ds.length ≤ 1000)
  | k + 1, .list ds => ds.all (al k) && decide (ds.length ≤ 1000)
  | _, _ => false
section
variable {α β : Type} [DecidableEq α]
def oAlike (e : α → PyData) (a b : α) : Option Bool := if a = b ∧ al 6 (e a) = true then some true else none
theorem oAlike_self {e : α → PyData} {a : α} (h : al 6 (e a) = true) : oAlike e a a = some true := if_pos ⟨rfl, h⟩
end
theorem al_I {k : Nat} {i : Int} : al k (zI i) = true := by cases k <;> rfl
theorem al_n {k : Nat} {i : Nat} : al k (eI i) = true := by cases k <;> rfl
theorem al_T {α : Type} {e : α → PyData} {k : Nat} {l : List α} (hl : l.length ≤ 1000) (h : ∀ x ∈ l, al k (e x) = true) : al (k + 1) (.tuple (l.map e)) = true := by
  simp only [al, Bool.and_eq_true, List.all_eq_true, List.mem_map, decide_eq_true_eq, List.length_map]
  exact ⟨by rintro _ ⟨x, hx, rfl⟩; exact h x hx, hl⟩
theorem al_P {k : Nat} {a b : PyData} (h1 : al k a = true) (h2 : al k b = true) : al (k + 1) (.tuple [a, b]) = true := by simp [al, h1, h2]
section
variable {α : Type} [DecidableEq α] {e : α → PyData} {k : Nat}
end
end L2.Z
namespace L2.Z
open PySem PySem.Spec PyProof.Rows
section
variable {X : Cx}
end
end L2.Z
namespace L2.Z
open PySem PySem.Spec PyProof.Rows
section
variable {X : Cx}
structure PIz (X : Cx) (tg iter : Expr) (wi : TI) : Prop where
  run : ∀ (pins : List (Addr × Obj)) (s : Shared) (σ : St) (H : Hp) (R : It → Hp → Prop), Inv X pins σ H s → wi σ H R →
    wpAny (model X.prog X.w) X.A (eval iter X.env) (PIE X pins σ tg R) X.xe s
end
section
variable {X : Cx} {Φ : Fns} {bf : Nat → Option Nat} {a b c tg : Expr} {x y w : Z.X} {p pos tpos px px2 pos2 posz : Pos} {elts : List Expr} {kk M : Nat} {t : Tg} {body rest : List Stmt} {ss rr : Ss} {it : Expr} {xs : Xs} {g : List PyData → Option (List PyData)}
end
section
variable {X : Cx} {Φ : Fns} {bf : Nat → Option Nat} {a : Expr} {x : Z.X} {pos p2 : Pos}
end
end L2.Z
namespace L2.Z
open PySem
section
variable {α β γ : Type} {e : α → PyData} {f : β → PyData} {g : γ → PyData}
end
section
variable {α β α' β' : Type} {e : α → PyData} {e' : α' → PyData} {f : β → PyData} {f' : β' → PyData}
end
section
variable {Φ : Fns} {bf : Nat → Option Nat} {M j : Nat} {ρ ρ0 : Ev} {Q : Out → Prop} {rest b : Ss} {rs : List Res} {t : Tg} {g : List PyData → Option (List PyData)} {as : Xs}
end
section
variable {α β σ : Type} {Φ : Fns} {bf : Nat → Option Nat} {M : Nat} {ρ ρ0 : Ev} {Q : Out → Prop} {rest b : Ss} {rs : List Res} {ds : List PyData} {t : Tg} {g : List PyData → Option (List PyData)} {as : Xs} {enc : α → PyData} {xs : List α}
end
end L2.Z
namespace L2.Z
open PySem PySem.Spec PyProof.Rows
open PySem.W (EachIs)
section
variable {K : PySem.W.Frag} {Rf : Nat → Option Addr} {G F H : Hp} {ρ : Ev} {σ : St}
end
section
variable {X : Cx} {Φ : Fns} {bf : Nat → Option Nat} {a : Expr} {x : Z.X} {apos cpos p pos : Pos} {n : Str}
end
end L2.Z
namespace L2.Z
open PySem
section
variable {κ β : Type} {ek : κ → PyData} {ev : β → PyData}
end
section
variable {Φ : Fns} {bf : Nat → Option Nat} {M : Nat} {b : Ss} {np ns : Nat} {ds : List PyData} {d c : PyData}
end
end L2.Z
namespace L2.Z.Q
open PySem L2.Z
def q_is_int (value : Int) : Option Bool :=
  some (true && (!false))
def q_is_from (value : Int) (least : Int) (most : Int) : Option Bool :=
  (q_is_int value).bind fun (x1 : Bool) => some (x1 && (decide (least ≤ value) && decide (value ≤ most)))
def q_is_place (value : (Int × Int)) : Option Bool :=
  if ((!true) || (!decide ((2 : Nat) = (2 : Nat)))) then some false else (lcM ([value.1, value.2]) (fun (y1 : Int) => some true) (fun (y1 : Int) => (q_is_from y1 (-(1000 : Int)) (1000 : Int)).bind fun (x2 : Bool) => some x2)).bind fun (x3 : (List Bool)) => some (x3.all id)
def q_need_board (value : (List (List (Int × Int)))) : Option Unit :=
  if ((!true) || (!(decide ((1 : Nat) ≤ value.length) && decide (value.length ≤ (6 : Nat))))) then none else (loopM (enumL value) (fun (y8 : (Nat × (List (Int × Int)))) (s7 : Unit) => (if (!true) then some true else (if (!(decide ((1 : Nat) ≤ y8.2.length) && decide (y8.2.length ≤ (6 : Nat)))) then some true else (atI value (0 : Int)).bind fun (x12 : (List (Int × Int))) => some (!decide (y8.2.length = x12.length))).bind fun (x13 : Bool) => some x13).bind fun (x14 : Bool) => if x14 then none else (lcM y8.2 (fun (y15 : (Int × Int)) => some true) (fun (y15 : (Int × Int)) => (q_is_place y15).bind fun (x16 : Bool) => some x16)).bind fun (x17 : (List Bool)) => if (!(x17.all id)) then none else some ()) ()).bind fun (z9 : Unit) => some ()
def q_sides (board : (List (List (Int × Int)))) : Option (Nat × Nat) :=
  (atI board (0 : Int)).bind fun (x1 : (List (Int × Int))) => some (board.length, x1.length)
def q_lines_of (board : (List (List (Int × Int)))) : Option (List Nat) :=
  (q_sides board).bind fun (x1 : (Nat × Nat)) => (rgv (((x1.1 + x1.2) : Nat) : Int)).bind fun (x2 : (List Nat)) => some x2
def q_left_of (board : (List (List (Int × Int)))) (lot : (List Nat)) : Option ((List Nat) × (List Nat)) :=
  (rg1 (board.length : Int)).bind fun (x1 : (List Nat)) => (some (x1.filter (fun (y2 : Nat) => (!decide (y2 ∈ lot))))).bind fun (x3 : (List Nat)) => (q_lines_of board).bind fun (x4 : (List Nat)) => some (x3, ((cutD x4 (some (board.length : Int)) none).filter (fun (y5 : Nat) => (!decide (y5 ∈ lot)))))
def q_numbers (board : (List (List (Int × Int)))) (lot : (List Nat)) (line : Nat) : Option (List Int) :=
  (q_left_of board lot).bind fun (x1 : ((List Nat) × (List Nat))) => if decide (line < board.length) then (lcM x1.2 (fun (y2 : Nat) => some true) (fun (y2 : Nat) => (atI board (line : Int)).bind fun (x3 : (List (Int × Int))) => (atI x3 ((y2 : Int) - (board.length : Int))).bind fun (x4 : (Int × Int)) => some x4.1)).bind fun (x5 : (List Int)) => some x5 else (lcM x1.1 (fun (y6 : Nat) => some true) (fun (y6 : Nat) => (atI board (y6 : Int)).bind fun (x7 : (List (Int × Int))) => (atI x7 ((line : Int) - (board.length : Int))).bind fun (x8 : (Int × Int)) => some x8.2)).bind fun (x9 : (List Int)) => some x9
def q_need_from (value : Int) (least : Int) (most : Int) : Option Unit :=
  (q_is_from value least most).bind fun (x1 : Bool) => if (!x1) then none else some ()
def q_answers_of (board : (List (List (Int × Int)))) (lot : (List Nat)) (line : Nat) : Option (List Nat) :=
  (q_left_of board lot).bind fun (x1 : ((List Nat) × (List Nat))) => (if decide (line < board.length) then (lcM x1.2 (fun (y10 : Nat) => some true) (fun (y10 : Nat) => (atI board (line : Int)).bind fun (x11 : (List (Int × Int))) => (atI x11 ((y10 : Int) - (board.length : Int))).bind fun (x12 : (Int × Int)) => some (y10, x12.2))).bind fun (x13 : (List (Nat × Int))) => some (mergeD x13) else (lcM x1.1 (fun (y14 : Nat) => some true) (fun (y14 : Nat) => (atI board (y14 : Int)).bind fun (x15 : (List (Int × Int))) => (atI x15 ((line : Int) - (board.length : Int))).bind fun (x16 : (Int × Int)) => some (y14, x16.1))).bind fun (x17 : (List (Nat × Int))) => some (mergeD x17)).bind fun (z18 : (List (Nat × Int))) => (oMax (z18.map Prod.snd)).bind fun (x19 : Int) => (oSortKN z18).bind fun (x20 : (List Nat)) => (lcM x20 (fun (y21 : Nat) => (aGet z18 y21).bind fun (x22 : Int) => some (decide (x22 = x19))) (fun (y21 : Nat) => some y21)).bind fun (x23 : (List Nat)) => some x23
def q_bests_of (board : (List (List (Int × Int)))) (lot : (List Nat)) : Option (List (Nat × Nat)) :=
  (q_left_of board lot).bind fun (x1 : ((List Nat) × (List Nat))) => (loopM x1.1 (fun (y19 : Nat) (s18 : (List (Nat × Nat))) => (loopM x1.2 (fun (y30 : Nat) (s29 : (List (Nat × Nat))) => (q_answers_of board lot y30).bind fun (x33 : (List Nat)) => (if (decide (y19 ∈ x33)) then (q_answers_of board lot y19).bind fun (x34 : (List Nat)) => some (decide (y30 ∈ x34)) else some false).bind fun (x35 : Bool) => (if x35 then (catL s29 [(y19, y30)]).bind fun (x37 : (List (Nat × Nat))) => some x37 else some s29).bind fun (z38 : (List (Nat × Nat))) => some z38) s18).bind fun (z31 : (List (Nat × Nat))) => some z31) ([] : (List (Nat × Nat)))).bind fun (z20 : (List (Nat × Nat))) => some z20
def q_safe_numbers (board : (List (List (Int × Int)))) : Option (Int × Int) :=
  (q_need_board board).bind fun (x1 : Unit) => (rg1 (board.length : Int)).bind fun (x2 : (List Nat)) => (lcM x2 (fun (y3 : Nat) => some true) (fun (y3 : Nat) => (q_numbers board ([] : (List Nat)) y3).bind fun (x4 : (List Int)) => (oMin x4).bind fun (x5 : Int) => some x5)).bind fun (x6 : (List Int)) => (oMax x6).bind fun (x7 : Int) => (q_lines_of board).bind fun (x8 : (List Nat)) => (lcM (cutD x8 (some (board.length : Int)) none) (fun (y9 : Nat) => some true) (fun (y9 : Nat) => (q_numbers board ([] : (List Nat)) y9).bind fun (x10 : (List Int)) => (oMin x10).bind fun (x11 : Int) => some x11)).bind fun (x12 : (List Int)) => (oMax x12).bind fun (x13 : Int) => some (x7, x13)
def q_safe_lines (board : (List (List (Int × Int)))) : Option (List Nat) :=
  (q_safe_numbers board).bind fun (x1 : (Int × Int)) => (q_lines_of board).bind fun (x2 : (List Nat)) => (loopM x2 (fun (y11 : Nat) (s10 : (List Nat)) => (q_numbers board ([] : (List Nat)) y11).bind fun (x14 : (List Int)) => (oMin x14).bind fun (x15 : Int) => (if decide (y11 < board.length) then some (0 : Nat) else some (1 : Nat)).bind fun (x16 : Nat) => (atI [x1.1, x1.2] (x16 : Int)).bind fun (x17 : Int) => (if decide (x15 = x17) then (catL s10 [y11]).bind fun (x19 : (List Nat)) => some x19 else some s10).bind fun (z20 : (List Nat)) => some z20) ([] : (List Nat))).bind fun (z12 : (List Nat)) => some z12
def q_adds_up (board : (List (List (Int × Int)))) : Option Bool :=
  some ((board.map (fun (y1 : (List (Int × Int))) => ((y1.map (fun (y2 : (Int × Int)) => decide ((y2.1 + y2.2) = (0 : Int)))).all id))).all id)
def q_is_against (board : (List (List (Int × Int)))) : Option Bool :=
  (q_need_board board).bind fun (x1 : Unit) => (q_adds_up board).bind fun (x2 : Bool) => some x2
def q_need_against (board : (List (List (Int × Int)))) : Option Unit :=
  (q_need_board board).bind fun (x1 : Unit) => (q_adds_up board).bind fun (x2 : Bool) => if (!x2) then none else some ()
def q_saddle (board : (List (List (Int × Int)))) : Option (Option Int) :=
  (q_need_against board).bind fun (x1 : Unit) => (q_bests_of board ([] : (List Nat))).bind fun (x2 : (List (Nat × Nat))) => (if (!decide (x2 = ([] : (List (Nat × Nat))))) then (atI x2 (0 : Int)).bind fun (x3 : (Nat × Nat)) => (atI board (x3.1 : Int)).bind fun (x4 : (List (Int × Int))) => (atI x2 (0 : Int)).bind fun (x5 : (Nat × Nat)) => (atI x4 ((x5.2 : Int) - (board.length : Int))).bind fun (x6 : (Int × Int)) => some (some x6.1) else some none).bind fun (x7 : (Option Int)) => some x7
def q_gap (board : (List (List (Int × Int)))) : Option Int :=
  (q_need_against board).bind fun (x1 : Unit) => (q_safe_numbers board).bind fun (x2 : (Int × Int)) => some ((-x2.2) - x2.1)
def q_answer_walk (board : (List (List (Int × Int)))) (row : Nat) (steps : Nat) : Option (List Nat) :=
  (q_need_board board).bind fun (x1 : Unit) => (q_is_from (row : Int) (0 : Int) ((board.length : Int) - (1 : Int))).bind fun (x2 : Bool) => if (!x2) then none else (q_need_from (steps : Int) (0 : Int) (100 : Int)).bind fun (x3 : Unit) => (rg1 (steps : Int)).bind fun (x4 : (List Nat)) => (loopM x4 (fun (y10 : Nat) (s9 : (List Nat)) => (atI s9 (-(1 : Int))).bind fun (x13 : Nat) => (q_answers_of board ([] : (List Nat)) x13).bind fun (x14 : (List Nat)) => (atI x14 (0 : Int)).bind fun (x15 : Nat) => (catL s9 [x15]).bind fun (x16 : (List Nat)) => some x16) ([row])).bind fun (z11 : (List Nat)) => some z11
def q_answer_ring (board : (List (List (Int × Int)))) (row : Nat) : Option (List Nat) :=
  (q_need_board board).bind fun (x1 : Unit) => (q_sides board).bind fun (x2 : (Nat × Nat)) => (oMulN (2 : Nat) (x2.1 + x2.2)).bind fun (x3 : Nat) => (q_answer_walk board row x3).bind fun (x4 : (List Nat)) => (atI x4 (-(1 : Int))).bind fun (x5 : Nat) => (q_answers_of board ([] : (List Nat)) x5).bind fun (x6 : (List Nat)) => (atI x6 (0 : Int)).bind fun (x7 : Nat) => (whM FU (fun (s11 : ((List Nat) × Nat)) => some (!decide (s11.2 = x5))) (fun (s11 : ((List Nat) × Nat)) => (catL s11.1 [s11.2]).bind fun (x13 : (List Nat)) => (q_answers_of board ([] : (List Nat)) s11.2).bind fun (x14 : (List Nat)) => (atI x14 (0 : Int)).bind fun (x15 : Nat) => some (x13, x15)) ([x5], x7)).bind fun (z12 : ((List Nat) × Nat)) => (oMinN z12.1).bind fun (x16 : Nat) => (oIndex z12.1 x16).bind fun (x17 : Nat) => (catL (cutD z12.1 (some (x17 : Int)) none) (cutD z12.1 none (some (x17 : Int)))).bind fun (x18 : (List Nat)) => some x18
end L2.Z.Q
namespace L2.Z.Q
open PySem L2.Z
def q__law_rows (lboard_here : (List (List (Int × Int)))) (llot_here : (List Nat)) : Option (List Nat) :=
  (rg1 (lboard_here.length : Int)).bind fun (x1 : (List Nat)) => some (x1.filter (fun (y2 : Nat) => (!decide (y2 ∈ llot_here))))
def q__law_columns (lboard_here : (List (List (Int × Int)))) (llot_here : (List Nat)) : Option (List Nat) :=
  (atI lboard_here (0 : Int)).bind fun (x1 : (List (Int × Int))) => (rg2 lboard_here.length (lboard_here.length + x1.length)).bind fun (x2 : (List Nat)) => some (x2.filter (fun (y3 : Nat) => (!decide (y3 ∈ llot_here))))
def q__law_numbers (lboard_here : (List (List (Int × Int)))) (llot_here : (List Nat)) (lline : Nat) : Option (List Int) :=
  if decide (lline < lboard_here.length) then (q__law_columns lboard_here llot_here).bind fun (x1 : (List Nat)) => (lcM x1 (fun (y2 : Nat) => some true) (fun (y2 : Nat) => (atI lboard_here (lline : Int)).bind fun (x3 : (List (Int × Int))) => (atI x3 ((y2 : Int) - (lboard_here.length : Int))).bind fun (x4 : (Int × Int)) => some x4.1)).bind fun (x5 : (List Int)) => some x5 else (q__law_rows lboard_here llot_here).bind fun (x6 : (List Nat)) => (lcM x6 (fun (y7 : Nat) => some true) (fun (y7 : Nat) => (atI lboard_here (y7 : Int)).bind fun (x8 : (List (Int × Int))) => (atI x8 ((lline : Int) - (lboard_here.length : Int))).bind fun (x9 : (Int × Int)) => some x9.2)).bind fun (x10 : (List Int)) => some x10
def q__law_answers (lboard_here : (List (List (Int × Int)))) (llot_here : (List Nat)) (lline : Nat) : Option (List Nat) :=
  (if decide (lline < lboard_here.length) then (q__law_columns lboard_here llot_here).bind fun (x11 : (List Nat)) => (lcM x11 (fun (y12 : Nat) => some true) (fun (y12 : Nat) => (atI lboard_here (lline : Int)).bind fun (x13 : (List (Int × Int))) => (atI x13 ((y12 : Int) - (lboard_here.length : Int))).bind fun (x14 : (Int × Int)) => some (x14.2, y12))).bind fun (x15 : (List (Int × Nat))) => some x15 else (q__law_rows lboard_here llot_here).bind fun (x16 : (List Nat)) => (lcM x16 (fun (y17 : Nat) => some true) (fun (y17 : Nat) => (atI lboard_here (y17 : Int)).bind fun (x18 : (List (Int × Int))) => (atI x18 ((lline : Int) - (lboard_here.length : Int))).bind fun (x19 : (Int × Int)) => some (x19.1, y17))).bind fun (x20 : (List (Int × Nat))) => some x20).bind fun (z21 : (List (Int × Nat))) => (maxD (zP zI eI) z21).bind fun (x22 : (Int × Nat)) => some ((z21.filter (fun (y23 : (Int × Nat)) => decide (y23.1 = x22.1))).map (fun (y23 : (Int × Nat)) => y23.2))
def q__law_bests (lboard_here : (List (List (Int × Int)))) (llot_here : (List Nat)) : Option (List (Nat × Nat)) :=
  (q__law_rows lboard_here llot_here).bind fun (x1 : (List Nat)) => (loopM x1 (fun (y20 : Nat) (s19 : (List (Nat × Nat))) => (q__law_columns lboard_here llot_here).bind fun (x24 : (List Nat)) => (loopM x24 (fun (y32 : Nat) (s31 : (List (Nat × Nat))) => (q__law_answers lboard_here llot_here y32).bind fun (x35 : (List Nat)) => (if (decide (y20 ∈ x35)) then (q__law_answers lboard_here llot_here y20).bind fun (x36 : (List Nat)) => some (decide (y32 ∈ x36)) else some false).bind fun (x37 : Bool) => (if x37 then (catL s31 [(y20, y32)]).bind fun (x39 : (List (Nat × Nat))) => some x39 else some s31).bind fun (z40 : (List (Nat × Nat))) => some z40) s19).bind fun (z33 : (List (Nat × Nat))) => some z33) ([] : (List (Nat × Nat)))).bind fun (z21 : (List (Nat × Nat))) => some z21
def q__law_taken (lrow : Row) (lmany : Nat) : Option (Nat × Row) :=
  if decide ((0 : Int) < lrow.2.2.2) then (oMod lrow.2.2.2 (lmany : Int)).bind fun (x1 : Int) => (oNat x1).bind fun (x2 : Nat) => (oDiv lrow.2.2.2 (lmany : Int)).bind fun (x3 : Int) => some (x2, (lrow.1, lrow.2.1, lrow.2.2.1, x3)) else if decide ((lrow.1.length : Int) < (lrow.2.1 + (1 : Int))) then (oMul lrow.2.2.1 (48271 : Int)).bind fun (x4 : Int) => (oMod (x4 + (11 : Int)) (2147483647 : Int)).bind fun (x5 : Int) => (oDiv x5 (7 : Int)).bind fun (x6 : Int) => (oMod x6 (lmany : Int)).bind fun (x7 : Int) => (oNat x7).bind fun (x8 : Nat) => some (x8, (lrow.1, (lrow.2.1 + (1 : Int)), x5, lrow.2.2.2)) else (atI lrow.1 ((lrow.2.1 + (1 : Int)) - (1 : Int))).bind fun (x9 : Int) => (oMul lrow.2.2.1 (48271 : Int)).bind fun (x10 : Int) => (oMod ((x10 + x9) + (11 : Int)) (2147483647 : Int)).bind fun (x11 : Int) => (oPow (10 : Int) (18 : Int)).bind fun (x12 : Int) => (if decide (x12 ≤ x9) then (oDiv x9 (lmany : Int)).bind fun (x14 : Int) => some (lrow.1, (lrow.2.1 + (1 : Int)), x11, x14) else some (lrow.1, (lrow.2.1 + (1 : Int)), x11, lrow.2.2.2)).bind fun (z15 : Row) => (oMod x9 (lmany : Int)).bind fun (x16 : Int) => (oNat x16).bind fun (x17 : Nat) => some (x17, z15)
def q__law_board (lrow : Row) (lrows_here : Nat) (lcolumns_here : Nat) (lmany : Nat) : Option ((List (List (Int × Int))) × Row) :=
  (q__law_taken lrow lrows_here).bind fun (x1 : (Nat × Row)) => (some ((1 : Nat) + x1.1)).bind fun (x2 : Nat) => (q__law_taken x1.2 lcolumns_here).bind fun (x3 : (Nat × Row)) => (some ((1 : Nat) + x3.1)).bind fun (x4 : Nat) => (oRepL ([(0 : Nat)]) (x2 : Int)).bind fun (x5 : (List Nat)) => (oRepL ([(0 : Nat)]) (x4 : Int)).bind fun (x6 : (List Nat)) => (q__law_taken x3.2 (3 : Nat)).bind fun (x7 : (Nat × Row)) => (if decide ((0 : Nat) < x7.1) then (lcS x5 (fun (y22 : Nat) (s25 : Row) => (q__law_taken s25 (4 : Nat)).bind fun (x26 : (Nat × Row)) => (oMulN (2 : Nat) x26.1).bind fun (x27 : Nat) => some (x27, x26.2)) x7.2).bind fun (x28 : ((List Nat) × Row)) => (lcS x6 (fun (y29 : Nat) (s32 : Row) => (q__law_taken s32 (4 : Nat)).bind fun (x33 : (Nat × Row)) => (oMulN (2 : Nat) x33.1).bind fun (x34 : Nat) => some (x34, x33.2)) x28.2).bind fun (x35 : ((List Nat) × Row)) => some (x35.2, x28.1, x35.1) else some (x7.2, x5, x6)).bind fun (z36 : (Row × (List Nat) × (List Nat))) => (rg1 (x2 : Int)).bind fun (x37 : (List Nat)) => (loopM x37 (fun (y75 : Nat) (s74 : (Row × (List (List (Int × Int))))) => (rg1 (x4 : Int)).bind fun (x80 : (List Nat)) => (loopM x80 (fun (y88 : Nat) (s87 : (Row × (List (Int × Int)))) => (atI z36.2.1 (y75 : Int)).bind fun (x91 : Nat) => (q__law_taken s87.1 lmany).bind fun (x92 : (Nat × Row)) => (atI z36.2.2 (y88 : Int)).bind fun (x93 : Nat) => (q__law_taken x92.2 lmany).bind fun (x94 : (Nat × Row)) => (some ((((x91 + x92.1) : Nat) : Int), ((((x93 + x94.1) : Nat) : Int) - (1 : Int)))).bind fun (x95 : (Int × Int)) => (catL s87.2 [x95]).bind fun (x96 : (List (Int × Int))) => some (x94.2, x96)) (s74.1, ([] : (List (Int × Int))))).bind fun (z89 : (Row × (List (Int × Int)))) => (catL s74.2 [z89.2]).bind fun (x97 : (List (List (Int × Int)))) => some (z89.1, x97)) (z36.1, ([] : (List (List (Int × Int)))))).bind fun (z76 : (Row × (List (List (Int × Int))))) => some (z76.2, z76.1)
def q__law_is (lfound : Bool) (ldue : Bool) : Option Bool :=
  some (true && decide (lfound = ldue))
end L2.Z.Q
namespace L2.Z
open PySem PySem.Spec PyProof.Rows
def spX (K : PySem.W.Frag) (mg : Str → Option Value) (np : Nat) (ξ : List PyData → Option (PyData × PyData)) : Sp := fun vs H _ E => vs.length = np ∧ ∃ (G F : Hp) (ds : List PyData) (n : Str) (c : PyData) (cls : Value),
  SR K (rfOf none vs) G (slotsOf ds .none none) F (vs.map some) H ∧ ξ ds = some (.str n, c) ∧ mg n = some cls ∧
  ∀ F' H', SR K (rfOf none vs) G (slotsOf ds .none none) F' (vs.map some) H' → Same F F' → E cls none H'
def OutOkW (K : PySem.W.Frag) (mg : Str → Option Value) (W : WX) (Rf : Nat → Option Addr) (G F : Hp) (D : Ends) : Out → Prop
  | .xc n ρ => ∃ cls, mg n = some cls ∧ ∀ σ F' H, SR K Rf G ρ F' σ H → Same F F' → W cls none σ H
  | .nx ρ => OutOk K Rf G F D (.nx ρ)
  | .rt d ρ => OutOk K Rf G F D (.rt d ρ)
  | .bk ρ => OutOk K Rf G F D (.bk ρ)
  | .ct ρ => OutOk K Rf G F D (.ct ρ)
theorem OutOk.w {K : PySem.W.Frag} {mg : Str → Option Value} {W : WX} {Rf : Nat → Option Addr} {G F : Hp} {D : Ends} {o : Out} (h : OutOk K Rf G F D o) : OutOkW K mg W Rf G F D o := by
  cases o with
  | xc n ρ => exact h.elim
  | _ => exact h
theorem OutOkW.mono {K : PySem.W.Frag} {mg : Str → Option Value} {W : WX} {Rf : Nat → Option Addr} {G F F' : Hp} {D : Ends} {o : Out} (s : Same F F') (h : OutOkW K mg W Rf G F D o) : OutOkW K mg W Rf G F' D o := by
  cases o with
  | xc n ρ => obtain ⟨cls, e, k⟩ := h; exact ⟨cls, e, fun σ F1 H R s1 => k σ F1 H R (s.trans s1)⟩
  | nx ρ => exact OutOk.mono (o := .nx ρ) s h
  | rt d ρ => exact OutOk.mono (o := .rt d ρ) s h
  | bk ρ => exact OutOk.mono (o := .bk ρ) s h
  | ct ρ => exact OutOk.mono (o := .ct ρ) s h
def tSW (K : PySem.W.Frag) (mg : Str → Option Value) (W : WX) (f : Ev → Option Out) : TS := fun D σ H => ∃ Rf G ρ F o, SR K Rf G ρ F σ H ∧ f ρ = some o ∧ OutOkW K mg W Rf G F D o
abbrev CSW (X : Cx) (W : WX) (Φ : Fns) (bf : Nat → Option Nat) (M : Nat) (st : Stmt) (s : S) : Prop := PS X st (tSW X.K X.mg W (evS Φ bf M s))
abbrev CSsW (X : Cx) (W : WX) (Φ : Fns) (bf : Nat → Option Nat) (M : Nat) (st : List Stmt) (s : Ss) : Prop := PSs X st (tSW X.K X.mg W (evSs Φ bf M s))
def S.flat : S → Bool
  | .ite _ _ _ | .raise _ | .may _ _ _ | .tryS _ _ _ _ => false
  | _ => true
theorem whLoop_noX {c : Ev → Option (Bool × Ev)} {b : Ev → Option Out} {n : Str} {ρ' : Ev} : ∀ {m : Nat} {ρ : Ev}, whLoop c b m ρ ≠ some (.xc n ρ')
  | 0, ρ, e => by simp only [whLoop] at e; cases e
  | m + 1, ρ, e => by
    simp only [whLoop, Option.bind_eq_some_iff] at e
    obtain ⟨⟨p, ρ1⟩, _, e⟩ := e
    cases p with
    | false => simp only [Bool.false_eq_true, if_false, Option.some.injEq] at e; cases e
    | true =>
      simp only [if_true, Option.bind_eq_some_iff] at e
      obtain ⟨o, _, e⟩ := e
      cases o with
      | nx ρ2 => exact whLoop_noX e
      | ct ρ2 => exact whLoop_noX e
      | bk ρ2 => cases e
      | rt d ρ2 => cases e
      | xc m ρ2 => cases e
theorem mapM_noX {f : Ev → Option Ev} {o : Out} {n : Str} {ρ' : Ev} : o.mapM f ≠ some (.xc n ρ') := fun e => by
  cases o <;> simp only [Out.mapM, Option.bind_eq_some_iff, Option.some.injEq] at e <;> first | (obtain ⟨_, _, z⟩ := e; cases z) | cases e
theorem flat_noX {Φ : Fns} {bf : Nat → Option Nat} {M : Nat} {s : S} {ρ ρ' : Ev} {n : Str} (h : s.flat = true) : evS Φ bf M s ρ ≠ some (.xc n ρ') := fun e => by
  cases s with
  | ite c a b => cases h
  | raise n => cases h
  | may f as s => cases h
  | tryS b n i h' => cases h
  | set i e' => simp only [evS, Option.bind_eq_some_iff, Option.some.injEq] at e; obtain ⟨_, _, _, _, _, _, z⟩ := e; cases z
  | put t e' => simp only [evS, Option.bind_eq_some_iff, Option.some.injEq] at e; obtain ⟨_, _, _, _, z⟩ := e; cases z
  | par is es => simp only [evS, Option.bind_eq_some_iff, Option.some.injEq] at e; obtain ⟨_, _, _, _, z⟩ := e; cases z
  | aug i f e' =>
    simp only [evS] at e
    split at e
    · simp only [Option.bind_eq_some_iff] at e
      obtain ⟨_, _, _, _, q, _, e⟩ := e
      split at e
      · simp only [Option.bind_eq_some_iff, Option.some.injEq] at e; obtain ⟨_, _, z⟩ := e; cases z
      · cases e
    · cases e
  | setAt i k e' => simp only [evS, Option.bind_eq_some_iff, Option.some.injEq] at e; obtain ⟨_, _, _, _, _, _, _, _, _, _, _, _, _, _, z⟩ := e; cases z
  | app i e' => simp only [evS, Option.bind_eq_some_iff, Option.some.injEq] at e; obtain ⟨_, _, _, _, _, _, _, _, _, _, z⟩ := e; cases z
  | ext i e' => simp only [evS, Option.bind_eq_some_iff, Option.some.injEq] at e; obtain ⟨_, _, _, _, _, _, _, _, _, _, _, _, z⟩ := e; cases z
  | expr e' => simp only [evS, Option.bind_eq_some_iff, Option.some.injEq] at e; obtain ⟨_, _, z⟩ := e; cases z
  | whl c b => simp only [evS] at e; exact whLoop_noX e
  | frr t g as b => simp only [evS, Option.bind_eq_some_iff] at e; obtain ⟨_, _, _, _, _, _, _, _, z⟩ := e; exact mapM_noX z
  | zfr j t g as b =>
    simp only [evS, Option.bind_eq_some_iff] at e
    obtain ⟨_, _, e⟩ := e
    split at e
    · simp only [Option.bind_eq_some_iff] at e; obtain ⟨_, _, _, _, _, _, z⟩ := e; exact mapM_noX z
    · cases e
  | ret e' => simp only [evS, Option.bind_eq_some_iff, Option.some.injEq] at e; obtain ⟨_, _, z⟩ := e; cases z
  | pass => simp only [evS, Option.some.injEq] at e; cases e
  | brk => simp only [evS, Option.some.injEq] at e; cases e
  | cnt => simp only [evS, Option.some.injEq] at e; cases e
  | stuck => simp only [evS] at e; cases e
def tXe (K : PySem.W.Frag) (mg : Str → Option Value) (W : WX) (Φ : Fns) (bf : Nat → Option Nat) (f : Nat) (xs : Xs) : St → Hp → Prop := fun σ H => ∃ Rf G ρ F rs ρ1 ds ρ2 n c cls, SR K Rf G ρ F σ H ∧ evs Φ bf xs ρ = some (rs, ρ1) ∧
  escAll ρ1 rs = some (ds, ρ2) ∧ Φ (XB + f) ds = some (.str n, c) ∧ mg n = some cls ∧ ∀ F' H', SR K Rf G ρ2 F' σ H' → Same F F' → W cls none σ H'
section
variable {X : Cx} {W : WX} {Φ : Fns} {bf : Nat → Option Nat} {M : Nat} {e c : Expr} {x y : Z.X} {st : Stmt} {rest a b : List Stmt} {s : S} {ss s1 s2 : Ss} {pos : Pos}
theorem csW_of (h : CS X Φ bf M st s) (hf : s.flat = true := by rfl) : CSW X W Φ bf M st s := by
  refine PS.imp h fun D σ H q => ?_
  obtain ⟨Rf, G, ρ, F, o, R, e, k⟩ := q
  refine ⟨Rf, G, ρ, F, o, R, e, ?_⟩
  cases o with
  | xc n ρ1 => exact absurd e (flat_noX hf)
  | nx ρ1 => exact k
  | rt d ρ1 => exact k
  | bk ρ1 => exact k
  | ct ρ1 => exact k
theorem csW_nil : CSsW X W Φ bf M [] .nil := by
  refine PSs.imp pss_nil fun D σ H h => ?_
  obtain ⟨Rf, G, ρ, F, o, R, e, k⟩ := h
  simp only [evSs, Option.some.injEq] at e
  subst e
  exact k σ F H R (Same.refl _)
theorem csW_cons (h1 : CSW X W Φ bf M st s) (h2 : CSsW X W Φ bf M rest ss) : CSsW X W Φ bf M (st :: rest) (.cons s ss) := by
  refine PSs.imp (pss_cons h1 h2) fun D σ H h => ?_
  obtain ⟨Rf, G, ρ, F, o, R, e, k⟩ := h
  simp only [evSs, Option.bind_eq_some_iff] at e
  obtain ⟨o1, e1, e2⟩ := e
  refine ⟨Rf, G, ρ, F, o1, R, e1, ?_⟩
  cases o1 with
  | nx ρ1 => exact fun σ1 F1 H1 R1 s1 => ⟨Rf, G, ρ1, F1, o, R1, e2, k.mono s1⟩
  | bk ρ1 => simp only [Option.some.injEq] at e2; subst e2; exact k
  | ct ρ1 => simp only [Option.some.injEq] at e2; subst e2; exact k
  | rt d ρ1 => simp only [Option.some.injEq] at e2; subst e2; exact k
  | xc n ρ1 => simp only [Option.some.injEq] at e2; subst e2; exact k
theorem csW_ite (hc : CT X Φ bf c x) (ha : CSsW X W Φ bf M a s1) (hb : CSsW X W Φ bf M b s2) : CSW X W Φ bf M (.If c a b pos) (.ite x s1 s2) := by
  refine PS.imp (ps_if hc ha hb) fun D σ H h => ?_
  obtain ⟨Rf, G, ρ, F, o, R, e, k⟩ := h
  simp only [evS, Option.bind_eq_some_iff] at e
  obtain ⟨⟨p, ρ1⟩, e1, e⟩ := e
  refine ⟨Rf, G, ρ, F, p, ρ1, R, e1, fun F1 H1 R1 s1 => ?_⟩
  cases p with
  | true => simp only [if_true] at e ⊢; exact ⟨Rf, G, ρ1, F1, o, R1, e, k.mono s1⟩
  | false => simp only [Bool.false_eq_true, if_false] at e ⊢; exact ⟨Rf, G, ρ1, F1, o, R1, e, k.mono s1⟩
theorem csW_raise {n : Str} {cls : Value} (hc : X.calm = true) (tk : Takes X W) (he : PMk X e (fun _ H Q => Q cls none H)) (hm : X.mg n = some cls) : CSW X W Φ bf M (.Raise (some e) none pos) (.raise n) := by
  refine PS.imp (ps_raise hc tk he) fun D σ H h => ?_
  obtain ⟨Rf, G, ρ, F, o, R, e, k⟩ := h
  simp only [evS, Option.some.injEq] at e
  subst e
  obtain ⟨cls', e1, k⟩ := k
  rw [hm] at e1
  cases e1
  exact k σ F H R (Same.refl _)
theorem cs_raise {n : Str} : CS X Φ bf M st (.raise n) := by
  refine PS.imp ps_never fun D σ H h => ?_
  obtain ⟨Rf, G, ρ, F, o, R, e, k⟩ := h
  simp only [evS, Option.some.injEq] at e
  subst e
  exact k.elim
theorem PS.or {t u : TS} (h : PS X st t) (k : PS X st u) : PS X st (fun D σ H => t D σ H ∨ u D σ H) := ⟨fun pins s σ H D I q => q.elim (h.run pins s σ H D I) (k.run pins s σ H D I)⟩
theorem cs_may {f : Nat} {as : Xs} (h : CS X Φ bf M st s) : CS X Φ bf M st (.may f as s) := by
  refine PS.imp h fun D σ H q => ?_
  obtain ⟨Rf, G, ρ, F, o, R, e, k⟩ := q
  simp only [evS, Option.bind_eq_some_iff] at e
  obtain ⟨⟨rs, ρ1⟩, e1, ⟨ds, ρ2⟩, e2, e⟩ := e
  split at e
  · simp only [Option.some.injEq] at e; subst e; exact k.elim
  · exact ⟨Rf, G, ρ, F, o, R, e, k⟩
  · cases e
theorem csW_may {f : Nat} {as : Xs} (hl : PS X st (fun _ σ H => tXe X.K X.mg W Φ bf f as σ H)) (h : CSW X W Φ bf M st s) : CSW X W Φ bf M st (.may f as s) := by
  refine PS.imp (PS.or h hl) fun D σ H q => ?_
  obtain ⟨Rf, G, ρ, F, o, R, e, k⟩ := q
  simp only [evS, Option.bind_eq_some_iff] at e
  obtain ⟨⟨rs, ρ1⟩, e1, ⟨ds, ρ2⟩, e2, e⟩ := e
  split at e
  · rename_i n c hn
    simp only [Option.some.injEq] at e
    subst e
    obtain ⟨cls, hm, k⟩ := k
    exact .inr ⟨Rf, G, ρ, F, rs, ρ1, ds, ρ2, n, c, cls, R, e1, e2, hn, hm, fun F' H' R' s' => k σ F' H' R' s'⟩
  · exact .inl ⟨Rf, G, ρ, F, o, R, e, k⟩
  · cases e
abbrev LdE (X : Cx) (W : WX) (Φ : Fns) (bf : Nat → Option Nat) (f : Nat) (as : Xs) (e : Expr) : Prop := PE X e (fun σ H _ => tXe X.K X.mg W Φ bf f as σ H)
abbrev LdT (X : Cx) (W : WX) (Φ : Fns) (bf : Nat → Option Nat) (f : Nat) (as : Xs) (e : Expr) : Prop := PT X e (fun σ H _ => tXe X.K X.mg W Φ bf f as σ H)
abbrev LdS (X : Cx) (W : WX) (Φ : Fns) (bf : Nat → Option Nat) (f : Nat) (as : Xs) (st : Stmt) : Prop := PS X st (fun _ σ H => tXe X.K X.mg W Φ bf f as σ H)
variable {f : Nat} {as : Xs}
theorem ld_expr (he : LdE X W Φ bf f as e) (hs : swapsWith e none pos.line X.env = pure false := by rfl) : LdS X W Φ bf f as (.Expr e pos) := PS.imp (ps_expr he hs) fun D σ H h => h
theorem pss_no {b : List Stmt} : PSs X b (fun _ _ _ => False) := ⟨fun _ _ _ _ _ _ h => h.elim⟩
theorem ld_if (hc : LdT X W Φ bf f as c) : LdS X W Φ bf f as (.If c a b pos) := PS.imp (ps_if hc pss_no pss_no) fun D σ H h => h
theorem ld_t (he : LdE X W Φ bf f as e) (h1 : ∀ whole, isTrue e X.env whole = (do let v ← whole; standAt e.pos; holding [v] (truthy v)) := by intro _; rfl) : LdT X W Φ bf f as e := PT.imp (pt_val he h1) fun σ H Q h => h
theorem ld_not (he : LdT X W Φ bf f as e) : LdT X W Φ bf f as (.UnaryOp .Not e pos) := PT.imp (pt_not he) fun σ H Q h => h
theorem ca_rest (Φ : Fns) (bf : Nat → Option Nat) {es : List Expr} {xs : Xs} (h : CA X Φ bf es xs) : CA X Φ bf es xs := h
theorem ld_arg {k : Nat} {fa : Addr} {fd : FuncData} {ps : List Str} {n : Str} {p : Pos} {es : List Expr} {sp : Sp} {t : TA} (Fk : FnOk X.prog X.w X.K X.mg X.base CX0 k fa fd ps sp) (hr : Room k X.A) (hm : X.mg n = some (.ref fa)) (hk : PySem.W.keepIn X.K (.ref fa) = true) (hb : Binds X.K fd ps [])
    (hg : Gl X n) (he : LdE X W Φ bf f as e) (ha : PA X es t) (hdb : (n == ("__debug__" : Str)) = false := by decide) (h1 : starEach (e :: es) X.env = (false, eval e X.env) :: starEach es X.env := by rfl) (hpl : (backTo pos (starEach es X.env)).any (·.1) = false := by rfl) :
    LdE X W Φ bf f as (.Call (.Name n p) (e :: es) [] pos) :=
  PE.imp (pe_call Fk hr hg hm hk hb .nil pass0 (pa_cons he ha h1) hdb h1 hpl) fun σ H Q h => h
theorem ld_call {k : Nat} {fa : Addr} {fd : FuncData} {ps : List Str} {n : Str} {p : Pos} {es : List Expr} (Fk : FnOk X.prog X.w X.K X.mg X.base (L2.CX X.prog X.w) k fa fd ps (spX X.K X.mg ps.length (Φ (XB + f)))) (hnp : ∀ ds r, Φ (XB + f) ds = some r → ds.length = ps.length) (tk : Takes X W) (hr : Room k X.A) (hm : X.mg n = some (.ref fa))
    (hk : PySem.W.keepIn X.K (.ref fa) = true) (hb : Binds X.K fd ps []) (hg : Gl X n) (ha : CA X Φ bf (e :: es) as) (hdb : (n == ("__debug__" : Str)) = false := by decide) (h1 : starEach (e :: es) X.env = (false, eval e X.env) :: starEach es X.env := by rfl) (hpl : (backTo pos (starEach es X.env)).any (·.1) = false := by rfl) :
    LdE X W Φ bf f as (.Call (.Name n p) (e :: es) [] pos) := by
  refine PE.imp (pe_callS (E := WE W) Fk hr hg hm hk hb (fun σ => passAt tk σ) ha hdb h1 hpl) fun σ H Q h => ?_
  obtain ⟨Rf, G, ρ, F, rs, ρ1, ds, ρ2, n, c, cls, R, e1, e2, e3, hmg, kk⟩ := h
  refine ⟨Rf, G, ρ, F, rs, ρ1, R, e1, fun vs F1 H1 R1 s1 os => ?_⟩
  obtain ⟨F2, R2, s2, ra⟩ := SR.escs R1 os e2
  have hlen := hnp _ _ e3
  refine ⟨by rw [ra.length, hlen], prot G ρ2 σ H1 none, F2, ds, n, c, cls, R2.entryN ra (fun b o q => prot_gs R2 q) (prot_gt R2), e3, hmg, fun F' H' Rc s' => ?_⟩
  exact kk F' H' (R2.backN Rc s') (s1.trans (s2.trans s'))
theorem pmk_own0 {C : Addr} {bmB : List Value} {B newId initId : String} {n : Str} {p : Pos} (F : ExcBaseFacts B newId initId bmB) (q : PySem.W.excIn X.K C bmB newId = true) (gC : X.mg n = some (.ref C)) (kC : PySem.W.keepIn X.K (.ref C) = true) (r : Raises X (.ref C)) (hg : Gl X n)
    (hdb : (n == ("__debug__" : Str)) = false := by decide) : PMk X (.Call (.Name n p) [] [] pos) (fun _ H Q => Q (.ref C) none H) := by
  intro pins s σ H Q I h
  refine wpAny_Call_Name_kw (ld_glob I hg gC ?_ hdb)
  refine PySem.W.callWith_K0 I.kIn kC ?_
  obtain ⟨bm, N, nm, qn, bs, hdct, sn, sub, ab, col, dd, k0, k1, k2, k3, k5, mN, hC, hN, hni, T⟩ := exc_obj I.kIn q
  refine wpAny_call_exc_subT F T hC hN hni (fun h' e hm => ?_) (by simp)
  exact mk_of I hm r h (I.hok.gone hm.new)
end
theorem SR.set_un' {K : PySem.W.Frag} {Rf : Nat → Option Addr} {G F H : Hp} {ρ : Ev} {σ : St} {j : Nat} {v : Option V} (R : SR K Rf G ρ F σ H) (h : ρ[j]? = some .un) : SR K Rf G ρ F (σ.set j v) H := by
  have gσ : ∀ i, i ≠ j → (σ.set j v)[i]? = σ[i]? := fun i hi => List.getElem?_set_ne (Ne.symm hi)
  have mne : ∀ i, MutI ρ i → i ≠ j := fun i ⟨s, e, m⟩ z => by subst z; rw [h] at e; cases e; cases m
  refine ⟨by rw [List.length_set]; exact R.len, R.fz, fun i t e => ?_, fun i k a mi mk ei ek => ?_, fun i a mi ei => ?_, R.gs, fun i a e => ?_, R.gt⟩
  · by_cases hi : i = j
    · subst hi; rw [h] at e; cases e; trivial
    · rw [gσ i hi]; exact R.sl i t e
  · rw [gσ i (mne i mi)] at ei; rw [gσ k (mne k mk)] at ek; exact R.dis i k a mi mk ei ek
  · rw [gσ i (mne i mi)] at ei; exact R.gm i a mi ei
  · obtain ⟨z1, t, z2, z3⟩ := R.rf i a e
    have hi : i ≠ j := fun z => by subst z; rw [h] at z2; cases z2; cases z3
    exact ⟨by rw [gσ i hi]; exact z1, t, z2, z3⟩
section
variable {X : Cx} {Φ : Fns} {bf : Nat → Option Nat} {M : Nat} {x n : Str} {c : Value} {i : Nat} {body suite : List Stmt} {b₀ : Stmt} {np pos pos' : Pos} {b h : Ss}
theorem cs_try (i : Nat) (hs : X.stack = X.env :: X.outer) (hf : X.env.frame = some X.env.locals) (hN : X.N.Nodup) (hi : X.N[i]? = some n) (hln : X.env.kindOf n = some .local) (hg : Gl X x) (hdb : (x == ("__debug__" : Str)) = false) (hm : X.mg x = some c)
    (hx : PySem.W.exmOne X.K c c = some true)
    (hb : ∀ (W : WX) (pn : List (Addr × Obj)) (xe : Value → Shared → Prop), Takes (X.tr pn xe) W → PassesOwn (model X.prog X.w) X.A X.env xe → CSsW (X.tr pn xe) W Φ bf M body b)
    (hsu : ∀ (a : Addr) (oe : Obj) (pn : List (Addr × Obj)), CSs (X.suite a ((a, oe) :: pn)) Φ bf M (b₀ :: suite) h) :
    CS X Φ bf M (.Try body [.ExceptHandler (some (.Name x np)) (some n) (b₀ :: suite) pos'] [] [] pos) (.tryS b x i h) := by
  have tk : Takes X (fun _ _ _ _ => False) := fun u s' ⟨a, B, sI, pins, σ, H, cls, d, e, I, nb, up, sky, na, os, ag, w⟩ => w.elim
  refine PS.imp (ps_try_as (i := i) (tb := fun W => tSW X.K X.mg W (evSs Φ bf M b)) (ts := fun _ _ _ => tS X.K (evSs Φ bf M h)) (Wout := fun _ _ _ _ => False) hs hf hN hi hln ⟨hg, hdb, .inl hm⟩ tk hb (fun a oe cls d pn _ _ => hsu a oe pn)) fun D σ H q => ?_
  obtain ⟨Rf, G, ρ, F, o, R, e, k⟩ := q
  simp only [evS] at e
  split at e
  · simp only [Option.bind_eq_some_iff] at e
    obtain ⟨o1, e1, e⟩ := e
    refine ⟨Rf, G, ρ, F, o1, R, e1, ?_⟩
    cases o1 with
    | nx ρ1 => simp only [Option.some.injEq] at e; subst e; exact k
    | bk ρ1 => simp only [Option.some.injEq] at e; subst e; exact k
    | ct ρ1 => simp only [Option.some.injEq] at e; subst e; exact k
    | rt d ρ1 => simp only [Option.some.injEq] at e; subst e; exact k
    | xc n' ρ1 =>
      simp only at e
      split at e
      · rename_i hn
        subst hn
        split at e
        · rename_i hu
          simp only [Option.bind_eq_some_iff] at e
          obtain ⟨o2, e2, e3⟩ := e
          refine ⟨c, hm, fun σ1 F1 H1 R1 s1 => ⟨true, hx, fun _ a na => ⟨Rf, G, ρ1, F1, o2, R1.set_un' hu, e2, ?_⟩, fun z => by cases z⟩⟩
          cases o2 with
          | nx ρ2 =>
            simp only [Out.un] at e3
            split at e3
            · rename_i hu2; cases e3
              exact fun σ2 F2 H2 R2 s2 => k (σ2.set i none) F2 H2 (R2.set_un' hu2) (s1.trans s2)
            · cases e3
          | bk ρ2 =>
            simp only [Out.un] at e3
            split at e3
            · rename_i hu2; cases e3
              exact fun σ2 F2 H2 R2 s2 => k (σ2.set i none) F2 H2 (R2.set_un' hu2) (s1.trans s2)
            · cases e3
          | ct ρ2 =>
            simp only [Out.un] at e3
            split at e3
            · rename_i hu2; cases e3
              exact fun σ2 F2 H2 R2 s2 => k (σ2.set i none) F2 H2 (R2.set_un' hu2) (s1.trans s2)
            · cases e3
          | rt d ρ2 =>
            simp only [Out.un] at e3
            split at e3
            · rename_i hu2; cases e3
              exact fun v σ2 F2 H2 R2 s2 q => k v σ2 F2 H2 R2 (s1.trans s2) q
            · cases e3
          | xc m ρ2 => simp only [Out.un] at e3; cases e3
        · cases e
      · cases e
  · cases e
end
def xBody (Φ : Fns) (bf : Nat → Option Nat) (M : Nat) (b : Ss) (np ns : Nat) (ds : List PyData) : Option (PyData × PyData) :=
  if ds.length = np then
    match evSs Φ bf M b (slotsOf ds (conArg ds none) none ++ List.replicate (ns - np) .un) with
    | some (.xc n _) => some (.str n, .none)
    | some (.rt _ _) => some (.none, .none)
    | some (.nx _) => some (.none, .none)
    | _ => none
  else none
theorem xof {Φ : Fns} {bf : Nat → Option Nat} {M : Nat} {b : Ss} {np ns : Nat} {ds : List PyData} {r : PyData × PyData} (h : callBody Φ bf M b np ns none ds = some r) : xBody Φ bf M b np ns ds = some (.none, .none) := by
  unfold callBody at h
  unfold xBody
  split at h
  · rename_i hl
    rw [if_pos hl]
    split at h
    · rename_i q; rw [q]
    · rename_i q; rw [q]
    · cases h
  · cases h
theorem exm_self {K : PySem.W.Frag} {S : Addr} (b : PySem.W.subIn K (.ref S) (.type "BaseException") = some true) (i : PySem.W.isClsIn K S = true) (t : PySem.W.typeIn K (.ref S) = some (.type "type")) (s : PySem.W.subIn K (.ref S) (.ref S) = some true) :
    PySem.W.exmOne K (.ref S) (.ref S) = some true := by
  have i' : (PySem.W.clsIn K S).isSome = true := i
  simp [PySem.W.exmOne, PySem.W.kitCls, b, i', t, s]
theorem xBody_len {Φ : Fns} {bf : Nat → Option Nat} {M : Nat} {b : Ss} {np ns : Nat} {ds : List PyData} {r : PyData × PyData} (h : xBody Φ bf M b np ns ds = some r) : ds.length = np := by
  unfold xBody at h
  split at h
  · assumption
  · cases h
theorem fnX_ok {P : Program} {w : World} {K : PySem.W.Frag} {mg : Str → Option Value} {base : Heap} {nm qual : Str} {st : Stmt} {f : Addr} {fd : FuncData} {N ps : List Str} {lv : Nat} {body : Ss} {Φ : Fns} {bf : Nat → Option Nat} {M : Nat} {φ : List PyData → Option (PyData × PyData)}
    (F : Fun K nm qual st f fd) (S : FnScope N ps (defScope st))
    (hb : ∀ (cdv : Value) (A : Around) (outer : List Env) (s : Shared) (H : Hp) (E : XK), Room lv (A.deeper (envOfC qual (defScope st) s.heap.objs.size f cdv)) →
      CSsW (cxOf (L2.CX P w) P w K mg base N qual (defScope st) f cdv A outer s H E) (fun cls d _ H => E cls d H) Φ bf M (defBody st) body)
    (hφ : ∀ ds r, φ ds = some r → xBody Φ bf M body ps.length N.length ds = some r) : FnOk P w K mg base (L2.CX P w) (lv + 1) f fd ps (spX K mg ps.length φ) := by
  refine F.okX S (fun vs H Q E h => h.1) (fun cdv A outer s H vs Q E hr h => ⟨_, hb cdv A outer s H E hr, ?_⟩)
  obtain ⟨hl, G, F0, ds, n, c, cls, R, e, hm, kk⟩ := h
  have e := hφ _ _ e
  unfold xBody at e
  split at e
  · rename_i hdl
    have R1 := R.more (N.length - vs.length)
    rw [hl] at R1
    have st0 : start N vs = vs.map some ++ List.replicate (N.length - ps.length) none := by unfold start; rw [hl]
    show tSW K mg _ (evSs Φ bf M body) { nx := fun _ H' => Q .non H', rt := Q } (start N vs) H
    rw [st0]
    split at e
    · rename_i n' ρ he
      cases e
      exact ⟨_, G, _, F0, _, R1, he, cls, hm, fun σ' F' H' R' s' => kk F' H' (R.leave (c' := .none) (d := .none) R' s' rfl) s'⟩
    · cases e
    · cases e
    · cases e
  · cases e
theorem fn_zeroX {P : Program} {w : World} {K : PySem.W.Frag} {mg : Str → Option Value} {base : Heap} {lv : Nat} {f : Addr} {fd : FuncData} {ps : List Str} :
    FnOk P w K mg base (L2.CX P w) lv f fd ps (spX K mg ps.length fun _ => none) :=
  ⟨fun vs H Q E h => h.1, fun _ _ _ _ _ _ _ _ _ _ _ _ _ h => by obtain ⟨_, _, _, _, _, _, _, _, e, _⟩ := h; cases e⟩
end L2.Z
namespace L2.Z
open PySem
section
variable {Φ : Fns} {bf : Nat → Option Nat} {M : Nat} {ρ ρ1 ρ2 : Ev} {Q : Out → Prop} {s : S} {rest b hs : Ss} {rs : List Res} {ds : List PyData} {as : Xs} {f i : Nat} {n : Str} {c : PyData}
theorem kraise (q : Q (.xc n ρ)) : Rn Φ bf M (.cons (.raise n) rest) ρ Q := by
  refine ⟨.xc n ρ, ?_, q⟩
  rw [z_c]
  simp only [evS, Option.bind_some]
theorem kmayN (h1 : evs Φ bf as ρ = some (rs, ρ1)) (h2 : escAll ρ1 rs = some (ds, ρ2)) (h3 : Φ (XB + f) ds = some (.none, c)) (k : Rn Φ bf M (.cons s rest) ρ Q) : Rn Φ bf M (.cons (.may f as s) rest) ρ Q := by
  have e : evS Φ bf M (.may f as s) ρ = evS Φ bf M s ρ := by simp only [evS, h1, h2, h3, Option.bind_some]
  obtain ⟨o, e1, q⟩ := k
  refine ⟨o, ?_, q⟩
  rw [z_c] at e1 ⊢
  rw [e]; exact e1
theorem kmayX (h1 : evs Φ bf as ρ = some (rs, ρ1)) (h2 : escAll ρ1 rs = some (ds, ρ2)) (h3 : Φ (XB + f) ds = some (.str n, c)) (q : Q (.xc n ρ2)) : Rn Φ bf M (.cons (.may f as s) rest) ρ Q := by
  refine ⟨.xc n ρ2, ?_, q⟩
  rw [z_c]
  simp only [evS, h1, h2, h3, Option.bind_some]
theorem kxbody {np ns : Nat} (hl : ds.length = np) (h : Rn Φ bf M b (slotsOf ds (conArg ds none) none ++ List.replicate (ns - np) .un) (fun o => ∃ σ, o = .xc n σ)) : xBody Φ bf M b np ns ds = some (.str n, .none) := by
  obtain ⟨o, e, σ, rfl⟩ := h
  unfold xBody
  rw [if_pos hl, e]
def Tr (Φ : Fns) (bf : Nat → Option Nat) (M : Nat) (n : Str) (i : Nat) (hs : Ss) (Q : Out → Prop) : Out → Prop
  | .xc n' ρ => n' = n ∧ ρ[i]? = some .un ∧ Rn Φ bf M hs ρ (fun o => ∃ o', o.un i = some o' ∧ Q o')
  | .nx ρ => Q (.nx ρ)
  | .rt d ρ => Q (.rt d ρ)
  | .bk ρ => Q (.bk ρ)
  | .ct ρ => Q (.ct ρ)
def EnT {β σ : Type} (I : σ → Ev → Prop) (e : β → PyData) : Stp σ β → Out → Prop
  | .nx z, .nx ρ => I z ρ
  | .rt x, .rt d _ => d = e x
  | _, _ => False
theorem ktryR {β σ : Type} {e : β → PyData} {m : Option (Stp σ β)} {z : Stp σ β} (I : σ → Ev → Prop) (hm : m = some z) (h0 : ρ[i]? = some .un) (h1 : m = some z → Rn Φ bf M b ρ (Tr Φ bf M n i hs (EnT I e z))) (h2 : ∀ s ρ, z = .nx s → I s ρ → Rn Φ bf M rest ρ Q) (h3 : ∀ x ρ, z = .rt x → Q (.rt (e x) ρ)) :
    Rn Φ bf M (.cons (.tryS b n i hs) rest) ρ Q := by
  have fin : ∀ o, evS Φ bf M (.tryS b n i hs) ρ = some o → EnT I e z o → Rn Φ bf M (.cons (.tryS b n i hs) rest) ρ Q := fun o e1 q => by
    cases z with
    | nx s => cases o with
      | nx ρ' => obtain ⟨o2, e2, q2⟩ := h2 s ρ' rfl q; exact ⟨o2, by rw [z_c, e1]; exact e2, q2⟩
      | _ => exact q.elim
    | bk s => cases o <;> exact q.elim
    | rt x => cases o with
      | rt d ρ' => cases q; exact ⟨_, by rw [z_c, e1]; rfl, h3 x ρ' rfl⟩
      | _ => exact q.elim
  obtain ⟨o, eb, q⟩ := h1 hm
  cases o with
  | xc n' ρ' =>
    obtain ⟨rfl, hu, o1, e1, o2, e2, q⟩ := q
    exact fin o2 (by simp only [evS, h0, eb, Option.bind_some, if_true, hu, e1, e2]) q
  | nx ρ' => exact fin _ (by simp only [evS, h0, eb, Option.bind_some]) q
  | rt d ρ' => exact fin _ (by simp only [evS, h0, eb, Option.bind_some]) q
  | bk ρ' => exact fin _ (by simp only [evS, h0, eb, Option.bind_some]) q
  | ct ρ' => exact fin _ (by simp only [evS, h0, eb, Option.bind_some]) q
end
section
variable {α β γ δ ε : Type}
end
end L2.Z
namespace L2.Z.K08
open PySem L2.Z L2.Z.Q
def x_need_against (board : (List (List (Int × Int)))) : Option Bool :=
  (q_need_board board).bind fun (x1 : Unit) => (q_adds_up board).bind fun (x2 : Bool) => if (!x2) then some true else some false
def x_saddle (board : (List (List (Int × Int)))) : Option Bool :=
  (x_need_against board).bind fun (x2 : Bool) => if x2 = true then some true else some false
def q_law (lscript : (List Int)) : Option Bool :=
  (q__law_board (lscript, (0 : Int), (5208 : Int), (0 : Int)) (5 : Nat) (5 : Nat) (5 : Nat)).bind fun (x1 : ((List (List (Int × Int))) × Row)) => (q__law_taken x1.2 (2 : Nat)).bind fun (x2 : (Nat × Row)) => (if decide (x2.1 = (0 : Nat)) then (some (x1.1.map (fun (y6 : (List (Int × Int))) => (y6.map (fun (y7 : (Int × Int)) => (y7.1, ((0 : Int) - y7.1))))))).bind fun (x8 : (List (List (Int × Int)))) => some x8 else some x1.1).bind fun (z9 : (List (List (Int × Int)))) => (atI z9 (0 : Int)).bind fun (x10 : (List (Int × Int))) => (rg1 (((z9.length + x10.length) : Nat) : Int)).bind fun (x11 : (List Nat)) => (lcM x11 (fun (y12 : Nat) => some true) (fun (y12 : Nat) => (q__law_numbers z9 ([] : (List Nat)) y12).bind fun (x13 : (List Int)) => (oMin x13).bind fun (x14 : Int) => some x14)).bind fun (x15 : (List Int)) => (oMax (cutD x15 none (some (z9.length : Int)))).bind fun (x16 : Int) => (oMax (cutD x15 (some (z9.length : Int)) none)).bind fun (x17 : Int) => (q_safe_numbers z9).bind fun (x18 : (Int × Int)) => (oAlike eP x18 (x16, x17)).bind fun (x19 : Bool) => if (!x19) then some false else (rg1 (z9.length : Int)).bind fun (x20 : (List Nat)) => (lcM x20 (fun (y21 : Nat) => (atI x15 (y21 : Int)).bind fun (x22 : Int) => some (decide (x22 = x16))) (fun (y21 : Nat) => some y21)).bind fun (x23 : (List Nat)) => (rg2 z9.length (z9.length + x10.length)).bind fun (x24 : (List Nat)) => (lcM x24 (fun (y25 : Nat) => (atI x15 (y25 : Int)).bind fun (x26 : Int) => some (decide (x26 = x17))) (fun (y25 : Nat) => some y25)).bind fun (x27 : (List Nat)) => (catL x23 x27).bind fun (x28 : (List Nat)) => (q_safe_lines z9).bind fun (x29 : (List Nat)) => (oAlike eT x29 x28).bind fun (x30 : Bool) => if (!x30) then some false else (loopM z9 (fun (y34 : (List (Int × Int))) (s33 : (List Nat)) => (catL s33 ((y34.filter (fun (y37 : (Int × Int)) => (!decide ((y37.1 + y37.2) = (0 : Int))))).map (fun (y37 : (Int × Int)) => (1 : Nat)))).bind fun (x38 : (List Nat)) => some x38) ([] : (List Nat))).bind fun (z35 : (List Nat)) => (q_is_against z9).bind fun (x39 : Bool) => (q__law_is x39 (decide (z35 = ([] : (List Nat))))).bind fun (x40 : Bool) => if (!x40) then some false else ((q__law_bests z9 ([] : (List Nat))).bind fun (x55 : (List (Nat × Nat))) => (x_saddle z9).bind fun (x68 : Bool) => if x68 = true then some (.nx ("not" : Str)) else (q_saddle z9).bind fun (x56 : (Option Int)) => (if (!decide (x55 = ([] : (List (Nat × Nat))))) then (atI x55 (0 : Int)).bind fun (x57 : (Nat × Nat)) => (atI z9 (x57.1 : Int)).bind fun (x58 : (List (Int × Int))) => (atI x55 (0 : Int)).bind fun (x59 : (Nat × Nat)) => (atI x58 ((x59.2 : Int) - (z9.length : Int))).bind fun (x60 : (Int × Int)) => some (some x60.1) else some none).bind fun (x61 : (Option Int)) => (oAlike (zO zI) x56 x61).bind fun (x62 : Bool) => if (!x62) then some (.rt false) else (q_gap z9).bind fun (x63 : Int) => (oAlike zI x63 (((0 : Int) - x16) - x17)).bind fun (x64 : Bool) => (if (!x64) then some true else (q_gap z9).bind fun (x65 : Int) => some (!decide (decide (x65 = (0 : Int)) = (!decide (x55 = ([] : (List (Nat × Nat)))))))).bind fun (x66 : Bool) => if x66 then some (.rt false) else (q_gap z9).bind fun (x67 : Int) => if decide (x67 < (0 : Int)) then some (.rt false) else some (.nx ("" : Str)) : Option (Stp Str Bool)).bind fun o69 => (match o69 with | .nx z70 => (if (!decide (decide (z70 = ("" : Str)) = decide (z35 = ([] : (List Nat))))) then some false else (q__law_taken x2.2 z9.length).bind fun (x73 : (Nat × Row)) => (q__law_taken x73.2 (12 : Nat)).bind fun (x74 : (Nat × Row)) => (rg1 (60 : Int)).bind fun (x75 : (List Nat)) => (loopM x75 (fun (y81 : Nat) (s80 : (List Nat)) => (atI s80 (-(1 : Int))).bind fun (x84 : Nat) => (q__law_answers z9 ([] : (List Nat)) x84).bind fun (x85 : (List Nat)) => (atI x85 (0 : Int)).bind fun (x86 : Nat) => (catL s80 [x86]).bind fun (x87 : (List Nat)) => some x87) ([x73.1])).bind fun (z82 : (List Nat)) => (q_answer_walk z9 x73.1 x74.1).bind fun (x88 : (List Nat)) => (oAlike eT x88 (cutD z82 none (some (((x74.1 + (1 : Nat)) : Nat) : Int)))).bind fun (x89 : Bool) => if (!x89) then some false else (atI z82 (40 : Int)).bind fun (x90 : Nat) => (loopM (cutD z82 (some (41 : Int)) none) (fun (y95 : Nat) (s94 : (List Nat)) => (if (!decide (y95 ∈ s94)) then (catL s94 [y95]).bind fun (x99 : (List Nat)) => some x99 else some s94).bind fun (z100 : (List Nat)) => some z100) ([x90])).bind fun (z96 : (List Nat)) => (oMinN z96).bind fun (x101 : Nat) => (oIndex z96 x101).bind fun (x102 : Nat) => (q_answer_ring z9 x73.1).bind fun (x103 : (List Nat)) => (catL (cutD z96 (some (x102 : Int)) none) (cutD z96 none (some (x102 : Int)))).bind fun (x104 : (List Nat)) => (oAlike eT x103 x104).bind fun (x105 : Bool) => some x105) | .bk _ => none | .rt r71 => some r71)
end L2.Z.K08
namespace L2.Z
open PySem
section
variable {α β γ σ : Type}
theorem bi {o : Option α} {f : α → Option β} {x : α} {r : Option β} (h : o = some x) (k : f x = r) : o.bind f = r := by rw [h]; exact k
theorem bx {x : α} {f : α → Option β} {r : Option β} (k : f x = r) : (some x).bind f = r := k
theorem ifo {t : Bool} {a b : Option β} {r : Option β} (h : t = false) (k : b = r) : (if t = true then a else b) = r := by rw [if_neg (by rw [h]; exact Bool.false_ne_true)]; exact k
theorem ifi {t : Bool} {a b : Option β} {r : Option β} (h : t = true) (k : a = r) : (if t = true then a else b) = r := by rw [if_pos h]; exact k
theorem lcM_eq {xs : List α} {p : α → Option Bool} {f : α → Option β} (P : α → Bool) (F : α → β) (hp : ∀ x ∈ xs, p x = some (P x)) (hf : ∀ x ∈ xs, P x = true → f x = some (F x)) : lcM xs p f = some ((xs.filter P).map F) := by
  induction xs with
  | nil => rfl
  | cons x xs ih =>
    have ih := ih (fun y hy => hp y (by simp [hy])) (fun y hy => hf y (by simp [hy]))
    rw [lcM, hp x (by simp), Option.bind_some]
    cases h : P x with
    | true => rw [if_pos rfl, hf x (by simp) h, Option.bind_some, ih, List.filter_cons_of_pos h]; rfl
    | false => rw [if_neg (by simp), ih, List.filter_cons_of_neg (by rw [h]; simp)]
theorem lcM_all {xs : List α} {f : α → Option β} (F : α → β) (hf : ∀ x ∈ xs, f x = some (F x)) : lcM xs (fun _ => some true) f = some (xs.map F) := by
  have := lcM_eq (xs := xs) (p := fun _ => some true) (f := f) (fun _ => true) F (fun _ _ => rfl) (fun x hx _ => hf x hx)
  rw [this, List.filter_eq_self.mpr (fun _ _ => rfl)]
theorem lcM_sel {xs : List α} {p : α → Option Bool} (P : α → Bool) (hp : ∀ x ∈ xs, p x = some (P x)) : lcM xs p (fun x => some x) = some (xs.filter P) := by
  rw [lcM_eq P (fun x => x) hp (fun _ _ _ => rfl), List.map_id']
theorem loopM_inv {xs : List α} {f : α → σ → Option σ} {s : σ} (I : List α → σ → Prop) (h0 : I [] s) (hs : ∀ ys x zs s, xs = ys ++ x :: zs → I ys s → ∃ s', f x s = some s' ∧ I (ys ++ [x]) s') : ∃ s', loopM xs f s = some s' ∧ I xs s' := by
  have key : ∀ (zs ys : List α) (s : σ), xs = ys ++ zs → I ys s → ∃ s', loopM zs f s = some s' ∧ I xs s' := fun zs => by
    induction zs with
    | nil => intro ys s e hI; rw [List.append_nil] at e; subst e; exact ⟨s, rfl, hI⟩
    | cons x zs ih =>
      intro ys s e hI
      obtain ⟨s', e1, e2⟩ := hs ys x zs s e hI
      obtain ⟨s2, e3, e4⟩ := ih (ys ++ [x]) s' (by rw [List.append_assoc]; exact e) e2
      exact ⟨s2, by rw [loopM, e1]; exact e3, e4⟩
  exact key xs [] s rfl h0
theorem loopM_eq {xs : List α} {f : α → σ → Option σ} (G : List α → σ) (hs : ∀ ys x zs, xs = ys ++ x :: zs → f x (G ys) = some (G (ys ++ [x]))) : loopM xs f (G []) = some (G xs) := by
  obtain ⟨s', e, h⟩ := loopM_inv (xs := xs) (f := f) (s := G []) (fun ys s => s = G ys) rfl (fun ys x zs s e hI => ⟨_, by rw [hI]; exact hs ys x zs e, rfl⟩)
  rw [e, h]
theorem whM_inv {n : Nat} {c : σ → Option Bool} {f : σ → Option σ} {s : σ} (I : σ → Prop) (m : σ → Nat) (R : σ → Prop) (h0 : I s) (hm : m s < n)
    (hs : ∀ s, I s → (c s = some false ∧ R s) ∨ ∃ s', c s = some true ∧ f s = some s' ∧ I s' ∧ m s' < m s) : ∃ s', whM n c f s = some s' ∧ R s' := by
  have key : ∀ (k n : Nat) (s : σ), m s = k → k < n → I s → ∃ s', whM n c f s = some s' ∧ R s' := fun k => by
    induction k using Nat.strongRecOn with
    | ind k ih =>
      intro n s e hn hI
      obtain ⟨n, rfl⟩ : ∃ j, n = j + 1 := ⟨n - 1, by omega⟩
      rcases hs s hI with ⟨e1, e2⟩ | ⟨s', e1, e2, e3, e4⟩
      · exact ⟨s, by rw [whM, e1]; rfl, e2⟩
      · obtain ⟨s2, e5, e6⟩ := ih (m s') (by omega) n s' rfl (by omega) e3
        exact ⟨s2, by rw [whM, e1, Option.bind_some, if_pos rfl, e2, Option.bind_some]; exact e5, e6⟩
  exact key _ n s rfl hm h0
theorem fu {m k : Nat} (h : m ≤ k) (hk : k < 10 ^ 20) : m < FU := Nat.lt_of_le_of_lt h (Nat.lt_trans hk (Nat.pow_lt_pow_right (by decide) (by decide)))
theorem lcS_inv {xs : List α} {f : α → σ → Option (β × σ)} {s : σ} (I : List β → σ → Prop) (h0 : I [] s) (hs : ∀ x ∈ xs, ∀ ys s, I ys s → ∃ y s', f x s = some (y, s') ∧ I (ys ++ [y]) s') : ∃ ys s', lcS xs f s = some (ys, s') ∧ ys.length = xs.length ∧ I ys s' := by
  have key : ∀ (xs : List α) (acc : List β) (s : σ), (∀ x ∈ xs, ∀ ys s, I ys s → ∃ y s', f x s = some (y, s') ∧ I (ys ++ [y]) s') → I acc s → ∃ ys s', lcS xs f s = some (ys, s') ∧ ys.length = xs.length ∧ I (acc ++ ys) s' := fun xs => by
    induction xs with
    | nil => intro acc s _ hI; exact ⟨[], s, rfl, rfl, by rw [List.append_nil]; exact hI⟩
    | cons x xs ih =>
      intro acc s h hI
      obtain ⟨y, s', e1, e2⟩ := h x (by simp) acc s hI
      obtain ⟨ys, s2, e3, e4, e5⟩ := ih (acc ++ [y]) s' (fun z hz => h z (by simp [hz])) e2
      refine ⟨y :: ys, s2, by rw [lcS, e1, Option.bind_some, e3]; rfl, by simp [e4], by rw [List.append_assoc] at e5; exact e5⟩
  obtain ⟨ys, s', e1, e2, e3⟩ := key xs [] s hs h0
  exact ⟨ys, s', e1, e2, e3⟩
theorem catL_of {l m : List α} (h : l.length + m.length ≤ 1000000) : catL l m = some (l ++ m) := if_pos (Nat.le_trans h (by decide))
theorem rg1_nat {n : Nat} (h : n ≤ 1000000) : rg1 (n : Int) = some (List.range n) := by
  unfold rg1
  rw [if_pos ⟨by omega, by have := sizeLine_eq; omega⟩, Int.toNat_natCast]
theorem rg2_nat {a n : Nat} (ha : a ≤ 1000000) (h : n ≤ 1000000) : rg2 a n = some (List.range' a (n - a)) := by
  unfold rg2
  rw [if_pos ⟨by have := sizeLine_eq; omega, by omega, by omega, by omega⟩]
theorem rgv_nat {n : Nat} (h : n ≤ 1000000) : rgv (n : Int) = some (List.range n) := by
  unfold rgv
  rw [if_pos (RgOk.of_le (by omega) (by omega) (by omega) (by omega)), Int.toNat_natCast]
theorem atI_get {l : List α} {i : Nat} (h : i < l.length) : atI l (i : Int) = some l[i] := by rw [at_nat h]; exact List.getElem?_eq_getElem h
theorem atI_eq {l : List α} {i : Nat} {x : α} (h : l[i]? = some x) : atI l (i : Int) = some x := by
  have := (List.getElem?_eq_some_iff.mp h).1
  rw [at_nat this, h]
theorem atI_sub {l : List α} {i j : Nat} {x : α} (h : j ≤ i) (hx : l[i - j]? = some x) : atI l ((i : Int) - (j : Int)) = some x := by
  rw [show (i : Int) - j = ((i - j : Nat) : Int) by omega]; exact atI_eq hx
theorem oNat_of {i : Int} (h : 0 ≤ i) : oNat i = some i.toNat := if_pos h
theorem big {n : Nat} (h : n < 10 ^ 100) : n < 2 ^ 8192 := Nat.lt_trans h (Nat.lt_of_lt_of_le (by decide +kernel : (10 : Nat) ^ 100 < 2 ^ 400) (Nat.pow_le_pow_right (by decide) (by decide)))
theorem oMulN_s {i j : Nat} (hi : i < 10 ^ 100) (hj : j < 10 ^ 100) : oMulN i j = some (i * j) := if_pos (.inr ⟨by rw [Int.natAbs_natCast]; exact big hi, by rw [Int.natAbs_natCast]; exact big hj⟩)
theorem oMax_some {l : List Int} (h : l ≠ []) : ∃ m, oMax l = some m ∧ m ∈ l ∧ ∀ x ∈ l, x ≤ m := by
  cases l with
  | nil => exact absurd rfl h
  | cons a l => exact ⟨_, rfl, foldl_max l a⟩
theorem oMin_some {l : List Int} (h : l ≠ []) : ∃ m, oMin l = some m ∧ m ∈ l ∧ ∀ x ∈ l, m ≤ x := by
  cases l with
  | nil => exact absurd rfl h
  | cons a l => exact ⟨_, rfl, foldl_min l a⟩
theorem oMax_eq {l : List Int} {m : Int} (h1 : m ∈ l) (h2 : ∀ x ∈ l, x ≤ m) : oMax l = some m := by
  obtain ⟨m', e, h3, h4⟩ := oMax_some (List.ne_nil_of_mem h1)
  rw [e]; congr 1; have := h2 _ h3; have := h4 _ h1; omega
theorem oMin_eq {l : List Int} {m : Int} (h1 : m ∈ l) (h2 : ∀ x ∈ l, m ≤ x) : oMin l = some m := by
  obtain ⟨m', e, h3, h4⟩ := oMin_some (List.ne_nil_of_mem h1)
  rw [e]; congr 1; have := h2 _ h3; have := h4 _ h1; omega
theorem oMinN_eq {l : List Nat} {m : Nat} (h1 : m ∈ l) (h2 : ∀ x ∈ l, m ≤ x) : oMinN l = some m := by
  cases l with
  | nil => simp at h1
  | cons a l =>
    have e := foldl_minN l a
    have e2 : oMin ((a :: l).map fun n : Nat => (n : Int)) = some (m : Int) := oMin_eq (List.mem_map.mpr ⟨m, h1, rfl⟩) (fun x hx => by obtain ⟨y, hy, rfl⟩ := List.mem_map.mp hx; have := h2 y hy; omega)
    rw [List.map_cons, oMin, e] at e2
    rw [oMinN]
    congr 1
    have := Option.some.inj e2
    omega
theorem mem_enumL {l : List α} {p : Nat × α} : p ∈ enumL l ↔ l[p.1]? = some p.2 := by
  obtain ⟨i, x⟩ := p
  simp only [enumL, List.mem_map, Prod.mk.injEq]
  constructor
  · rintro ⟨⟨y, j⟩, h, rfl, rfl⟩; exact List.mem_zipIdx_iff_getElem?.mp h
  · intro h; exact ⟨(x, i), List.mem_zipIdx_iff_getElem?.mpr h, rfl, rfl⟩
theorem repL_one {a : α} {n : Nat} (h : n ≤ 100000) : oRepL [a] (n : Int) = some (List.replicate n a) := by
  unfold oRepL
  rw [if_pos ⟨by omega, by omega, by simp⟩, Int.toNat_natCast]
  congr 1
  induction n with
  | zero => rfl
  | succ n ih => rw [List.replicate_succ, List.flatten_cons, ih (by omega)]; rfl
theorem oIndex_of [DecidableEq α] {l : List α} {a : α} (h : a ∈ l) : oIndex l a = some (l.idxOf a) := if_pos h
end
end L2.Z
namespace L2.Z
namespace Bd
def n (b : Bd) : Nat := b.hi + b.wi
inductive Comes (b : Bd) : List Nat → Prop
  | nil : Comes b []
  | step {l m : List Nat} {x : Nat} : Comes b l → x < b.hi + b.wi → x ∉ l → b.canF l x = true → (∀ y, y ∈ m ↔ y ∈ l ∨ y = x) → Comes b m
section
variable {b : Bd} {l m : List Nat} {x y z : Nat}
theorem mem_cross : y ∈ b.cross l x ↔ y ∉ l ∧ ((x < b.hi ∧ b.hi ≤ y ∧ y < b.hi + b.wi) ∨ (b.hi ≤ x ∧ y < b.hi)) := by
  unfold cross
  split
  · rename_i h; rw [mem_colsL]
    exact ⟨fun q => ⟨q.2, .inl ⟨h, q.1⟩⟩, fun q => by rcases q with ⟨q1, q2 | q2⟩; exact ⟨q2.2, q1⟩; omega⟩
  · rename_i h; rw [mem_rowsL]
    exact ⟨fun q => ⟨q.2, .inr ⟨by omega, q.1⟩⟩, fun q => by rcases q with ⟨q1, q2 | q2⟩; omega; exact ⟨q2.2, q1⟩⟩
theorem same_iff : b.same x y = true ↔ (x < b.hi ↔ y < b.hi) := by
  unfold same
  by_cases h : x < b.hi <;> by_cases h2 : y < b.hi <;> simp [h, h2]
theorem isG_iff : b.isG l x y = true ↔ (x < b.hi ↔ y < b.hi) ∧ ∀ c ∈ b.cross l x, b.num x c < b.num y c := by
  unfold isG
  rw [Bool.and_eq_true, same_iff, List.all_eq_true]
  simp
theorem cross_same (h : x < b.hi ↔ y < b.hi) : b.cross l x = b.cross l y := by
  unfold cross
  by_cases q : x < b.hi
  · rw [if_pos q, if_pos (h.mp q)]
  · rw [if_neg q, if_neg fun z => q (h.mpr z)]
theorem isG_mono (s : ∀ x ∈ l, x ∈ m) (h : b.isG l x y = true) : b.isG m x y = true := by
  rw [isG_iff] at *
  refine ⟨h.1, fun c hc => h.2 c ?_⟩
  rw [mem_cross] at *
  exact ⟨fun q => hc.1 (s c q), hc.2⟩
theorem isG_trans (h : b.isG l x y = true) (h2 : b.isG l y z = true) : b.isG l x z = true := by
  rw [isG_iff] at *
  refine ⟨h.1.trans h2.1, fun c hc => Int.lt_trans (h.2 c hc) (h2.2 c ?_)⟩
  rw [← cross_same h.1]; exact hc
theorem isG_congr (s : ∀ x, x ∈ l ↔ x ∈ m) : b.isG l x y = b.isG m x y := by
  cases h : b.isG m x y with
  | true => exact isG_mono (fun x => (s x).mpr) h
  | false =>
    cases h2 : b.isG l x y with
    | false => rfl
    | true => rw [isG_mono (fun x => (s x).mp) h2] at h; cases h
theorem canF_congr (s : ∀ x, x ∈ l ↔ x ∈ m) : b.canF l x = b.canF m x := by
  have key : ∀ {l m : List Nat}, (∀ x, x ∈ l ↔ x ∈ m) → b.canF l x = true → b.canF m x = true := fun s h => by
    rw [canF_iff] at *
    obtain ⟨y, h1, h2, h3, h4⟩ := h
    exact ⟨y, h1, fun q => h2 ((s y).mpr q), h3, by rw [← isG_congr s]; exact h4⟩
  cases h : b.canF m x with
  | true => exact key (fun x => (s x).symm) h
  | false =>
    cases h2 : b.canF l x with
    | false => rfl
    | true => rw [key s h2] at h; cases h
theorem Comes.over (c : Comes b m) : ∀ y ∈ m, ∃ z, z < b.hi + b.wi ∧ z ∉ m ∧ b.isG m y z = true := by
  induction c with
  | nil => intro y h; simp at h
  | @step l m x _ hx hxl hc hm ih =>
    obtain ⟨z0, h1, h2, h3, h4⟩ := canF_iff.mp hc
    have sub : ∀ a ∈ l, a ∈ m := fun a h => (hm a).mpr (.inl h)
    have z0m : z0 ∉ m := fun h => ((hm z0).mp h).elim h2 h3
    have g0 := isG_mono sub h4
    intro y hy
    rcases (hm y).mp hy with h | rfl
    · obtain ⟨z, q1, q2, q3⟩ := ih y h
      have g1 := isG_mono sub q3
      by_cases e : z = x
      · subst e
        exact ⟨z0, h1, z0m, isG_trans g1 g0⟩
      · exact ⟨z, q1, fun h => ((hm z).mp h).elim q2 e, g1⟩
    · exact ⟨z0, h1, z0m, g0⟩
theorem Comes.row (g : b.Good) (c : Comes b m) : ∃ x, x < b.hi ∧ x ∉ m := by
  by_cases h : 0 ∈ m
  · obtain ⟨z, h1, h2, h3⟩ := c.over 0 h
    have := (isG_iff.mp h3).1
    have := g.h1
    exact ⟨z, by omega, h2⟩
  · exact ⟨0, g.h1, h⟩
theorem Comes.col (g : b.Good) (c : Comes b m) : ∃ x, b.hi ≤ x ∧ x < b.hi + b.wi ∧ x ∉ m := by
  by_cases h : b.hi ∈ m
  · obtain ⟨z, h1, h2, h3⟩ := c.over _ h
    have := (isG_iff.mp h3).1
    exact ⟨z, by omega, h1, h2⟩
  · exact ⟨b.hi, by omega, by have := g.w1; omega, h⟩
theorem Comes.cross (g : b.Good) (c : Comes b m) (x : Nat) : ∃ y, y ∈ b.cross m x := by
  by_cases h : x < b.hi
  · obtain ⟨y, h1, h2, h3⟩ := c.col g
    exact ⟨y, mem_cross.mpr ⟨h3, .inl ⟨h, h1, h2⟩⟩⟩
  · obtain ⟨y, h1, h2⟩ := c.row g
    exact ⟨y, mem_cross.mpr ⟨h2, .inr ⟨by omega, h1⟩⟩⟩
theorem Comes.irr (g : b.Good) (c : Comes b m) (x : Nat) : b.isG m x x = false := by
  cases h : b.isG m x x with
  | false => rfl
  | true =>
    obtain ⟨y, hy⟩ := c.cross g x
    have := (isG_iff.mp h).2 y hy
    omega
theorem Comes.later (g : b.Good) (c : Comes b m) (s : ∀ x ∈ l, x ∈ m) (hx : x ∉ m) (h : b.canF l x = true) : b.canF m x = true := by
  obtain ⟨y, h1, h2, h3, h4⟩ := canF_iff.mp h
  have g1 := isG_mono s h4
  refine canF_iff.mpr ?_
  by_cases hy : y ∈ m
  · obtain ⟨z, q1, q2, q3⟩ := c.over y hy
    have g2 := isG_trans g1 q3
    refine ⟨z, q1, q2, fun e => ?_, g2⟩
    subst e
    rw [c.irr g] at g2; cases g2
  · exact ⟨y, h1, hy, h3, g1⟩
def Closed (b : Bd) (m : List Nat) : Prop := ∀ x, x < b.hi + b.wi → x ∉ m → b.canF m x = false
theorem Comes.within (g : b.Good) (c : Comes b l) (c2 : Comes b m) (h : Closed b m) : ∀ x ∈ l, x ∈ m := by
  induction c with
  | nil => intro x q; simp at q
  | @step l l' x _ hx hxl hc hm ih =>
    intro y hy
    rcases (hm y).mp hy with q | rfl
    · exact ih y q
    · by_cases q : y ∈ m
      · exact q
      · have := c2.later g ih q hc
        rw [h y hx q] at this; cases this
theorem Comes.uniq (g : b.Good) (c : Comes b l) (h : Closed b l) (c2 : Comes b m) (h2 : Closed b m) (x : Nat) : x ∈ l ↔ x ∈ m := ⟨c.within g c2 h2 x, c2.within g c h x⟩
theorem Comes.congr (c : Comes b l) (s : ∀ x, x ∈ m ↔ x ∈ l) : Comes b m := by
  cases c with
  | nil =>
    have : m = [] := List.eq_nil_iff_forall_not_mem.mpr fun x h => by have := (s x).mp h; simp at this
    subst this; exact .nil
  | step c hx hxl hc hm => exact .step c hx hxl hc fun y => (s y).trans (hm y)
theorem Comes.lt (c : Comes b l) : ∀ x ∈ l, x < b.hi + b.wi := by
  induction c with
  | nil => intro x h; simp at h
  | step c hx hxl hc hm ih =>
    intro y hy
    rcases (hm y).mp hy with q | rfl
    · exact ih y q
    · exact hx
theorem Comes.more (g : b.Good) (c : Comes b l) : ∀ (s : List Nat), (∀ x ∈ s, x < b.hi + b.wi ∧ b.canF l x = true) → Comes b (l ++ s) := by
  have key : ∀ (s m : List Nat), Comes b m → (∀ x ∈ l, x ∈ m) → (∀ x ∈ s, x < b.hi + b.wi ∧ b.canF l x = true) → Comes b (m ++ s) := fun s => by
    induction s with
    | nil => intro m cm _ _; rw [List.append_nil]; exact cm
    | cons x s ih =>
      intro m cm sub h
      have e : m ++ x :: s = (m ++ [x]) ++ s := by simp
      rw [e]
      refine ih (m ++ [x]) ?_ (fun y hy => by simp [sub y hy]) fun y hy => h y (by simp [hy])
      by_cases hx : x ∈ m
      · exact cm.congr fun y => by simp; intro e; subst e; exact hx
      · obtain ⟨h1, h2⟩ := h x (by simp)
        exact .step cm h1 hx (cm.later g sub hx h2) fun y => by simp
  exact fun s => key s l c fun _ h => h
def fin (b : Bd) : Nat → List Nat → List Nat
  | 0, l => l
  | k + 1, l => match b.ready l with
    | [] => l
    | x :: s => fin b k (srt (l ++ x :: s))
theorem lot_full (g : b.Good) (h : Lot b l) (hk : 12 ≤ l.length) (hx : x < b.hi + b.wi) : x ∈ l := by
  by_cases q : x ∈ l
  · exact q
  · have := (h.withl hx q).len12 g
    rw [wl_length] at this; omega
theorem clo_ok (g : b.Good) (ws : List Nat) (hw : ∀ x ∈ ws, x < b.hi + b.wi) : ∀ (k : Nat) (l o : List Nat), Lot b l → Comes b l → (∀ x, x ∈ o ↔ x ∈ l) → o.Nodup → 12 ≤ l.length + k → Comes b (b.clo ws k l o) ∧ (b.clo ws k l o).Nodup ∧ ∀ x ∈ ws, x ∉ b.clo ws k l o → b.canF (b.clo ws k l o) x = false
  | 0, l, o, hl, c, ho, hn, hk => ⟨c.congr ho, hn, fun x hx h => absurd ((ho x).mpr (lot_full g hl (by omega) (hw x hx))) h⟩
  | k + 1, l, o, hl, c, ho, hn, hk => by
    rw [clo]
    cases h : ws.filter fun x => !decide (x ∈ l) && b.canF l x with
    | nil =>
      refine ⟨c.congr ho, hn, fun x hx hxo => ?_⟩
      show b.canF o x = false
      rw [canF_congr ho]
      have := List.filter_eq_nil_iff.mp h x hx
      have hxl : x ∉ l := fun q => hxo ((ho x).mpr q)
      simpa [hxl] using this
    | cons x s =>
      have hx : x ∈ ws.filter fun x => !decide (x ∈ l) && b.canF l x := by rw [h]; simp
      simp only [List.mem_filter, Bool.and_eq_true, Bool.not_eq_true', decide_eq_false_iff_not] at hx
      obtain ⟨hx1, hx2, hx3⟩ := hx
      exact clo_ok g ws hw k _ _ (hl.withl (hw x hx1) hx2) (.step c (hw x hx1) hx2 hx3 fun y => mem_wl) (fun y => by simp [mem_wl, ho y]) (List.nodup_append.mpr ⟨hn, by simp, fun a ha c hc e => by simp at hc; subst hc; subst e; exact hx2 ((ho _).mp ha)⟩) (by rw [wl_length]; omega)
theorem closure_ok (g : b.Good) (ws : List Nat) (hw : ∀ x ∈ ws, x < b.hi + b.wi) : Comes b (b.closure ws) ∧ (b.closure ws).Nodup ∧ ∀ x ∈ ws, x ∉ b.closure ws → b.canF (b.closure ws) x = false :=
  clo_ok g ws hw 12 [] [] (Lot.nil b) .nil (fun _ => Iff.rfl) List.nodup_nil (by simp)
theorem last_ok (g : b.Good) : Comes b b.last ∧ Closed b b.last ∧ Lot b b.last := by
  obtain ⟨h1, h2, h3⟩ := closure_ok g b.lns fun x hx => mem_lns.mp hx
  have e : ∀ x, x ∈ b.last ↔ x ∈ b.closure b.lns := fun x => mem_srt
  refine ⟨h1.congr e, fun x hx hl => ?_, ⟨(srt_perm _).nodup_iff.mpr h2, fun x hx => h1.lt x ((e x).mp hx)⟩⟩
  rw [canF_congr e]
  exact h3 x (mem_lns.mpr hx) fun q => hl ((e x).mpr q)
end
end Bd
end L2.Z
namespace L2.Z
open PySem
section
variable (v : Nat → Int)
end
namespace Bd
variable {b : Bd} {l : List Nat} {x y : Nat}
theorem rowsL_sorted : (b.rowsL l).Pairwise (· < ·) := List.Pairwise.filter _ List.pairwise_lt_range
theorem colsL_sorted : (b.colsL l).Pairwise (· < ·) := List.Pairwise.filter _ List.pairwise_lt_range'
theorem cross_sorted : (b.cross l x).Pairwise (· < ·) := by
  unfold cross; split
  · exact colsL_sorted
  · exact rowsL_sorted
theorem cross_le : (b.cross l x).Pairwise (· ≤ ·) := cross_sorted.imp fun h => Nat.le_of_lt h
theorem cross_nodup : (b.cross l x).Nodup := cross_sorted.imp fun h => Nat.ne_of_lt h
def ans (b : Bd) (l : List Nat) (x : Nat) : List Nat := (b.cross l x).filter fun c => (b.cross l x).all fun d => decide (b.num d x ≤ b.num c x)
theorem mem_ans : y ∈ b.ans l x ↔ y ∈ b.cross l x ∧ ∀ d ∈ b.cross l x, b.num d x ≤ b.num y x := by simp [ans]
def bes (b : Bd) (l : List Nat) : List (Nat × Nat) := (b.rowsL l).flatMap fun x => ((b.colsL l).filter fun y => decide (x ∈ b.ans l y) && decide (y ∈ b.ans l x)).map fun y => (x, y)
theorem mem_bes {p : Nat × Nat} : p ∈ b.bes l ↔ (p.1 ∈ b.rowsL l ∧ p.2 ∈ b.colsL l) ∧ p.1 ∈ b.ans l p.2 ∧ p.2 ∈ b.ans l p.1 := by
  obtain ⟨u, v⟩ := p
  simp only [bes, List.mem_flatMap, List.mem_map, List.mem_filter, Bool.and_eq_true, decide_eq_true_eq, Prod.mk.injEq]
  constructor
  · rintro ⟨a, h1, c, ⟨h2, h3, h4⟩, rfl, rfl⟩; exact ⟨⟨h1, h2⟩, h3, h4⟩
  · rintro ⟨⟨h1, h2⟩, h3, h4⟩; exact ⟨u, h1, v, ⟨h2, h3, h4⟩, rfl, rfl⟩
theorem ans_stays (hx : x ∈ b.cross l y) (h : y ∈ b.cross l x) (hm : ∀ d, d ∈ b.cross l y → b.num d y ≤ b.num x y) (hb : x < b.hi + b.wi) : b.canF l x = false := by
  cases h0 : b.canF l x with
  | false => rfl
  | true =>
    obtain ⟨z, hz, hzl, _, hg⟩ := canF_iff.mp h0
    obtain ⟨hs, hl⟩ := isG_iff.mp hg
    have h1 := hl y h
    have h2 : z ∈ b.cross l y := by
      rw [mem_cross] at hx ⊢
      exact ⟨hzl, by omega⟩
    have := hm z h2
    omega
theorem num_pair (g : b.Good) {r : List (Int × Int)} {p : Int × Int} (h1 : b[x]? = some r) (h2 : r[y]? = some p) : b.num x (b.hi + y) = p.1 ∧ b.num (b.hi + y) x = p.2 := by
  have hx : x < b.hi := (List.getElem?_eq_some_iff.mp h1).1
  unfold num
  rw [if_pos hx, if_neg (by omega), h1, show b.hi + y - b.hi = y by omega]
  simp [h2]
end Bd
end L2.Z
namespace L2.Z
open PySem
abbrev Asc (l : List Nat) : Prop := l.Pairwise (· < ·)
theorem Asc.nodup {l : List Nat} (h : Asc l) : l.Nodup := h.imp fun z => Nat.ne_of_lt z
theorem asc_srt {l : List Nat} (h : l.Nodup) : Asc (srt l) := by
  have h1 := srt_sorted l
  have h2 : (srt l).Nodup := (srt_perm l).nodup_iff.mpr h
  exact (h1.and h2).imp fun ⟨a, b⟩ => by omega
theorem asc_eq {l m : List Nat} (h : Asc l) (h2 : Asc m) (s : ∀ x, x ∈ l ↔ x ∈ m) : l = m := by
  have p : l.Perm m := (List.perm_ext_iff_of_nodup h.nodup h2.nodup).mpr s
  rw [← srt_id (h.imp fun z => Nat.le_of_lt z), ← srt_id (h2.imp fun z => Nat.le_of_lt z)]
  exact srt_congr p
namespace Bd
variable {b : Bd} {l : List Nat} {x y : Nat}
structure Pl (b : Bd) (l : List Nat) : Prop where
  asc : Asc l
  lt : ∀ x ∈ l, x < b.hi + b.wi
  row : ∃ x, x < b.hi ∧ x ∉ l
  col : ∃ x, b.hi ≤ x ∧ x < b.hi + b.wi ∧ x ∉ l
theorem Pl.nil (g : b.Good) : Pl b [] := ⟨List.Pairwise.nil, by simp, ⟨0, g.h1, by simp⟩, ⟨b.hi, Nat.le_refl _, by have := g.w1; omega, by simp⟩⟩
theorem Pl.lot (h : Pl b l) : Lot b l := ⟨h.asc.nodup, h.lt⟩
theorem Pl.len (g : b.Good) (h : Pl b l) : l.length ≤ 12 := h.lot.len12 g
theorem Pl.cross (h : Pl b l) (x : Nat) : b.cross l x ≠ [] := by
  obtain ⟨r, r1, r2⟩ := h.row
  obtain ⟨c, c1, c2, c3⟩ := h.col
  by_cases z : x < b.hi
  · intro w
    have : c ∈ b.cross l x := by rw [mem_cross]; exact ⟨c3, .inl ⟨z, c1, c2⟩⟩
    rw [w] at this; cases this
  · intro w
    have : r ∈ b.cross l x := by rw [mem_cross]; exact ⟨r2, .inr ⟨by omega, r1⟩⟩
    rw [w] at this; cases this
def lft (b : Bd) (l : List Nat) : List Nat := b.rowsL l ++ b.colsL l
theorem lft_eq : b.lft l = b.lns.filter fun x => !decide (x ∈ l) := by
  unfold lft rowsL colsL lns
  rw [← List.filter_append]
  congr 1
  rw [List.range_eq_range', List.range_eq_range']
  have := List.range'_append_1 (s := 0) (m := b.hi) (n := b.wi)
  rwa [Nat.zero_add] at this
theorem mem_lft : x ∈ b.lft l ↔ x < b.hi + b.wi ∧ x ∉ l := by
  rw [lft_eq]; simp [mem_lns]
def over (b : Bd) (l : List Nat) (x : Nat) : List Nat := (if x < b.hi then b.rowsL l else b.colsL l).filter fun y => (b.cross l x).all fun c => decide (b.num x c < b.num y c)
theorem comes_wl (g : b.Good) (c : Comes b l) (h : x ∈ b.ready l) : Comes b (wl l x) := by
  obtain ⟨h1, h2, h3⟩ := mem_ready.mp h
  have := c.more g [x] (by simp; exact ⟨h1, h3⟩)
  exact this.congr fun y => by rw [mem_wl]; simp
theorem asc_wl (h : Asc l) (hx : x ∉ l) : Asc (wl l x) := asc_srt (by
  rw [List.nodup_append]
  exact ⟨h.nodup, by simp, fun a ha b hb => by simp at hb; subst hb; exact fun z => hx (z ▸ ha)⟩)
end Bd
end L2.Z
namespace L2.Z
namespace Bd
variable {b : Bd} {l : List Nat}
end Bd
end L2.Z
namespace L2.Z
open PySem L2.Z.Q
theorem s_is_int (i : Int) : q_is_int i = some true := rfl
theorem s_is_from (i a c : Int) : q_is_from i a c = some (decide (a ≤ i) && decide (i ≤ c)) := by simp [q_is_from, s_is_int]
theorem s_is_from_t {i a c : Int} (h : a ≤ i ∧ i ≤ c) : q_is_from i a c = some true := by simp [s_is_from, h.1, h.2]
theorem s_need_from {i a c : Int} (h : a ≤ i ∧ i ≤ c) : q_need_from i a c = some () := by simp [q_need_from, s_is_from_t h]
theorem s_is_place {p : Int × Int} (h : (-1000 ≤ p.1 ∧ p.1 ≤ 1000) ∧ -1000 ≤ p.2 ∧ p.2 ≤ 1000) : q_is_place p = some true := by
  simp [q_is_place, lcM, s_is_from, h.1.1, h.1.2, h.2.1, h.2.2]
section
variable {b : Bd} (g : b.Good)
include g
theorem s_at0 : ∃ r, atI b (0 : Int) = some r ∧ r.length = b.wi := by
  obtain ⟨r, h1, h2⟩ := Bd.rect_get g g.h1
  exact ⟨r, atI_eq (i := 0) h1, h2⟩
theorem s_row {x : Nat} (h : x < b.hi) : ∃ r, atI b (x : Int) = some r ∧ b[x]? = some r ∧ r.length = b.wi := by
  obtain ⟨r, h1, h2⟩ := Bd.rect_get g h
  exact ⟨r, atI_eq h1, h1, h2⟩
theorem s_sides : q_sides b = some (b.hi, b.wi) := by
  obtain ⟨r, h1, h2⟩ := s_at0 g
  simp [q_sides, h1, h2, Bd.hi]
theorem s_lines_of : q_lines_of b = some b.lns := by
  have h6 := g.h6
  have w6 := g.w6
  have e : rgv ((b.hi + b.wi : Nat) : Int) = some b.lns := rgv_nat (n := b.hi + b.wi) (by omega)
  unfold q_lines_of
  exact bi (s_sides g) (bi e rfl)
theorem s_need_board : q_need_board b = some () := by
  have h1 := g.h1
  have h6 := g.h6
  have w1 := g.w1
  have w6 := g.w6
  obtain ⟨r0, e0, hl0⟩ := s_at0 g
  unfold q_need_board
  have c : ((!true) || (!(decide ((1 : Nat) ≤ List.length b) && decide (List.length b ≤ (6 : Nat))))) = false := by
    have : 1 ≤ List.length b ∧ List.length b ≤ 6 := ⟨h1, h6⟩
    simp [this.1, this.2]
  refine ifo c ?_
  have := loopM_eq (xs := enumL b) (σ := Unit) (f := fun (y8 : (Nat × (List (Int × Int)))) (s7 : Unit) => (if (!true) then some true else (if (!(decide ((1 : Nat) ≤ y8.2.length) && decide (y8.2.length ≤ (6 : Nat)))) then some true else (atI b (0 : Int)).bind fun (x12 : (List (Int × Int))) => some (!decide (y8.2.length = x12.length))).bind fun (x13 : Bool) => some x13).bind fun (x14 : Bool) => if x14 then none else (lcM y8.2 (fun (y15 : (Int × Int)) => some true) (fun (y15 : (Int × Int)) => (q_is_place y15).bind fun (x16 : Bool) => some x16)).bind fun (x17 : (List Bool)) => if (!(x17.all id)) then none else some ()) (fun _ => ()) (fun ys x zs e => by
    have hx : x.2 ∈ b := List.mem_of_getElem? (mem_enumL.mp (by rw [e]; simp))
    have hl := g.rect _ hx
    refine bi (x := false) (by simp [e0, hl, hl0, w1, w6]) (ifo rfl (bi (lcM_all (fun _ => true) (fun p hp => by rw [s_is_place (g.val _ hx p hp)]; rfl)) (ifo (by simp) rfl))))
  rw [this]; rfl
theorem s_left_of (l : List Nat) : q_left_of b l = some (b.rowsL l, b.colsL l) := by
  have h6 := g.h6
  have e : rg1 (List.length b : Int) = some (List.range b.hi) := rg1_nat (n := b.hi) (by omega)
  have c : cutD b.lns (some ((List.length b : Nat) : Int)) none = List.range' b.hi b.wi := by
    rw [cutD_from, Bd.lns, List.range_eq_range', List.drop_range']
    have : List.length b = b.hi := rfl
    congr 1 <;> omega
  simp only [q_left_of, e, Option.bind_some, s_lines_of g, c]; rfl
theorem s_numbers {l : List Nat} {x : Nat} (hx : x < b.hi + b.wi) : q_numbers b l x = some (b.nums l x) := by
  simp only [q_numbers, s_left_of g, Option.bind_some]
  by_cases h : x < b.hi
  · refine ifi (by simpa [Bd.hi] using h) ?_
    rw [lcM_all (b.num x)]
    · simp [Bd.nums, Bd.cross, h]
    · intro c hc
      obtain ⟨⟨h1, h2⟩, _⟩ := Bd.mem_colsL.mp hc
      obtain ⟨r, p, q1, q2, q3⟩ := Bd.num_row g h (y := c - b.hi) (by omega)
      rw [show c - b.hi + b.hi = c by omega] at q3
      have e2 : atI r ((c : Int) - (List.length b : Int)) = some p := atI_sub (j := b.hi) h1 q2
      simp [atI_eq q1, e2, q3]
  · refine ifo (by simpa [Bd.hi] using h) ?_
    rw [lcM_all (b.num x)]
    · simp [Bd.nums, Bd.cross, h]
    · intro c hc
      obtain ⟨h1, _⟩ := Bd.mem_rowsL.mp hc
      obtain ⟨r, p, q1, q2, q3⟩ := Bd.num_col g h1 (y := x - b.hi) (by omega)
      rw [show x - b.hi + b.hi = x by omega] at q3
      have e2 : atI r ((x : Int) - (List.length b : Int)) = some p := atI_sub (j := b.hi) (by omega) q2
      simp [atI_eq q1, e2, q3]
end
end L2.Z
namespace L2.Z
open PySem L2.Z.Q
theorem oMul_r {i j : Int} (h : -(2 ^ 64) < j ∧ j < 2 ^ 64) : oMul i j = some (i * j) := if_pos (.inl (.inr h))
theorem oDiv_of {i j : Int} (h : 0 < j) (h2 : j < 2 ^ 30) : oDiv i j = some (i / j) := if_pos ⟨by omega, by omega⟩
theorem oMod_of {i j : Int} (h : 0 < j) : oMod i j = some (i % j) := if_pos h
def RowOk (R : Row) : Prop := 0 ≤ R.2.1
theorem RowOk.start (ns : List Int) (a b : Int) : RowOk (ns, 0, a, b) := Int.le_refl 0
theorem s_taken {R : Row} (h : RowOk R) {m : Nat} (hm : 0 < m ∧ m ≤ 1000000) : ∃ x R', q__law_taken R m = some (x, R') ∧ x < m ∧ RowOk R' := by
  obtain ⟨ns, i, a, c⟩ := R
  have h : 0 ≤ i := h
  have m0 : (0 : Int) < (m : Int) := by omega
  have m1 : ∀ u : Int, 0 ≤ u % (m : Int) ∧ u % (m : Int) < m := fun u => ⟨Int.emod_nonneg _ (by omega), Int.emod_lt_of_pos _ m0⟩
  have c0 : ∀ u : Int, oMod u (m : Int) = some (u % (m : Int)) := fun u => oMod_of m0
  have c1 : ∀ u : Int, oDiv u (m : Int) = some (u / (m : Int)) := fun u => oDiv_of m0 (by omega)
  have c2 : ∀ u : Int, oNat (u % (m : Int)) = some (u % (m : Int)).toNat := fun u => oNat_of (m1 u).1
  have c3 : ∀ u : Int, oMul u 48271 = some (u * 48271) := fun u => oMul_r (by decide)
  have c4 : ∀ u : Int, oMod u 2147483647 = some (u % 2147483647) := fun u => oMod_of (by decide)
  have c5 : ∀ u : Int, oDiv u 7 = some (u / 7) := fun u => oDiv_of (by decide) (by decide)
  have c6 : oPow 10 18 = some (10 ^ 18) := if_pos ⟨by decide, by decide, by decide⟩
  have lt : ∀ u : Int, (u % (m : Int)).toNat < m := fun u => by have := m1 u; omega
  unfold q__law_taken
  by_cases z : 0 < c
  · exact ⟨_, _, ifi (decide_eq_true z) (bi (c0 _) (bi (c2 _) (bi (c1 _) rfl))), lt _, h⟩
  · by_cases y : (ns.length : Int) < i + 1
    · exact ⟨_, _, ifo (decide_eq_false z) (ifi (decide_eq_true y) (bi (c3 _) (bi (c4 _) (bi (c5 _) (bi (c0 _) (bi (c2 _) rfl)))))), lt _, by show 0 ≤ i + 1; omega⟩
    · obtain ⟨k, hk⟩ : ∃ k : Nat, i = k := ⟨i.toNat, by omega⟩
      subst hk
      have hk : k < ns.length := by omega
      have e1 : atI ns ((k : Int) + 1 - 1) = some ns[k] := by rw [Int.add_sub_cancel]; exact atI_get hk
      by_cases w : (10 : Int) ^ 18 ≤ ns[k]
      · exact ⟨_, _, ifo (decide_eq_false z) (ifo (decide_eq_false y) (bi e1 (bi (c3 _) (bi (c4 _) (bi c6 (bi (ifi (decide_eq_true w) (bi (c1 _) rfl)) (bi (c0 _) (bi (c2 _) rfl)))))))), lt _, by show (0 : Int) ≤ k + 1; omega⟩
      · exact ⟨_, _, ifo (decide_eq_false z) (ifo (decide_eq_false y) (bi e1 (bi (c3 _) (bi (c4 _) (bi c6 (bi (ifo (decide_eq_false w) rfl) (bi (c0 _) (bi (c2 _) rfl)))))))), lt _, by show (0 : Int) ≤ k + 1; omega⟩
theorem s_draws {α β : Type} {xs : List α} {f : α → Row → Option (β × Row)} {R : Row} (P : β → Prop) (h : RowOk R) (hf : ∀ x ∈ xs, ∀ R, RowOk R → ∃ y R', f x R = some (y, R') ∧ P y ∧ RowOk R') : ∃ ys R', lcS xs f R = some (ys, R') ∧ ys.length = xs.length ∧ (∀ y ∈ ys, P y) ∧ RowOk R' := by
  obtain ⟨ys, s', e, hl, hp, hr⟩ := lcS_inv (xs := xs) (f := f) (s := R) (fun ys R => (∀ y ∈ ys, P y) ∧ RowOk R) ⟨by simp, h⟩ (fun x hx ys s ⟨q1, q2⟩ => by
    obtain ⟨y, R', e, hy, hr⟩ := hf x hx s q2
    refine ⟨y, R', e, fun z hz => ?_, hr⟩
    rcases List.mem_append.mp hz with hz | hz
    · exact q1 z hz
    · simp at hz; subst hz; exact hy)
  exact ⟨ys, s', e, hl, hp, hr⟩
theorem s_board {R : Row} (h : RowOk R) {H W m : Nat} (hH : 0 < H ∧ H ≤ 6) (hW : 0 < W ∧ W ≤ 6) (hm : 0 < m ∧ m ≤ 100) : ∃ (b : Bd) (R' : Row), q__law_board R H W m = some (b, R') ∧ RowOk R' ∧ Bd.Good b ∧ Bd.hi b ≤ H ∧ Bd.wi b ≤ W ∧ ∀ r ∈ b, ∀ p ∈ r, (0 ≤ p.1 ∧ p.1 ≤ m + 5) ∧ -1 ≤ p.2 ∧ p.2 ≤ m + 4 := by
  obtain ⟨h0, R1, e1, l1, k1⟩ := s_taken h (m := H) (by omega)
  obtain ⟨w0, R2, e2, l2, k2⟩ := s_taken k1 (m := W) (by omega)
  obtain ⟨t, R3, e3, l3, k3⟩ := s_taken k2 (m := 3) (by omega)
  have rH : rg1 ((1 + h0 : Nat) : Int) = some (List.range (1 + h0)) := rg1_nat (by omega)
  have rW : rg1 ((1 + w0 : Nat) : Int) = some (List.range (1 + w0)) := rg1_nat (by omega)
  have dr : ∀ (n : Nat) (R : Row), RowOk R → ∃ ys R', lcS (List.replicate n (0 : Nat)) (fun (y22 : Nat) (s25 : Row) => (q__law_taken s25 (4 : Nat)).bind fun (x26 : (Nat × Row)) => (oMulN (2 : Nat) x26.1).bind fun (x27 : Nat) => some (x27, x26.2)) R = some (ys, R') ∧ ys.length = n ∧ (∀ y ∈ ys, y ≤ 6) ∧ RowOk R' := fun n R hR => by
    obtain ⟨ys, R', e, hl, hy, hr⟩ := s_draws (xs := List.replicate n (0 : Nat)) (f := fun (y22 : Nat) (s25 : Row) => (q__law_taken s25 (4 : Nat)).bind fun (x26 : (Nat × Row)) => (oMulN (2 : Nat) x26.1).bind fun (x27 : Nat) => some (x27, x26.2)) (fun y : Nat => y ≤ 6) hR (fun x _ R hR => by
      obtain ⟨u, R', e, hu, hr⟩ := s_taken hR (m := 4) (by omega)
      exact ⟨2 * u, R', bi e (bi (oMulN_s (by omega) (by omega)) rfl), by omega, hr⟩)
    exact ⟨ys, R', e, by rw [hl, List.length_replicate], hy, hr⟩
  have key : ∃ (f s : List Nat) (R4 : Row), f.length = 1 + h0 ∧ s.length = 1 + w0 ∧ (∀ y ∈ f, y ≤ 6) ∧ (∀ y ∈ s, y ≤ 6) ∧ RowOk R4 ∧ (if decide ((0 : Nat) < t) then (lcS (List.replicate (1 + h0) (0 : Nat)) (fun (y22 : Nat) (s25 : Row) => (q__law_taken s25 (4 : Nat)).bind fun (x26 : (Nat × Row)) => (oMulN (2 : Nat) x26.1).bind fun (x27 : Nat) => some (x27, x26.2)) R3).bind fun (x28 : ((List Nat) × Row)) => (lcS (List.replicate (1 + w0) (0 : Nat)) (fun (y29 : Nat) (s32 : Row) => (q__law_taken s32 (4 : Nat)).bind fun (x33 : (Nat × Row)) => (oMulN (2 : Nat) x33.1).bind fun (x34 : Nat) => some (x34, x33.2)) x28.2).bind fun (x35 : ((List Nat) × Row)) => some (x35.2, x28.1, x35.1) else some (R3, List.replicate (1 + h0) (0 : Nat), List.replicate (1 + w0) (0 : Nat))) = some (R4, f, s) := by
    by_cases z : 0 < t
    · obtain ⟨f, R4, e4, lf, vf, k4⟩ := dr (1 + h0) R3 k3
      obtain ⟨s, R5, e5, ls, vs, k5⟩ := dr (1 + w0) R4 k4
      exact ⟨f, s, R5, lf, ls, vf, vs, k5, ifi (decide_eq_true z) (bi e4 (bi e5 rfl))⟩
    · exact ⟨_, _, R3, by simp, by simp, by simp, by simp, k3, ifo (decide_eq_false z) rfl⟩
  obtain ⟨f, s, R4, lf, ls, vf, vs, k4, e4⟩ := key
  unfold q__law_board
  obtain ⟨⟨R5, b⟩, e5, hb1, hb2, hb3, k5⟩ := loopM_inv (xs := List.range (1 + h0)) (f := fun (y75 : Nat) (s74 : (Row × (List (List (Int × Int))))) => (rg1 ((1 + w0 : Nat) : Int)).bind fun (x80 : (List Nat)) => (loopM x80 (fun (y88 : Nat) (s87 : (Row × (List (Int × Int)))) => (atI f (y75 : Int)).bind fun (x91 : Nat) => (q__law_taken s87.1 m).bind fun (x92 : (Nat × Row)) => (atI s (y88 : Int)).bind fun (x93 : Nat) => (q__law_taken x92.2 m).bind fun (x94 : (Nat × Row)) => (some ((((x91 + x92.1 : Nat)) : Int), ((((x93 + x94.1 : Nat)) : Int) - (1 : Int)))).bind fun (x95 : (Int × Int)) => (catL s87.2 [x95]).bind fun (x96 : (List (Int × Int))) => some (x94.2, x96)) (s74.1, ([] : (List (Int × Int))))).bind fun (z89 : (Row × (List (Int × Int)))) => (catL s74.2 [z89.2]).bind fun (x97 : (List (List (Int × Int)))) => some (z89.1, x97)) (s := (R4, []))
    (fun ys st => st.2.length = ys.length ∧ (∀ r ∈ st.2, r.length = 1 + w0) ∧ (∀ r ∈ st.2, ∀ p ∈ r, (0 ≤ p.1 ∧ p.1 ≤ m + 5) ∧ -1 ≤ p.2 ∧ p.2 ≤ m + 4) ∧ RowOk st.1) ⟨rfl, by simp, by simp, k4⟩ (fun ys i zs ⟨R, b⟩ hx ⟨q1, q2, q3, q4⟩ => by
      simp only at q1 q2 q3 q4
      have hi : i < 1 + h0 := List.mem_range.mp (by rw [hx]; simp)
      have hyl : ys.length ≤ 6 := by have := congrArg List.length hx; simp at this; omega
      have fi : atI f (i : Int) = some f[i] := atI_get (by omega)
      have fv := vf _ (List.getElem_mem (h := (by omega : i < f.length)))
      obtain ⟨⟨R', r⟩, e6, p1, p2, p3⟩ := loopM_inv (xs := List.range (1 + w0)) (f := fun (y88 : Nat) (s87 : (Row × (List (Int × Int)))) => (atI f (i : Int)).bind fun (x91 : Nat) => (q__law_taken s87.1 m).bind fun (x92 : (Nat × Row)) => (atI s (y88 : Int)).bind fun (x93 : Nat) => (q__law_taken x92.2 m).bind fun (x94 : (Nat × Row)) => (some ((((x91 + x92.1 : Nat)) : Int), ((((x93 + x94.1 : Nat)) : Int) - (1 : Int)))).bind fun (x95 : (Int × Int)) => (catL s87.2 [x95]).bind fun (x96 : (List (Int × Int))) => some (x94.2, x96)) (s := (R, ([] : List (Int × Int))))
        (fun ys st => st.2.length = ys.length ∧ (∀ p ∈ st.2, (0 ≤ p.1 ∧ p.1 ≤ m + 5) ∧ -1 ≤ p.2 ∧ p.2 ≤ m + 4) ∧ RowOk st.1) ⟨rfl, by simp, q4⟩ (fun ys j zs ⟨R, r⟩ hx ⟨q1, q2, q3⟩ => by
          simp only at q1 q2 q3
          have hj : j < 1 + w0 := List.mem_range.mp (by rw [hx]; simp)
          have hyl : ys.length ≤ 6 := by have := congrArg List.length hx; simp at this; omega
          have sj : atI s (j : Int) = some s[j] := atI_get (by omega)
          have sv := vs _ (List.getElem_mem (h := (by omega : j < s.length)))
          obtain ⟨u, R1, e1, hu, k1⟩ := s_taken q3 (m := m) (by omega)
          obtain ⟨v, R2, e2, hv, k2⟩ := s_taken k1 (m := m) (by omega)
          refine ⟨_, bi fi (bi e1 (bi sj (bi e2 (bx (bi (catL_of (by simp; omega)) rfl))))), by simp [q1], fun p hp => ?_, k2⟩
          rcases List.mem_append.mp hp with hp | hp
          · exact q2 p hp
          · simp at hp; subst hp
            simp only
            omega)
      refine ⟨_, bi rW (bi e6 (bi (catL_of (by simp; omega)) rfl)), by simp [q1], fun x hx => ?_, fun x hx => ?_, p3⟩
      · rcases List.mem_append.mp hx with hx | hx
        · exact q2 x hx
        · simp at hx; subst hx; simpa using p1
      · rcases List.mem_append.mp hx with hx | hx
        · exact q3 x hx
        · simp at hx; subst hx; exact p2)
  simp only at hb1 hb2 hb3 k5
  have hi : Bd.hi b = 1 + h0 := by show b.length = _; rw [hb1, List.length_range]
  have wi : Bd.wi b = 1 + w0 := by
    cases b with
    | nil => have : (0 : Nat) = 1 + h0 := hi; omega
    | cons r b => exact hb2 r (by simp)
  refine ⟨b, R5, bi e1 (bx (bi e2 (bx (bi (repL_one (by omega)) (bi (repL_one (by omega)) (bi e3 (bi e4 (bi rH (bi e5 rfl))))))))), k5, ⟨by omega, by omega, by omega, by omega, fun r hr => by rw [hb2 r hr, wi], fun r hr p hp => ?_⟩, by omega, by omega, hb3⟩
  have := hb3 r hr p hp
  omega
end L2.Z
namespace L2.Z
open PySem
def leL (a b : List Nat) : Bool := leD (eT a) (eT b)
abbrev iL (a : List Nat) : List Int := a.map fun x : Nat => (x : Int)
theorem eT_iL (a : List Nat) : eT a = .tuple ((iL a).map .int) := by simp [eT, eI, List.map_map]
theorem leL_eq (a b : List Nat) : leL a b = !decide (iL b < iL a) := by
  show (!PySem.W.dataLt (eT b) (eT a)) = _
  rw [eT_iL, eT_iL, PySem.W.dataLt_tuple]
  show (!PySem.W.rowLt ((iL b).map .int) ((iL a).map .int)) = _
  rw [PySem.W.dataLt_ints]
theorem leL_iff {a b : List Nat} : leL a b = true ↔ iL a ≤ iL b := by
  rw [leL_eq]
  simp [List.not_lt]
theorem iL_inj {a b : List Nat} (h : iL a = iL b) : a = b := by
  have : ∀ {a b : List Nat}, iL a = iL b → a = b := by
    intro a
    induction a with
    | nil => intro b h; cases b with
      | nil => rfl
      | cons _ _ => simp at h
    | cons x a ih => intro b h; cases b with
      | nil => simp at h
      | cons y b =>
        simp only [iL, List.map_cons, List.cons.injEq] at h
        rw [ih h.2, show x = y by omega]
  exact this h
theorem leL_trans (a b c : List Nat) (h1 : leL a b = true) (h2 : leL b c = true) : leL a c = true := leL_iff.mpr (List.le_trans (leL_iff.mp h1) (leL_iff.mp h2))
theorem leL_total (a b : List Nat) : (leL a b || leL b a) = true := by
  rw [Bool.or_eq_true, leL_iff, leL_iff]
  exact List.le_total _ _
theorem leL_anti {a b : List Nat} (h1 : leL a b = true) (h2 : leL b a = true) : a = b := iL_inj (List.le_antisymm (leL_iff.mp h1) (leL_iff.mp h2))
theorem pw_uniq {α : Type} {r : α → α → Prop} (as : ∀ a b, r a b → ¬ r b a) : ∀ {xs ys : List α}, xs.Pairwise r → ys.Pairwise r → (∀ k, k ∈ xs ↔ k ∈ ys) → xs = ys
  | [], [], _, _, _ => rfl
  | [], y :: ys, _, _, h => by have := (h y).mpr (by simp); simp at this
  | x :: xs, [], _, _, h => by have := (h x).mp (by simp); simp at this
  | x :: xs, y :: ys, h1, h2, h => by
    obtain ⟨a1, a2⟩ := List.pairwise_cons.mp h1
    obtain ⟨b1, b2⟩ := List.pairwise_cons.mp h2
    have irr : ∀ a, ¬ r a a := fun a z => as a a z z
    have e : x = y := by
      rcases List.mem_cons.mp ((h x).mp (by simp)) with q | q
      · exact q
      · rcases List.mem_cons.mp ((h y).mpr (by simp)) with t | t
        · exact t.symm
        · exact absurd (a1 y t) (as _ _ (b1 x q))
    subst e
    rw [pw_uniq as a2 b2 fun k => ?_]
    constructor
    · intro hk
      rcases List.mem_cons.mp ((h k).mp (by simp [hk])) with q | q
      · subst q; exact absurd (a1 k hk) (irr k)
      · exact q
    · intro hk
      rcases List.mem_cons.mp ((h k).mpr (by simp [hk])) with q | q
      · subst q; exact absurd (b1 k hk) (irr k)
      · exact q
def ltL (a b : List Nat) : Prop := leL a b = true ∧ a ≠ b
theorem ltL_asymm (a b : List Nat) (h : ltL a b) : ¬ ltL b a := fun z => h.2 (leL_anti h.1 z.1)
def srtL (K : List (List Nat)) : List (List Nat) := K.mergeSort leL
theorem mem_srtL {K : List (List Nat)} {l : List Nat} : l ∈ srtL K ↔ l ∈ K := List.mem_mergeSort
theorem srtL_pw {K : List (List Nat)} (h : K.Nodup) : (srtL K).Pairwise ltL := by
  have hp := List.mergeSort_perm K leL
  have nd : (srtL K).Nodup := hp.nodup_iff.mpr h
  have le : (srtL K).Pairwise fun a b => leL a b = true := List.pairwise_mergeSort leL_trans leL_total K
  exact (le.and nd).imp fun {a b} h => ⟨h.1, h.2⟩
theorem srtL_eq {K L : List (List Nat)} (h : K.Nodup) (h2 : L.Pairwise ltL) (s : ∀ l, l ∈ K ↔ l ∈ L) : srtL K = L := pw_uniq ltL_asymm (srtL_pw h) h2 fun l => by rw [mem_srtL, s]
def subs : List Nat → List (List Nat)
  | [] => [[]]
  | x :: xs => (subs xs).map (x :: ·) ++ subs xs
theorem mem_subs : ∀ {xs l : List Nat}, l ∈ subs xs ↔ l.Sublist xs
  | [], l => by simp [subs]
  | x :: xs, l => by
    rw [subs, List.mem_append, List.mem_map]
    constructor
    · rintro (⟨m, hm, rfl⟩ | h)
      · exact (mem_subs.mp hm).cons_cons x
      · exact (mem_subs.mp h).cons x
    · intro h
      cases h with
      | cons _ h => exact .inr (mem_subs.mpr h)
      | cons_cons _ h => exact .inl ⟨_, mem_subs.mpr h, rfl⟩
theorem subs_length : ∀ xs : List Nat, (subs xs).length = 2 ^ xs.length
  | [] => rfl
  | x :: xs => by simp [subs, subs_length xs, Nat.pow_succ]; omega
theorem subs_nodup : ∀ {xs : List Nat}, xs.Nodup → (subs xs).Nodup
  | [], _ => by simp [subs]
  | x :: xs, h => by
    obtain ⟨h1, h2⟩ := List.nodup_cons.mp h
    rw [subs, List.nodup_append]
    refine ⟨?_, subs_nodup h2, fun a ha b hb e => ?_⟩
    · rw [List.Nodup, List.pairwise_map]
      exact (subs_nodup h2).imp fun h e => h (List.cons.inj e).2
    · subst e
      obtain ⟨m, _, rfl⟩ := List.mem_map.mp ha
      exact h1 ((mem_subs.mp hb).subset (by simp))
theorem asc_sub {n : Nat} {l : List Nat} (h : Asc l) (hl : ∀ x ∈ l, x < n) : l.Sublist (List.range n) := by
  have e : l = (List.range n).filter fun x => decide (x ∈ l) := asc_eq h (List.Pairwise.filter _ List.pairwise_lt_range) fun x => by
    simp only [List.mem_filter, List.mem_range, decide_eq_true_eq]
    exact ⟨fun hx => ⟨hl x hx, hx⟩, fun hx => hx.2⟩
  rw [e]
  exact List.filter_sublist
namespace Bd
variable {b : Bd} {l m ws : List Nat} {x y : Nat}
theorem clo_sub : ∀ (k : Nat) (l o : List Nat), (∀ x ∈ o, x ∈ ws) → ∀ x ∈ b.clo ws k l o, x ∈ ws
  | 0, l, o, h => h
  | k + 1, l, o, h => by
    rw [clo]
    cases hs : ws.filter fun x => !decide (x ∈ l) && b.canF l x with
    | nil => exact h
    | cons x s =>
      refine clo_sub k _ _ fun y hy => ?_
      rcases List.mem_append.mp hy with q | q
      · exact h y q
      · have : x ∈ ws.filter fun x => !decide (x ∈ l) && b.canF l x := by rw [hs]; simp
        simp at q
        subst q
        exact (List.mem_filter.mp this).1
theorem closure_sub : ∀ x ∈ b.closure ws, x ∈ ws := clo_sub 12 [] [] (fun _ h => by simp at h)
theorem Comes.withinR (g : b.Good) (c : Comes b l) (hl : ∀ x ∈ l, x ∈ ws) (c2 : Comes b m) (h : ∀ x ∈ ws, x ∉ m → b.canF m x = false) : ∀ x ∈ l, x ∈ m := by
  induction c with
  | nil => intro x q; simp at q
  | @step l l' x _ hx hxl hc hm ih =>
    have ih := ih fun y hy => hl y ((hm y).mpr (.inl hy))
    intro y hy
    rcases (hm y).mp hy with q | rfl
    · exact ih y q
    · by_cases q : y ∈ m
      · exact q
      · have := c2.later g ih q hc
        rw [h y (hl y hy) q] at this; cases this
theorem closure_top (g : b.Good) (hw : ∀ x ∈ ws, x < b.hi + b.wi) (c : Comes b l) (hl : ∀ x ∈ l, x ∈ ws) : ∀ x ∈ l, x ∈ b.closure ws := by
  obtain ⟨h1, _, h3⟩ := closure_ok g ws hw
  exact c.withinR g hl h1 h3
theorem reached_iff (g : b.Good) (h : l.Nodup) (hl : ∀ x ∈ l, x < b.hi + b.wi) : (b.closure l).length = l.length ↔ Comes b l := by
  obtain ⟨h1, h2, h3⟩ := closure_ok g l hl
  constructor
  · intro e
    refine h1.congr fun x => ⟨fun hx => ?_, fun hx => closure_sub x hx⟩
    by_cases q : x ∈ b.closure l
    · exact q
    · exfalso
      have := List.Nodup.length_le_of_subset (List.nodup_cons.mpr ⟨q, h2⟩) (l₂ := l) (fun y hy => by
        rcases List.mem_cons.mp hy with rfl | hy
        · exact hx
        · exact closure_sub y hy)
      simp at this
      omega
  · intro c
    have a1 := List.Nodup.length_le_of_subset h (l₂ := b.closure l) fun x hx => closure_top g hl c (fun _ h => h) x hx
    have a2 := List.Nodup.length_le_of_subset h2 (l₂ := l) fun x hx => closure_sub x hx
    omega
def alls (b : Bd) : List (List Nat) := srtL ((subs b.lns).filter fun l => decide ((b.closure l).length = l.length))
theorem alls0_nodup : ((subs b.lns).filter fun l => decide ((b.closure l).length = l.length)).Nodup := (subs_nodup (lns_nodup b)).filter _
theorem alls_pw : b.alls.Pairwise ltL := srtL_pw alls0_nodup
theorem mem_alls (g : b.Good) : l ∈ b.alls ↔ Asc l ∧ Comes b l := by
  unfold alls
  rw [mem_srtL, List.mem_filter, decide_eq_true_eq, mem_subs]
  constructor
  · rintro ⟨h1, h2⟩
    have a : Asc l := List.Pairwise.sublist h1 List.pairwise_lt_range
    exact ⟨a, (reached_iff g a.nodup fun x hx => mem_lns.mp (h1.subset hx)).mp h2⟩
  · rintro ⟨a, c⟩
    exact ⟨asc_sub a c.lt, (reached_iff g a.nodup c.lt).mpr c⟩
theorem alls_length (g : b.Good) : b.alls.length ≤ 4096 := by
  unfold alls srtL
  rw [List.length_mergeSort]
  refine Nat.le_trans (List.length_filter_le _ _) ?_
  rw [subs_length]
  have h6 := g.h6
  have w6 := g.w6
  have : b.lns.length ≤ 12 := by unfold lns; rw [List.length_range]; omega
  calc 2 ^ b.lns.length ≤ 2 ^ 12 := Nat.pow_le_pow_right (by decide) this
    _ = 4096 := by decide
theorem last_alls (g : b.Good) : b.last ∈ b.alls := by
  obtain ⟨c, _, lt⟩ := last_ok g
  refine (mem_alls g).mpr ⟨?_, c⟩
  unfold last
  exact asc_srt (closure_ok g b.lns fun x hx => mem_lns.mp hx).2.1
theorem all_of_closed (g : b.Good) {K : List (List Nat)} (h0 : [] ∈ K) (h : ∀ l ∈ K, ∀ x ∈ b.ready l, wl l x ∈ K) (hA : ∀ l ∈ K, Asc l) (c : Comes b m) : ∀ l, Asc l → (∀ x, x ∈ l ↔ x ∈ m) → l ∈ K := by
  induction c with
  | nil =>
    intro l _ s
    have : l = [] := List.eq_nil_iff_forall_not_mem.mpr fun x hx => by have := (s x).mp hx; simp at this
    subst this; exact h0
  | @step m m' x c hx hxm hc hm ih =>
    intro l al s
    obtain ⟨k, hk⟩ : ∃ k, k = b.lns.filter fun y => decide (y ∈ m) := ⟨_, rfl⟩
    have ka : Asc k := by rw [hk]; exact List.Pairwise.filter _ List.pairwise_lt_range
    have ks : ∀ y, y ∈ k ↔ y ∈ m := fun y => by
      rw [hk, List.mem_filter, decide_eq_true_eq, mem_lns]
      exact ⟨fun q => q.2, fun q => ⟨c.lt y q, q⟩⟩
    have kK := ih k ka ks
    have xr : x ∈ b.ready k := mem_ready.mpr ⟨hx, fun q => hxm ((ks x).mp q), by rw [canF_congr ks]; exact hc⟩
    have e : l = wl k x := asc_eq al (asc_wl ka fun q => hxm ((ks x).mp q)) fun y => by rw [s, hm, mem_wl, ks]
    rw [e]
    exact h k kK x xr
theorem alls_of (g : b.Good) {K : List (List Nat)} (hn : K.Nodup) (h0 : [] ∈ K) (h : ∀ l ∈ K, ∀ x ∈ b.ready l, wl l x ∈ K) (hA : ∀ l ∈ K, Asc l ∧ Comes b l) : srtL K = b.alls :=
  srtL_eq hn alls_pw fun l => by
    rw [mem_alls g]
    exact ⟨hA l, fun q => all_of_closed g h0 h (fun l hl => (hA l hl).1) q.2 l q.1 fun _ => Iff.rfl⟩
theorem step_ok (g : b.Good) (hl : Asc l ∧ Comes b l) (hx : x ∈ b.ready l) : Asc (wl l x) ∧ Comes b (wl l x) := ⟨asc_wl hl.1 (mem_ready.mp hx).2.1, comes_wl g hl.2 hx⟩
theorem known_length (g : b.Good) {K : List (List Nat)} (hn : K.Nodup) (hA : ∀ l ∈ K, Asc l ∧ Comes b l) : K.length ≤ 4096 :=
  Nat.le_trans (List.Nodup.length_le_of_subset hn (l₂ := b.alls) fun l hl => (mem_alls g).mpr (hA l hl)) (alls_length g)
end Bd
end L2.Z
namespace L2.Z
open PySem
namespace Bd
variable {b : Bd} {l m k ws : List Nat} {x y : Nat}
end Bd
end L2.Z
namespace L2.Z
open PySem
section
variable {α : Type} [DecidableEq α]
def pushA (p : List α × List α) (m : α) : List α × List α := if m ∈ p.1 then p else (p.1 ++ [m], p.2 ++ [m])
def pushes (p : List α × List α) (ms : List α) : List α × List α := ms.foldl pushA p
structure Srch (next : α → List α) (ok : α → Prop) (s : α) (kn ed : List α) : Prop where
  nd : kn.Nodup
  ok : ∀ l ∈ kn, ok l
  hd : ∃ r, kn = s :: r
  nde : ed.Nodup
  sub : ∀ l ∈ ed, l ∈ kn
  cl : ∀ l ∈ kn, l ∉ ed → ∀ m ∈ next l, m ∈ kn
variable {next : α → List α} {ok : α → Prop} {s : α} {kn ed : List α}
theorem Srch.start (h : ok s) : Srch next ok s [s] [s] where
  nd := by simp
  ok := fun l hl => by simp at hl; subst hl; exact h
  hd := ⟨[], rfl⟩
  nde := by simp
  sub := fun l hl => hl
  cl := fun l hl h => absurd hl h
structure SrchM (next : α → List α) (ok : α → Prop) (s l : α) (kn ed : List α) : Prop where
  nd : kn.Nodup
  ok : ∀ l ∈ kn, ok l
  hd : ∃ r, kn = s :: r
  nde : ed.Nodup
  sub : ∀ l ∈ ed, l ∈ kn
  cl : ∀ k ∈ kn, k ∉ ed → k ≠ l → ∀ m ∈ next k, m ∈ kn
theorem SrchM.push {l m : α} (S : SrchM next ok s l kn ed) (hm : ok m) : SrchM next ok s l (pushA (kn, ed) m).1 (pushA (kn, ed) m).2 ∧ m ∈ (pushA (kn, ed) m).1 ∧ ∀ k ∈ kn, k ∈ (pushA (kn, ed) m).1 := by
  unfold pushA
  split
  · rename_i h
    exact ⟨S, h, fun _ h => h⟩
  · rename_i h
    simp only at h
    refine ⟨⟨?_, ?_, ?_, ?_, ?_, ?_⟩, by simp, fun k hk => by simp [hk]⟩
    · exact List.nodup_append.mpr ⟨S.nd, by simp, fun a ha b hb e => by simp at hb; subst hb; subst e; exact h ha⟩
    · intro k hk
      rcases List.mem_append.mp hk with q | q
      · exact S.ok k q
      · simp at q; subst q; exact hm
    · obtain ⟨r, e⟩ := S.hd
      exact ⟨r ++ [m], by simp [e]⟩
    · exact List.nodup_append.mpr ⟨S.nde, by simp, fun a ha b hb e => by simp at hb; subst hb; subst e; exact h (S.sub _ ha)⟩
    · intro k hk
      rcases List.mem_append.mp hk with q | q
      · simp [S.sub k q]
      · simp [q]
    · intro k hk hke hkl y hy
      simp only [List.mem_append, List.mem_singleton, not_or] at hk hke ⊢
      rcases hk with q | q
      · exact .inl (S.cl k q hke.1 hkl y hy)
      · exact absurd q hke.2
theorem SrchM.pushes {l : α} : ∀ (ms : List α) {kn ed : List α}, SrchM next ok s l kn ed → (∀ m ∈ ms, ok m) → SrchM next ok s l (pushes (kn, ed) ms).1 (pushes (kn, ed) ms).2 ∧ (∀ m ∈ ms, m ∈ (pushes (kn, ed) ms).1) ∧ ∀ k ∈ kn, k ∈ (pushes (kn, ed) ms).1
  | [], kn, ed, S, _ => ⟨S, fun _ h => by simp at h, fun _ h => h⟩
  | m :: ms, kn, ed, S, h => by
    obtain ⟨S1, h1, h2⟩ := S.push (h m (by simp))
    obtain ⟨S2, h3, h4⟩ := SrchM.pushes ms S1 fun k hk => h k (by simp [hk])
    refine ⟨S2, fun k hk => ?_, fun k hk => h4 k (h2 k hk)⟩
    rcases List.mem_cons.mp hk with rfl | hk
    · exact h4 _ h1
    · exact h3 k hk
theorem Srch.step {ed' : List α} {l : α} (S : Srch next ok s kn ed) (e : ed = ed' ++ [l]) (hok : ∀ l, ok l → ∀ m ∈ next l, ok m) : Srch next ok s (L2.Z.pushes (kn, ed') (next l)).1 (L2.Z.pushes (kn, ed') (next l)).2 := by
  subst e
  have hl := S.sub l (by simp)
  have nde := List.nodup_append.mp S.nde
  have M : SrchM next ok s l kn ed' := ⟨S.nd, S.ok, S.hd, nde.1, fun k hk => S.sub k (by simp [hk]), fun k hk hke hkl => S.cl k hk (by simp [hke, hkl])⟩
  obtain ⟨M2, h1, h2⟩ := M.pushes (next l) (hok l (S.ok l hl))
  refine ⟨M2.nd, M2.ok, M2.hd, M2.nde, M2.sub, fun k hk hke => ?_⟩
  by_cases z : k = l
  · subst z; exact h1
  · exact M2.cl k hk hke z
variable {ek : α → PyData} (h : KEnc ek)
include h
end
end L2.Z
namespace L2.Z
open PySem
namespace Bd
variable {b : Bd} {l m st ws : List Nat} {x y : Nat}
def gone (st : List Nat) : List Nat := st.foldl wl []
theorem gone_snoc (st : List Nat) (x : Nat) : gone (st ++ [x]) = wl (gone st) x := by simp [gone, List.foldl_append]
theorem snoc_ind {P : List Nat → Prop} (h0 : P []) (h : ∀ ys x, P ys → P (ys ++ [x])) (st : List Nat) : P st := by
  have : ∀ n (st : List Nat), st.length = n → P st := by
    intro n
    induction n with
    | zero => intro st h; rw [List.length_eq_zero_iff.mp h]; exact h0
    | succ n ih =>
      intro st hl
      rcases List.eq_nil_or_concat st with rfl | ⟨ys, x, rfl⟩
      · simp at hl
      · rw [List.concat_eq_append] at hl ⊢
        exact h ys x (ih ys (by simpa using hl))
  exact this _ st rfl
theorem gone_length : (gone st).length = st.length := by
  refine snoc_ind (P := fun st => (gone st).length = st.length) rfl (fun ys z ih => ?_) st
  rw [gone_snoc, wl_length, ih]; simp
def RowOk (b : Bd) (st : List Nat) : Prop := ∀ ys x zs, st = ys ++ x :: zs → x ∈ b.ready (gone ys)
theorem RowOk.nil (b : Bd) : RowOk b [] := fun ys x zs h => by simp at h
theorem RowOk.pre (h : RowOk b (st ++ ws)) : RowOk b st := fun ys x zs e => h ys x (zs ++ ws) (by simp [e])
theorem RowOk.lastR (h : RowOk b (st ++ [x])) : x ∈ b.ready (gone st) := h st x [] rfl
theorem RowOk.ok (g : b.Good) (h : RowOk b st) : Asc (gone st) ∧ Comes b (gone st) := by
  revert h
  refine snoc_ind (P := fun st => RowOk b st → Asc (gone st) ∧ Comes b (gone st)) (fun _ => ⟨List.Pairwise.nil, .nil⟩) (fun ys x ih h => ?_) st
  rw [gone_snoc]
  exact step_ok g (ih h.pre) h.lastR
theorem RowOk.alls (g : b.Good) (h : RowOk b st) : gone st ∈ b.alls := (mem_alls g).mpr (h.ok g)
theorem RowOk.len (g : b.Good) (h : RowOk b st) : st.length ≤ 12 := by
  obtain ⟨a, c⟩ := h.ok g
  rw [← gone_length]
  exact (⟨a.nodup, c.lt⟩ : Lot b (gone st)).len12 g
theorem closed_last (g : b.Good) (a : Asc l) (c : Comes b l) (h : Closed b l) : l = b.last := by
  obtain ⟨k1, k2, k3⟩ := last_ok g
  exact asc_eq a (asc_srt (closure_ok g b.lns (fun x hx => mem_lns.mp hx)).2.1) fun x => c.uniq g h k1 k2 x
def LrF (b : Bd) (l : List Nat) : Nat → List Nat
  | 0 => l
  | i + 1 => LrF b (srt (l ++ b.ready l)) i
theorem LrF_succ : ∀ (i : Nat) (l : List Nat), b.LrF l (i + 1) = srt (b.LrF l i ++ b.ready (b.LrF l i))
  | 0, l => rfl
  | i + 1, l => LrF_succ i (srt (l ++ b.ready l))
def Lr (b : Bd) (i : Nat) : List Nat := b.LrF [] i
theorem Lr_succ (i : Nat) : b.Lr (i + 1) = srt (b.Lr i ++ b.ready (b.Lr i)) := LrF_succ i []
theorem Lr_ok (g : b.Good) : ∀ i, Asc (b.Lr i) ∧ Comes b (b.Lr i)
  | 0 => ⟨List.Pairwise.nil, .nil⟩
  | i + 1 => by
    obtain ⟨a, c⟩ := Lr_ok g i
    rw [Lr_succ]
    exact ⟨asc_srt (List.nodup_append.mpr ⟨a.nodup, (lns_nodup b).filter _, fun x hx y hy e => (mem_ready.mp hy).2.1 (e ▸ hx)⟩),
      (c.more g _ fun x hx => ⟨(mem_ready.mp hx).1, (mem_ready.mp hx).2.2⟩).congr fun x => mem_srt⟩
theorem mem_Lr_succ {i : Nat} : x ∈ b.Lr (i + 1) ↔ x ∈ b.Lr i ∨ x ∈ b.ready (b.Lr i) := by rw [Lr_succ, mem_srt, List.mem_append]
end Bd
end L2.Z
namespace L2.Z
open PySem
def top : List Int → Int
  | [] => 0
  | a :: l => l.foldl max a
def bot : List Int → Int
  | [] => 0
  | a :: l => l.foldl min a
section
variable {l : List Int} (h : l ≠ [])
include h
theorem top_mem : top l ∈ l := by
  cases l with
  | nil => exact absurd rfl h
  | cons a l => exact (foldl_max l a).1
theorem bot_mem : bot l ∈ l := by
  cases l with
  | nil => exact absurd rfl h
  | cons a l => exact (foldl_min l a).1
theorem top_le : ∀ x ∈ l, x ≤ top l := by
  cases l with
  | nil => exact absurd rfl h
  | cons a l => exact (foldl_max l a).2
theorem bot_le : ∀ x ∈ l, bot l ≤ x := by
  cases l with
  | nil => exact absurd rfl h
  | cons a l => exact (foldl_min l a).2
end
def lt2 (p q : Nat × Nat) : Prop := p.1 < q.1 ∨ (p.1 = q.1 ∧ p.2 < q.2)
instance (p q : Nat × Nat) : Decidable (lt2 p q) := by unfold lt2; infer_instance
section
variable (f : Nat × Nat → Nat × Nat)
def orb (s : Nat × Nat) : Nat → Nat × Nat
  | 0 => s
  | i + 1 => f (orb s i)
variable {f} {s : Nat × Nat}
structure Ring (f : Nat × Nat → Nat × Nat) (s : Nat × Nat) (p : Nat) : Prop where
  p1 : 1 ≤ p
  p2 : p ≤ 36
  per : ∀ t, 35 ≤ t → orb f s (t + p) = orb f s t
  dif : ∀ d, 1 ≤ d → d < p → ∀ t, orb f s (t + d) ≠ orb f s t
end
end L2.Z
namespace L2.Z
open PySem
namespace Bd
variable {b : Bd}
theorem cross_ne (g : b.Good) (x : Nat) : b.cross [] x ≠ [] := by
  have h1 := g.h1
  have w1 := g.w1
  by_cases h : x < b.hi
  · intro z
    have : b.hi ∈ b.cross [] x := by rw [mem_cross]; exact ⟨by simp, .inl ⟨h, by omega, by omega⟩⟩
    rw [z] at this; cases this
  · intro z
    have : 0 ∈ b.cross [] x := by rw [mem_cross]; exact ⟨by simp, .inr ⟨by omega, by omega⟩⟩
    rw [z] at this; cases this
theorem ans_ne' {l : List Nat} {x : Nat} (hc : b.cross l x ≠ []) : b.ans l x ≠ [] := by
  have hn : (b.cross l x).map (fun c => b.num c x) ≠ [] := by simpa using hc
  obtain ⟨c, hc, e⟩ := List.mem_map.mp (top_mem hn)
  intro z
  have : c ∈ b.ans l x := by
    rw [mem_ans]
    refine ⟨hc, fun d hd => ?_⟩
    rw [e]
    exact top_le hn _ (List.mem_map.mpr ⟨d, hd, rfl⟩)
  rw [z] at this; cases this
theorem ans_ne (g : b.Good) (x : Nat) : b.ans [] x ≠ [] := ans_ne' (cross_ne g x)
theorem ans_row {x y : Nat} (hx : x < b.hi) (h : y ∈ b.ans [] x) : b.hi ≤ y ∧ y < b.hi + b.wi := by
  have := (mem_ans.mp h).1
  rw [mem_cross] at this
  omega
theorem ans_col {x y : Nat} (hx : b.hi ≤ x) (h : y ∈ b.ans [] x) : y < b.hi := by
  have := (mem_ans.mp h).1
  rw [mem_cross] at this
  omega
def lnums (b : Bd) (x : Nat) : List Int := (b.ans [] x).map (b.num x)
def bn (b : Bd) (k : Bool) (x : Nat) : Int := if k = true then top (b.lnums x) else bot (b.lnums x)
def cl (b : Bd) (k : Bool) (x : Nat) : Nat := (b.ans [] x)[(b.lnums x).idxOf (b.bn k x)]?.getD 0
structure First (b : Bd) (k : Bool) (r : Nat) : Prop where
  lt : r < b.hi
  le : ∀ x, x < b.hi → b.bn k x ≤ b.bn k r
  fi : ∀ x, x < r → b.bn k x < b.bn k r
theorem First.uniq {k : Bool} {r q : Nat} (h : First b k r) (h' : First b k q) : r = q := by
  rcases Nat.lt_trichotomy r q with z | z | z
  · have := h'.fi r z
    have := h.le q h'.lt
    omega
  · exact z
  · have := h.fi q z
    have := h'.le r h.lt
    omega
def rsL (b : Bd) : List Int := b.map fun r => (r.map Prod.fst).sum
def csL (b : Bd) : List Int := (List.range b.wi).map fun c => (b.map fun r => (r[c]?.getD (0, 0)).2).sum
def start (b : Bd) : Nat × Nat := (b.rsL.idxOf (top b.rsL), b.csL.idxOf (top b.csL))
def step (b : Bd) (p : Nat × Nat) : Nat × Nat := ((b.ans [] (b.hi + p.2)).headD 0, (b.ans [] p.1).headD 0 - b.hi)
theorem head_mem {l : List Nat} (h : l ≠ []) : l.headD 0 ∈ l := by
  cases l with
  | nil => exact absurd rfl h
  | cons a l => simp
theorem head_get {l : List Nat} (h : l ≠ []) : l[0]? = some (l.headD 0) := by
  cases l with
  | nil => exact absurd rfl h
  | cons a l => simp
end Bd
end L2.Z
namespace L2.Z
open PySem
namespace Bd
def at1 (b : Bd) (x y : Nat) : Int := ((b[x]?.getD [])[y]?.getD (0, 0)).1
end Bd
end L2.Z
namespace L2.Z
open PySem
namespace Bd
variable {b : Bd} {l m : List Nat} {x y z : Nat}
def goodD (b : Bd) (l : List Nat) (x : Nat) : Bool := (b.lft l).any fun y => decide (x ∈ b.ans l y)
def drp (b : Bd) (l : List Nat) : List Nat := (b.lft l).filter fun x => !b.goodD l x
theorem mem_drp : x ∈ b.drp l ↔ (x < b.hi + b.wi ∧ x ∉ l) ∧ ∀ y, y < b.hi + b.wi → y ∉ l → x ∉ b.ans l y := by
  unfold drp goodD
  rw [List.mem_filter, mem_lft, Bool.not_eq_true', List.any_eq_false]
  constructor
  · rintro ⟨h1, h2⟩
    exact ⟨h1, fun y hy hyl hx => h2 y (mem_lft.mpr ⟨hy, hyl⟩) (decide_eq_true hx)⟩
  · rintro ⟨h1, h2⟩
    refine ⟨h1, fun y hy hx => ?_⟩
    obtain ⟨a, c⟩ := mem_lft.mp hy
    exact h2 y a c (of_decide_eq_true hx)
structure Dl (b : Bd) (l : List Nat) : Prop where
  asc : Asc l
  lt : ∀ x ∈ l, x < b.hi + b.wi
  ans : ∀ y, y < b.hi + b.wi → y ∉ l → ∀ z ∈ b.ans [] y, z ∉ l
  some : ∃ y, y < b.hi + b.wi ∧ y ∉ l
theorem Dl.nil (g : b.Good) : Dl b [] := ⟨List.Pairwise.nil, by simp, by simp, ⟨0, by have := g.h1; omega, by simp⟩⟩
theorem ans_lt (hy : y < b.hi + b.wi) (h : z ∈ b.ans [] y) : z < b.hi + b.wi ∧ (z < b.hi ↔ ¬ y < b.hi) := by
  have := (mem_ans.mp h).1
  rw [mem_cross] at this
  omega
theorem Dl.pl (g : b.Good) (h : Dl b l) : Pl b l := by
  obtain ⟨y, hy, hyl⟩ := h.some
  obtain ⟨z, hz⟩ := List.exists_mem_of_ne_nil _ (ans_ne g y)
  have h1 := h.ans y hy hyl z hz
  have h2 := ans_lt hy hz
  by_cases c : y < b.hi
  · exact ⟨h.asc, h.lt, ⟨y, c, hyl⟩, ⟨z, by omega, by omega, h1⟩⟩
  · exact ⟨h.asc, h.lt, ⟨z, by omega, h1⟩, ⟨y, by omega, by omega, hyl⟩⟩
theorem Dl.same (g : b.Good) (h : Dl b l) (hy : y < b.hi + b.wi) (hyl : y ∉ l) : x ∈ b.ans l y ↔ x ∈ b.ans [] y := by
  obtain ⟨z, hz⟩ := List.exists_mem_of_ne_nil _ (ans_ne g y)
  have hzl := h.ans y hy hyl z hz
  have hzm := mem_ans.mp hz
  have sub : ∀ c, c ∈ b.cross l y → c ∈ b.cross [] y := fun c hc => by
    rw [mem_cross] at hc ⊢; exact ⟨by simp, hc.2⟩
  have zc : z ∈ b.cross l y := by
    have := hzm.1
    rw [mem_cross] at this ⊢; exact ⟨hzl, this.2⟩
  rw [mem_ans, mem_ans]
  constructor
  · rintro ⟨h1, h2⟩
    refine ⟨sub x h1, fun d hd => ?_⟩
    have := h2 z zc
    have := hzm.2 d hd
    omega
  · rintro ⟨h1, h2⟩
    have hx := h.ans y hy hyl x (mem_ans.mpr ⟨h1, h2⟩)
    refine ⟨?_, fun d hd => h2 d (sub d hd)⟩
    rw [mem_cross] at h1 ⊢; exact ⟨hx, h1.2⟩
theorem Dl.drp_iff (g : b.Good) (h : Dl b l) : x ∈ b.drp l ↔ (x < b.hi + b.wi ∧ x ∉ l) ∧ ∀ y, y < b.hi + b.wi → y ∉ l → x ∉ b.ans [] y := by
  rw [mem_drp]
  constructor
  · rintro ⟨h1, h2⟩; exact ⟨h1, fun y hy hyl => fun w => h2 y hy hyl ((h.same g hy hyl).mpr w)⟩
  · rintro ⟨h1, h2⟩; exact ⟨h1, fun y hy hyl => fun w => h2 y hy hyl ((h.same g hy hyl).mp w)⟩
theorem Dl.more (g : b.Good) (h : Dl b l) {s : List Nat} (hs : ∀ x ∈ s, x ∈ b.drp l) (a : Asc m) (hm : ∀ x, x ∈ m ↔ x ∈ l ∨ x ∈ s) : Dl b m := by
  obtain ⟨y, hy, hyl⟩ := h.some
  obtain ⟨z, hz⟩ := List.exists_mem_of_ne_nil _ (ans_ne g y)
  refine ⟨a, fun x hx => ?_, fun y hy hym z hz => ?_, ⟨z, (ans_lt hy hz).1, fun w => ?_⟩⟩
  · rcases (hm x).mp hx with w | w
    · exact h.lt x w
    · exact (mem_drp.mp (hs x w)).1.1
  · have hyl : y ∉ l := fun w => hym ((hm y).mpr (.inl w))
    intro w
    rcases (hm z).mp w with w | w
    · exact h.ans y hy hyl z hz w
    · exact ((h.drp_iff g).mp (hs z w)).2 y hy hyl hz
  · rcases (hm z).mp w with w | w
    · exact h.ans y hy hyl z hz w
    · exact ((h.drp_iff g).mp (hs z w)).2 y hy hyl hz
theorem Dl.later (g : b.Good) (h : Dl b l) (h' : Dl b m) (s : ∀ x ∈ l, x ∈ m) (hx : x ∈ b.drp l) (hm : x ∉ m) : x ∈ b.drp m := by
  obtain ⟨h1, h2⟩ := (h.drp_iff g).mp hx
  exact (h'.drp_iff g).mpr ⟨⟨h1.1, hm⟩, fun y hy hym => h2 y hy fun w => hym (s y w)⟩
inductive Way (b : Bd) : List Nat → Prop
  | nil : Way b []
  | more {l m s : List Nat} : Way b l → (∀ x ∈ s, x ∈ b.drp l) → Asc m → (∀ x, x ∈ m ↔ x ∈ l ∨ x ∈ s) → Way b m
theorem Way.dl (g : b.Good) (w : Way b l) : Dl b l := by
  induction w with
  | nil => exact Dl.nil g
  | more _ hs a hm ih => exact ih.more g hs a hm
theorem Way.within (g : b.Good) (w : Way b l) (h : Dl b m) (c : b.drp m = []) : ∀ x ∈ l, x ∈ m := by
  induction w with
  | nil => simp
  | more w hs a hm ih =>
    intro x hx
    rcases (hm x).mp hx with z | z
    · exact ih x z
    · refine Classical.byContradiction fun q => ?_
      have := (w.dl g).later g h ih (hs x z) q
      rw [c] at this; cases this
theorem Way.uniq (g : b.Good) (w : Way b l) (c : b.drp l = []) (w' : Way b m) (c' : b.drp m = []) : l = m :=
  asc_eq (w.dl g).asc (w'.dl g).asc fun x => ⟨w.within g (w'.dl g) c' x, w'.within g (w.dl g) c x⟩
theorem Way.one (g : b.Good) (w : Way b l) (hx : x ∈ b.drp l) : Way b (wl l x) := by
  have := (mem_drp.mp hx).1.2
  exact .more w (s := [x]) (by simpa using hx) (asc_wl (w.dl g).asc this) fun y => by rw [mem_wl]; simp
theorem drp_asc : Asc (b.drp l) := by
  unfold drp
  rw [lft_eq]
  exact (List.Pairwise.filter _ (List.Pairwise.filter _ List.pairwise_lt_range))
theorem asc_all (a : Asc l) (s : List Nat) (hs : s.Nodup) (hd : ∀ x ∈ s, x ∉ l) : Asc (srt (l ++ s)) := asc_srt (by
  rw [List.nodup_append]
  exact ⟨a.nodup, hs, fun a ha b hb z => hd b hb (z ▸ ha)⟩)
theorem Way.all (g : b.Good) (w : Way b l) : Way b (srt (l ++ b.drp l)) :=
  .more w (s := b.drp l) (fun _ h => h) (asc_all (w.dl g).asc _ drp_asc.nodup fun x hx => (mem_drp.mp hx).1.2) fun y => by rw [mem_srt, List.mem_append]
theorem Way.len (g : b.Good) (w : Way b l) : l.length ≤ 12 := ((w.dl g).pl g).len g
theorem comes_stay (g : b.Good) (hx : x < b.hi) (h1 : b.hi ≤ y) (h2 : y < b.hi + b.wi) (h3 : x ∈ b.ans [] y) (h4 : y ∈ b.ans [] x) : ∀ l, Comes b l → x ∉ l ∧ y ∉ l := by
  intro l h
  have sub : ∀ l u v, u ∈ b.cross l v → u ∈ b.cross [] v := fun l u v h => by
    rw [mem_cross] at h ⊢; exact ⟨by simp, h.2⟩
  induction h with
  | nil => simp
  | @step l m u hl hn hul hc hm ih =>
    have cx : x ∈ b.cross l y := by rw [mem_cross]; exact ⟨ih.1, .inr ⟨h1, hx⟩⟩
    have cy : y ∈ b.cross l x := by rw [mem_cross]; exact ⟨ih.2, .inl ⟨hx, h1, h2⟩⟩
    have s1 := ans_stays cx cy (fun d hd => (mem_ans.mp h3).2 d (sub l d y hd)) (by omega)
    have s2 := ans_stays cy cx (fun d hd => (mem_ans.mp h4).2 d (sub l d x hd)) h2
    refine ⟨fun z => ?_, fun z => ?_⟩
    · rcases (hm _).mp z with z | z
      · exact ih.1 z
      · rw [z, hc] at s1; cases s1
    · rcases (hm _).mp z with z | z
      · exact ih.2 z
      · rw [z, hc] at s2; cases s2
end Bd
end L2.Z
namespace L2.Z
namespace Bd
structure Emb (p b : Bd) (v : Nat → Nat) (l : List Nat) : Prop where
  gp : p.Good
  gb : b.Good
  row : ∀ i, i < p.hi → v i < b.hi ∧ v i ∉ l
  col : ∀ i, p.hi ≤ i → i < p.hi + p.wi → (b.hi ≤ v i ∧ v i < b.hi + b.wi) ∧ v i ∉ l
  inj : ∀ i j, i < p.hi + p.wi → j < p.hi + p.wi → v i = v j → i = j
  sur : ∀ x, x < b.hi + b.wi → x ∉ l → ∃ i, i < p.hi + p.wi ∧ v i = x
  num : ∀ i j, ((i < p.hi ∧ p.hi ≤ j ∧ j < p.hi + p.wi) ∨ (j < p.hi ∧ p.hi ≤ i ∧ i < p.hi + p.wi)) → p.num i j = b.num (v i) (v j)
section
variable {p b : Bd} {v : Nat → Nat} {l m : List Nat} {i j : Nat}
theorem Emb.lt (E : Emb p b v l) (h : i < p.hi + p.wi) : v i < b.hi + b.wi ∧ v i ∉ l := by
  by_cases q : i < p.hi
  · have := E.row i q; exact ⟨by omega, this.2⟩
  · have := E.col i (by omega) h; exact ⟨by omega, this.2⟩
theorem Emb.side (E : Emb p b v l) (h : i < p.hi + p.wi) : i < p.hi ↔ v i < b.hi := by
  by_cases q : i < p.hi
  · have := E.row i q; exact ⟨fun _ => this.1, fun _ => q⟩
  · have := E.col i (by omega) h; exact ⟨fun z => absurd z q, fun z => by omega⟩
def up (v : Nat → Nat) (l m : List Nat) : List Nat := srt (l ++ m.map v)
theorem mem_up {x : Nat} : x ∈ up v l m ↔ x ∈ l ∨ ∃ i ∈ m, v i = x := by
  unfold up
  rw [mem_srt, List.mem_append, List.mem_map]
theorem Emb.mem (E : Emb p b v l) (hm : ∀ x ∈ m, x < p.hi + p.wi) (h : i < p.hi + p.wi) : v i ∈ up v l m ↔ i ∈ m := by
  rw [mem_up]
  constructor
  · rintro (q | ⟨j, hj, e⟩)
    · exact absurd q (E.lt h).2
    · rw [← E.inj j i (hm j hj) h e]; exact hj
  · exact fun q => .inr ⟨i, q, rfl⟩
theorem Emb.cross (E : Emb p b v l) (hm : ∀ x ∈ m, x < p.hi + p.wi) (h : i < p.hi + p.wi) {y : Nat} : y ∈ b.cross (up v l m) (v i) ↔ ∃ c ∈ p.cross m i, v c = y := by
  rw [mem_cross]
  constructor
  · rintro ⟨h1, h2⟩
    have hs := E.side h
    have hy : y < b.hi + b.wi := by have := (E.lt h).1; omega
    obtain ⟨c, hc, rfl⟩ := E.sur y hy fun q => h1 (mem_up.mpr (.inl q))
    refine ⟨c, ?_, rfl⟩
    rw [mem_cross]
    rw [E.mem hm hc] at h1
    have hs2 := E.side hc
    refine ⟨h1, ?_⟩
    omega
  · rintro ⟨c, hc, rfl⟩
    rw [mem_cross] at hc
    have hcl : c < p.hi + p.wi := by omega
    have hs := E.side h
    have hs2 := E.side hcl
    rw [E.mem hm hcl]
    have := (E.lt h).1
    have := (E.lt hcl).1
    exact ⟨hc.1, by omega⟩
theorem Emb.isG (E : Emb p b v l) (hm : ∀ x ∈ m, x < p.hi + p.wi) (hi : i < p.hi + p.wi) (hj : j < p.hi + p.wi) : b.isG (up v l m) (v i) (v j) = p.isG m i j := by
  rw [Bool.eq_iff_iff, isG_iff, isG_iff]
  have s1 := E.side hi
  have s2 := E.side hj
  have key : (i < p.hi ↔ j < p.hi) → ∀ c ∈ p.cross m i, (p.num i c = b.num (v i) (v c) ∧ p.num j c = b.num (v j) (v c)) := fun hs c hc => by
    rw [mem_cross] at hc
    exact ⟨E.num i c (by omega), E.num j c (by omega)⟩
  constructor
  · rintro ⟨h1, h2⟩
    have hs : i < p.hi ↔ j < p.hi := by omega
    refine ⟨hs, fun c hc => ?_⟩
    obtain ⟨k1, k2⟩ := key hs c hc
    rw [k1, k2]
    exact h2 _ ((E.cross hm hi).mpr ⟨c, hc, rfl⟩)
  · rintro ⟨h1, h2⟩
    refine ⟨by omega, fun y hy => ?_⟩
    obtain ⟨c, hc, rfl⟩ := (E.cross hm hi).mp hy
    obtain ⟨k1, k2⟩ := key h1 c hc
    rw [← k1, ← k2]
    exact h2 c hc
theorem Emb.canF (E : Emb p b v l) (hm : ∀ x ∈ m, x < p.hi + p.wi) (hi : i < p.hi + p.wi) : b.canF (up v l m) (v i) = p.canF m i := by
  rw [Bool.eq_iff_iff, canF_iff, canF_iff]
  constructor
  · rintro ⟨y, h1, h2, h3, h4⟩
    obtain ⟨c, hc, rfl⟩ := E.sur y h1 fun q => h2 (mem_up.mpr (.inl q))
    rw [E.mem hm hc] at h2
    rw [E.isG hm hi hc] at h4
    exact ⟨c, hc, h2, fun e => h3 (by rw [e]), h4⟩
  · rintro ⟨c, hc, h2, h3, h4⟩
    refine ⟨v c, (E.lt hc).1, ?_, fun e => h3 (E.inj c i hc hi e), ?_⟩
    · rw [E.mem hm hc]; exact h2
    · rw [E.isG hm hi hc]; exact h4
theorem Emb.comes (E : Emb p b v l) (cl : Comes b l) (c : Comes p m) : Comes b (up v l m) := by
  induction c with
  | nil => exact cl.congr fun x => by rw [mem_up]; simp
  | @step k m x c hx hxk hc hm ih =>
    have hk := c.lt
    refine .step ih (E.lt hx).1 (by rw [E.mem hk hx]; exact hxk) (by rw [E.canF hk hx]; exact hc) fun y => ?_
    rw [mem_up, mem_up]
    constructor
    · rintro (q | ⟨i, hi, e⟩)
      · exact .inl (.inl q)
      · rcases (hm i).mp hi with q | rfl
        · exact .inl (.inr ⟨i, q, e⟩)
        · exact .inr e.symm
    · rintro ((q | ⟨i, hi, e⟩) | e)
      · exact .inl q
      · exact .inr ⟨i, (hm i).mpr (.inl hi), e⟩
      · exact .inr ⟨x, (hm x).mpr (.inr rfl), e.symm⟩
def down (p : Bd) (v : Nat → Nat) (k : List Nat) : List Nat := p.lns.filter fun i => decide (v i ∈ k)
theorem mem_down {k : List Nat} : i ∈ down p v k ↔ i < p.hi + p.wi ∧ v i ∈ k := by
  unfold down
  rw [List.mem_filter, mem_lns, decide_eq_true_eq]
theorem Emb.back (E : Emb p b v l) (cl : Comes b l) {k : List Nat} (c : Comes b k) (h : ∀ x ∈ l, x ∈ k) : Comes p (down p v k) ∧ ∀ x, x ∈ up v l (down p v k) ↔ x ∈ k := by
  have hw : ∀ x ∈ down p v k, x < p.hi + p.wi := fun x hx => (mem_down.mp hx).1
  obtain ⟨c1, n1, h1⟩ := closure_ok E.gp (down p v k) hw
  have sub : ∀ x ∈ p.closure (down p v k), x ∈ down p v k := closure_sub
  have hcl : ∀ x ∈ p.closure (down p v k), x < p.hi + p.wi := fun x hx => hw x (sub x hx)
  have c2 := E.comes cl c1
  have all : ∀ x ∈ k, x ∈ up v l (p.closure (down p v k)) := by
    refine c.withinR (ws := k) E.gb (fun _ h => h) c2 fun x hx hxn => ?_
    obtain ⟨i, hi, rfl⟩ := E.sur x (c.lt x hx) fun q => hxn (mem_up.mpr (.inl q))
    rw [E.mem hcl hi] at hxn
    rw [E.canF hcl hi]
    exact h1 i (mem_down.mpr ⟨hi, hx⟩) hxn
  have e : ∀ i, i ∈ down p v k ↔ i ∈ p.closure (down p v k) := fun i => ⟨fun q => by
    obtain ⟨q1, q2⟩ := mem_down.mp q
    exact (E.mem hcl q1).mp (all _ q2), sub i⟩
  refine ⟨c1.congr e, fun x => ?_⟩
  rw [mem_up]
  constructor
  · rintro (q | ⟨i, hi, rfl⟩)
    · exact h x q
    · exact (mem_down.mp hi).2
  · intro q
    by_cases z : x ∈ l
    · exact .inl z
    · obtain ⟨i, hi, rfl⟩ := E.sur x (c.lt x q) z
      exact .inr ⟨i, mem_down.mpr ⟨hi, q⟩, rfl⟩
theorem Emb.nodup (E : Emb p b v l) (nl : l.Nodup) (nm : m.Nodup) (hm : ∀ x ∈ m, x < p.hi + p.wi) : (l ++ m.map v).Nodup := by
  refine List.nodup_append.mpr ⟨nl, ?_, fun a ha c hc e => ?_⟩
  · rw [List.Nodup, List.pairwise_map]
    exact nm.imp_of_mem fun {a c} ha hc h e => h (E.inj _ _ (hm _ ha) (hm _ hc) e)
  · obtain ⟨i, hi, rfl⟩ := List.mem_map.mp hc
    subst e
    exact (E.lt (hm i hi)).2 ha
theorem Emb.up_asc (E : Emb p b v l) (nl : l.Nodup) (nm : m.Nodup) (hm : ∀ x ∈ m, x < p.hi + p.wi) : Asc (up v l m) := asc_srt (E.nodup nl nm hm)
theorem Emb.up_alls (E : Emb p b v l) (hl : l ∈ b.alls) (hm : m ∈ p.alls) : up v l m ∈ b.alls := by
  obtain ⟨a1, c1⟩ := (mem_alls E.gb).mp hl
  obtain ⟨a2, c2⟩ := (mem_alls E.gp).mp hm
  exact (mem_alls E.gb).mpr ⟨E.up_asc a1.nodup a2.nodup c2.lt, E.comes c1 c2⟩
theorem Emb.up_last (E : Emb p b v l) (hl : l ∈ b.alls) : up v l p.last = b.last := by
  obtain ⟨a1, c1⟩ := (mem_alls E.gb).mp hl
  obtain ⟨c, cc, _⟩ := last_ok E.gp
  have h1 := E.up_alls hl (last_alls E.gp)
  obtain ⟨a2, c2⟩ := (mem_alls E.gb).mp h1
  refine closed_last E.gb a2 c2 fun x hx hxn => ?_
  obtain ⟨i, hi, rfl⟩ := E.sur x hx fun q => hxn (mem_up.mpr (.inl q))
  rw [E.mem c.lt hi] at hxn
  rw [E.canF c.lt hi]
  exact cc i hi hxn
theorem Emb.last_iff (E : Emb p b v l) (hl : l ∈ b.alls) (hi : i < p.hi + p.wi) : v i ∈ b.last ↔ i ∈ p.last := by
  rw [← E.up_last hl, E.mem (last_ok E.gp).1.lt hi]
theorem Emb.rounds (E : Emb p b v l) (hl : l ∈ b.alls) (n : Nat) : ∀ x ∈ b.Lr n, x ∈ up v l (p.Lr n) := by
  obtain ⟨a1, c1⟩ := (mem_alls E.gb).mp hl
  induction n with
  | zero => intro x hx; simp [Lr, LrF] at hx
  | succ n ih =>
    intro x hx
    have cp := (Lr_ok E.gp n).2
    have mono : ∀ y ∈ up v l (p.Lr n), y ∈ up v l (p.Lr (n + 1)) := fun y hy => by
      rcases mem_up.mp hy with q | ⟨i, hi, e⟩
      · exact mem_up.mpr (.inl q)
      · exact mem_up.mpr (.inr ⟨i, mem_Lr_succ.mpr (.inl hi), e⟩)
    rcases mem_Lr_succ.mp hx with q | q
    · exact mono x (ih x q)
    · obtain ⟨q1, q2, q3⟩ := mem_ready.mp q
      by_cases z : x ∈ up v l (p.Lr n)
      · exact mono x z
      · have := (E.comes c1 cp).later E.gb ih z q3
        obtain ⟨i, hi, rfl⟩ := E.sur x q1 fun w => z (mem_up.mpr (.inl w))
        rw [E.canF cp.lt hi] at this
        rw [E.mem cp.lt hi] at z
        exact mem_up.mpr (.inr ⟨i, mem_Lr_succ.mpr (.inr (mem_ready.mpr ⟨hi, z, this⟩)), rfl⟩)
theorem Emb.ans (E : Emb p b v l) (hi : i < p.hi + p.wi) (hj : j < p.hi + p.wi) : v j ∈ b.ans l (v i) ↔ j ∈ p.ans [] i := by
  have e0 : ∀ x, x ∈ up v l [] ↔ x ∈ l := fun x => by rw [mem_up]; simp
  have cr : ∀ y, y ∈ b.cross l (v i) ↔ ∃ c ∈ p.cross [] i, v c = y := fun y => by
    rw [← E.cross (m := []) (by simp) hi, mem_cross, mem_cross, e0]
  rw [mem_ans, mem_ans]
  have num : ∀ c ∈ p.cross [] i, p.num c i = b.num (v c) (v i) := fun c hc => by
    rw [mem_cross] at hc
    exact E.num c i (by omega)
  constructor
  · rintro ⟨h1, h2⟩
    obtain ⟨c, hc, e⟩ := (cr _).mp h1
    have hcl : c < p.hi + p.wi := by rw [mem_cross] at hc; omega
    obtain rfl := E.inj c j hcl hj e
    refine ⟨hc, fun d hd => ?_⟩
    rw [num d hd, num c hc]
    exact h2 _ ((cr _).mpr ⟨d, hd, rfl⟩)
  · rintro ⟨h1, h2⟩
    refine ⟨(cr _).mpr ⟨j, h1, rfl⟩, fun d hd => ?_⟩
    obtain ⟨c, hc, rfl⟩ := (cr _).mp hd
    rw [← num c hc, ← num j h1]
    exact h2 c hc
structure EmbM (p b : Bd) (v : Nat → Nat) (l : List Nat) : Prop extends Emb p b v l where
  mono : ∀ i j, i < j → j < p.hi + p.wi → v i < v j
theorem EmbM.map_asc (E : EmbM p b v l) (a : Asc m) (hm : ∀ x ∈ m, x < p.hi + p.wi) : Asc (m.map v) := by
  rw [Asc, List.pairwise_map]
  exact a.imp_of_mem fun {x y} hx hy h => E.mono x y h (hm y hy)
theorem EmbM.ready (E : EmbM p b v l) (hl : l.Nodup) (a : Asc m) (hm : ∀ x ∈ m, x < p.hi + p.wi) : (p.ready m).map v = b.ready (up v l m) := by
  refine asc_eq (E.map_asc (List.Pairwise.filter _ List.pairwise_lt_range) fun x hx => (mem_ready.mp hx).1) (List.Pairwise.filter _ List.pairwise_lt_range) fun x => ?_
  rw [List.mem_map, mem_ready]
  constructor
  · rintro ⟨i, hi, rfl⟩
    obtain ⟨h1, h2, h3⟩ := mem_ready.mp hi
    exact ⟨(E.lt h1).1, by rw [E.mem hm h1]; exact h2, by rw [E.canF hm h1]; exact h3⟩
  · rintro ⟨h1, h2, h3⟩
    obtain ⟨i, hi, rfl⟩ := E.sur x h1 fun q => h2 (mem_up.mpr (.inl q))
    rw [E.mem hm hi] at h2
    rw [E.canF hm hi] at h3
    exact ⟨i, mem_ready.mpr ⟨hi, h2, h3⟩, rfl⟩
theorem EmbM.rowsL (E : EmbM p b v l) (hm : ∀ x ∈ m, x < p.hi + p.wi) : (p.rowsL m).map v = b.rowsL (up v l m) := by
  refine asc_eq (E.map_asc rowsL_sorted fun x hx => by have := (mem_rowsL.mp hx).1; omega) rowsL_sorted fun x => ?_
  rw [List.mem_map, mem_rowsL]
  constructor
  · rintro ⟨i, hi, rfl⟩
    obtain ⟨h1, h2⟩ := mem_rowsL.mp hi
    exact ⟨(E.row i h1).1, by rw [E.mem hm (by omega)]; exact h2⟩
  · rintro ⟨h1, h2⟩
    obtain ⟨i, hi, rfl⟩ := E.sur x (by omega) fun q => h2 (mem_up.mpr (.inl q))
    rw [E.mem hm hi] at h2
    exact ⟨i, mem_rowsL.mpr ⟨(E.side hi).mpr h1, h2⟩, rfl⟩
theorem EmbM.colsL (E : EmbM p b v l) (hm : ∀ x ∈ m, x < p.hi + p.wi) : (p.colsL m).map v = b.colsL (up v l m) := by
  refine asc_eq (E.map_asc colsL_sorted fun x hx => (mem_colsL.mp hx).1.2) colsL_sorted fun x => ?_
  rw [List.mem_map, mem_colsL]
  constructor
  · rintro ⟨i, hi, rfl⟩
    obtain ⟨h1, h2⟩ := mem_colsL.mp hi
    exact ⟨(E.col i h1.1 h1.2).1, by rw [E.mem hm h1.2]; exact h2⟩
  · rintro ⟨h1, h2⟩
    obtain ⟨i, hi, rfl⟩ := E.sur x h1.2 fun q => h2 (mem_up.mpr (.inl q))
    rw [E.mem hm hi] at h2
    have := E.side hi
    exact ⟨i, mem_colsL.mpr ⟨⟨by omega, hi⟩, h2⟩, rfl⟩
theorem fm_congr {α β : Type} {f g : α → List β} : ∀ {L : List α}, (∀ x ∈ L, f x = g x) → L.flatMap f = L.flatMap g
  | [], _ => rfl
  | x :: L, h => by rw [List.flatMap_cons, List.flatMap_cons, h x (by simp), fm_congr fun y hy => h y (by simp [hy])]
theorem EmbM.bes (E : EmbM p b v l) : (p.bes []).map (fun q => (v q.1, v q.2)) = b.bes l := by
  have r := E.rowsL (m := []) (by simp)
  have c := E.colsL (m := []) (by simp)
  have e0 : ∀ x, x ∈ up v l [] ↔ x ∈ l := fun x => by rw [mem_up]; simp
  have er : b.rowsL (up v l []) = b.rowsL l := List.filter_congr fun x _ => by rw [decide_eq_decide.mpr (e0 x)]
  have ec : b.colsL (up v l []) = b.colsL l := List.filter_congr fun x _ => by rw [decide_eq_decide.mpr (e0 x)]
  rw [er] at r
  rw [ec] at c
  unfold Bd.bes
  rw [← r, ← c, List.map_flatMap, List.flatMap_map]
  refine fm_congr fun x hx => ?_
  have h1 := (mem_rowsL.mp hx).1
  rw [List.map_map, List.filter_map, List.map_map]
  have : (p.colsL []).filter ((fun y => decide (v x ∈ b.ans l y) && decide (y ∈ b.ans l (v x))) ∘ v) = (p.colsL []).filter fun y => decide (x ∈ p.ans [] y) && decide (y ∈ p.ans [] x) := by
    refine List.filter_congr fun y hy => ?_
    have h2 := (mem_colsL.mp hy).1
    simp only [Function.comp]
    rw [decide_eq_decide.mpr (E.ans (i := y) (j := x) (by omega) (by omega)), decide_eq_decide.mpr (E.ans (i := x) (j := y) (by omega) (by omega))]
  rw [this]
  rfl
end
end Bd
end L2.Z
namespace L2.Z
namespace Bd
variable {b : Bd} {l : List Nat}
theorem Pl.rows (P : Pl b l) : b.rowsL l ≠ [] := by
  obtain ⟨x, h1, h2⟩ := P.row
  intro e
  have := mem_rowsL.mpr ⟨h1, h2⟩
  rw [e] at this; simp at this
end Bd
end L2.Z
namespace L2.Z
open PySem
abbrev PS := List (List Nat × Int)
abbrev keys {β : Type} (L : List (List Nat × β)) : List (List Nat) := L.map Prod.fst
theorem keys_cons {β : Type} (p : List Nat × β) (L : List (List Nat × β)) : keys (p :: L) = p.1 :: keys L := rfl
theorem keys_len {β : Type} (L : List (List Nat × β)) : (keys L).length = L.length := List.length_map _
section
variable {β : Type} {L : List (List Nat × β)} {a c : List Nat} {v : β}
theorem any_keys : (L.any fun p => decide (p.1 = a)) = decide (a ∈ keys L) := by
  induction L with
  | nil => simp
  | cons p L ih =>
    rw [List.any_cons, ih, keys_cons]
    by_cases h : p.1 = a
    · simp [h]
    · have : ¬ a = p.1 := fun e => h e.symm
      simp [h, this]
theorem keys_put : keys (aPut L a v) = if a ∈ keys L then keys L else keys L ++ [a] := by
  unfold aPut
  rw [any_keys]
  by_cases h : a ∈ keys L
  · rw [if_pos (by simpa using h), if_pos h]
    show List.map Prod.fst (List.map _ L) = List.map Prod.fst L
    rw [List.map_map]
    refine List.map_congr_left fun p _ => ?_
    simp only [Function.comp]
    split <;> rfl
  · rw [if_neg (by simpa using h), if_neg h]
    simp
theorem mem_put : c ∈ keys (aPut L a v) ↔ c ∈ keys L ∨ c = a := by
  rw [keys_put]
  split
  · rename_i h
    exact ⟨.inl, fun q => q.elim id fun e => e ▸ h⟩
  · rw [List.mem_append, List.mem_singleton]
theorem nodup_put (h : (keys L).Nodup) : (keys (aPut L a v)).Nodup := by
  rw [keys_put]
  split
  · exact h
  · rename_i hn
    exact List.nodup_append.mpr ⟨h, by simp, fun x hx y hy e => by simp at hy; subst hy; subst e; exact hn hx⟩
theorem hd_put {s : List Nat} (h : ∃ r, keys L = s :: r) : ∃ r, keys (aPut L a v) = s :: r := by
  obtain ⟨r, e⟩ := h
  rw [keys_put]
  split
  · exact ⟨r, e⟩
  · exact ⟨r ++ [a], by rw [e]; rfl⟩
end
def bump (L : PS) (m : List Nat) (k : Int) : PS := aPut L m ((aGet L m).getD 0 + k)
def strk (l : List Nat) (k : Int) (L : PS) (xs : List Nat) : PS := xs.foldl (fun L x => bump L (Bd.wl l x) k) L
theorem mem_strk {l : List Nat} {k : Int} {m : List Nat} : ∀ {xs : List Nat} {L : PS}, m ∈ keys (strk l k L xs) ↔ m ∈ keys L ∨ ∃ x ∈ xs, Bd.wl l x = m
  | [], L => by simp [strk]
  | x :: xs, L => by
    have := mem_strk (l := l) (k := k) (m := m) (xs := xs) (L := bump L (Bd.wl l x) k)
    unfold strk at this ⊢
    rw [List.foldl_cons, this, bump, mem_put]
    constructor
    · rintro ((h | h) | ⟨y, hy, e⟩)
      · exact .inl h
      · exact .inr ⟨x, by simp, h.symm⟩
      · exact .inr ⟨y, by simp [hy], e⟩
    · rintro (h | ⟨y, hy, e⟩)
      · exact .inl (.inl h)
      · rcases List.mem_cons.mp hy with rfl | hy
        · exact .inl (.inr e.symm)
        · exact .inr ⟨y, hy, e⟩
theorem nodup_strk {l : List Nat} {k : Int} : ∀ {xs : List Nat} {L : PS}, (keys L).Nodup → (keys (strk l k L xs)).Nodup
  | [], L, h => h
  | x :: xs, L, h => by
    have := nodup_strk (l := l) (k := k) (xs := xs) (L := bump L (Bd.wl l x) k) (nodup_put h)
    exact this
def putAll (F E : PS) : PS := E.foldl (fun F p => aPut F p.1 p.2) F
theorem mem_putAll {m : List Nat} : ∀ {E F : PS}, m ∈ keys (putAll F E) ↔ m ∈ keys F ∨ m ∈ keys E
  | [], F => by simp [putAll]
  | p :: E, F => by
    have := mem_putAll (m := m) (E := E) (F := aPut F p.1 p.2)
    unfold putAll at this ⊢
    rw [List.foldl_cons, this, mem_put, keys_cons, List.mem_cons, or_assoc]
theorem nodup_putAll : ∀ {E F : PS}, (keys F).Nodup → (keys (putAll F E)).Nodup
  | [], F, h => h
  | p :: E, F, h => nodup_putAll (E := E) (F := aPut F p.1 p.2) (nodup_put h)
theorem hd_putAll {s : List Nat} : ∀ {E F : PS}, (∃ r, keys F = s :: r) → ∃ r, keys (putAll F E) = s :: r
  | [], F, h => h
  | p :: E, F, h => hd_putAll (E := E) (F := aPut F p.1 p.2) (hd_put h)
namespace Bd
variable {b : Bd}
def later (b : Bd) (L E : PS) : PS := E.foldl (fun L p => strk p.1 p.2 L (b.ready p.1)) L
theorem mem_later {m : List Nat} : ∀ {E L : PS}, m ∈ keys (b.later L E) ↔ m ∈ keys L ∨ ∃ l ∈ keys E, ∃ x ∈ b.ready l, wl l x = m
  | [], L => by simp [later]
  | p :: E, L => by
    have := mem_later (m := m) (E := E) (L := strk p.1 p.2 L (b.ready p.1))
    unfold later at this ⊢
    rw [List.foldl_cons, this, mem_strk, keys_cons]
    constructor
    · rintro ((h | h) | ⟨l, hl, h⟩)
      · exact .inl h
      · exact .inr ⟨p.1, by simp, h⟩
      · exact .inr ⟨l, by simp [hl], h⟩
    · rintro (h | ⟨l, hl, h⟩)
      · exact .inl (.inl h)
      · rcases List.mem_cons.mp hl with rfl | hl
        · exact .inl (.inr h)
        · exact .inr ⟨l, hl, h⟩
theorem nodup_later : ∀ {E L : PS}, (keys L).Nodup → (keys (b.later L E)).Nodup
  | [], L, h => h
  | p :: E, L, h => nodup_later (E := E) (L := strk p.1 p.2 L (b.ready p.1)) (nodup_strk h)
structure Lay (b : Bd) (k : Nat) (E : PS) : Prop where
  nd : (keys E).Nodup
  ok : ∀ l ∈ keys E, (Asc l ∧ Comes b l) ∧ l.length = k
theorem Lay.nil {k : Nat} : Lay b k [] := ⟨by simp, fun _ h => by simp at h⟩
theorem wl_len {l : List Nat} {x : Nat} : (wl l x).length = l.length + 1 := by unfold wl; rw [srt_length]; simp
theorem Lay.strk (g : b.Good) {k : Nat} {L : PS} {l xs : List Nat} {v : Int} (h : Lay b (k + 1) L) (hl : (Asc l ∧ Comes b l) ∧ l.length = k) (hx : ∀ x ∈ xs, x ∈ b.ready l) : Lay b (k + 1) (strk l v L xs) :=
  ⟨nodup_strk h.nd, fun m hm => by
    rcases mem_strk.mp hm with q | ⟨x, q, rfl⟩
    · exact h.ok m q
    · exact ⟨step_ok g hl.1 (hx x q), by rw [wl_len, hl.2]⟩⟩
theorem Lay.later (g : b.Good) {k : Nat} {L E : PS} (h : Lay b (k + 1) L) (hE : Lay b k E) : Lay b (k + 1) (b.later L E) :=
  ⟨nodup_later h.nd, fun m hm => by
    rcases mem_later.mp hm with q | ⟨l, q, x, hx, rfl⟩
    · exact h.ok m q
    · exact ⟨step_ok g (hE.ok l q).1 hx, by rw [wl_len, (hE.ok l q).2]⟩⟩
theorem Lay.pre {k : Nat} {E E' : PS} (h : Lay b k (E ++ E')) : Lay b k E := by
  have h1 := h.nd
  have h2 := h.ok
  rw [keys, List.map_append] at h1 h2
  exact ⟨(List.nodup_append.mp h1).1, fun l hl => h2 l (List.mem_append_left _ hl)⟩
theorem Lay.len (g : b.Good) {k : Nat} {E : PS} (h : Lay b k E) : E.length ≤ 4096 := by
  have := known_length g h.nd fun l hl => (h.ok l hl).1
  rwa [keys_len] at this
structure Fnd (b : Bd) (F E : PS) : Prop where
  nd : (keys F).Nodup
  ok : ∀ l ∈ keys F, Asc l ∧ Comes b l
  hd : ∃ r, keys F = [] :: r
  sub : ∀ l ∈ keys E, l ∈ keys F
  cl : ∀ l ∈ keys F, l ∉ keys E → ∀ x ∈ b.ready l, wl l x ∈ keys F
theorem Fnd.start : Fnd b [([], 1)] [([], 1)] :=
  ⟨by simp, fun l hl => by simp at hl; subst hl; exact ⟨List.Pairwise.nil, .nil⟩, ⟨[], rfl⟩, fun l h => h, fun l hl h => absurd hl h⟩
theorem Fnd.len (g : b.Good) {F E : PS} (h : Fnd b F E) : F.length ≤ 4096 := by
  have := known_length g h.nd h.ok
  rwa [keys_len] at this
theorem Fnd.put (g : b.Good) {F E E' : PS} {k : Nat} (h : Fnd b F E) (hE' : Lay b k E') : (putAll F E').length ≤ 4096 := by
  have := known_length g (nodup_putAll (E := E') h.nd) fun l hl => (mem_putAll.mp hl).elim (h.ok l) fun q => (hE'.ok l q).1
  rwa [keys_len] at this
theorem Fnd.step (g : b.Good) {F E : PS} {k : Nat} (h : Fnd b F E) (hE : Lay b k E) : Fnd b (putAll F (b.later [] E)) (b.later [] E) where
  nd := nodup_putAll h.nd
  ok := fun l hl => (mem_putAll.mp hl).elim (h.ok l) fun q => ((Lay.nil.later g hE).ok l q).1
  hd := hd_putAll h.hd
  sub := fun l hl => mem_putAll.mpr (.inr hl)
  cl := fun l hl hn x hx => by
    rcases mem_putAll.mp hl with q | q
    · by_cases z : l ∈ keys E
      · exact mem_putAll.mpr (.inr (mem_later.mpr (.inr ⟨l, z, x, hx, rfl⟩)))
      · exact mem_putAll.mpr (.inl (h.cl l q z x hx))
    · exact absurd q hn
theorem Fnd.all (g : b.Good) {F : PS} (h : Fnd b F []) : srtL (keys F) = b.alls := by
  obtain ⟨r, e⟩ := h.hd
  exact alls_of g h.nd (by rw [e]; simp) (fun l hl x hx => h.cl l hl (by simp) x hx) h.ok
end Bd
end L2.Z
namespace L2.Z
open PySem
namespace Bd
variable {p b : Bd} {v : Nat → Nat} {l m : List Nat} {x y i j : Nat}
theorem EmbM.rest (E : EmbM p b v l) (hl : l ∈ b.alls) : p.last.map v = b.last.filter fun x => !decide (x ∈ l) := by
  have ap := ((mem_alls E.gp).mp (last_alls E.gp)).1
  have ab := ((mem_alls E.gb).mp (last_alls E.gb)).1
  have pl := (last_ok E.gp).1.lt
  refine asc_eq (E.map_asc ap pl) (List.Pairwise.filter _ ab) fun x => ?_
  rw [List.mem_map, List.mem_filter, Bool.not_eq_true', decide_eq_false_iff_not]
  constructor
  · rintro ⟨i, hi, rfl⟩
    exact ⟨(E.last_iff hl (pl i hi)).mpr hi, (E.lt (pl i hi)).2⟩
  · rintro ⟨h1, h2⟩
    obtain ⟨i, hi, rfl⟩ := E.sur x ((last_ok E.gb).1.lt x h1) h2
    exact ⟨i, (E.last_iff hl hi).mp h1, rfl⟩
theorem EmbM.nums (E : EmbM p b v l) (hi : i < p.hi + p.wi) : p.nums [] i = b.nums l (v i) := by
  have r := E.rowsL (m := []) (by simp)
  have c := E.colsL (m := []) (by simp)
  have e0 : ∀ x, x ∈ up v l [] ↔ x ∈ l := fun x => by rw [mem_up]; simp
  rw [show b.rowsL (up v l []) = b.rowsL l from List.filter_congr fun x _ => by rw [decide_eq_decide.mpr (e0 x)]] at r
  rw [show b.colsL (up v l []) = b.colsL l from List.filter_congr fun x _ => by rw [decide_eq_decide.mpr (e0 x)]] at c
  have s := E.side hi
  unfold Bd.nums Bd.cross
  by_cases h : i < p.hi
  · rw [if_pos h, if_pos (s.mp h), ← c, List.map_map]
    refine List.map_congr_left fun y hy => ?_
    have := (mem_colsL.mp hy).1
    exact E.num i y (by omega)
  · rw [if_neg h, if_neg (fun z => h (s.mpr z)), ← r, List.map_map]
    refine List.map_congr_left fun y hy => ?_
    have := (mem_rowsL.mp hy).1
    exact E.num i y (by omega)
theorem EmbM.sides (E : EmbM p b v l) (hl : l ∈ b.alls) : (p.rowsL p.last).length = (b.rowsL b.last).length ∧ (p.colsL p.last).length = (b.colsL b.last).length := by
  have pl := (last_ok E.gp).1.lt
  have r := congrArg List.length (E.rowsL pl)
  have c := congrArg List.length (E.colsL pl)
  rw [E.up_last hl, List.length_map] at r c
  exact ⟨r, c⟩
end Bd
end L2.Z
namespace L2.Z
open PySem
namespace Bd
variable {b d : Bd} {l : List Nat} {π : Nat → Nat}
structure Proj (b d : Bd) (π : Nat → Nat) : Prop where
  lt : ∀ p, p < d.hi + d.wi → π p < b.hi + b.wi ∧ (p < d.hi ↔ π p < b.hi)
  up : ∀ p, p < d.hi + d.wi → ∀ y, y < b.hi + b.wi → (π p < b.hi ↔ y < b.hi) → ∃ q, q < d.hi + d.wi ∧ (p < d.hi ↔ q < d.hi) ∧
    ∀ c, c < d.hi + d.wi → (p < d.hi ↔ ¬ c < d.hi) → b.num (π p) (π c) < b.num y (π c) → d.num p c < d.num q c
theorem Proj.last (g' : d.Good) (P : Proj b d π) (c : Comes b l) : ∀ p, p < d.hi + d.wi → π p ∈ l → p ∈ d.last := by
  obtain ⟨k1, k2, k3⟩ := last_ok g'
  induction c with
  | nil => intro p _ h; simp at h
  | @step l m x c hx hxl hc hm ih =>
    intro p hp h
    rcases (hm _).mp h with h | h
    · exact ih p hp h
    · refine Classical.byContradiction fun hn => ?_
      obtain ⟨y, h1, h2, h3, h4⟩ := canF_iff.mp hc
      obtain ⟨i1, i2⟩ := isG_iff.mp h4
      subst h
      obtain ⟨q, q1, q2, q3⟩ := P.up p hp y h1 i1
      have hg : d.isG d.last p q = true := by
        refine isG_iff.mpr ⟨q2, fun c hcr => ?_⟩
        obtain ⟨c1, c2⟩ := mem_cross.mp hcr
        have hcn : c < d.hi + d.wi := by omega
        obtain ⟨e1, e2⟩ := P.lt c hcn
        obtain ⟨f1, f2⟩ := P.lt p hp
        have hcl : π c ∉ l := fun z => c1 (ih c hcn z)
        refine q3 c hcn (by omega) (i2 (π c) (mem_cross.mpr ⟨hcl, ?_⟩))
        rcases c2 with c2 | c2
        · exact .inl ⟨f2.mp c2.1, by omega, e1⟩
        · exact .inr ⟨by omega, e2.mp c2.2⟩
      have key : ∃ z, z < d.hi + d.wi ∧ z ∉ d.last ∧ d.isG d.last p z = true := by
        by_cases hq : q ∈ d.last
        · obtain ⟨z, z1, z2, z3⟩ := k1.over q hq
          exact ⟨z, z1, z2, isG_trans hg z3⟩
        · exact ⟨q, q1, hq, hg⟩
      obtain ⟨z, z1, z2, z3⟩ := key
      have : d.canF d.last p = true := canF_iff.mpr ⟨z, z1, z2, (fun e => by subst e; rw [k1.irr g'] at z3; cases z3), z3⟩
      rw [k2 p hp hn] at this; cases this
section
variable (g : b.Good) (g' : d.Good)
include g g'
omit g g' in
theorem md (a n j : Nat) (h : j < n) : (a * n + j) / n = a ∧ (a * n + j) % n = j := by
  have hn : 0 < n := by omega
  constructor
  · rw [Nat.mul_comm, Nat.mul_add_div hn, Nat.div_eq_of_lt h]; rfl
  · rw [Nat.mul_comm, Nat.mul_add_mod, Nat.mod_eq_of_lt h]
end
end Bd
end L2.Z
namespace L2.Z
open PySem
namespace Bd
variable {b : Bd} {m : List (Int × Int)}
end Bd
end L2.Z
namespace L2.Z
open PySem
namespace Bd
variable {b q : Bd} {m : List (Int × Int)} {π : Nat → Nat} {l k : List Nat} {i j x : Nat}
theorem old_num (g : b.Good) {y k : Nat} (hy : y < b.hi) : b.num y (b.hi + k) = ((b[y]?.getD [])[k]?.getD (0, 0)).1 := by
  unfold num
  rw [if_pos hy, Nat.add_sub_cancel_left]
theorem old_num2 {y k : Nat} : b.num (b.hi + k) y = ((b[y]?.getD [])[k]?.getD (0, 0)).2 := by
  unfold num
  rw [if_neg (by omega), Nat.add_sub_cancel_left]
structure Prj (q b : Bd) (π : Nat → Nat) : Prop where
  gq : q.Good
  gb : b.Good
  lt : ∀ i, i < q.hi + q.wi → π i < b.hi + b.wi ∧ (i < q.hi ↔ π i < b.hi)
  sur : ∀ x, x < b.hi + b.wi → ∃ i, i < q.hi + q.wi ∧ π i = x
  num : ∀ i j, i < q.hi + q.wi → j < q.hi + q.wi → (i < q.hi ↔ ¬ j < q.hi) → q.num i j = b.num (π i) (π j)
def pre (q : Bd) (π : Nat → Nat) (k : List Nat) : List Nat := q.lns.filter fun i => decide (π i ∈ k)
theorem mem_pre : i ∈ pre q π k ↔ i < q.hi + q.wi ∧ π i ∈ k := by
  unfold pre
  rw [List.mem_filter, mem_lns, decide_eq_true_eq]
theorem pre_asc : Asc (pre q π k) := List.Pairwise.filter _ List.pairwise_lt_range
theorem Prj.isG (P : Prj q b π) (hi : i < q.hi + q.wi) (hj : j < q.hi + q.wi) : q.isG (pre q π k) i j = b.isG k (π i) (π j) := by
  have a1 := P.lt i hi
  have a2 := P.lt j hj
  rw [Bool.eq_iff_iff, isG_iff, isG_iff]
  constructor
  · rintro ⟨h1, h2⟩
    refine ⟨by omega, fun c hc => ?_⟩
    rw [mem_cross] at hc
    obtain ⟨c', hc', rfl⟩ := P.sur c (by omega)
    have a3 := P.lt c' hc'
    have := h2 c' (by rw [mem_cross, mem_pre]; exact ⟨fun z => hc.1 z.2, by omega⟩)
    rwa [P.num i c' hi hc' (by omega), P.num j c' hj hc' (by omega)] at this
  · rintro ⟨h1, h2⟩
    refine ⟨by omega, fun c hc => ?_⟩
    rw [mem_cross, mem_pre] at hc
    have hc' : c < q.hi + q.wi := by omega
    have a3 := P.lt c hc'
    rw [P.num i c hi hc' (by omega), P.num j c hj hc' (by omega)]
    exact h2 (π c) (by rw [mem_cross]; exact ⟨fun z => hc.1 ⟨hc', z⟩, by omega⟩)
theorem Prj.canF (P : Prj q b π) (c : Comes b k) (hi : i < q.hi + q.wi) : q.canF (pre q π k) i = b.canF k (π i) := by
  rw [Bool.eq_iff_iff, canF_iff, canF_iff]
  constructor
  · rintro ⟨j, h1, h2, h3, h4⟩
    rw [P.isG hi h1] at h4
    refine ⟨π j, (P.lt j h1).1, fun z => h2 (mem_pre.mpr ⟨h1, z⟩), fun e => ?_, h4⟩
    rw [e, c.irr P.gb] at h4; cases h4
  · rintro ⟨y, h1, h2, h3, h4⟩
    obtain ⟨j, hj, rfl⟩ := P.sur y h1
    exact ⟨j, hj, fun z => h2 (mem_pre.mp z).2, fun e => h3 (by rw [e]), by rw [P.isG hi hj]; exact h4⟩
theorem Prj.comes (P : Prj q b π) (c : Comes b k) : Comes q (pre q π k) := by
  induction c with
  | nil => exact Comes.nil.congr fun x => by rw [mem_pre]; simp
  | @step k m x c hx hxk hc hm ih =>
    refine (ih.more P.gq (q.lns.filter fun i => decide (π i = x)) fun i hi => ?_).congr fun i => ?_
    · obtain ⟨h1, h2⟩ := List.mem_filter.mp hi
      have h1 := mem_lns.mp h1
      have h2 := of_decide_eq_true h2
      subst h2
      exact ⟨h1, by rw [P.canF c h1]; exact hc⟩
    · rw [List.mem_append, mem_pre, mem_pre, List.mem_filter, mem_lns, decide_eq_true_eq, hm]
      constructor
      · rintro ⟨h1, h2 | h2⟩
        · exact .inl ⟨h1, h2⟩
        · exact .inr ⟨h1, h2⟩
      · rintro (⟨h1, h2⟩ | ⟨h1, h2⟩)
        · exact ⟨h1, .inl h2⟩
        · exact ⟨h1, .inr h2⟩
theorem Prj.last (P : Prj q b π) : pre q π b.last = q.last := by
  obtain ⟨c, cl, _⟩ := last_ok P.gb
  refine closed_last P.gq pre_asc (P.comes c) fun i hi hn => ?_
  rw [P.canF c hi]
  exact cl (π i) (P.lt i hi).1 fun z => hn (mem_pre.mpr ⟨hi, z⟩)
theorem Prj.last_iff (P : Prj q b π) (hi : i < q.hi + q.wi) : i ∈ q.last ↔ π i ∈ b.last := by
  rw [← P.last, mem_pre]
  exact ⟨fun z => z.2, fun z => ⟨hi, z⟩⟩
end Bd
end L2.Z
namespace L2.Z
open PySem
def rk (vs : List Int) (x : Int) : Nat := (srtI (vs.filter fun y => decide (y < x))).length
namespace Bd
def cel (b : Bd) (i j : Nat) : Int × Int := (b[i]?.getD [])[j]?.getD (0, 0)
def mk (n m : Nat) (f : Nat → Nat → Int × Int) : Bd := (List.range n).map fun i => (List.range m).map fun j => f i j
section
variable {n m : Nat} {f : Nat → Nat → Int × Int} {b b' q : Bd} {i j x y : Nat} {l : List Nat}
theorem num_c1 (g : b.Good) (h : y < b.hi) (k : Nat) : b.num y (b.hi + k) = (b.cel y k).1 := old_num g h
theorem num_c2 (k : Nat) : b.num (b.hi + k) y = (b.cel y k).2 := old_num2
structure Ord (b b' : Bd) : Prop where
  g : b.Good
  g' : b'.Good
  h : b'.hi = b.hi
  w : b'.wi = b.wi
  o1 : ∀ i i' j, i < b.hi → i' < b.hi → j < b.wi → ((b.cel i j).1 < (b.cel i' j).1 ↔ (b'.cel i j).1 < (b'.cel i' j).1)
  o2 : ∀ i j j', i < b.hi → j < b.wi → j' < b.wi → ((b.cel i j).2 < (b.cel i j').2 ↔ (b'.cel i j).2 < (b'.cel i j').2)
theorem Ord.cross (O : Ord b b') : b'.cross l x = b.cross l x := by
  unfold Bd.cross Bd.colsL Bd.rowsL
  rw [O.h, O.w]
theorem Ord.isG (O : Ord b b') (hx : x < b.hi + b.wi) (hy : y < b.hi + b.wi) : b'.isG l x y = b.isG l x y := by
  rw [Bool.eq_iff_iff, isG_iff, isG_iff, O.cross, O.h]
  refine and_congr_right fun hs => forall_congr' fun c => ?_
  have key : c ∈ b.cross l x → (b'.num x c < b'.num y c ↔ b.num x c < b.num y c) := fun hc => by
    rw [mem_cross] at hc
    by_cases z : x < b.hi
    · obtain ⟨k, rfl⟩ : ∃ k, c = b.hi + k := ⟨c - b.hi, by omega⟩
      have e1 := num_c1 O.g' (y := x) (by rw [O.h]; exact z) k
      have e2 := num_c1 O.g' (y := y) (by rw [O.h]; omega) k
      rw [O.h] at e1 e2
      have o := O.o1 x y k z (by omega) (by omega)
      rw [e1, e2, num_c1 O.g z, num_c1 O.g (by omega)]
      exact o.symm
    · obtain ⟨k, rfl⟩ : ∃ k, x = b.hi + k := ⟨x - b.hi, by omega⟩
      obtain ⟨k', rfl⟩ : ∃ k', y = b.hi + k' := ⟨y - b.hi, by omega⟩
      have e1 := num_c2 (b := b') (y := c) k
      have e2 := num_c2 (b := b') (y := c) k'
      rw [O.h] at e1 e2
      have o := O.o2 c k k' (by omega) (by omega) (by omega)
      rw [e1, e2, num_c2, num_c2]
      exact o.symm
  exact ⟨fun h hc => (key hc).mp (h hc), fun h hc => (key hc).mpr (h hc)⟩
theorem Ord.lns (O : Ord b b') : b'.lns = b.lns := by unfold Bd.lns; rw [O.h, O.w]
theorem Ord.canF (O : Ord b b') (hx : x < b.hi + b.wi) : b'.canF l x = b.canF l x := by
  rw [Bool.eq_iff_iff, canF_iff, canF_iff, O.h, O.w]
  constructor
  · rintro ⟨y, h1, h2, h3, h4⟩; exact ⟨y, h1, h2, h3, by rw [← O.isG hx h1]; exact h4⟩
  · rintro ⟨y, h1, h2, h3, h4⟩; exact ⟨y, h1, h2, h3, by rw [O.isG hx h1]; exact h4⟩
theorem Ord.ready (O : Ord b b') : b'.ready l = b.ready l := by
  unfold Bd.ready
  rw [O.lns]
  exact List.filter_congr fun x hx => by rw [O.canF (mem_lns.mp hx)]
theorem Ord.comes (O : Ord b b') (c : Comes b l) : Comes b' l := by
  induction c with
  | nil => exact .nil
  | @step l m x c hx hxl hc hm ih => exact .step ih (by rw [O.h, O.w]; exact hx) hxl (by rw [O.canF hx]; exact hc) hm
theorem Ord.symm (O : Ord b b') : Ord b' b where
  g := O.g'
  g' := O.g
  h := O.h.symm
  w := O.w.symm
  o1 := fun i i' j h1 h2 h3 => (O.o1 i i' j (by rw [← O.h]; exact h1) (by rw [← O.h]; exact h2) (by rw [← O.w]; exact h3)).symm
  o2 := fun i j j' h1 h2 h3 => (O.o2 i j j' (by rw [← O.h]; exact h1) (by rw [← O.w]; exact h2) (by rw [← O.w]; exact h3)).symm
theorem Ord.alls (O : Ord b b') : b'.alls = b.alls := pw_uniq ltL_asymm alls_pw alls_pw fun k => by
  rw [mem_alls O.g, mem_alls O.g']
  exact ⟨fun h => ⟨h.1, O.symm.comes h.2⟩, fun h => ⟨h.1, O.comes h.2⟩⟩
theorem Ord.rnds (O : Ord b b') : ∀ (k : Nat) (l : List Nat), b'.rnds k l = b.rnds k l
  | 0, _ => rfl
  | k + 1, l => by
    have ih := Ord.rnds O k
    simp only [Bd.rnds]
    rw [O.ready]
    cases b.ready l with
    | nil => rfl
    | cons x s => simp only [ih]
theorem Ord.rounds (O : Ord b b') : b'.rounds = b.rounds := O.rnds 12 []
structure Perm (n : Nat) (p : List Nat) : Prop where
  nd : p.Nodup
  lt : ∀ x ∈ p, x < n
  len : p.length = n
theorem Perm.sur {n : Nat} {p : List Nat} (P : Perm n p) (hx : x < n) : x ∈ p := by
  refine Classical.byContradiction fun h => ?_
  have := List.Nodup.length_le_of_subset (List.nodup_cons.mpr ⟨h, P.nd⟩) (l₂ := List.range n) fun y hy => by
    rcases List.mem_cons.mp hy with rfl | hy
    · exact List.mem_range.mpr hx
    · exact List.mem_range.mpr (P.lt y hy)
  simp [P.len] at this
  omega
end
end Bd
end L2.Z
namespace L2.Z
open PySem
namespace Bd
variable {b : Bd} {i j : Nat}
end Bd
end L2.Z
namespace L2.Z
open PySem L2.Z.Q
section
variable {b : Bd} (g : b.Good)
include g
end
end L2.Z
namespace L2.Z
open PySem L2.Z.Q
section
variable {b : Bd} (g : b.Good)
include g
end
end L2.Z
namespace L2.Z
open PySem L2.Z.Q
structure Ln (n : Nat) (l : List Nat) : Prop where
  nd : l.Nodup
  lt : ∀ x ∈ l, x < n
theorem Ln.len {n : Nat} {l : List Nat} (h : Ln n l) : l.length ≤ n := Bd.nodup_bound h.nd h.lt
theorem Ln.nil (n : Nat) : Ln n [] := ⟨List.nodup_nil, fun _ h => by simp at h⟩
theorem Ln.wl {n x : Nat} {l : List Nat} (h : Ln n l) (hx : x < n ∧ x ∉ l) : Ln n (Bd.wl l x) :=
  ⟨(srt_perm _).nodup_iff.mpr (List.nodup_append.mpr ⟨h.nd, by simp, fun a ha c hc e => by simp at hc; subst hc; exact hx.2 (e ▸ ha)⟩), fun y hy => by
    rcases Bd.mem_wl.mp hy with h1 | rfl
    · exact h.lt y h1
    · exact hx.1⟩
section
variable {rd rd' : List Nat → List Nat} {n : Nat}
end
structure Fam (h w : Nat) (bs : List Bd) : Prop where
  ne : 0 < bs.length
  le : bs.length ≤ 4
  sz : ∀ d ∈ bs, d.Good ∧ d.hi = h ∧ d.wi = w
section
variable {h w : Nat} {bs : List Bd} (F : Fam h w bs)
include F
theorem Fam.first : ∃ d, atI bs (0 : Int) = some d ∧ d ∈ bs ∧ d.Good ∧ d.hi = h ∧ d.wi = w := by
  have := F.ne
  exact ⟨bs[0], atI_get (i := 0) F.ne, List.getElem_mem _, F.sz _ (List.getElem_mem _)⟩
theorem Fam.lns : ∃ d, atI bs (0 : Int) = some d ∧ q_lines_of d = some (List.range (h + w)) ∧ d ∈ bs := by
  obtain ⟨d, h1, h2, g, h3, h4⟩ := F.first
  refine ⟨d, h1, ?_, h2⟩
  rw [s_lines_of g, Bd.lns, h3, h4]
end
end L2.Z
namespace L2.Z
open PySem L2.Z.Q
section
variable {b : Bd} {bs cs : List Bd} {l : List Nat} {n : Nat}
def still (b : Bd) : Bd := b.map fun r => r.map fun p => (p.1, (0 : Int))
end
end L2.Z
namespace L2.Z
open PySem
namespace Bd
def cell (b : Bd) (r c : Nat) : Int × Int := (b[r]?.getD [])[c]?.getD (0, 0)
variable {b : Bd}
def dom (q p : Int × Int) : Bool := decide (q ≠ p) && (decide (p.1 ≤ q.1) && decide (p.2 ≤ q.2))
def fl (b : Bd) : List (Nat × Nat × (Int × Int)) := (List.range b.hi).flatMap fun r => (List.range b.wi).map fun c => (r, c, b.cell r c)
def good (b : Bd) (p : Int × Int) : Bool := !(b.fl.any fun y => dom y.2.2 p)
def par (b : Bd) : List (Nat × Nat) := (List.range b.hi).flatMap fun r => ((List.range b.wi).filter fun c => b.good (b.cell r c)).map fun c => (r, c)
end Bd
end L2.Z
namespace L2.Z.Bd
open PySem
variable {b : Bd}
end L2.Z.Bd
namespace L2.Z
open PySem L2.Z.Q
section
variable {b : Bd} {l : List Nat} (g : b.Good)
include g
theorem s__law_rows (l : List Nat) : q__law_rows b l = some (b.rowsL l) := by
  have := g.h6
  unfold q__law_rows
  exact bi (rg1_nat (n := b.hi) (by omega)) rfl
theorem s__law_columns (l : List Nat) : q__law_columns b l = some (b.colsL l) := by
  have := g.h6
  have := g.w6
  obtain ⟨r, h1, h2⟩ := s_at0 g
  unfold q__law_columns
  have e : rg2 (List.length b) (List.length b + r.length) = some (List.range' b.hi b.wi) := by
    have := rg2_nat (a := b.hi) (n := b.hi + b.wi) (by omega) (by omega)
    rw [h2]
    rw [show b.hi + b.wi - b.hi = b.wi by omega] at this
    exact this
  exact bi h1 (bi e rfl)
theorem s__law_numbers {x : Nat} (hx : x < b.hi + b.wi) : q__law_numbers b l x = some (b.nums l x) := by
  unfold q__law_numbers
  by_cases z : x < b.hi
  · obtain ⟨r, h1, h2, h3⟩ := s_row g z
    refine ifi (decide_eq_true z) (bi (s__law_columns g l) (bi (lcM_all (fun y => b.num x y) fun y hy => ?_) ?_))
    · have hy := Bd.mem_colsL.mp hy
      have hlt : y - b.hi < r.length := by omega
      refine bi h1 (bi (x := r[y - b.hi]) (atI_sub (i := y) (j := b.hi) hy.1.1 (List.getElem?_eq_getElem hlt)) ?_)
      unfold Bd.num
      rw [if_pos z, h2]
      simp [hlt]
    · unfold Bd.nums Bd.cross; rw [if_pos z]
  · refine ifo (decide_eq_false z) (bi (s__law_rows g l) (bi (lcM_all (fun y => b.num x y) fun y hy => ?_) ?_))
    · have hy := Bd.mem_rowsL.mp hy
      obtain ⟨r, h1, h2, h3⟩ := s_row g hy.1
      have hlt : x - b.hi < r.length := by omega
      refine bi h1 (bi (x := r[x - b.hi]) (atI_sub (i := x) (j := b.hi) (by omega) (List.getElem?_eq_getElem hlt)) ?_)
      unfold Bd.num
      rw [if_neg z, h2]
      simp [hlt]
    · unfold Bd.nums Bd.cross; rw [if_neg z]
end
end L2.Z
namespace L2.Z
open PySem L2.Z.Q
section
variable {b : Bd} {l : List Nat} (g : b.Good)
include g
end
end L2.Z
namespace L2.Z
open PySem L2.Z.Q
theorem mergeD_nodup {κ β : Type} [DecidableEq κ] (f : κ → β) : ∀ (ks : List κ), ks.Nodup → mergeD (ks.map fun k => (k, f k)) = ks.map fun k => (k, f k) := by
  have put : ∀ (acc : List (κ × β)) (k : κ) (b : β), (∀ p ∈ acc, p.1 ≠ k) → aPut acc k b = acc ++ [(k, b)] := fun acc k b h => by
    unfold aPut
    rw [if_neg]
    rw [List.any_eq_true]
    rintro ⟨p, hp, e⟩
    exact h p hp (of_decide_eq_true e)
  have key : ∀ (ks : List κ) (acc : List (κ × β)), (∀ p ∈ acc, p.1 ∉ ks) → ks.Nodup → (ks.map fun k => (k, f k)).foldl (fun a p => aPut a p.1 p.2) acc = acc ++ ks.map fun k => (k, f k) := fun ks => by
    induction ks with
    | nil => intro acc _ _; simp
    | cons k ks ih =>
      intro acc h nd
      have nd := List.nodup_cons.mp nd
      rw [List.map_cons, List.foldl_cons, put acc k (f k) (fun p hp e => h p hp (by rw [e]; simp)), ih _ (fun p hp => ?_) nd.2]
      · simp
      · rcases List.mem_append.mp hp with hp | hp
        · exact fun z => h p hp (by simp [z])
        · simp at hp; subst hp; exact nd.1
  intro ks nd
  have := key ks [] (by simp) nd
  simpa [mergeD] using this
theorem aGet_map {κ β : Type} [DecidableEq κ] (f : κ → β) {ks : List κ} {k : κ} (h : k ∈ ks) : aGet (ks.map fun k => (k, f k)) k = some (f k) := by
  unfold aGet
  induction ks with
  | nil => simp at h
  | cons c ks ih =>
    rw [List.map_cons, List.find?_cons]
    by_cases z : c = k
    · subst z; simp
    · simp only [z, decide_false]
      rcases List.mem_cons.mp h with e | h
      · exact absurd e.symm z
      · exact ih h
theorem oSortKN_of {β : Type} {ps : List (Nat × β)} (h : ps ≠ []) (hs : (ps.map Prod.fst).Pairwise (· ≤ ·)) : oSortKN ps = some (ps.map Prod.fst) := by
  unfold oSortKN
  rw [if_neg h, srt_id hs]
section
variable {b : Bd} (g : b.Good)
include g
theorem s_answers_of {l : List Nat} {x : Nat} (hx : x < b.hi + b.wi) (hn : b.cross l x ≠ []) : q_answers_of b l x = some (b.ans l x) := by
  unfold q_answers_of
  refine bi (s_left_of g l) ?_
  have hd : ∃ kv : List (Nat × Int), kv = (b.cross l x).map fun c => (c, b.num c x) := ⟨_, rfl⟩
  obtain ⟨kv, hkv⟩ := hd
  have e0 : (if decide (x < b.length) then (lcM (b.colsL l) (fun (y10 : Nat) => some true) (fun (y10 : Nat) => (atI b (x : Int)).bind fun (x11 : (List (Int × Int))) => (atI x11 ((y10 : Int) - (b.length : Int))).bind fun (x12 : (Int × Int)) => some (y10, x12.2))).bind fun (x13 : (List (Nat × Int))) => some (mergeD x13) else (lcM (b.rowsL l) (fun (y14 : Nat) => some true) (fun (y14 : Nat) => (atI b (y14 : Int)).bind fun (x15 : (List (Int × Int))) => (atI x15 ((x : Int) - (b.length : Int))).bind fun (x16 : (Int × Int)) => some (y14, x16.1))).bind fun (x17 : (List (Nat × Int))) => some (mergeD x17)) = some kv := by
    have md := mergeD_nodup (fun c => b.num c x) (b.cross l x) Bd.cross_nodup
    by_cases h : x < b.hi
    · have hc : b.cross l x = b.colsL l := by unfold Bd.cross; rw [if_pos h]
      refine ifi (decide_eq_true h) (bi (lcM_all (fun c => (c, b.num c x)) fun c hc => ?_) (by rw [← hc, md, hkv]))
      obtain ⟨⟨h1, h2⟩, _⟩ := Bd.mem_colsL.mp hc
      obtain ⟨r, p, q1, q2, q3⟩ := Bd.num_col g h (y := c - b.hi) (by omega)
      rw [show c - b.hi + b.hi = c by omega] at q3
      have e2 : atI r ((c : Int) - (List.length b : Int)) = some p := atI_sub (j := b.hi) h1 q2
      exact bi (atI_eq q1) (bi e2 (by rw [q3]))
    · have hc : b.cross l x = b.rowsL l := by unfold Bd.cross; rw [if_neg h]
      refine ifo (decide_eq_false h) (bi (lcM_all (fun c => (c, b.num c x)) fun c hc => ?_) (by rw [← hc, md, hkv]))
      obtain ⟨h1, _⟩ := Bd.mem_rowsL.mp hc
      obtain ⟨r, p, q1, q2, q3⟩ := Bd.num_row g h1 (y := x - b.hi) (by omega)
      rw [show x - b.hi + b.hi = x by omega] at q3
      have e2 : atI r ((x : Int) - (List.length b : Int)) = some p := atI_sub (j := b.hi) (by omega) q2
      exact bi (atI_eq q1) (bi e2 (by rw [q3]))
  refine bi e0 ?_
  have hf : kv.map Prod.fst = b.cross l x := by rw [hkv, List.map_map]; exact List.map_id' _
  have hne : kv ≠ [] := fun e => hn (by rw [← hf, e]; rfl)
  obtain ⟨M, e1, hM, hT⟩ := oMax_some (l := kv.map Prod.snd) (by simpa using hne)
  refine bi e1 (bi (oSortKN_of hne (by rw [hf]; exact Bd.cross_le)) ?_)
  rw [hf]
  refine bi (lcM_sel (fun c => decide (b.num c x = M)) fun c hc => bi (by rw [hkv]; exact aGet_map (fun c => b.num c x) hc) rfl) ?_
  congr 1
  unfold Bd.ans
  refine List.filter_congr fun c hc => ?_
  rw [hkv, List.map_map] at hM hT
  obtain ⟨c0, hc0, e2⟩ := List.mem_map.mp hM
  simp only [Function.comp] at e2
  have hall : ∀ d ∈ b.cross l x, b.num d x ≤ M := fun d hd => hT _ (List.mem_map.mpr ⟨d, hd, rfl⟩)
  rw [Bool.eq_iff_iff, decide_eq_true_eq, List.all_eq_true]
  constructor
  · intro e d hd; rw [decide_eq_true_eq, e]; exact hall d hd
  · intro h
    have h1 := of_decide_eq_true (h c0 hc0)
    have h2 := hall c hc
    omega
omit g in
theorem loop_fm {α β : Type} {xs : List α} {f : α → List β → Option (List β)} (F : α → List β) (k B : Nat) (hF : ∀ x ∈ xs, (F x).length ≤ k) (a0 : List β) (hB : a0.length + xs.length * k ≤ B) (hf : ∀ x ∈ xs, ∀ s : List β, s.length + k ≤ B → f x s = some (s ++ F x)) : loopM xs f a0 = some (a0 ++ xs.flatMap F) := by
  have len : ∀ ys : List α, (∀ x ∈ ys, x ∈ xs) → (ys.flatMap F).length ≤ ys.length * k := fun ys => by
    induction ys with
    | nil => intro _; simp
    | cons y ys ih =>
      intro h
      have h1 := hF y (h y (by simp))
      have h2 := ih fun x hx => h x (by simp [hx])
      rw [List.flatMap_cons, List.length_append, List.length_cons, Nat.add_mul]
      omega
  have := loopM_eq (xs := xs) (f := f) (fun ys => a0 ++ ys.flatMap F) (fun ys x zs e => by
    have hx : x ∈ xs := by rw [e]; simp
    have h1 := len ys fun y hy => by rw [e]; simp [hy]
    have h2 : (ys.length + 1) * k ≤ xs.length * k := Nat.mul_le_mul_right k (by rw [e]; simp)
    rw [Nat.add_mul] at h2
    rw [hf x hx _ (by rw [List.length_append]; omega)]
    simp [List.append_assoc])
  simpa using this
omit g in
theorem rows6 {l : List Nat} : (b.rowsL l).length ≤ b.hi := by
  unfold Bd.rowsL
  exact Nat.le_trans (List.length_filter_le _ _) (by simp)
omit g in
theorem cols6 {l : List Nat} : (b.colsL l).length ≤ b.wi := by
  unfold Bd.colsL
  exact Nat.le_trans (List.length_filter_le _ _) (by simp)
theorem s_bests_of {l : List Nat} (hn : ∀ x, b.cross l x ≠ []) : q_bests_of b l = some (b.bes l) := by
  have h6 := g.h6
  have w6 := g.w6
  have rl : (b.rowsL l).length ≤ 6 := Nat.le_trans rows6 h6
  have cl : (b.colsL l).length ≤ 6 := Nat.le_trans cols6 w6
  unfold q_bests_of
  refine bi (s_left_of g l) (bi (x := b.bes l) ?_ rfl)
  have lp := loop_fm (xs := b.rowsL l) (f := fun (y19 : Nat) (s18 : (List (Nat × Nat))) => (loopM (b.colsL l) (fun (y30 : Nat) (s29 : (List (Nat × Nat))) => (q_answers_of b l y30).bind fun (x33 : (List Nat)) => (if (decide (y19 ∈ x33)) then (q_answers_of b l y19).bind fun (x34 : (List Nat)) => some (decide (y30 ∈ x34)) else some false).bind fun (x35 : Bool) => (if x35 then (catL s29 [(y19, y30)]).bind fun (x37 : (List (Nat × Nat))) => some x37 else some s29).bind fun (z38 : (List (Nat × Nat))) => some z38) s18).bind fun (z31 : (List (Nat × Nat))) => some z31)
    (fun x => ((b.colsL l).filter fun y => decide (x ∈ b.ans l y) && decide (y ∈ b.ans l x)).map fun y => (x, y)) 6 36 (fun x hx => by rw [List.length_map]; exact Nat.le_trans (List.length_filter_le _ _) cl) [] (by simp; omega) (fun x hx s hs => by
      have hx := (Bd.mem_rowsL.mp hx).1
      refine bi (x := s ++ ((b.colsL l).filter fun y => decide (x ∈ b.ans l y) && decide (y ∈ b.ans l x)).map fun y => (x, y)) ?_ rfl
      have lp := loop_fm (xs := b.colsL l) (f := fun (y30 : Nat) (s29 : (List (Nat × Nat))) => (q_answers_of b l y30).bind fun (x33 : (List Nat)) => (if (decide (x ∈ x33)) then (q_answers_of b l x).bind fun (x34 : (List Nat)) => some (decide (y30 ∈ x34)) else some false).bind fun (x35 : Bool) => (if x35 then (catL s29 [(x, y30)]).bind fun (x37 : (List (Nat × Nat))) => some x37 else some s29).bind fun (z38 : (List (Nat × Nat))) => some z38)
        (fun y => if decide (x ∈ b.ans l y) && decide (y ∈ b.ans l x) then [(x, y)] else []) 1 100 (fun y _ => by split <;> simp) s (by omega) (fun y hy s hs => by
          have hy := (Bd.mem_colsL.mp hy).1
          refine bi (s_answers_of g hy.2 (hn y)) ?_
          by_cases h1 : x ∈ b.ans l y
          · refine bi (x := decide (y ∈ b.ans l x)) (ifi (decide_eq_true h1) (bi (s_answers_of g (by omega) (hn x)) rfl)) ?_
            by_cases h2 : y ∈ b.ans l x
            · exact bi (ifi (decide_eq_true h2) (bi (catL_of (by simp; omega)) rfl)) (by simp [h1, h2])
            · exact bi (ifo (decide_eq_false h2) rfl) (by simp [h2])
          · exact bi (x := false) (ifo (decide_eq_false h1) rfl) (bi (ifo rfl rfl) (by simp [h1])))
      rw [lp]
      congr 2
      have : ∀ L : List Nat, (L.flatMap fun y => if decide (x ∈ b.ans l y) && decide (y ∈ b.ans l x) then [(x, y)] else []) = (L.filter fun y => decide (x ∈ b.ans l y) && decide (y ∈ b.ans l x)).map fun y => (x, y) := fun L => by
        induction L with
        | nil => rfl
        | cons y L ih =>
          rw [List.flatMap_cons, ih]
          by_cases h : (decide (x ∈ b.ans l y) && decide (y ∈ b.ans l x)) = true
          · rw [if_pos h, List.filter_cons, if_pos h]; rfl
          · rw [if_neg h, List.filter_cons, if_neg h]; rfl
      exact this _)
  exact lp
end
end L2.Z
namespace L2.Z
open PySem
def dn (l : List Int) : Bool := (l.zip (l.drop 1)).any fun p => decide (p.2 < p.1)
theorem dn_false {l : List Int} : dn l = false ↔ ∀ (i : Nat) (u v : Int), l[i]? = some u → l[i + 1]? = some v → u ≤ v := by
  unfold dn
  rw [List.any_eq_false]
  constructor
  · intro h i u v h1 h2
    have h3 : (l.zip (l.drop 1))[i]? = some (u, v) := by
      rw [List.getElem?_zip_eq_some]
      exact ⟨h1, by rw [List.getElem?_drop, Nat.add_comm]; exact h2⟩
    have := h _ (List.mem_of_getElem? h3)
    simpa using this
  · intro h p hp
    obtain ⟨i, h3⟩ := List.getElem?_of_mem hp
    rw [List.getElem?_zip_eq_some] at h3
    obtain ⟨h1, h2⟩ := h3
    rw [List.getElem?_drop, Nat.add_comm] at h2
    have := h i _ _ h1 h2
    simpa using this
namespace Bd
def stepR (p : List (Int × Int) × List (Int × Int)) : List Int := (p.1.zip p.2).map fun q => q.2.1 - q.1.1
def stepC (b : Bd) (a : Nat) : List Int := b.map fun r => (r[a + 1]?.getD (0, 0)).2 - (r[a]?.getD (0, 0)).2
def risR (b : Bd) : Bool := (b.zip (b.drop 1)).all fun p => !dn (stepR p)
def risC (b : Bd) : Bool := (List.range (b.wi - 1)).all fun a => !dn (b.stepC a)
def rises (b : Bd) : Bool := b.risR && b.risC
end Bd
end L2.Z
namespace L2.Z
open PySem
theorem first_least {l : List Nat} (hs : l.Pairwise (· < ·)) {a : Nat} (ha : a ∈ l) (h : ∀ x ∈ l, a ≤ x) : l[0]? = some a := by
  cases l with
  | nil => simp at ha
  | cons x xs =>
    rcases List.mem_cons.mp ha with rfl | q
    · rfl
    · have h1 := (List.pairwise_cons.mp hs).1 a q
      have h2 := h x (by simp)
      omega
theorem last_most {l : List Nat} (hs : l.Pairwise (· < ·)) {a : Nat} (ha : a ∈ l) (h : ∀ x ∈ l, x ≤ a) : l[l.length - 1]? = some a := by
  have e : l.reverse[0]? = some a := by
    have hs' : l.reverse.Pairwise (· > ·) := List.pairwise_reverse.mpr hs
    cases hr : l.reverse with
    | nil => rw [List.reverse_eq_nil_iff] at hr; subst hr; simp at ha
    | cons x xs =>
      rw [hr] at hs'
      have hm : ∀ y, y ∈ l ↔ y ∈ x :: xs := fun y => by rw [← hr]; exact List.mem_reverse.symm
      rcases List.mem_cons.mp ((hm a).mp ha) with rfl | q
      · rfl
      · have h1 := (List.pairwise_cons.mp hs').1 a q
        have h2 := h x ((hm x).mpr (by simp))
        omega
  have hl : 0 < l.length := List.length_pos_of_mem ha
  rw [List.getElem?_reverse (by omega)] at e
  rw [← e]; congr 1
section
variable (F : Nat → Nat → Int) (n : Nat)
def An (c : Nat) : List Nat := (List.range n).filter fun r => decide (F r c = top ((List.range n).map fun r => F r c))
def lo (c : Nat) : Nat := (An F n c).headD 0
def hg (c : Nat) : Nat := ((An F n c)[(An F n c).length - 1]?).getD 0
variable {F n} {c r : Nat}
theorem mem_An : r ∈ An F n c ↔ r < n ∧ ∀ q, q < n → F q c ≤ F r c := by
  unfold An
  rw [List.mem_filter, List.mem_range, decide_eq_true_eq]
  constructor
  · rintro ⟨h1, h2⟩
    have ne : (List.range n).map (fun r => F r c) ≠ [] := by
      intro z
      have := congrArg List.length z
      simp at this; omega
    exact ⟨h1, fun q hq => by rw [h2]; exact top_le ne _ (List.mem_map.mpr ⟨q, List.mem_range.mpr hq, rfl⟩)⟩
  · rintro ⟨h1, h2⟩
    refine ⟨h1, ?_⟩
    have ne : (List.range n).map (fun r => F r c) ≠ [] := by
      intro z
      have := congrArg List.length z
      simp at this; omega
    have hm := top_mem ne
    obtain ⟨q, hq, e⟩ := List.mem_map.mp hm
    have a1 := h2 q (List.mem_range.mp hq)
    have a2 := top_le ne (F r c) (List.mem_map.mpr ⟨r, List.mem_range.mpr h1, rfl⟩)
    omega
theorem An_sorted : (An F n c).Pairwise (· < ·) := List.Pairwise.filter _ List.pairwise_lt_range
theorem An_ne (h : 1 ≤ n) : An F n c ≠ [] := by
  have ne : (List.range n).map (fun r => F r c) ≠ [] := by
    intro z
    have := congrArg List.length z
    simp at this; omega
  obtain ⟨q, hq, e⟩ := List.mem_map.mp (top_mem ne)
  intro z
  have : q ∈ An F n c := by
    unfold An
    rw [List.mem_filter, decide_eq_true_eq]
    exact ⟨hq, e⟩
  rw [z] at this; simp at this
theorem lo_get (h : 1 ≤ n) : (An F n c)[0]? = some (lo F n c) := by
  unfold lo
  cases e : An F n c with
  | nil => exact absurd e (An_ne h)
  | cons x xs => rfl
theorem hg_get (h : 1 ≤ n) : (An F n c)[(An F n c).length - 1]? = some (hg F n c) := by
  unfold hg
  have : 0 < (An F n c).length := List.length_pos_iff.mpr (An_ne h)
  rw [List.getElem?_eq_getElem (by omega)]; rfl
theorem lo_mem (h : 1 ≤ n) : lo F n c ∈ An F n c := List.mem_of_getElem? (lo_get h)
theorem hg_mem (h : 1 ≤ n) : hg F n c ∈ An F n c := List.mem_of_getElem? (hg_get h)
theorem lo_le (h : r ∈ An F n c) : lo F n c ≤ r := by
  have hs : (An F n c).Pairwise (· < ·) := An_sorted
  unfold lo
  cases e : An F n c with
  | nil => rw [e] at h; simp at h
  | cons x xs =>
    rw [e] at h hs
    rcases List.mem_cons.mp h with rfl | q
    · exact Nat.le_refl _
    · exact Nat.le_of_lt ((List.pairwise_cons.mp hs).1 r q)
theorem le_hg (h : r ∈ An F n c) : r ≤ hg F n c := by
  obtain ⟨i, hi⟩ := List.getElem?_of_mem h
  have hl : i < (An F n c).length := (List.getElem?_eq_some_iff.mp hi).1
  have hn : 1 ≤ n := by have := (mem_An.mp h).1; omega
  have h2 := hg_get (F := F) (c := c) hn
  by_cases e : i = (An F n c).length - 1
  · rw [e, h2] at hi
    have := Option.some.inj hi
    omega
  · have hs : (An F n c).Pairwise (· < ·) := An_sorted
    rw [List.pairwise_iff_getElem] at hs
    have := hs i ((An F n c).length - 1) hl (by omega) (by omega)
    rw [List.getElem?_eq_getElem hl] at hi
    rw [List.getElem?_eq_getElem (by omega)] at h2
    have e1 := Option.some.inj hi
    have e2 := Option.some.inj h2
    omega
theorem lo_lt (h : 1 ≤ n) : lo F n c < n := (mem_An.mp (lo_mem h)).1
theorem hg_lt (h : 1 ≤ n) : hg F n c < n := (mem_An.mp (hg_mem h)).1
def IncF (F : Nat → Nat → Int) (n m : Nat) : Prop := ∀ r r' c c', r ≤ r' → r' < n → c ≤ c' → c' < m → F r' c - F r c ≤ F r' c' - F r c'
theorem lo_mono {m : Nat} (I : IncF F n m) (h : 1 ≤ n) {c c' : Nat} (hc : c ≤ c') (hm : c' < m) : lo F n c ≤ lo F n c' := by
  refine Nat.le_of_not_lt fun z => ?_
  have h1 := mem_An.mp (lo_mem (F := F) (c := c) h)
  have h2 := mem_An.mp (lo_mem (F := F) (c := c') h)
  have h3 := I _ _ c c' (Nat.le_of_lt z) h1.1 hc hm
  have h4 := h2.2 _ h1.1
  have h5 : lo F n c' ∈ An F n c := mem_An.mpr ⟨h2.1, fun q hq => by have := h1.2 q hq; omega⟩
  have := lo_le h5
  omega
theorem hg_mono {m : Nat} (I : IncF F n m) (h : 1 ≤ n) {c c' : Nat} (hc : c ≤ c') (hm : c' < m) : hg F n c ≤ hg F n c' := by
  refine Nat.le_of_not_lt fun z => ?_
  have h1 := mem_An.mp (hg_mem (F := F) (c := c) h)
  have h2 := mem_An.mp (hg_mem (F := F) (c := c') h)
  have h3 := I _ _ c c' (Nat.le_of_lt z) h1.1 hc hm
  have h4 := h1.2 _ h2.1
  have h5 : hg F n c ∈ An F n c' := mem_An.mpr ⟨h1.1, fun q hq => by have := h2.2 q hq; omega⟩
  have := le_hg h5
  omega
end
section
variable (F G : Nat → Nat → Int) (n m : Nat)
def lstep (p : Nat × Nat) : Nat × Nat := (lo F n p.2, lo G m p.1)
def hstep (p : Nat × Nat) : Nat × Nat := (hg F n p.2, hg G m p.1)
def le2 (p q : Nat × Nat) : Prop := p.1 ≤ q.1 ∧ p.2 ≤ q.2
def in2 (p : Nat × Nat) : Prop := p.1 < n ∧ p.2 < m
def lowP : Nat × Nat := orb (lstep F G n m) (0, 0) (n + m)
def topP : Nat × Nat := orb (hstep F G n m) (n - 1, m - 1) (n + m)
variable {F G n m} (hn : 1 ≤ n) (hm : 1 ≤ m) (I : IncF F n m) (J : IncF G m n)
include hn hm
theorem lstep_in (p) : in2 n m (lstep F G n m p) := ⟨lo_lt hn, lo_lt hm⟩
theorem hstep_in (p) : in2 n m (hstep F G n m p) := ⟨hg_lt hn, hg_lt hm⟩
theorem lorb_in {s} (h : in2 n m s) : ∀ i, in2 n m (orb (lstep F G n m) s i)
  | 0 => h
  | i + 1 => lstep_in hn hm _
theorem horb_in {s} (h : in2 n m s) : ∀ i, in2 n m (orb (hstep F G n m) s i)
  | 0 => h
  | i + 1 => hstep_in hn hm _
include I J
theorem lstep_mono {p q : Nat × Nat} (h : le2 p q) (hq : in2 n m q) : le2 (lstep F G n m p) (lstep F G n m q) := ⟨lo_mono I hn h.2 hq.2, lo_mono J hm h.1 hq.1⟩
theorem hstep_mono {p q : Nat × Nat} (h : le2 p q) (hq : in2 n m q) : le2 (hstep F G n m p) (hstep F G n m q) := ⟨hg_mono I hn h.2 hq.2, hg_mono J hm h.1 hq.1⟩
theorem lorb_mono {p q : Nat × Nat} (h : le2 p q) (hq : in2 n m q) : ∀ i, le2 (orb (lstep F G n m) p i) (orb (lstep F G n m) q i)
  | 0 => h
  | i + 1 => lstep_mono hn hm I J (lorb_mono h hq i) (lorb_in hn hm hq i)
theorem horb_mono {p q : Nat × Nat} (h : le2 p q) (hq : in2 n m q) : ∀ i, le2 (orb (hstep F G n m) p i) (orb (hstep F G n m) q i)
  | 0 => h
  | i + 1 => hstep_mono hn hm I J (horb_mono h hq i) (horb_in hn hm hq i)
theorem lorb_up : ∀ i, le2 (orb (lstep F G n m) (0, 0) i) (orb (lstep F G n m) (0, 0) (i + 1))
  | 0 => ⟨Nat.zero_le _, Nat.zero_le _⟩
  | i + 1 => lstep_mono hn hm I J (lorb_up i) (lorb_in hn hm ⟨by show 0 < n; omega, by show 0 < m; omega⟩ (i + 1))
theorem horb_down : ∀ i, le2 (orb (hstep F G n m) (n - 1, m - 1) (i + 1)) (orb (hstep F G n m) (n - 1, m - 1) i)
  | 0 => by
    have := hstep_in (F := F) (G := G) hn hm (n - 1, m - 1)
    obtain ⟨h1, h2⟩ := this
    constructor
    · show (hstep F G n m (n - 1, m - 1)).1 ≤ n - 1; omega
    · show (hstep F G n m (n - 1, m - 1)).2 ≤ m - 1; omega
  | i + 1 => hstep_mono hn hm I J (horb_down i) (horb_in hn hm ⟨by show n - 1 < n; omega, by show m - 1 < m; omega⟩ i)
theorem lorb_sum : ∀ i, lstep F G n m (orb (lstep F G n m) (0, 0) i) = orb (lstep F G n m) (0, 0) i ∨ i + 1 ≤ (orb (lstep F G n m) (0, 0) (i + 1)).1 + (orb (lstep F G n m) (0, 0) (i + 1)).2
  | 0 => by
    by_cases e : lstep F G n m (0, 0) = (0, 0)
    · exact .inl e
    · right
      show 1 ≤ (lstep F G n m (0, 0)).1 + (lstep F G n m (0, 0)).2
      by_cases z : (lstep F G n m (0, 0)).1 + (lstep F G n m (0, 0)).2 = 0
      · exact absurd (Prod.ext (by show _ = 0; omega) (by show _ = 0; omega)) e
      · omega
  | i + 1 => by
    rcases lorb_sum i with h | h
    · left
      show lstep F G n m (lstep F G n m (orb _ _ i)) = lstep F G n m (orb _ _ i)
      rw [h, h]
    · have u := lorb_up hn hm I J (i + 1)
      by_cases e : lstep F G n m (orb (lstep F G n m) (0, 0) (i + 1)) = orb (lstep F G n m) (0, 0) (i + 1)
      · exact .inl e
      · right
        obtain ⟨u1, u2⟩ := u
        by_cases z : (orb (lstep F G n m) (0, 0) (i + 1 + 1)).1 = (orb (lstep F G n m) (0, 0) (i + 1)).1 ∧ (orb (lstep F G n m) (0, 0) (i + 1 + 1)).2 = (orb (lstep F G n m) (0, 0) (i + 1)).2
        · exact absurd (Prod.ext z.1 z.2) e
        · omega
theorem low_fix : lstep F G n m (lowP F G n m) = lowP F G n m := by
  rcases lorb_sum hn hm I J (n + m) with h | h
  · exact h
  · have := lorb_in (F := F) (G := G) hn hm (s := (0, 0)) ⟨by show 0 < n; omega, by show 0 < m; omega⟩ (n + m + 1)
    obtain ⟨a, b⟩ := this
    omega
theorem horb_sum : ∀ i, hstep F G n m (orb (hstep F G n m) (n - 1, m - 1) i) = orb (hstep F G n m) (n - 1, m - 1) i ∨ (orb (hstep F G n m) (n - 1, m - 1) (i + 1)).1 + (orb (hstep F G n m) (n - 1, m - 1) (i + 1)).2 + (i + 1) ≤ (n - 1) + (m - 1)
  | 0 => by
    have u := horb_down hn hm I J 0
    by_cases e : hstep F G n m (n - 1, m - 1) = (n - 1, m - 1)
    · exact .inl e
    · right
      obtain ⟨u1, u2⟩ := u
      have e1 : (orb (hstep F G n m) (n - 1, m - 1) 0) = (n - 1, m - 1) := rfl
      rw [e1] at u1 u2
      have e2 : (orb (hstep F G n m) (n - 1, m - 1) (0 + 1)) = hstep F G n m (n - 1, m - 1) := rfl
      rw [e2] at u1 u2 ⊢
      simp only at u1 u2
      by_cases z : (hstep F G n m (n - 1, m - 1)).1 = n - 1 ∧ (hstep F G n m (n - 1, m - 1)).2 = m - 1
      · exact absurd (Prod.ext z.1 z.2) e
      · omega
  | i + 1 => by
    rcases horb_sum i with h | h
    · left
      show hstep F G n m (hstep F G n m (orb _ _ i)) = hstep F G n m (orb _ _ i)
      rw [h, h]
    · have u := horb_down hn hm I J (i + 1)
      by_cases e : hstep F G n m (orb (hstep F G n m) (n - 1, m - 1) (i + 1)) = orb (hstep F G n m) (n - 1, m - 1) (i + 1)
      · exact .inl e
      · right
        obtain ⟨u1, u2⟩ := u
        by_cases z : (orb (hstep F G n m) (n - 1, m - 1) (i + 1 + 1)).1 = (orb (hstep F G n m) (n - 1, m - 1) (i + 1)).1 ∧ (orb (hstep F G n m) (n - 1, m - 1) (i + 1 + 1)).2 = (orb (hstep F G n m) (n - 1, m - 1) (i + 1)).2
        · exact absurd (Prod.ext z.1 z.2) e
        · omega
theorem top_fix : hstep F G n m (topP F G n m) = topP F G n m := by
  rcases horb_sum hn hm I J (n + m) with h | h
  · exact h
  · omega
omit I J in
theorem orb_fix {f : Nat × Nat → Nat × Nat} {p} (h : f p = p) : ∀ i, orb f p i = p
  | 0 => rfl
  | i + 1 => by rw [orb, orb_fix h i, h]
omit I J in
theorem low_in : in2 n m (lowP F G n m) := lorb_in hn hm ⟨by show 0 < n; omega, by show 0 < m; omega⟩ _
omit I J in
theorem top_in : in2 n m (topP F G n m) := horb_in hn hm ⟨by show n - 1 < n; omega, by show m - 1 < m; omega⟩ _
theorem low_least {q : Nat × Nat} (hq : in2 n m q) (h : lstep F G n m q = q) (i : Nat) : le2 (orb (lstep F G n m) (0, 0) i) q := by
  have := lorb_mono hn hm I J (p := (0, 0)) (q := q) ⟨Nat.zero_le _, Nat.zero_le _⟩ hq i
  rwa [orb_fix hn hm h i] at this
theorem top_most {q : Nat × Nat} (hq : in2 n m q) (h : hstep F G n m q = q) (i : Nat) : le2 q (orb (hstep F G n m) (n - 1, m - 1) i) := by
  have := horb_mono hn hm I J (p := q) (q := (n - 1, m - 1)) ⟨by have := hq.1; show q.1 ≤ n - 1; omega, by have := hq.2; show q.2 ≤ m - 1; omega⟩ ⟨by show n - 1 < n; omega, by show m - 1 < m; omega⟩ i
  rwa [orb_fix hn hm h i] at this
end
theorem least_ex {P : Nat → Prop} : ∀ {n : Nat}, (∃ r, r < n ∧ P r) → ∃ r, r < n ∧ P r ∧ ∀ q, q < n → P q → r ≤ q
  | 0, ⟨r, h, _⟩ => by omega
  | n + 1, h => by
    by_cases z : ∃ r, r < n ∧ P r
    · obtain ⟨r, h1, h2, h3⟩ := least_ex z
      refine ⟨r, by omega, h2, fun q hq pq => ?_⟩
      by_cases e : q < n
      · exact h3 q e pq
      · omega
    · obtain ⟨r, h1, h2⟩ := h
      refine ⟨r, h1, h2, fun q hq pq => ?_⟩
      by_cases e : q < n
      · exact absurd ⟨q, e, pq⟩ z
      · omega
theorem most_ex {P : Nat → Prop} : ∀ {n : Nat}, (∃ r, r < n ∧ P r) → ∃ r, r < n ∧ P r ∧ ∀ q, q < n → P q → q ≤ r
  | 0, ⟨r, h, _⟩ => by omega
  | n + 1, h => by
    by_cases z : P n
    · exact ⟨n, by omega, z, fun q hq _ => by omega⟩
    · obtain ⟨r, h1, h2⟩ := h
      have : ∃ r, r < n ∧ P r := ⟨r, by
        by_cases e : r = n
        · subst e; exact absurd h2 z
        · omega, h2⟩
      obtain ⟨r, h1, h2, h3⟩ := most_ex this
      refine ⟨r, by omega, h2, fun q hq pq => ?_⟩
      by_cases e : q = n
      · subst e; exact absurd pq z
      · exact h3 q (by omega) pq
section
variable {F : Nat → Nat → Int} {n m : Nat} (I : IncF F n m) (hn : 1 ≤ n) {P Q : Nat → Prop} (hA : ∀ c r, c < m → Q c → r ∈ An F n c → P r) (hB : ∀ r, r < n → P r → ¬ ∃ z, z < n ∧ P z ∧ ∀ c, c < m → Q c → F r c < F z c)
include I hn hA hB
theorem least_side {c0 : Nat} (hc : c0 < m) (q0 : Q c0) (hl : ∀ c, c < m → Q c → c0 ≤ c) : P (lo F n c0) ∧ ∀ r, r < n → P r → lo F n c0 ≤ r := by
  have h1 := lo_mem (F := F) (c := c0) hn
  have h2 := mem_An.mp h1
  refine ⟨hA _ _ hc q0 h1, fun r hr pr => Nat.le_of_not_lt fun z => hB r hr pr ⟨_, h2.1, hA _ _ hc q0 h1, fun c hcm qc => ?_⟩⟩
  have h3 := I _ _ c0 c (Nat.le_of_lt z) h2.1 (hl c hcm qc) hcm
  have h4 : ¬ F (lo F n c0) c0 ≤ F r c0 := fun h => by
    have : r ∈ An F n c0 := mem_An.mpr ⟨hr, fun q hq => by have := h2.2 q hq; omega⟩
    have := lo_le this
    omega
  omega
theorem most_side {c0 : Nat} (hc : c0 < m) (q0 : Q c0) (hl : ∀ c, c < m → Q c → c ≤ c0) : P (hg F n c0) ∧ ∀ r, r < n → P r → r ≤ hg F n c0 := by
  have h1 := hg_mem (F := F) (c := c0) hn
  have h2 := mem_An.mp h1
  refine ⟨hA _ _ hc q0 h1, fun r hr pr => Nat.le_of_not_lt fun z => hB r hr pr ⟨_, h2.1, hA _ _ hc q0 h1, fun c hcm qc => ?_⟩⟩
  have h3 := I _ _ c c0 (Nat.le_of_lt z) hr (hl c hcm qc) hc
  have h4 : ¬ F (hg F n c0) c0 ≤ F r c0 := fun h => by
    have : r ∈ An F n c0 := mem_An.mpr ⟨hr, fun q hq => by have := h2.2 q hq; omega⟩
    have := le_hg this
    omega
  omega
end
theorem corners {F G : Nat → Nat → Int} {n m : Nat} (I : IncF F n m) (J : IncF G m n) (hn : 1 ≤ n) (hm : 1 ≤ m) {P Q : Nat → Prop}
    (hA : ∀ c r, c < m → Q c → r ∈ An F n c → P r) (hB : ∀ r, r < n → P r → ¬ ∃ z, z < n ∧ P z ∧ ∀ c, c < m → Q c → F r c < F z c)
    (hA' : ∀ r c, r < n → P r → c ∈ An G m r → Q c) (hB' : ∀ c, c < m → Q c → ¬ ∃ z, z < m ∧ Q z ∧ ∀ r, r < n → P r → G c r < G z r)
    (hM : ∀ r c, r ∈ An F n c → c ∈ An G m r → P r ∧ Q c) (eP : ∃ r, r < n ∧ P r) (eQ : ∃ c, c < m ∧ Q c) :
    (P (lowP F G n m).1 ∧ Q (lowP F G n m).2 ∧ P (topP F G n m).1 ∧ Q (topP F G n m).2) ∧ (∀ r, r < n → P r → (lowP F G n m).1 ≤ r ∧ r ≤ (topP F G n m).1) ∧ ∀ c, c < m → Q c → (lowP F G n m).2 ≤ c ∧ c ≤ (topP F G n m).2 := by
  obtain ⟨r0, a1, a2, a3⟩ := least_ex eP
  obtain ⟨c0, b1, b2, b3⟩ := least_ex eQ
  obtain ⟨r1, d1, d2, d3⟩ := most_ex eP
  obtain ⟨c1, e1, e2, e3⟩ := most_ex eQ
  have s1 := least_side I hn hA hB b1 b2 b3
  have s2 := least_side J hm hA' hB' a1 a2 a3
  have t1 := most_side I hn hA hB e1 e2 e3
  have t2 := most_side J hm hA' hB' d1 d2 d3
  have f1 : lstep F G n m (r0, c0) = (r0, c0) := by
    have := s1.2 r0 a1 a2
    have := a3 _ (lo_lt hn) s1.1
    have := s2.2 c0 b1 b2
    have := b3 _ (lo_lt hm) s2.1
    exact Prod.ext (by show lo F n c0 = r0; omega) (by show lo G m r0 = c0; omega)
  have f2 : hstep F G n m (r1, c1) = (r1, c1) := by
    have := t1.2 r1 d1 d2
    have := d3 _ (hg_lt hn) t1.1
    have := t2.2 c1 e1 e2
    have := e3 _ (hg_lt hm) t2.1
    exact Prod.ext (by show hg F n c1 = r1; omega) (by show hg G m r1 = c1; omega)
  have l1 : le2 (lowP F G n m) (r0, c0) := low_least hn hm I J ⟨a1, b1⟩ f1 _
  have l2 : le2 (r1, c1) (topP F G n m) := top_most hn hm I J ⟨d1, e1⟩ f2 _
  have x1 := low_fix hn hm I J
  have x2 := top_fix hn hm I J
  have i1 := low_in (F := F) (G := G) hn hm
  have i2 := top_in (F := F) (G := G) hn hm
  have m1 : P (lowP F G n m).1 ∧ Q (lowP F G n m).2 := by
    have y1 : lo F n (lowP F G n m).2 = (lowP F G n m).1 := congrArg Prod.fst x1
    have y2 : lo G m (lowP F G n m).1 = (lowP F G n m).2 := congrArg Prod.snd x1
    refine hM _ _ ?_ ?_
    · have := lo_mem (F := F) (c := (lowP F G n m).2) hn
      rwa [y1] at this
    · have := lo_mem (F := G) (c := (lowP F G n m).1) hm
      rwa [y2] at this
  have m2 : P (topP F G n m).1 ∧ Q (topP F G n m).2 := by
    have y1 : hg F n (topP F G n m).2 = (topP F G n m).1 := congrArg Prod.fst x2
    have y2 : hg G m (topP F G n m).1 = (topP F G n m).2 := congrArg Prod.snd x2
    refine hM _ _ ?_ ?_
    · have := hg_mem (F := F) (c := (topP F G n m).2) hn
      rwa [y1] at this
    · have := hg_mem (F := G) (c := (topP F G n m).1) hm
      rwa [y2] at this
  obtain ⟨l1a, l1b⟩ := l1
  obtain ⟨l2a, l2b⟩ := l2
  simp only at l1a l1b l2a l2b
  refine ⟨⟨m1.1, m1.2, m2.1, m2.2⟩, fun r hr pr => ⟨?_, ?_⟩, fun c hc qc => ⟨?_, ?_⟩⟩
  · have := a3 r hr pr; omega
  · have := d3 r hr pr; omega
  · have := b3 c hc qc; omega
  · have := e3 c hc qc; omega
namespace Bd
variable {b : Bd}
def at2 (b : Bd) (y x : Nat) : Int := ((b[x]?.getD [])[y]?.getD (0, 0)).2
theorem num_at1 {x y : Nat} (h : x < b.hi) : b.num x (b.hi + y) = b.at1 x y := by
  unfold num at1
  rw [if_pos h, show b.hi + y - b.hi = y by omega]
theorem num_at2 {x y : Nat} : b.num (b.hi + y) x = b.at2 y x := by
  unfold num at2
  rw [if_neg (by omega), show b.hi + y - b.hi = y by omega]
def Inc1 (F : Nat → Nat → Int) (n m : Nat) : Prop := ∀ r c, r + 1 < n → c + 1 < m → F (r + 1) c - F r c ≤ F (r + 1) (c + 1) - F r (c + 1)
theorem inc1_iff {F : Nat → Nat → Int} {n m : Nat} : Inc1 F n m ↔ IncF F n m := by
  constructor
  · intro h
    have s1 : ∀ r, r + 1 < n → ∀ k c, c + k < m → F (r + 1) c - F r c ≤ F (r + 1) (c + k) - F r (c + k) := fun r hr k => by
      induction k with
      | zero => intro c _; exact Int.le_refl _
      | succ k ih =>
        intro c hc
        have a := ih c (by omega)
        have d := h r (c + k) hr (by omega)
        rw [show c + (k + 1) = c + k + 1 by omega]
        omega
    have s2 : ∀ j r c c', r + j < n → c ≤ c' → c' < m → F (r + j) c - F r c ≤ F (r + j) c' - F r c' := fun j => by
      induction j with
      | zero => intro r c c' _ _ _; rw [Nat.add_zero]; omega
      | succ j ih =>
        intro r c c' hr hc hm
        have a := ih r c c' (by omega) hc hm
        have d := s1 (r + j) (by omega) (c' - c) c (by omega)
        rw [show c + (c' - c) = c' by omega] at d
        rw [show r + (j + 1) = r + j + 1 by omega]
        omega
    intro r r' c c' hr hn hc hm
    have := s2 (r' - r) r c c' (by omega) hc hm
    rwa [show r + (r' - r) = r' by omega] at this
  · intro h r c hr hc
    exact h r (r + 1) c (c + 1) (by omega) hr (by omega) hc
theorem stepR_get {r r' : List (Int × Int)} {c : Nat} (h : c < r.length) (h' : c < r'.length) : (stepR (r, r'))[c]? = some ((r'[c]?.getD (0, 0)).1 - (r[c]?.getD (0, 0)).1) := by
  have : (r.zip r')[c]? = some (r[c], r'[c]) := by
    rw [List.getElem?_zip_eq_some]
    exact ⟨List.getElem?_eq_getElem h, List.getElem?_eq_getElem h'⟩
  unfold stepR
  rw [List.getElem?_map, this, List.getElem?_eq_getElem h, List.getElem?_eq_getElem h']
  rfl
theorem risR_iff (g : b.Good) : b.risR = true ↔ Inc1 b.at1 b.hi b.wi := by
  unfold risR
  rw [List.all_eq_true]
  constructor
  · intro h x c hx hc
    obtain ⟨r, hr, hl⟩ := rect_get g (x := x) (by omega)
    obtain ⟨r', hr', hl'⟩ := rect_get g (x := x + 1) hx
    have hm : (b.zip (b.drop 1))[x]? = some (r, r') := by
      rw [List.getElem?_zip_eq_some]
      exact ⟨hr, by rw [List.getElem?_drop, Nat.add_comm]; exact hr'⟩
    have := h _ (List.mem_of_getElem? hm)
    have := dn_false.mp (by simpa using this) c _ _ (stepR_get (by omega) (by omega)) (stepR_get (by omega) (by omega))
    unfold at1
    rw [hr, hr']
    exact this
  · rintro h ⟨r, r'⟩ hp
    obtain ⟨x, hx⟩ := List.getElem?_of_mem hp
    rw [List.getElem?_zip_eq_some, List.getElem?_drop, Nat.add_comm] at hx
    obtain ⟨h1, h2⟩ := hx
    simp only at h1 h2
    have l1 := g.rect r (List.mem_of_getElem? h1)
    have l2 := g.rect r' (List.mem_of_getElem? h2)
    have hb : x + 1 < b.hi := (List.getElem?_eq_some_iff.mp h2).1
    rw [Bool.not_eq_true', dn_false]
    intro c u v hu hv
    have hc : c + 1 < b.wi := by
      have := (List.getElem?_eq_some_iff.mp hv).1
      unfold stepR at this
      simp at this
      omega
    rw [stepR_get (by omega) (by omega)] at hu hv
    have := h x c hb hc
    unfold at1 at this
    rw [h1, h2] at this
    rw [← Option.some.inj hu, ← Option.some.inj hv]
    exact this
theorem risC_iff (g : b.Good) : b.risC = true ↔ Inc1 b.at2 b.wi b.hi := by
  unfold risC
  rw [List.all_eq_true]
  have get : ∀ a x, x < b.hi → (b.stepC a)[x]? = some (b.at2 (a + 1) x - b.at2 a x) := fun a x hx => by
    obtain ⟨r, hr, hl⟩ := rect_get g hx
    unfold stepC at2
    rw [List.getElem?_map, hr]
    rfl
  constructor
  · intro h c x hc hx
    have := h c (List.mem_range.mpr (by omega))
    exact dn_false.mp (by simpa using this) x _ _ (get c x (by omega)) (get c (x + 1) hx)
  · intro h a ha
    have ha := List.mem_range.mp ha
    rw [Bool.not_eq_true', dn_false]
    intro x u v hu hv
    have hx : x + 1 < b.hi := by
      have := (List.getElem?_eq_some_iff.mp hv).1
      unfold stepC at this
      rw [List.length_map] at this
      exact this
    rw [get a x (by omega)] at hu
    rw [get a (x + 1) hx] at hv
    rw [← Option.some.inj hu, ← Option.some.inj hv]
    exact h a x (by omega) hx
theorem rises_iff (g : b.Good) : b.rises = true ↔ IncF b.at1 b.hi b.wi ∧ IncF b.at2 b.wi b.hi := by
  unfold rises
  rw [Bool.and_eq_true, risR_iff g, risC_iff g, inc1_iff, inc1_iff]
def lowB (b : Bd) : Nat × Nat := lowP b.at1 b.at2 b.hi b.wi
def topB (b : Bd) : Nat × Nat := topP b.at1 b.at2 b.hi b.wi
theorem rowsL_nil : b.rowsL [] = List.range b.hi := by
  unfold rowsL
  exact List.filter_eq_self.mpr fun x _ => by simp
theorem colsL_nil : b.colsL [] = (List.range b.wi).map (b.hi + ·) := by
  unfold colsL
  rw [List.range'_eq_map_range]
  exact List.filter_eq_self.mpr fun x _ => by simp
theorem ans_An1 (c : Nat) : b.ans [] (b.hi + c) = An b.at1 b.hi c := by
  have e : b.cross [] (b.hi + c) = List.range b.hi := by
    unfold cross
    rw [if_neg (by omega), rowsL_nil]
  unfold ans An
  rw [e]
  refine List.filter_congr fun r hr => ?_
  have hr' := List.mem_range.mp hr
  have k : (b.at1 r c = top ((List.range b.hi).map fun r => b.at1 r c)) ↔ ∀ q, q < b.hi → b.at1 q c ≤ b.at1 r c := by
    have := mem_An (F := b.at1) (n := b.hi) (c := c) (r := r)
    unfold An at this
    rw [List.mem_filter, decide_eq_true_eq] at this
    exact ⟨fun h => (this.mp ⟨hr, h⟩).2, fun h => (this.mpr ⟨hr', h⟩).2⟩
  rw [Bool.eq_iff_iff, decide_eq_true_eq, k, List.all_eq_true]
  constructor
  · intro h q hq
    have := h q (List.mem_range.mpr hq)
    rw [decide_eq_true_eq, num_at1 hq, num_at1 hr'] at this
    exact this
  · intro h q hq
    have hq := List.mem_range.mp hq
    rw [decide_eq_true_eq, num_at1 hq, num_at1 hr']
    exact h q hq
theorem ans_An2 {x : Nat} (hx : x < b.hi) : b.ans [] x = (An b.at2 b.wi x).map (b.hi + ·) := by
  have e : b.cross [] x = (List.range b.wi).map (b.hi + ·) := by
    unfold cross
    rw [if_pos hx, colsL_nil]
  unfold ans An
  rw [e, List.filter_map]
  congr 1
  refine List.filter_congr fun r hr => ?_
  have hr' := List.mem_range.mp hr
  have k : (b.at2 r x = top ((List.range b.wi).map fun r => b.at2 r x)) ↔ ∀ q, q < b.wi → b.at2 q x ≤ b.at2 r x := by
    have := mem_An (F := b.at2) (n := b.wi) (c := x) (r := r)
    unfold An at this
    rw [List.mem_filter, decide_eq_true_eq] at this
    exact ⟨fun h => (this.mp ⟨hr, h⟩).2, fun h => (this.mpr ⟨hr', h⟩).2⟩
  rw [Bool.eq_iff_iff, decide_eq_true_eq, k, Function.comp, List.all_eq_true]
  constructor
  · intro h q hq
    have := h (b.hi + q) (List.mem_map.mpr ⟨q, List.mem_range.mpr hq, rfl⟩)
    rw [decide_eq_true_eq, num_at2, num_at2] at this
    exact this
  · intro h d hd
    obtain ⟨q, hq, rfl⟩ := List.mem_map.mp hd
    rw [decide_eq_true_eq, num_at2, num_at2]
    exact h q (List.mem_range.mp hq)
theorem ans_left {m : List Nat} (c : Comes b m) {x y : Nat} (hy : y < b.hi + b.wi) (hm : y ∉ m) (h : x ∈ b.ans [] y) : x ∉ m := by
  intro hx
  obtain ⟨z, z1, z2, z3⟩ := c.over x hx
  obtain ⟨hs, hl⟩ := isG_iff.mp z3
  obtain ⟨h1, h2⟩ := mem_ans.mp h
  have h1' := mem_cross.mp h1
  have h3 : y ∈ b.cross m x := mem_cross.mpr ⟨hm, by omega⟩
  have h4 : z ∈ b.cross [] y := mem_cross.mpr ⟨by simp, by omega⟩
  have := hl y h3
  have := h2 z h4
  omega
structure Ris (b : Bd) : Prop where
  g : b.Good
  i : IncF b.at1 b.hi b.wi
  j : IncF b.at2 b.wi b.hi
theorem Ris.of (g : b.Good) (h : b.rises = true) : b.Ris := ⟨g, ((rises_iff g).mp h).1, ((rises_iff g).mp h).2⟩
theorem Ris.rises (R : b.Ris) : b.rises = true := (rises_iff R.g).mpr ⟨R.i, R.j⟩
theorem Ris.left (R : b.Ris) : (b.lowB.1 ∉ b.last ∧ b.hi + b.lowB.2 ∉ b.last ∧ b.topB.1 ∉ b.last ∧ b.hi + b.topB.2 ∉ b.last) ∧ (∀ r, r < b.hi → r ∉ b.last → b.lowB.1 ≤ r ∧ r ≤ b.topB.1) ∧ ∀ c, c < b.wi → b.hi + c ∉ b.last → b.lowB.2 ≤ c ∧ c ≤ b.topB.2 := by
  obtain ⟨g, I, J⟩ := R
  obtain ⟨cm, cl, _⟩ := last_ok g
  have w : ∀ c, c < b.wi → b.hi + c < b.hi + b.wi := fun c h => by omega
  refine corners I J g.h1 g.w1 (P := fun r => r ∉ b.last) (Q := fun c => b.hi + c ∉ b.last) ?_ ?_ ?_ ?_ ?_ ?_ ?_
  · intro c r hc hq hr
    exact ans_left cm (w c hc) hq (by rw [ans_An1]; exact hr)
  · rintro r hr pr ⟨z, hz, pz, hl⟩
    have : b.canF b.last r = true := by
      refine canF_iff.mpr ⟨z, by omega, pz, fun e => ?_, isG_iff.mpr ⟨by omega, fun c hc => ?_⟩⟩
      · subst e
        obtain ⟨y, y1, y2, y3⟩ := cm.col g
        have := hl (y - b.hi) (by omega) (by rw [show b.hi + (y - b.hi) = y by omega]; exact y3)
        omega
      · obtain ⟨c1, c2⟩ := mem_cross.mp hc
        have e : c = b.hi + (c - b.hi) := by omega
        rw [e] at c1 ⊢
        rw [num_at1 hr, num_at1 hz]
        exact hl _ (by omega) c1
    rw [cl r (by omega) pr] at this; cases this
  · intro r c hr hp hc
    refine ans_left cm (y := r) (by omega) hp ?_
    rw [ans_An2 hr]
    exact List.mem_map.mpr ⟨c, hc, rfl⟩
  · rintro c hc qc ⟨z, hz, qz, hl⟩
    have : b.canF b.last (b.hi + c) = true := by
      refine canF_iff.mpr ⟨b.hi + z, by omega, qz, fun e => ?_, isG_iff.mpr ⟨by omega, fun r hr => ?_⟩⟩
      · have e : z = c := by omega
        subst e
        obtain ⟨y, y1, y2⟩ := cm.row g
        have := hl y y1 y2
        omega
      · obtain ⟨c1, c2⟩ := mem_cross.mp hr
        rw [num_at2, num_at2]
        exact hl _ (by omega) c1
    rw [cl _ (w c hc) qc] at this; cases this
  · intro r c h1 h2
    have hr := (mem_An.mp h1).1
    have hc := (mem_An.mp h2).1
    refine comes_stay g hr (Nat.le_add_right _ _) (w c hc) ?_ ?_ _ cm
    · rw [ans_An1]; exact h1
    · rw [ans_An2 hr]; exact List.mem_map.mpr ⟨c, h2, rfl⟩
  · exact cm.row g
  · obtain ⟨y, y1, y2, y3⟩ := cm.col g
    exact ⟨y - b.hi, by omega, by rw [show b.hi + (y - b.hi) = y by omega]; exact y3⟩
theorem Ris.low_in (R : b.Ris) : b.lowB.1 < b.hi ∧ b.lowB.2 < b.wi := L2.Z.low_in R.g.h1 R.g.w1
theorem Ris.top_in (R : b.Ris) : b.topB.1 < b.hi ∧ b.topB.2 < b.wi := L2.Z.top_in R.g.h1 R.g.w1
theorem Ris.ends (R : b.Ris) : (b.rowsL b.last)[0]? = some b.lowB.1 ∧ (b.colsL b.last)[0]? = some (b.hi + b.lowB.2) ∧ (b.rowsL b.last)[(b.rowsL b.last).length - 1]? = some b.topB.1 ∧ (b.colsL b.last)[(b.colsL b.last).length - 1]? = some (b.hi + b.topB.2) := by
  obtain ⟨⟨p1, p2, p3, p4⟩, hr, hc⟩ := R.left
  have a := R.low_in
  have c := R.top_in
  have hc' : ∀ x ∈ b.colsL b.last, b.hi + b.lowB.2 ≤ x ∧ x ≤ b.hi + b.topB.2 := fun x hx => by
    have hx := mem_colsL.mp hx
    have := hc (x - b.hi) (by omega) (by rw [show b.hi + (x - b.hi) = x by omega]; exact hx.2)
    omega
  refine ⟨first_least rowsL_sorted (mem_rowsL.mpr ⟨a.1, p1⟩) fun x hx => (hr x (mem_rowsL.mp hx).1 (mem_rowsL.mp hx).2).1,
    first_least colsL_sorted (mem_colsL.mpr ⟨⟨by omega, by omega⟩, p2⟩) fun x hx => (hc' x hx).1,
    last_most rowsL_sorted (mem_rowsL.mpr ⟨c.1, p3⟩) fun x hx => (hr x (mem_rowsL.mp hx).1 (mem_rowsL.mp hx).2).2,
    last_most colsL_sorted (mem_colsL.mpr ⟨⟨by omega, by omega⟩, p4⟩) fun x hx => (hc' x hx).2⟩
end Bd
end L2.Z
namespace L2.Z
open PySem
structure MM (v : Int) (F : Nat → Nat → Int) (P Q : Nat → Prop) : Prop where
  up : ∃ i, P i ∧ ∀ j, Q j → v ≤ F i j
  dn : ∀ i, P i → ∃ j, Q j ∧ F i j ≤ v
theorem MM.uniq {v v' : Int} {F : Nat → Nat → Int} {P Q : Nat → Prop} (h : MM v F P Q) (h' : MM v' F P Q) : v = v' := by
  obtain ⟨i, p1, p2⟩ := h.up
  obtain ⟨i', q1, q2⟩ := h'.up
  obtain ⟨j, a1, a2⟩ := h'.dn i p1
  obtain ⟨j', c1, c2⟩ := h.dn i' q1
  have := p2 j a1
  have := q2 j' c1
  omega
theorem MM.congr {v : Int} {F F' : Nat → Nat → Int} {P Q P' Q' : Nat → Prop} (h : MM v F P Q) (hP : ∀ i, P i ↔ P' i) (hQ : ∀ j, Q j ↔ Q' j) (hF : ∀ i j, P i → Q j → F i j = F' i j) : MM v F' P' Q' := by
  obtain ⟨⟨i, p1, p2⟩, d⟩ := h
  refine ⟨⟨i, (hP i).mp p1, fun j hj => ?_⟩, fun i hi => ?_⟩
  · rw [← hF i j p1 ((hQ j).mpr hj)]; exact p2 j ((hQ j).mpr hj)
  · obtain ⟨j, q1, q2⟩ := d i ((hP i).mpr hi)
    exact ⟨j, (hQ j).mp q1, by rw [← hF i j ((hP i).mpr hi) q1]; exact q2⟩
namespace Bd
variable {b : Bd}
def ln (b : Bd) (x : Nat) : Int := bot (b.nums [] x)
def sn1 (b : Bd) : Int := top ((List.range b.hi).map b.ln)
def sn2 (b : Bd) : Int := top ((List.range' b.hi b.wi).map b.ln)
theorem nums_ne (g : b.Good) (x : Nat) : b.nums [] x ≠ [] := by
  unfold nums
  intro z
  exact cross_ne g x (List.map_eq_nil_iff.mp z)
theorem ln_le (g : b.Good) {x c : Nat} (h : c ∈ b.cross [] x) : b.ln x ≤ b.num x c := bot_le (nums_ne g x) _ (List.mem_map.mpr ⟨c, h, rfl⟩)
theorem ln_mem (g : b.Good) (x : Nat) : ∃ c ∈ b.cross [] x, b.num x c = b.ln x := by
  obtain ⟨c, h1, h2⟩ := List.mem_map.mp (bot_mem (nums_ne g x))
  exact ⟨c, h1, h2⟩
theorem cross1 {x c : Nat} (hx : x < b.hi) : c ∈ b.cross [] x ↔ b.hi ≤ c ∧ c < b.hi + b.wi := by
  rw [mem_cross]; simp; omega
theorem cross2 {x c : Nat} (hx : b.hi ≤ x) : c ∈ b.cross [] x ↔ c < b.hi := by
  rw [mem_cross]; simp; omega
theorem ln1 (g : b.Good) {i : Nat} (hi : i < b.hi) {v : Int} : v ≤ b.ln i ↔ ∀ j, j < b.wi → v ≤ b.at1 i j := by
  constructor
  · intro h j hj
    have := ln_le g (x := i) (c := b.hi + j) ((cross1 hi).mpr ⟨by omega, by omega⟩)
    rw [num_at1 hi] at this
    omega
  · intro h
    obtain ⟨c, h1, h2⟩ := ln_mem g i
    have h1 := (cross1 hi).mp h1
    have := h (c - b.hi) (by omega)
    rw [← num_at1 hi, show b.hi + (c - b.hi) = c by omega] at this
    omega
theorem ln2 (g : b.Good) {j : Nat} {v : Int} : v ≤ b.ln (b.hi + j) ↔ ∀ i, i < b.hi → v ≤ b.at2 j i := by
  constructor
  · intro h i hi
    have := ln_le g (x := b.hi + j) (c := i) ((cross2 (Nat.le_add_right _ _)).mpr hi)
    rw [num_at2] at this
    omega
  · intro h
    obtain ⟨c, h1, h2⟩ := ln_mem g (b.hi + j)
    have h1 := (cross2 (Nat.le_add_right _ _)).mp h1
    have := h c h1
    rw [num_at2] at h2
    omega
theorem ln1_ex (g : b.Good) {i : Nat} (hi : i < b.hi) : ∃ j, j < b.wi ∧ b.at1 i j = b.ln i := by
  obtain ⟨c, h1, h2⟩ := ln_mem g i
  have h1 := (cross1 hi).mp h1
  refine ⟨c - b.hi, by omega, ?_⟩
  rw [← num_at1 hi, show b.hi + (c - b.hi) = c by omega]; exact h2
theorem ln2_ex (g : b.Good) {j : Nat} : ∃ i, i < b.hi ∧ b.at2 j i = b.ln (b.hi + j) := by
  obtain ⟨c, h1, h2⟩ := ln_mem g (b.hi + j)
  rw [num_at2] at h2
  exact ⟨c, (cross2 (Nat.le_add_right _ _)).mp h1, h2⟩
theorem sn1_ne (g : b.Good) : (List.range b.hi).map b.ln ≠ [] := by
  intro z
  have h1 := g.h1
  have := congrArg List.length z
  simp at this; omega
theorem sn2_ne (g : b.Good) : (List.range' b.hi b.wi).map b.ln ≠ [] := by
  intro z
  have h1 := g.w1
  have := congrArg List.length z
  simp at this; omega
theorem sn1_mm (g : b.Good) : MM b.sn1 b.at1 (· < b.hi) (· < b.wi) := by
  refine ⟨?_, fun i hi => ?_⟩
  · obtain ⟨i, h1, h2⟩ := List.mem_map.mp (top_mem (sn1_ne g))
    have h1 := List.mem_range.mp h1
    exact ⟨i, h1, (ln1 g h1).mp (by rw [h2]; exact Int.le_refl _)⟩
  · obtain ⟨j, h1, h2⟩ := ln1_ex g hi
    exact ⟨j, h1, by rw [h2]; exact top_le (sn1_ne g) _ (List.mem_map.mpr ⟨i, List.mem_range.mpr hi, rfl⟩)⟩
theorem sn2_mm (g : b.Good) : MM b.sn2 b.at2 (· < b.wi) (· < b.hi) := by
  refine ⟨?_, fun j hj => ?_⟩
  · obtain ⟨y, h1, h2⟩ := List.mem_map.mp (top_mem (sn2_ne g))
    have h1 := List.mem_range'_1.mp h1
    refine ⟨y - b.hi, by omega, (ln2 g).mp ?_⟩
    rw [show b.hi + (y - b.hi) = y by omega, h2]; exact Int.le_refl _
  · obtain ⟨i, h1, h2⟩ := ln2_ex g (j := j)
    exact ⟨i, h1, by rw [h2]; exact top_le (sn2_ne g) _ (List.mem_map.mpr ⟨b.hi + j, List.mem_range'_1.mpr ⟨by omega, by omega⟩, rfl⟩)⟩
def sfR (b : Bd) : List Nat := (List.range b.hi).filter fun x => decide (b.ln x = b.sn1)
def sfC (b : Bd) : List Nat := (List.range' b.hi b.wi).filter fun x => decide (b.ln x = b.sn2)
theorem ln_le1 (g : b.Good) {i : Nat} (hi : i < b.hi) : b.ln i ≤ b.sn1 := top_le (sn1_ne g) _ (List.mem_map.mpr ⟨i, List.mem_range.mpr hi, rfl⟩)
theorem ln_le2 (g : b.Good) {y : Nat} (h : b.hi ≤ y ∧ y < b.hi + b.wi) : b.ln y ≤ b.sn2 := top_le (sn2_ne g) _ (List.mem_map.mpr ⟨y, List.mem_range'_1.mpr h, rfl⟩)
theorem mem_sfR (g : b.Good) {i : Nat} : i ∈ b.sfR ↔ i < b.hi ∧ ∀ j, j < b.wi → b.sn1 ≤ b.at1 i j := by
  unfold sfR
  rw [List.mem_filter, List.mem_range, decide_eq_true_eq]
  refine and_congr_right fun hi => ?_
  rw [← ln1 g hi]
  have := ln_le1 g hi
  omega
theorem mem_sfC (g : b.Good) {j : Nat} : b.hi + j ∈ b.sfC ↔ j < b.wi ∧ ∀ i, i < b.hi → b.sn2 ≤ b.at2 j i := by
  unfold sfC
  rw [List.mem_filter, List.mem_range'_1, decide_eq_true_eq]
  constructor
  · rintro ⟨h1, h2⟩
    exact ⟨by omega, (ln2 g).mp (by omega)⟩
  · rintro ⟨h1, h2⟩
    have := (ln2 g).mpr h2
    have := ln_le2 g (y := b.hi + j) ⟨by omega, by omega⟩
    exact ⟨⟨by omega, by omega⟩, by omega⟩
structure Ag (b : Bd) : Prop where
  g : b.Good
  z : ∀ i j, i < b.hi → j < b.wi → b.at2 j i = - b.at1 i j
theorem Ag.gap (H : b.Ag) : b.sn1 ≤ - b.sn2 := by
  obtain ⟨i, h1, h2⟩ := (sn1_mm H.g).up
  obtain ⟨j, h3, h4⟩ := (sn2_mm H.g).up
  have := h2 j h3
  have := h4 i h1
  have := H.z i j h1 h3
  omega
theorem Ag.bes (H : b.Ag) {i j : Nat} (hi : i < b.hi) (hj : j < b.wi) : (i ∈ b.ans [] (b.hi + j) ∧ b.hi + j ∈ b.ans [] i) ↔ (b.sn1 = - b.sn2 ∧ i ∈ b.sfR ∧ b.hi + j ∈ b.sfC) := by
  have e1 : i ∈ b.ans [] (b.hi + j) ↔ ∀ q, q < b.hi → b.at1 q j ≤ b.at1 i j := by
    rw [ans_An1, mem_An]; exact and_iff_right hi
  have e2 : b.hi + j ∈ b.ans [] i ↔ ∀ q, q < b.wi → b.at2 q i ≤ b.at2 j i := by
    rw [ans_An2 hi, List.mem_map]
    constructor
    · rintro ⟨a, h1, h2⟩
      rw [show a = j by omega] at h1
      exact (mem_An.mp h1).2
    · intro h; exact ⟨j, mem_An.mpr ⟨hj, h⟩, rfl⟩
  rw [e1, e2, mem_sfR H.g, mem_sfC H.g]
  obtain ⟨⟨i1, u1, u2⟩, d1⟩ := sn1_mm H.g
  obtain ⟨⟨j1, w1, w2⟩, d2⟩ := sn2_mm H.g
  have z := H.z i j hi hj
  constructor
  · rintro ⟨h1, h2⟩
    obtain ⟨q, q1, q2⟩ := d1 i hi
    obtain ⟨p, p1, p2⟩ := d2 j hj
    have a1 := u2 j hj
    have a2 := h1 i1 u1
    have a3 := h2 q q1
    have a4 := H.z i q hi q1
    have a5 := w2 i hi
    have a6 := h2 j1 w1
    have a7 := h1 p p1
    have a8 := H.z p j p1 hj
    refine ⟨by omega, ⟨hi, fun q hq => ?_⟩, hj, fun p hp => ?_⟩
    · have := h2 q hq
      have := H.z i q hi hq
      omega
    · have := h1 p hp
      have := H.z p j hp hj
      omega
  · rintro ⟨hv, ⟨_, h1⟩, _, h2⟩
    have a1 := h1 j hj
    have a2 := h2 i hi
    refine ⟨fun q hq => ?_, fun q hq => ?_⟩
    · have := h2 q hq
      have := H.z q j hq hj
      omega
    · have := h1 q hq
      have := H.z i q hi hq
      omega
theorem Ag.bes_eq (H : b.Ag) : b.bes [] = if b.sn1 = - b.sn2 then b.sfR.flatMap fun x => b.sfC.map fun y => (x, y) else [] := by
  have g := H.g
  have key : ∀ x, x < b.hi → ((b.colsL []).filter fun y => decide (x ∈ b.ans [] y) && decide (y ∈ b.ans [] x)) = if b.sn1 = - b.sn2 ∧ x ∈ b.sfR then b.sfC else [] := fun x hx => by
    have e : b.colsL [] = List.range' b.hi b.wi := by
      unfold colsL
      exact List.filter_eq_self.mpr fun x _ => by simp
    rw [e]
    by_cases z : b.sn1 = - b.sn2 ∧ x ∈ b.sfR
    · rw [if_pos z]
      have e3 : b.sfC = (List.range' b.hi b.wi).filter fun y => decide (y ∈ b.sfC) := by
        conv => lhs; unfold sfC
        refine List.filter_congr fun y hy => ?_
        rw [Bool.eq_iff_iff, decide_eq_true_eq, decide_eq_true_eq]
        unfold sfC
        rw [List.mem_filter, decide_eq_true_eq]
        exact ⟨fun h => ⟨hy, h⟩, fun h => h.2⟩
      rw [e3]
      refine List.filter_congr fun y hy => ?_
      have hy := List.mem_range'_1.mp hy
      have := H.bes (i := x) (j := y - b.hi) hx (by omega)
      rw [show b.hi + (y - b.hi) = y by omega] at this
      rw [Bool.eq_iff_iff, Bool.and_eq_true, decide_eq_true_eq, decide_eq_true_eq, decide_eq_true_eq, this]
      exact ⟨fun h => h.2.2, fun h => ⟨z.1, z.2, h⟩⟩
    · rw [if_neg z]
      refine List.filter_eq_nil_iff.mpr fun y hy h => z ?_
      have hy := List.mem_range'_1.mp hy
      have := H.bes (i := x) (j := y - b.hi) hx (by omega)
      rw [show b.hi + (y - b.hi) = y by omega] at this
      rw [Bool.and_eq_true, decide_eq_true_eq, decide_eq_true_eq] at h
      have := this.mp h
      exact ⟨this.1, this.2.1⟩
  unfold Bd.bes
  have eR : b.rowsL [] = List.range b.hi := rowsL_nil
  rw [eR]
  by_cases v : b.sn1 = - b.sn2
  · rw [if_pos v]
    have e4 : ∀ l : List Nat, (∀ x ∈ l, x < b.hi) → (l.flatMap fun x => ((b.colsL []).filter fun y => decide (x ∈ b.ans [] y) && decide (y ∈ b.ans [] x)).map fun y => (x, y)) = (l.filter fun x => decide (b.ln x = b.sn1)).flatMap fun x => b.sfC.map fun y => (x, y) := by
      intro l hl
      induction l with
      | nil => rfl
      | cons x l ih =>
        have hx := hl x (by simp)
        rw [List.flatMap_cons, ih fun y hy => hl y (by simp [hy]), key x hx]
        by_cases m : b.ln x = b.sn1
        · have : x ∈ b.sfR := List.mem_filter.mpr ⟨List.mem_range.mpr hx, by simp [m]⟩
          rw [if_pos ⟨v, this⟩, List.filter_cons_of_pos (by simp [m]), List.flatMap_cons]
        · have : ¬ (b.sn1 = - b.sn2 ∧ x ∈ b.sfR) := fun h => m (by have := (List.mem_filter.mp h.2).2; simpa using this)
          rw [if_neg this, List.filter_cons_of_neg (by simp [m])]
          rfl
    exact e4 _ fun x hx => List.mem_range.mp hx
  · rw [if_neg v]
    refine List.flatMap_eq_nil_iff.mpr fun x hx => ?_
    rw [key x (List.mem_range.mp hx), if_neg (fun h => v h.1)]
    rfl
end Bd
end L2.Z
namespace L2.Z
open PySem L2.Z.Q
section
variable {b : Bd} (g : b.Good)
include g
theorem s_ln {x : Nat} (hx : x < b.hi + b.wi) : (q_numbers b [] x).bind (fun (x4 : (List Int)) => (oMin x4).bind fun (x5 : Int) => some x5) = some (b.ln x) :=
  bi (s_numbers g hx) (bi (oMin_eq (m := b.ln x) (bot_mem (Bd.nums_ne g x)) (bot_le (Bd.nums_ne g x))) rfl)
theorem s_safe_numbers : q_safe_numbers b = some (b.sn1, b.sn2) := by
  have h6 := g.h6
  have c : cutD b.lns (some ((List.length b : Nat) : Int)) none = List.range' b.hi b.wi := by
    rw [cutD_from, Bd.lns, List.range_eq_range', List.drop_range']
    have : List.length b = b.hi := rfl
    congr 1 <;> omega
  unfold q_safe_numbers
  refine bi (s_need_board g) (bi (rg1_nat (n := b.hi) (by omega)) (bi (lcM_all b.ln fun x hx => s_ln g (by have := List.mem_range.mp hx; omega)) (bi (oMax_eq (m := b.sn1) (top_mem (Bd.sn1_ne g)) (top_le (Bd.sn1_ne g))) (bi (s_lines_of g) (bi (x := (List.range' b.hi b.wi).map b.ln) ?_ (bi (oMax_eq (m := b.sn2) (top_mem (Bd.sn2_ne g)) (top_le (Bd.sn2_ne g))) rfl))))))
  rw [c]
  exact lcM_all b.ln fun x hx => s_ln g (by have := List.mem_range'_1.mp hx; omega)
theorem s_safe_lines : q_safe_lines b = some (b.lns.filter fun x => decide (b.ln x = if x < b.hi then b.sn1 else b.sn2)) := by
  have h6 := g.h6
  have w6 := g.w6
  unfold q_safe_lines
  refine bi (s_safe_numbers g) (bi (s_lines_of g) (bi (loopM_eq (fun ys => ys.filter fun x => decide (b.ln x = if x < b.hi then b.sn1 else b.sn2)) fun ys x zs e => ?_) rfl))
  have hx : x < b.hi + b.wi := Bd.mem_lns.mp (by rw [e]; simp)
  have len := congrArg List.length e
  simp [Bd.lns] at len
  have fl := List.length_filter_le (fun x => decide (b.ln x = if x < b.hi then b.sn1 else b.sn2)) ys
  refine bi (s_numbers g hx) (bi (oMin_eq (m := b.ln x) (bot_mem (Bd.nums_ne g x)) (bot_le (Bd.nums_ne g x))) ?_)
  have key : ∀ v : Int, (if x < b.hi then b.sn1 else b.sn2) = v → (if decide (b.ln x = v) = true then (catL (ys.filter fun x => decide (b.ln x = if x < b.hi then b.sn1 else b.sn2)) [x]).bind fun (x19 : (List Nat)) => some x19 else some (ys.filter fun x => decide (b.ln x = if x < b.hi then b.sn1 else b.sn2))).bind (fun (z20 : (List Nat)) => some z20) = some ((ys ++ [x]).filter fun x => decide (b.ln x = if x < b.hi then b.sn1 else b.sn2)) := fun v hv => by
    rw [List.filter_append, List.filter_cons, hv]
    by_cases q : b.ln x = v
    · exact bi (ifi (by simp [q]) (bi (catL_of (by simp; omega)) rfl)) (by simp [q])
    · exact bi (ifo (by simp [q]) rfl) (by simp [q])
  by_cases z : x < b.hi
  · exact bi (ifi (decide_eq_true z) rfl) (bi (x := b.sn1) at_0 (key _ (by rw [if_pos z])))
  · exact bi (ifo (decide_eq_false z) rfl) (bi (x := b.sn2) (atI_get (i := 1) (by simp)) (key _ (by rw [if_neg z])))
end
end L2.Z
namespace L2.Z
open PySem L2.Z.Q
theorem maxD_spec {α : Type} {e : α → PyData} {l : List α} {m : α} (h : maxD e l = some m) : m ∈ l ∧ ∀ x ∈ l, PySem.W.dataLt (e m) (e x) = false := by
  cases l with
  | nil => cases h
  | cons a l =>
    rw [maxD] at h
    have h := Option.some.inj h
    have up : ∀ (l : List α) (a : α), (l.foldl (fun m x => if PySem.W.dataLt (e m) (e x) = true then x else m) a) = a ∨ PySem.W.dataLt (e a) (e (l.foldl (fun m x => if PySem.W.dataLt (e m) (e x) = true then x else m) a)) = true := fun l => by
      induction l with
      | nil => intro a; exact .inl rfl
      | cons c l ih =>
        intro a
        rw [List.foldl_cons]
        by_cases q : PySem.W.dataLt (e a) (e c) = true
        · rw [if_pos q]
          rcases ih c with h | h
          · rw [h]; exact .inr q
          · exact .inr (dLt_tr q h)
        · rw [if_neg q]; exact ih a
    have key : ∀ (l : List α) (a : α), (l.foldl (fun m x => if PySem.W.dataLt (e m) (e x) = true then x else m) a) ∈ a :: l ∧ ∀ x ∈ a :: l, PySem.W.dataLt (e (l.foldl (fun m x => if PySem.W.dataLt (e m) (e x) = true then x else m) a)) (e x) = false := fun l => by
      induction l with
      | nil => intro a; exact ⟨by simp, fun x hx => by rw [List.mem_singleton.mp hx]; exact dLt_irr _⟩
      | cons c l ih =>
        intro a
        rw [List.foldl_cons]
        by_cases q : PySem.W.dataLt (e a) (e c) = true
        · rw [if_pos q]
          obtain ⟨h1, h2⟩ := ih c
          refine ⟨by simp only [List.mem_cons] at h1 ⊢; exact .inr h1, fun x hx => ?_⟩
          rcases List.mem_cons.mp hx with rfl | hx
          · cases hz : PySem.W.dataLt (e (l.foldl (fun m x => if PySem.W.dataLt (e m) (e x) = true then x else m) c)) (e x) with
            | false => rfl
            | true =>
              have := h2 c (by simp)
              rw [dLt_tr hz q] at this; cases this
          · exact h2 x hx
        · rw [if_neg q]
          obtain ⟨h1, h2⟩ := ih a
          refine ⟨by simp only [List.mem_cons] at h1 ⊢; rcases h1 with h1 | h1; exact .inl h1; exact .inr (.inr h1), fun x hx => ?_⟩
          rcases List.mem_cons.mp hx with rfl | hx
          · exact h2 x (by simp)
          · rcases List.mem_cons.mp hx with rfl | hx
            · cases hz : PySem.W.dataLt (e (l.foldl (fun m x => if PySem.W.dataLt (e m) (e x) = true then x else m) a)) (e x) with
              | false => rfl
              | true =>
                rcases up l a with h | h
                · rw [h] at hz; exact absurd hz q
                · exact absurd (dLt_tr h hz) q
            · exact h2 x (by simp [hx])
    rw [← h]
    exact key l a
theorem maxD_some {α : Type} {e : α → PyData} {l : List α} (h : l ≠ []) : ∃ m, maxD e l = some m := by
  cases l with
  | nil => exact absurd rfl h
  | cons a l => exact ⟨_, rfl⟩
theorem atI_last {α : Type} {l : List α} {x : α} (h : l.getLast? = some x) : atI l (-(1 : Int)) = some x := by
  have ne : l ≠ [] := fun z => by subst z; cases h
  have h1 : 0 < l.length := List.length_pos_iff.mpr ne
  rw [List.getLast?_eq_getElem?] at h
  unfold atI
  have : ixN l.length (-(1 : Int)) = some (l.length - 1) := by
    unfold ixN
    first
      | (rw [if_neg (by omega), if_pos (by omega)]; congr 1; omega)
      | simp; omega
  rw [this, Option.bind_some, h]
section
variable {b : Bd} {l : List Nat} (g : b.Good)
include g
theorem s__law_answers {x : Nat} (hx : x < b.hi + b.wi) (hn : b.cross l x ≠ []) : q__law_answers b l x = some (b.ans l x) := by
  unfold q__law_answers
  have fin : ∀ z : List (Int × Nat), z = (b.cross l x).map (fun c => (b.num c x, c)) → ((maxD (zP zI eI) z).bind fun (x22 : (Int × Nat)) => some ((z.filter (fun (y23 : (Int × Nat)) => decide (y23.1 = x22.1))).map (fun (y23 : (Int × Nat)) => y23.2))) = some (b.ans l x) := fun z hz => by
    have ne : z ≠ [] := by rw [hz]; simpa using hn
    obtain ⟨m, em⟩ := maxD_some (e := zP zI eI) ne
    obtain ⟨h1, h2⟩ := maxD_spec em
    refine bi em ?_
    have top : ∀ c ∈ b.cross l x, b.num c x ≤ m.1 := fun c hc => by
      have := h2 (b.num c x, c) (by rw [hz]; exact List.mem_map.mpr ⟨c, hc, rfl⟩)
      by_cases q : b.num c x ≤ m.1
      · exact q
      · exfalso
        have q : m.1 < b.num c x := by omega
        rw [show PySem.W.dataLt (zP zI eI m) (zP zI eI (b.num c x, c)) = decide (m.1 < b.num c x ∨ (m.1 = b.num c x ∧ (m.2 : Int) < (c : Int))) from PySem.W.dataLt_ii _ _ _ _, decide_eq_true (.inl q)] at this
        cases this
    obtain ⟨c0, hc0, e0⟩ := List.mem_map.mp (hz ▸ h1)
    congr 1
    rw [hz, List.filter_map, List.map_map]
    unfold Bd.ans
    rw [show ((fun (y23 : (Int × Nat)) => y23.2) ∘ fun c => (b.num c x, c)) = id from rfl, List.map_id]
    refine List.filter_congr fun c hc => ?_
    rw [Bool.eq_iff_iff, Function.comp, decide_eq_true_eq, List.all_eq_true]
    constructor
    · intro h d hd
      have := top d hd
      exact decide_eq_true (by simp only at h; omega)
    · intro h
      have h1 := of_decide_eq_true (h c0 hc0)
      have h2 := top c hc
      rw [← e0] at h2 ⊢
      simp only at h2 ⊢
      omega
  by_cases z : x < b.hi
  · have cr : b.cross l x = b.colsL l := by unfold Bd.cross; rw [if_pos z]
    obtain ⟨r, h1, h2, h3⟩ := s_row g z
    refine bi (x := (b.cross l x).map fun c => (b.num c x, c)) (ifi (decide_eq_true z) (bi (s__law_columns g l) (bi (x := (b.cross l x).map fun c => (b.num c x, c)) ?_ rfl))) (fin _ rfl)
    rw [cr]
    refine lcM_all (fun c => (b.num c x, c)) fun y hy => ?_
    have hy := Bd.mem_colsL.mp hy
    have hlt : y - b.hi < r.length := by omega
    refine bi h1 (bi (x := r[y - b.hi]) (atI_sub (i := y) (j := b.hi) hy.1.1 (List.getElem?_eq_getElem hlt)) ?_)
    have := (Bd.num_pair g h2 (List.getElem?_eq_getElem hlt)).2
    rw [show b.hi + (y - b.hi) = y by omega] at this
    rw [this]
  · have cr : b.cross l x = b.rowsL l := by unfold Bd.cross; rw [if_neg z]
    refine bi (x := (b.cross l x).map fun c => (b.num c x, c)) (ifo (decide_eq_false z) (bi (s__law_rows g l) (bi (x := (b.cross l x).map fun c => (b.num c x, c)) ?_ rfl))) (fin _ rfl)
    rw [cr]
    refine lcM_all (fun c => (b.num c x, c)) fun y hy => ?_
    have hy := Bd.mem_rowsL.mp hy
    obtain ⟨r, h1, h2, h3⟩ := s_row g hy.1
    have hlt : x - b.hi < r.length := by omega
    refine bi h1 (bi (x := r[x - b.hi]) (atI_sub (i := x) (j := b.hi) (by omega) (List.getElem?_eq_getElem hlt)) ?_)
    have := (Bd.num_pair g h2 (List.getElem?_eq_getElem hlt)).1
    rw [show b.hi + (x - b.hi) = x by omega] at this
    rw [this]
theorem s__law_bests (hn : ∀ x, b.cross l x ≠ []) : q__law_bests b l = some (b.bes l) := by
  have h6 := g.h6
  have w6 := g.w6
  have rl : (b.rowsL l).length ≤ 6 := by have := List.length_filter_le (fun x => !decide (x ∈ l)) (List.range b.hi); simp [Bd.rowsL] at this ⊢; omega
  have cl : (b.colsL l).length ≤ 6 := by have := List.length_filter_le (fun x => !decide (x ∈ l)) (List.range' b.hi b.wi); simp [Bd.colsL] at this ⊢; omega
  have fl : ∀ (ys : List Nat) (Q : Nat → List Nat), (∀ y, (Q y).length ≤ 6) → (ys.flatMap fun x => (Q x).map fun y => (x, y)).length ≤ 6 * ys.length := fun ys Q hQ => by
    induction ys with
    | nil => simp
    | cons y ys ih => have := hQ y; simp; simp at ih; omega
  have fQ : ∀ (x : Nat) (ys : List Nat), ys.length ≤ 6 → (ys.filter fun y => decide (x ∈ b.ans l y) && decide (y ∈ b.ans l x)).length ≤ 6 := fun x ys h => Nat.le_trans (List.length_filter_le _ _) h
  unfold q__law_bests Bd.bes
  refine bi (s__law_rows g l) (bi (loopM_eq (fun ys => ys.flatMap fun x => ((b.colsL l).filter fun y => decide (x ∈ b.ans l y) && decide (y ∈ b.ans l x)).map fun y => (x, y)) fun ys x zs e => ?_) rfl)
  have hx := Bd.mem_rowsL.mp (show x ∈ b.rowsL l by rw [e]; simp)
  have le := congrArg List.length e
  simp at le
  have b1 := fl ys (fun x => (b.colsL l).filter fun y => decide (x ∈ b.ans l y) && decide (y ∈ b.ans l x)) (fun x => fQ x _ cl)
  rw [List.flatMap_append]
  generalize (ys.flatMap fun x => ((b.colsL l).filter fun y => decide (x ∈ b.ans l y) && decide (y ∈ b.ans l x)).map fun y => (x, y)) = S at b1
  refine bi (s__law_columns g l) (bi (x := S ++ ((b.colsL l).filter fun y => decide (x ∈ b.ans l y) && decide (y ∈ b.ans l x)).map fun y => (x, y)) ?_ (by simp))
  have key := loopM_eq (xs := b.colsL l) (f := fun (y32 : Nat) (s31 : (List (Nat × Nat))) => (q__law_answers b l y32).bind fun (x35 : (List Nat)) => (if (decide (x ∈ x35)) then (q__law_answers b l x).bind fun (x36 : (List Nat)) => some (decide (y32 ∈ x36)) else some false).bind fun (x37 : Bool) => (if x37 then (catL s31 [(x, y32)]).bind fun (x39 : (List (Nat × Nat))) => some x39 else some s31).bind fun (z40 : (List (Nat × Nat))) => some z40) (fun us => S ++ (us.filter fun y => decide (x ∈ b.ans l y) && decide (y ∈ b.ans l x)).map fun y => (x, y)) (fun us y vs e2 => by
    have hy := Bd.mem_colsL.mp (show y ∈ b.colsL l by rw [e2]; simp)
    have l2 := congrArg List.length e2
    simp at l2
    have l3 := List.length_filter_le (fun y => decide (x ∈ b.ans l y) && decide (y ∈ b.ans l x)) us
    refine bi (s__law_answers g (x := y) (by omega) (hn y)) (bi (x := decide (x ∈ b.ans l y) && decide (y ∈ b.ans l x)) ?_ ?_)
    · by_cases q : x ∈ b.ans l y
      · exact ifi (decide_eq_true q) (bi (s__law_answers g (x := x) (by omega) (hn x)) (by simp [q]))
      · exact ifo (decide_eq_false q) (by simp [q])
    · cases q : decide (x ∈ b.ans l y) && decide (y ∈ b.ans l x) with
      | true =>
        have fq : [y].filter (fun y => decide (x ∈ b.ans l y) && decide (y ∈ b.ans l x)) = [y] := by rw [List.filter_cons, if_pos q]; rfl
        exact bi (ifi rfl (bi (catL_of (by simp; omega)) rfl)) (by rw [List.filter_append, fq]; simp)
      | false =>
        have fq : [y].filter (fun y => decide (x ∈ b.ans l y) && decide (y ∈ b.ans l x)) = [] := by rw [List.filter_cons, if_neg (by rw [q]; exact Bool.false_ne_true)]; rfl
        exact bi (ifo rfl rfl) (by rw [List.filter_append, fq]; simp))
  simpa using key
end
end L2.Z
namespace L2.Z
open PySem L2.Z.Q
def it (f : Nat → Nat) : Nat → Nat → Nat
  | 0, x => x
  | k + 1, x => f (it f k x)
section
variable {f : Nat → Nat} {n s : Nat}
theorem it_add (j x : Nat) : ∀ i, it f (i + j) x = it f i (it f j x)
  | 0 => by rw [Nat.zero_add]; rfl
  | i + 1 => by rw [Nat.add_right_comm, it, it, it_add j x i]
theorem it_lt (hf : ∀ x, x < n → f x < n) (hs : s < n) : ∀ i, it f i s < n
  | 0 => hs
  | i + 1 => hf _ (it_lt hf hs i)
structure Rg (f : Nat → Nat) (n s p : Nat) : Prop where
  p1 : 1 ≤ p
  pn : p ≤ n
  per : ∀ t, n ≤ t → it f (t + p) s = it f t s
  dif : ∀ t, n ≤ t → ∀ i j, i < p → j < p → it f (t + i) s = it f (t + j) s → i = j
theorem rg_ex (hf : ∀ x, x < n → f x < n) (hs : s < n) : ∃ p, Rg f n s p := by
  have twice : ∃ i j, i < j ∧ j ≤ n ∧ it f i s = it f j s := by
    apply Classical.byContradiction
    intro h
    have nd : ((List.range (n + 1)).map fun i => it f i s).Nodup := by
      rw [List.Nodup, List.pairwise_map]
      refine List.Pairwise.imp_of_mem (fun {a c} ha hc hac e => ?_) List.pairwise_lt_range
      have hc := List.mem_range.mp hc
      exact h ⟨a, c, hac, by omega, e⟩
    have := Bd.nodup_bound nd (n := n) fun x hx => by
      obtain ⟨i, _, rfl⟩ := List.mem_map.mp hx
      exact it_lt hf hs i
    simp at this
    omega
  obtain ⟨i, j, hij, hj, e⟩ := twice
  obtain ⟨p, hp, ⟨h1, h2⟩, h3⟩ := least_ex (P := fun p => 1 ≤ p ∧ it f (n + p) s = it f n s) (n := n + 1) ⟨j - i, by omega, by omega, by
    have e1 : n + (j - i) = (n - i) + j := by omega
    have e2 : n = (n - i) + i := by omega
    rw [e1, it_add, ← e, ← it_add, ← e2]⟩
  have per : ∀ t, n ≤ t → it f (t + p) s = it f t s := fun t ht => by
    have e1 : t + p = (t - n) + (n + p) := by omega
    rw [e1, it_add, h2, ← it_add, Nat.sub_add_cancel ht]
  have many : ∀ k t, n ≤ t → it f (t + k * p) s = it f t s := fun k => by
    induction k with
    | zero => intro t _; simp
    | succ k ih =>
      intro t ht
      rw [Nat.succ_mul, ← Nat.add_assoc, per _ (by omega), ih t ht]
  refine ⟨p, h1, by omega, per, ?_⟩
  have no : ∀ t, n ≤ t → ∀ i j, i < j → j < p → it f (t + i) s ≠ it f (t + j) s := fun t ht i j hij hj e => by
    have q : it f (n + (j - i)) s = it f n s := by
      have k1 := many (t + i) n (Nat.le_refl _)
      have k2 := many (t + i) (n + (j - i)) (by omega)
      have b1 : t + i ≤ n + (t + i) * p := by
        have := Nat.le_mul_of_pos_right (t + i) (show 0 < p by omega)
        omega
      generalize (t + i) * p = K at k1 k2 b1
      rw [← k2, ← k1]
      have e1 : n + (j - i) + K = (n + K - (t + i)) + (t + j) := by omega
      have e2 : n + K = (n + K - (t + i)) + (t + i) := by omega
      rw [e1, it_add, ← e, ← it_add, ← e2]
    have := h3 (j - i) (by omega) ⟨by omega, q⟩
    omega
  intro t ht i j hi hj e
  rcases Nat.lt_trichotomy i j with h | h | h
  · exact absurd e (no t ht i j h hj)
  · exact h
  · exact absurd e.symm (no t ht j i h hi)
variable {p : Nat}
theorem Rg.many (R : Rg f n s p) : ∀ k t, n ≤ t → it f (t + k * p) s = it f t s := fun k => by
  induction k with
  | zero => intro t _; simp
  | succ k ih =>
    intro t ht
    rw [Nat.succ_mul, ← Nat.add_assoc, R.per _ (by omega), ih t ht]
def rng' (f : Nat → Nat) (s p t : Nat) : List Nat := (List.range p).map fun i => it f (t + i) s
theorem Rg.mem (R : Rg f n s p) {t u : Nat} (ht : n ≤ t) (hu : n ≤ u) {x : Nat} (h : x ∈ rng' f s p t) : x ∈ rng' f s p u := by
  obtain ⟨i, hi, rfl⟩ := List.mem_map.mp h
  have p1 := R.p1
  refine List.mem_map.mpr ⟨(t + i + u * p - u) % p, List.mem_range.mpr (Nat.mod_lt _ p1), ?_⟩
  have b : u ≤ u * p := Nat.le_mul_of_pos_right u p1
  have e := Nat.mod_add_div (t + i + u * p - u) p
  have k1 := R.many u (t + i) (by omega)
  have k2 := R.many ((t + i + u * p - u) / p) (u + (t + i + u * p - u) % p) (by omega)
  rw [Nat.mul_comm p] at e
  rw [← k1, ← k2]
  congr 1
  omega
theorem min_ex : ∀ {l : List Nat}, l ≠ [] → ∃ m, m ∈ l ∧ ∀ k ∈ l, m ≤ k
  | [], h => absurd rfl h
  | [a], _ => ⟨a, by simp, by simp⟩
  | a :: c :: l, _ => by
    obtain ⟨m, h1, h2⟩ := min_ex (l := c :: l) (by simp)
    by_cases q : a ≤ m
    · exact ⟨a, by simp, fun k hk => by
        rcases List.mem_cons.mp hk with rfl | hk
        · exact Nat.le_refl _
        · exact Nat.le_trans q (h2 k hk)⟩
    · exact ⟨m, List.mem_cons_of_mem _ h1, fun k hk => by
        rcases List.mem_cons.mp hk with rfl | hk
        · omega
        · exact h2 k hk⟩
theorem rng'_len {t : Nat} : (rng' f s p t).length = p := by simp [rng']
theorem rng'_ne (R : Rg f n s p) {t : Nat} : rng' f s p t ≠ [] := fun h => by
  have := congrArg List.length h
  rw [rng'_len] at this
  have := R.p1
  simp at *
  omega
theorem Rg.rot (R : Rg f n s p) {t m : Nat} (ht : n ≤ t) (h : m ∈ rng' f s p t) : (rng' f s p t).drop ((rng' f s p t).idxOf m) ++ (rng' f s p t).take ((rng' f s p t).idxOf m) = (List.range p).map fun i => it f i m := by
  have ha := List.idxOf_lt_length_of_mem h
  have hg : (rng' f s p t)[(rng' f s p t).idxOf m] = m := List.getElem_idxOf ha
  generalize (rng' f s p t).idxOf m = a at ha hg
  rw [rng'_len] at ha
  have hm : it f (t + a) s = m := by rw [← hg]; simp [rng']
  refine List.ext_getElem (by simp [rng'_len]; omega) fun i h1 h2 => ?_
  have hi : i < p := by simpa using h2
  rw [List.getElem_append]
  split
  · rename_i q
    simp only [rng', List.getElem_drop, List.getElem_map, List.getElem_range]
    rw [← hm, ← it_add]
    congr 1; omega
  · rename_i q
    rw [List.length_drop, rng'_len] at q
    simp only [rng', List.getElem_take, List.getElem_map, List.getElem_range, List.length_drop, List.length_map, List.length_range]
    rw [← hm, ← it_add, ← R.per (t + (i - (p - a))) (by omega)]
    congr 1; omega
end
end L2.Z
namespace L2.Z.K08
open PySem L2.Z L2.Z.Q
def neg (b : Bd) : Bd := b.map fun r => r.map fun p => (p.1, (0 : Int) - p.1)
theorem neg_hi {b : Bd} : (neg b).hi = b.hi := by simp [neg, Bd.hi]
theorem neg_wi {b : Bd} : (neg b).wi = b.wi := by
  unfold neg Bd.wi
  cases b <;> simp
theorem neg_good {b : Bd} (g : b.Good) (hv : ∀ r ∈ b, ∀ p ∈ r, 0 ≤ p.1 ∧ p.1 ≤ 1000) : (neg b).Good where
  h1 := by rw [neg_hi]; exact g.h1
  h6 := by rw [neg_hi]; exact g.h6
  w1 := by rw [neg_wi]; exact g.w1
  w6 := by rw [neg_wi]; exact g.w6
  rect := fun r hr => by
    obtain ⟨q, hq, rfl⟩ := List.mem_map.mp hr
    rw [neg_wi, List.length_map]; exact g.rect q hq
  val := fun r hr p hp => by
    obtain ⟨q, hq, rfl⟩ := List.mem_map.mp hr
    obtain ⟨u, hu, rfl⟩ := List.mem_map.mp hp
    have := hv q hq u hu
    simp only
    omega
theorem al_Oi {k : Nat} {o : Option Int} : al k (zO zI o) = true := by cases o <;> cases k <;> rfl
section
variable {b : Bd} (g : b.Good)
include g
def agB (b : Bd) : Bool := b.all fun r => r.all fun p => decide (p.1 + p.2 = 0)
omit g in
theorem s_adds : q_adds_up b = some (agB b) := by
  unfold q_adds_up agB
  congr 1
  rw [List.all_map]
  refine congrArg (fun F => List.all b F) (funext fun r => ?_)
  simp [Function.comp, List.all_map]
theorem ag_of (h : agB b = true) : b.Ag := ⟨g, fun i j hi hj => by
  obtain ⟨r, _, h2, h3⟩ := s_row g hi
  have hlt : j < r.length := by omega
  unfold agB at h
  have := of_decide_eq_true (List.all_eq_true.mp (List.all_eq_true.mp h r (List.mem_of_getElem? h2)) _ (List.getElem_mem hlt))
  unfold Bd.at1 Bd.at2
  rw [h2, Option.getD_some, List.getElem?_eq_getElem hlt, Option.getD_some]
  omega⟩
theorem l_against : ∃ Z, loopM b (fun (y34 : (List (Int × Int))) (s33 : (List Nat)) => (catL s33 ((y34.filter (fun (y37 : (Int × Int)) => (!decide ((y37.1 + y37.2) = (0 : Int))))).map (fun (y37 : (Int × Int)) => (1 : Nat)))).bind fun (x38 : (List Nat)) => some x38) ([] : (List Nat)) = some Z ∧ decide (Z = []) = agB b := by
  have h6 := g.h6
  have w6 := g.w6
  obtain ⟨Z, e, h1, h2⟩ := loopM_inv (xs := b) (f := fun (y34 : (List (Int × Int))) (s33 : (List Nat)) => (catL s33 ((y34.filter (fun (y37 : (Int × Int)) => (!decide ((y37.1 + y37.2) = (0 : Int))))).map (fun (y37 : (Int × Int)) => (1 : Nat)))).bind fun (x38 : (List Nat)) => some x38) (s := ([] : List Nat))
    (fun ys s => s.length ≤ 6 * ys.length ∧ decide (s = []) = ys.all fun r => r.all fun p => decide (p.1 + p.2 = 0)) ⟨by simp, rfl⟩ (fun ys y zs s hx ⟨q1, q2⟩ => by
      have hy : y ∈ b := by rw [hx]; simp
      have ly := g.rect y hy
      have le := congrArg List.length hx
      have bl : List.length b = b.hi := rfl
      simp at le
      have fl := List.length_filter_le (fun (y37 : (Int × Int)) => (!decide ((y37.1 + y37.2) = (0 : Int)))) y
      refine ⟨_, bi (catL_of (by simp; omega)) rfl, by simp; omega, ?_⟩
      rw [List.all_append, ← q2]
      by_cases z : s = []
      · subst z
        simp only [List.nil_append, decide_true, Bool.true_and, List.all_cons, List.all_nil, Bool.and_true]
        rw [Bool.eq_iff_iff, decide_eq_true_eq, List.map_eq_nil_iff, List.filter_eq_nil_iff, List.all_eq_true]
        simp
      · simp [z])
  exact ⟨Z, e, h2⟩
def nx (b : Bd) (x : Nat) : Nat := (b.ans [] x).headD 0
theorem nx_lt : ∀ x, x < b.hi + b.wi → nx b x < b.hi + b.wi := fun x hx => by
  have hm := Bd.head_mem (Bd.ans_ne g x)
  unfold nx
  by_cases z : x < b.hi
  · exact (Bd.ans_row z hm).2
  · have := Bd.ans_col (b := b) (x := x) (by omega) hm; omega
theorem l_way {s : Nat} (hs : s < b.hi + b.wi) {ax : Bd → List Nat → Nat → Option (List Nat)} (hax : ∀ x, x < b.hi + b.wi → ax b [] x = some (b.ans [] x)) {k : Nat} (hk : k ≤ 1000) : loopM (List.range k) (fun (y81 : Nat) (s80 : (List Nat)) => (atI s80 (-(1 : Int))).bind fun (x84 : Nat) => (ax b ([] : (List Nat)) x84).bind fun (x85 : (List Nat)) => (atI x85 (0 : Int)).bind fun (x86 : Nat) => (catL s80 [x86]).bind fun (x87 : (List Nat)) => some x87) ([s]) = some ((List.range (k + 1)).map fun i => it (nx b) i s) := by
  have key := loopM_eq (xs := List.range k) (f := fun (y81 : Nat) (s80 : (List Nat)) => (atI s80 (-(1 : Int))).bind fun (x84 : Nat) => (ax b ([] : (List Nat)) x84).bind fun (x85 : (List Nat)) => (atI x85 (0 : Int)).bind fun (x86 : Nat) => (catL s80 [x86]).bind fun (x87 : (List Nat)) => some x87) (fun ys => (List.range (ys.length + 1)).map fun i => it (nx b) i s) fun ys y zs e => by
    have le := congrArg List.length e
    simp at le
    refine bi (x := it (nx b) ys.length s) (atI_last (by rw [List.range_succ, List.map_append]; simp)) (bi (hax _ (it_lt (nx_lt g) hs _)) (bi (atI_eq (i := 0) (Bd.head_get (Bd.ans_ne g _))) (bi (catL_of (by simp; omega)) ?_)))
    rw [List.length_append, List.length_singleton, List.range_succ (n := ys.length + 1), List.map_append]
    rfl
  rw [List.length_range] at key
  exact key
theorem s_walk' {s k : Nat} (hs : s < b.hi) (hk : k ≤ 100) : q_answer_walk b s k = some ((List.range (k + 1)).map fun i => it (nx b) i s) := by
  unfold q_answer_walk
  refine bi (s_need_board g) (bi (s_is_from_t ⟨by omega, by show (s : Int) ≤ ((b.hi : Nat) : Int) - 1; omega⟩) (ifo rfl (bi (s_need_from ⟨by omega, by omega⟩) (bi (rg1_nat (n := k) (by omega)) (bi (l_way g (by omega) (ax := q_answers_of) (fun x hx => s_answers_of g hx (Bd.cross_ne g x)) (by omega)) rfl)))))
theorem fin_ring {p s t m : Nat} (R : Rg (nx b) (b.hi + b.wi) s p) (ht : b.hi + b.wi ≤ t) (hm : m ∈ rng' (nx b) s p t) (hmin : ∀ k ∈ rng' (nx b) s p t, m ≤ k) {γ : Type} {K : List Nat → Option γ} : ((oMinN (rng' (nx b) s p t)).bind fun (x16 : Nat) => (oIndex (rng' (nx b) s p t) x16).bind fun (x17 : Nat) => (catL (cutD (rng' (nx b) s p t) (some (x17 : Int)) none) (cutD (rng' (nx b) s p t) none (some (x17 : Int)))).bind K) = K ((List.range p).map fun i => it (nx b) i m) := by
  have h6 := g.h6
  have w6 := g.w6
  have pn := R.pn
  refine bi (oMinN_eq hm hmin) (bi (oIndex_of hm) (bi (x := (List.range p).map fun i => it (nx b) i m) ?_ rfl))
  rw [cutD_from, cutD_to, ← R.rot ht hm]
  exact catL_of (by rw [List.length_drop, List.length_take, rng'_len]; omega)
theorem s_ring {p s m : Nat} (hs : s < b.hi) (R : Rg (nx b) (b.hi + b.wi) s p) (hm : m ∈ rng' (nx b) s p (2 * (b.hi + b.wi))) (hmin : ∀ k ∈ rng' (nx b) s p (2 * (b.hi + b.wi)), m ≤ k) : q_answer_ring b s = some ((List.range p).map fun i => it (nx b) i m) := by
  have h6 := g.h6
  have w6 := g.w6
  have pn := R.pn
  have p1 := R.p1
  have hs' : s < b.hi + b.wi := by omega
  have lt := it_lt (nx_lt g) hs'
  obtain ⟨t, ht⟩ : ∃ t, t = 2 * (b.hi + b.wi) := ⟨_, rfl⟩
  rw [← ht] at hm hmin
  unfold q_answer_ring
  refine bi (s_need_board g) (bi (s_sides g) (bi (x := t) (by rw [ht]; exact oMulN_s (by omega) (by show b.hi + b.wi < _; omega)) (bi (s_walk' g hs (by omega)) (bi (x := it (nx b) t s) (atI_last (by rw [List.range_succ, List.map_append]; simp)) (bi (s_answers_of g (lt t) (Bd.cross_ne g _)) (bi (atI_eq (i := 0) (Bd.head_get (Bd.ans_ne g _))) ?_))))))
  obtain ⟨⟨A, y⟩, e, rfl⟩ := whM_inv (n := FU) (c := fun (s11 : ((List Nat) × Nat)) => some (!decide (s11.2 = it (nx b) t s))) (f := fun (s11 : ((List Nat) × Nat)) => (catL s11.1 [s11.2]).bind fun (x13 : (List Nat)) => (q_answers_of b ([] : (List Nat)) s11.2).bind fun (x14 : (List Nat)) => (atI x14 (0 : Int)).bind fun (x15 : Nat) => some (x13, x15)) (s := ([it (nx b) t s], nx b (it (nx b) t s)))
    (fun S => ∃ i, 1 ≤ i ∧ i ≤ p ∧ S = ((List.range i).map (fun j => it (nx b) (t + j) s), it (nx b) (t + i) s)) (fun S => 13 - S.1.length) (fun S => S.1 = rng' (nx b) s p t) ⟨1, Nat.le_refl _, p1, rfl⟩ (fu (k := 13) (by simp) (by decide)) (fun S ⟨i, h1, h2, hS⟩ => by
      subst hS
      by_cases q : i = p
      · subst q
        exact .inl ⟨by simp [R.per t (by omega)], rfl⟩
      · have ne : it (nx b) (t + i) s ≠ it (nx b) t s := fun z => by
          have := R.dif t (by omega) i 0 (by omega) (by omega) z
          omega
        refine .inr ⟨((List.range (i + 1)).map (fun j => it (nx b) (t + j) s), it (nx b) (t + (i + 1)) s), by simp [ne], bi (catL_of (by simp; omega)) (bi (s_answers_of g (lt _) (Bd.cross_ne g _)) (bi (atI_eq (i := 0) (Bd.head_get (Bd.ans_ne g _))) ?_)), ⟨i + 1, by omega, by omega, rfl⟩, by simp; omega⟩
        rw [List.range_succ, List.map_append]
        rfl)
  refine bi e ?_
  exact fin_ring g R (by omega) hm hmin (K := fun x => some x)
theorem l_ring {p s : Nat} (hs : s < b.hi + b.wi) (R : Rg (nx b) (b.hi + b.wi) s p) : loopM ((List.range' 41 20).map fun i => it (nx b) i s) (fun (y95 : Nat) (s94 : (List Nat)) => (if (!decide (y95 ∈ s94)) then (catL s94 [y95]).bind fun (x99 : (List Nat)) => some x99 else some s94).bind fun (z100 : (List Nat)) => some z100) ([it (nx b) 40 s]) = some (rng' (nx b) s p 40) := by
  have h6 := g.h6
  have w6 := g.w6
  have pn := R.pn
  have p1 := R.p1
  rw [show rng' (nx b) s p 40 = (List.range (min (((List.range' 41 20).map fun i => it (nx b) i s).length + 1) p)).map fun i => it (nx b) (40 + i) s by
    rw [List.length_map, List.length_range', Nat.min_eq_right (by omega)]; rfl]
  have key := loopM_eq (xs := (List.range' 41 20).map fun i => it (nx b) i s) (f := fun (y95 : Nat) (s94 : (List Nat)) => (if (!decide (y95 ∈ s94)) then (catL s94 [y95]).bind fun (x99 : (List Nat)) => some x99 else some s94).bind fun (z100 : (List Nat)) => some z100) (fun ys => (List.range (min (ys.length + 1) p)).map fun i => it (nx b) (40 + i) s) fun ys y zs e => by
    have le := congrArg List.length e
    simp at le
    have hy : y = it (nx b) (41 + ys.length) s := by
      have := congrArg (fun l => l[ys.length]?) e
      simp at this
      rw [List.getElem?_range' (by omega)] at this
      obtain ⟨a, h1, h2⟩ := this
      have h1 := Option.some.inj h1
      rw [← h2, ← h1, Nat.one_mul]
    rw [List.length_append, List.length_singleton]
    by_cases q : ys.length + 1 < p
    · rw [Nat.min_eq_left (by omega), Nat.min_eq_left (by omega)]
      refine bi (ifi ?_ (bi (catL_of (by simp; omega)) rfl)) ?_
      · simp only [Bool.not_eq_true', decide_eq_false_iff_not]
        intro hm
        obtain ⟨i, hi, e2⟩ := List.mem_map.mp hm
        have hi := List.mem_range.mp hi
        rw [hy, show 41 + ys.length = 40 + (ys.length + 1) by omega] at e2
        have := R.dif 40 (by omega) i (ys.length + 1) (by omega) q e2
        omega
      · rw [List.range_succ (n := ys.length + 1), List.map_append, hy, show 41 + ys.length = 40 + (ys.length + 1) by omega]
        rfl
    · rw [Nat.min_eq_right (by omega), Nat.min_eq_right (by omega)]
      refine bi (ifo ?_ rfl) rfl
      have : y ∈ rng' (nx b) s p (41 + ys.length) := List.mem_map.mpr ⟨0, List.mem_range.mpr p1, by rw [hy]; rfl⟩
      have := R.mem (t := 41 + ys.length) (u := 40) (by omega) (by omega) this
      have h2 : y ∈ (List.range p).map fun i => it (nx b) (40 + i) s := this
      simp [h2]
  have h0 : (List.range (min (([] : List Nat).length + 1) p)).map (fun i => it (nx b) (40 + i) s) = [it (nx b) 40 s] := by
    rw [show min (([] : List Nat).length + 1) p = 1 from Nat.min_eq_left p1]; rfl
  rw [← h0]; exact key
end
theorem law_q (ns : List Int) : q_law ns = some true := by
  obtain ⟨b0, R1, e1, k1, g0, hh, hw, hv⟩ := s_board (RowOk.start ns 5208 0) (H := 5) (W := 5) (m := 5) (by omega) (by omega) (by omega)
  obtain ⟨t, R2, e2, ht, k2⟩ := s_taken k1 (m := 2) (by omega)
  have hB : ∃ b : Bd, b.Good ∧ b.hi ≤ 5 ∧ b.wi ≤ 5 ∧ (if decide (t = (0 : Nat)) = true then (some (b0.map (fun (y6 : (List (Int × Int))) => (y6.map (fun (y7 : (Int × Int)) => (y7.1, ((0 : Int) - y7.1))))))).bind fun (x8 : (List (List (Int × Int)))) => some x8 else some b0) = some b := by
    by_cases z : t = 0
    · exact ⟨neg b0, neg_good g0 fun r hr p hp => by have := hv r hr p hp; omega, by rw [neg_hi]; exact hh, by rw [neg_wi]; exact hw, ifi (decide_eq_true z) rfl⟩
    · exact ⟨b0, g0, hh, hw, ifo (decide_eq_false z) rfl⟩
  obtain ⟨b, g, hh, hw, eB⟩ := hB
  obtain ⟨r0, e0, l0⟩ := s_at0 g
  have bl : b.length = b.hi := rfl
  have h1 := g.h1
  have lnum : ∀ x, x < b.hi + b.wi → ((q__law_numbers b ([] : (List Nat)) x).bind fun (x13 : (List Int)) => (oMin x13).bind fun (x14 : Int) => some x14) = some (b.ln x) := fun x hx => bi (s__law_numbers g hx) (bi (oMin_eq (m := b.ln x) (bot_mem (Bd.nums_ne g x)) (bot_le (Bd.nums_ne g x))) rfl)
  have cut1 : cutD ((List.range (b.hi + b.wi)).map b.ln) none (some (b.length : Int)) = (List.range b.hi).map b.ln := by
    rw [cutD_to, bl, ← List.map_take, List.take_range, Nat.min_eq_left (by omega)]
  have cut2 : cutD ((List.range (b.hi + b.wi)).map b.ln) (some (b.length : Int)) none = (List.range' b.hi b.wi).map b.ln := by
    rw [cutD_from, bl, ← List.map_drop, List.range_eq_range', List.drop_range']
    congr 2 <;> omega
  obtain ⟨Z, eZ, hZ⟩ := l_against g
  have safe : (List.range b.hi).filter (fun y => decide (b.ln y = b.sn1)) ++ (List.range' b.hi b.wi).filter (fun y => decide (b.ln y = b.sn2)) = b.lns.filter fun x => decide (b.ln x = if x < b.hi then b.sn1 else b.sn2) := by
    unfold Bd.lns
    rw [List.range_eq_range' (n := b.hi + b.wi), ← List.range'_append_1, List.filter_append, ← List.range_eq_range', Nat.zero_add]
    congr 1
    · exact List.filter_congr fun y hy => by rw [if_pos (List.mem_range.mp hy)]
    · exact List.filter_congr fun y hy => by rw [if_neg (by have := List.mem_range'_1.mp hy; omega)]
  have atl : ∀ y, y < b.hi + b.wi → atI ((List.range (b.hi + b.wi)).map b.ln) (y : Int) = some (b.ln y) := fun y hy => by rw [atI_get (by simpa using hy)]; simp
  obtain ⟨s, R3, e3, hs, k3⟩ := s_taken k2 (m := b.hi) (by omega)
  obtain ⟨k, R4, e4, hk, k4⟩ := s_taken k3 (m := 12) (by omega)
  obtain ⟨p, R⟩ := rg_ex (nx_lt g) (show s < b.hi + b.wi by omega)
  obtain ⟨m, hm, hmin⟩ := min_ex (rng'_ne R (t := 40))
  unfold q_law
  refine bi e1 (bi e2 (bi eB (bi e0 (bi (x := List.range (b.hi + b.wi)) (by rw [l0]; exact rg1_nat (n := b.hi + b.wi) (by omega)) (bi (lcM_all b.ln fun x hx => lnum x (List.mem_range.mp hx)) ?_)))))
  rw [cut1, cut2]
  refine bi (oMax_eq (m := b.sn1) (top_mem (Bd.sn1_ne g)) (top_le (Bd.sn1_ne g))) (bi (oMax_eq (m := b.sn2) (top_mem (Bd.sn2_ne g)) (top_le (Bd.sn2_ne g))) (bi (s_safe_numbers g) (bi (oAlike_self (al_P al_I al_I)) (ifo rfl (bi (rg1_nat (n := b.hi) (by omega)) (bi (lcM_sel (fun y => decide (b.ln y = b.sn1)) fun y hy => bi (atl y (by have := List.mem_range.mp hy; omega)) rfl) (bi (x := List.range' b.hi b.wi) ?_ (bi (lcM_sel (fun y => decide (b.ln y = b.sn2)) fun y hy => bi (atl y (List.mem_range'_1.mp hy).2) rfl) (bi (x := b.lns.filter fun x => decide (b.ln x = if x < b.hi then b.sn1 else b.sn2)) ?_ (bi (s_safe_lines g) (bi (oAlike_self (al_T (k := 5) (Nat.le_trans (List.length_filter_le _ _) (by rw [show b.lns.length = b.hi + b.wi from List.length_range]; omega)) fun _ _ => al_n)) (ifo rfl (bi eZ ?_)))))))))))))
  · rw [l0, bl, rg2_nat (by omega) (by omega)]
    congr 2; omega
  · rw [← safe]
    exact catL_of (by
      have q1 := List.length_filter_le (fun y => decide (b.ln y = b.sn1)) (List.range b.hi)
      have q2 := List.length_filter_le (fun y => decide (b.ln y = b.sn2)) (List.range' b.hi b.wi)
      rw [List.length_range] at q1
      rw [List.length_range'] at q2
      omega)
  refine bi (x := agB b) (bi (s_need_board g) (bi s_adds rfl)) (bi (x := true) (by rw [hZ]; simp [q__law_is]) (ifo rfl (bi (x := .nx (if agB b = true then "" else "not")) (bi (s__law_bests g (Bd.cross_ne g)) (bi (x := !agB b) ?_ ?_)) ?_)))
  · unfold x_saddle x_need_against
    refine bi (bi (s_need_board g) (bi s_adds (x := agB b) ?_)) ?_ (x := !agB b)
    · cases agB b <;> rfl
    · cases agB b <;> rfl
  · cases ha : agB b with
    | false => rfl
    | true =>
      have H := ag_of g ha
      have hgap := H.gap
      have hbes := H.bes_eq
      have na : q_need_against b = some () := bi (s_need_board g) (bi s_adds (ifo (by rw [ha]; rfl) rfl))
      have sg : q_gap b = some (-b.sn2 - b.sn1) := bi na (bi (s_safe_numbers g) rfl)
      have nR : b.sfR ≠ [] := fun z => by
        obtain ⟨i, hi, e⟩ := List.mem_map.mp (top_mem (Bd.sn1_ne g))
        have : i ∈ b.sfR := List.mem_filter.mpr ⟨hi, decide_eq_true e⟩
        rw [z] at this; cases this
      have nC : b.sfC ≠ [] := fun z => by
        obtain ⟨i, hi, e⟩ := List.mem_map.mp (top_mem (Bd.sn2_ne g))
        have : i ∈ b.sfC := List.mem_filter.mpr ⟨hi, decide_eq_true e⟩
        rw [z] at this; cases this
      have biff : b.bes [] = [] ↔ b.sn1 ≠ - b.sn2 := by
        rw [hbes]
        by_cases q : b.sn1 = - b.sn2
        · rw [if_pos q]
          refine ⟨fun h => ?_, fun h => absurd q h⟩
          obtain ⟨i, hi⟩ := List.exists_mem_of_ne_nil _ nR
          obtain ⟨j, hj⟩ := List.exists_mem_of_ne_nil _ nC
          have : (i, j) ∈ b.sfR.flatMap fun x => b.sfC.map fun y => (x, y) := List.mem_flatMap.mpr ⟨i, hi, List.mem_map.mpr ⟨j, hj, rfl⟩⟩
          rw [h] at this; cases this
        · rw [if_neg q]; exact ⟨fun _ => q, fun _ => rfl⟩
      have sad : ∃ v, q_saddle b = some v ∧ (if (!decide (b.bes [] = ([] : (List (Nat × Nat))))) = true then (atI (b.bes []) (0 : Int)).bind fun (x57 : (Nat × Nat)) => (atI b (x57.1 : Int)).bind fun (x58 : (List (Int × Int))) => (atI (b.bes []) (0 : Int)).bind fun (x59 : (Nat × Nat)) => (atI x58 ((x59.2 : Int) - (b.length : Int))).bind fun (x60 : (Int × Int)) => some (some x60.1) else some none) = some v := by
        by_cases q : b.bes [] = []
        · exact ⟨none, bi na (bi (s_bests_of g (Bd.cross_ne g)) (bi (ifo (by simp [q]) rfl) rfl)), ifo (by simp [q]) rfl⟩
        · cases hq : b.bes [] with
          | nil => exact absurd hq q
          | cons u us =>
            have hu := (Bd.mem_bes (b := b) (l := []) (p := u)).mp (by rw [hq]; simp)
            have hr := (Bd.mem_rowsL.mp hu.1.1).1
            have hc := (Bd.mem_colsL.mp hu.1.2).1
            obtain ⟨r, c1, c2, c3⟩ := s_row g hr
            have hlt : u.2 - b.hi < r.length := by omega
            have a0 : atI (u :: us) (0 : Int) = some u := atI_get (i := 0) (by simp)
            have a1 : atI r ((u.2 : Int) - (b.length : Int)) = some r[u.2 - b.hi] := atI_sub (i := u.2) (j := b.hi) hc.1 (List.getElem?_eq_getElem hlt)
            have both : (if (!decide (u :: us = ([] : (List (Nat × Nat))))) = true then (atI (u :: us) (0 : Int)).bind fun (x57 : (Nat × Nat)) => (atI b (x57.1 : Int)).bind fun (x58 : (List (Int × Int))) => (atI (u :: us) (0 : Int)).bind fun (x59 : (Nat × Nat)) => (atI x58 ((x59.2 : Int) - (b.length : Int))).bind fun (x60 : (Int × Int)) => some (some x60.1) else some none) = some (some r[u.2 - b.hi].1) := ifi (by simp) (bi a0 (bi c1 (bi a0 (bi a1 rfl))))
            refine ⟨some r[u.2 - b.hi].1, bi na (bi (s_bests_of g (Bd.cross_ne g)) ?_), both⟩
            rw [hq]
            exact bi both rfl
      obtain ⟨v, ev, ev2⟩ := sad
      refine ifo rfl (bi ev (bi ev2 (bi (oAlike_self al_Oi) (ifo rfl (bi sg (bi (x := true) ?_ (bi (x := false) (ifo rfl (bi sg ?_)) (ifo rfl (bi sg (ifo ?_ rfl))))))))))
      · rw [show (0 : Int) - b.sn1 - b.sn2 = -b.sn2 - b.sn1 by omega]
        exact oAlike_self al_I
      · congr 1
        rw [Bool.not_eq_false', decide_eq_true_eq, Bool.eq_iff_iff]
        simp only [decide_eq_true_eq, Bool.not_eq_true', decide_eq_false_iff_not, biff]
        omega
      · exact decide_eq_false (by omega)
  show (if (!decide (decide ((if agB b = true then ("" : Str) else "not") = "") = decide (Z = []))) = true then _ else _) = _
  refine ifo ?_ (bi e3 (bi e4 (bi (rg1_nat (n := 60) (by omega)) (bi (l_way g (ax := q__law_answers) (k := 60) (show s < b.hi + b.wi by omega) (fun x hx => s__law_answers g hx (Bd.cross_ne g x)) (by omega)) (bi (s_walk' g hs (k := k) (by omega)) (bi (x := true) ?_ (ifo rfl (bi (x := it (nx b) 40 s) ?_ ?_))))))))
  · rw [hZ]; cases agB b <;> rfl
  · rw [cutD_to, ← List.map_take, List.take_range, Nat.min_eq_left (by omega)]
    exact oAlike_self (al_T (k := 5) (by simp; omega) fun _ _ => al_n)
  · exact atI_eq (i := 40) (by simp)
  · have c41 : cutD ((List.range 61).map fun i => it (nx b) i s) (some (41 : Int)) none = (List.range' 41 20).map fun i => it (nx b) i s := by
      have := cutD_from ((List.range 61).map fun i => it (nx b) i s) 41
      rw [show ((41 : Nat) : Int) = 41 from rfl] at this
      rw [this, ← List.map_drop, List.range_eq_range', List.drop_range']
    rw [c41]
    refine bi (l_ring g (by omega) R) ?_
    have hm2 : m ∈ rng' (nx b) s p (2 * (b.hi + b.wi)) := R.mem (by omega) (by omega) hm
    have hmin2 : ∀ k ∈ rng' (nx b) s p (2 * (b.hi + b.wi)), m ≤ k := fun k hk => hmin k (R.mem (by omega) (by omega) hk)
    have pn := R.pn
    have sr := s_ring g hs R hm2 hmin2
    refine bi (oMinN_eq hm hmin) (bi (oIndex_of hm) (bi sr (bi (x := (List.range p).map fun i => it (nx b) i m) ?_ (bi (oAlike_self (al_T (k := 5) (by simp; omega) fun _ _ => al_n)) rfl))))
    rw [cutD_from, cutD_to, ← R.rot (by omega) hm]
    exact catL_of (by rw [List.length_drop, List.length_take, rng'_len]; omega)
end L2.Z.K08
namespace L2.Z.K08
open PySem L2.Z
def b_is_int : Ss := .cons (.ret (.and (.op1 pIsInt (.v 0)) (.op1 pNot (.op1 pIsBool (.v 0))))) (.nil)
abbrev f_is_int : Nat := 0
def b_is_from : Ss := .cons (.ret (.and (.call 0 (.cons (.v 0) (.nil))) (.chain pLe pLe (.v 1) (.v 0) (.v 2)))) (.nil)
abbrev f_is_from : Nat := 1
def b_need_from : Ss := .cons (.ite (.op1 pNot (.call 1 (.cons (.v 0) (.cons (.v 1) (.cons (.v 2) (.nil)))))) (.cons (.stuck) (.nil)) (.nil)) (.nil)
abbrev f_need_from : Nat := 2
def c_is_place_0 : X := .lc (.call 1 (.cons (.v 1) (.cons (.op1 pNeg (.k (.int 1000))) (.cons (.k (.int 1000)) (.nil))))) (.n 1) gSeq (.cons (.v 0) .nil) (.k (.bool true)) [1]
def b_is_place : Ss := .cons (.ite (.or (.op1 pNot (.op1 pIsTup (.v 0))) (.op2 pNe (.op1 pLen (.v 0)) (.k (.int 2)))) (.cons (.ret (.k (.bool false))) (.nil)) (.nil)) (.cons (.ret (.op1 pAll (c_is_place_0))) (.nil))
abbrev f_is_place : Nat := 3
def c_need_board_0 : X := .lc (.call 3 (.cons (.v 3) (.nil))) (.n 3) gSeq (.cons (.v 2) .nil) (.k (.bool true)) [3]
def w_need_board_0 : S := .frr (.t (.n 1) (.n 2)) gEnum (.cons (.v 0) .nil) (.cons (.ite (.or (.op1 pNot (.op1 pIsTup (.v 2))) (.or (.op1 pNot (.chain pLe pLe (.k (.int 1)) (.op1 pLen (.v 2)) (.k (.int 6)))) (.op2 pNe (.op1 pLen (.v 2)) (.op1 pLen (.op2 pIdx (.v 0) (.k (.int 0))))))) (.cons (.stuck) (.nil)) (.nil)) (.cons (.ite (.op1 pNot (.op1 pAll (c_need_board_0))) (.cons (.stuck) (.nil)) (.nil)) (.nil)))
def b_need_board : Ss := .cons (.ite (.or (.op1 pNot (.op1 pIsTup (.v 0))) (.op1 pNot (.chain pLe pLe (.k (.int 1)) (.op1 pLen (.v 0)) (.k (.int 6))))) (.cons (.stuck) (.nil)) (.nil)) (.cons (w_need_board_0) (.nil))
abbrev f_need_board : Nat := 4
def b_sides : Ss := .cons (.ret (.tup (.cons (.op1 pLen (.v 0)) (.cons (.op1 pLen (.op2 pIdx (.v 0) (.k (.int 0)))) (.nil))))) (.nil)
abbrev f_sides : Nat := 5
def b_lines_of : Ss := .cons (.ret (.op1 pTupRg1 (.op1 pSumA (.call 5 (.cons (.v 0) (.nil)))))) (.nil)
abbrev f_lines_of : Nat := 6
def c_left_of_0 : X := .lc (.v 3) (.n 3) gSeq (.cons (.op2 pSlF (.call 6 (.cons (.v 0) (.nil))) (.op1 pLen (.v 0))) .nil) (.op2 pNotIn (.v 3) (.v 1)) [3]
def c_left_of_1 : X := .lc (.v 3) (.n 3) gRange1 (.cons (.op1 pLen (.v 0)) .nil) (.op2 pNotIn (.v 3) (.v 1)) [3]
def b_left_of : Ss := .cons (.set 2 (.op1 pTup (c_left_of_1))) (.cons (.ret (.tup (.cons (.v 2) (.cons (.op1 pTup (c_left_of_0)) (.nil))))) (.nil))
abbrev f_left_of : Nat := 7
def c_numbers_0 : X := .lc (.op2 pIdx (.op2 pIdx (.op2 pIdx (.v 0) (.v 5)) (.op2 pSubI (.v 2) (.op1 pLen (.v 0)))) (.k (.int 1))) (.n 5) gSeq (.cons (.v 3) .nil) (.k (.bool true)) [5]
def c_numbers_1 : X := .lc (.op2 pIdx (.op2 pIdx (.op2 pIdx (.v 0) (.v 2)) (.op2 pSubI (.v 6) (.op1 pLen (.v 0)))) (.k (.int 0))) (.n 6) gSeq (.cons (.v 4) .nil) (.k (.bool true)) [6]
def b_numbers : Ss := .cons (.put (.t (.n 3) (.n 4)) (.call 7 (.cons (.v 0) (.cons (.v 1) (.nil))))) (.cons (.ite (.op2 pLt (.v 2) (.op1 pLen (.v 0))) (.cons (.ret (c_numbers_1)) (.nil)) (.nil)) (.cons (.ret (c_numbers_0)) (.nil)))
abbrev f_numbers : Nat := 8
def c_answers_of_0 : X := .lc (.v 7) (.n 7) gSeq (.cons (.op1 pSortK (.v 5)) .nil) (.op2 pEq (.op2 pIdx (.v 5) (.v 7)) (.v 6)) [7]
def c_answers_of_1 : X := .lc (.tup (.cons (.v 8) (.cons (.op2 pIdx (.op2 pIdx (.op2 pIdx (.v 0) (.v 2)) (.op2 pSubI (.v 8) (.op1 pLen (.v 0)))) (.k (.int 1))) (.nil)))) (.n 8) gSeq (.cons (.v 4) .nil) (.k (.bool true)) [8]
def c_answers_of_2 : X := .lc (.tup (.cons (.v 9) (.cons (.op2 pIdx (.op2 pIdx (.op2 pIdx (.v 0) (.v 9)) (.op2 pSubI (.v 2) (.op1 pLen (.v 0)))) (.k (.int 0))) (.nil)))) (.n 9) gSeq (.cons (.v 3) .nil) (.k (.bool true)) [9]
def b_answers_of : Ss := .cons (.put (.t (.n 3) (.n 4)) (.call 7 (.cons (.v 0) (.cons (.v 1) (.nil))))) (.cons (.ite (.op2 pLt (.v 2) (.op1 pLen (.v 0))) (.cons (.set 5 (.op1 pDictP (c_answers_of_1))) (.nil)) (.cons (.set 5 (.op1 pDictP (c_answers_of_2))) (.nil))) (.cons (.set 6 (.op1 pMaxV (.v 5))) (.cons (.ret (c_answers_of_0)) (.nil))))
abbrev f_answers_of : Nat := 9
def w_bests_of_0 : S := .frr (.n 6) gSeq (.cons (.v 3) .nil) (.cons (.ite (.and (.op2 pIn (.v 5) (.call 9 (.cons (.v 0) (.cons (.v 1) (.cons (.v 6) (.nil)))))) (.op2 pIn (.v 6) (.call 9 (.cons (.v 0) (.cons (.v 1) (.cons (.v 5) (.nil))))))) (.cons (.app 4 (.tup (.cons (.v 5) (.cons (.v 6) (.nil))))) (.nil)) (.nil)) (.nil))
def w_bests_of_1 : S := .frr (.n 5) gSeq (.cons (.v 2) .nil) (.cons (w_bests_of_0) (.nil))
def b_bests_of : Ss := .cons (.put (.t (.n 2) (.n 3)) (.call 7 (.cons (.v 0) (.cons (.v 1) (.nil))))) (.cons (.set 4 (.lst (.nil))) (.cons (w_bests_of_1) (.cons (.ret (.v 4)) (.nil))))
abbrev f_bests_of : Nat := 10
def c_safe_numbers_0 : X := .lc (.op1 pMinS (.call 8 (.cons (.v 0) (.cons (.tup (.nil)) (.cons (.v 2) (.nil)))))) (.n 2) gSeq (.cons (.op2 pSlF (.call 6 (.cons (.v 0) (.nil))) (.op1 pLen (.v 0))) .nil) (.k (.bool true)) [2]
def c_safe_numbers_1 : X := .lc (.op1 pMinS (.call 8 (.cons (.v 0) (.cons (.tup (.nil)) (.cons (.v 2) (.nil)))))) (.n 2) gRange1 (.cons (.op1 pLen (.v 0)) .nil) (.k (.bool true)) [2]
def b_safe_numbers : Ss := .cons (.expr (.call 4 (.cons (.v 0) (.nil)))) (.cons (.set 1 (.op1 pMaxS (c_safe_numbers_1))) (.cons (.ret (.tup (.cons (.v 1) (.cons (.op1 pMaxS (c_safe_numbers_0)) (.nil))))) (.nil)))
abbrev f_safe_numbers : Nat := 11
def w_safe_lines_0 : S := .frr (.n 3) gSeq (.cons (.call 6 (.cons (.v 0) (.nil))) .nil) (.cons (.ite (.op2 pEq (.op1 pMinS (.call 8 (.cons (.v 0) (.cons (.tup (.nil)) (.cons (.v 3) (.nil)))))) (.op2 pIdx (.v 1) (.ite (.op2 pLt (.v 3) (.op1 pLen (.v 0))) (.k (.int 0)) (.k (.int 1))))) (.cons (.app 2 (.v 3)) (.nil)) (.nil)) (.nil))
def b_safe_lines : Ss := .cons (.set 1 (.call 11 (.cons (.v 0) (.nil)))) (.cons (.set 2 (.lst (.nil))) (.cons (w_safe_lines_0) (.cons (.ret (.op1 pTup (.v 2))) (.nil))))
abbrev f_safe_lines : Nat := 12
def b_is_against : Ss := .cons (.expr (.call 4 (.cons (.v 0) (.nil)))) (.cons (.ret (.call 14 (.cons (.v 0) (.nil)))) (.nil))
abbrev f_is_against : Nat := 13
def c_adds_up_0 : X := .lc (.op2 pEq (.op1 pSumA (.v 2)) (.k (.int 0))) (.n 2) gSeq (.cons (.v 1) .nil) (.k (.bool true)) [2]
def c_adds_up_1 : X := .lc (.op1 pAll (c_adds_up_0)) (.n 1) gSeq (.cons (.v 0) .nil) (.k (.bool true)) [1]
def b_adds_up : Ss := .cons (.ret (.op1 pAll (c_adds_up_1))) (.nil)
abbrev f_adds_up : Nat := 14
def b_need_against : Ss := .cons (.expr (.call 4 (.cons (.v 0) (.nil)))) (.cons (.ite (.op1 pNot (.call 14 (.cons (.v 0) (.nil)))) (.cons (.raise "NotAgainst") (.nil)) (.nil)) (.nil))
abbrev f_need_against : Nat := 15
def b_saddle : Ss := .cons (.may 15 (.cons (.v 0) (.nil)) (.expr (.call 15 (.cons (.v 0) (.nil))))) (.cons (.set 1 (.call 10 (.cons (.v 0) (.cons (.tup (.nil)) (.nil))))) (.cons (.ret (.ite (.op2 pNe (.v 1) (.lst (.nil))) (.op2 pIdx (.op2 pIdx (.op2 pIdx (.v 0) (.op2 pIdx (.op2 pIdx (.v 1) (.k (.int 0))) (.k (.int 0)))) (.op2 pSubI (.op2 pIdx (.op2 pIdx (.v 1) (.k (.int 0))) (.k (.int 1))) (.op1 pLen (.v 0)))) (.k (.int 0))) (.k .none))) (.nil)))
abbrev f_saddle : Nat := 16
def b_gap : Ss := .cons (.may 15 (.cons (.v 0) (.nil)) (.expr (.call 15 (.cons (.v 0) (.nil))))) (.cons (.put (.t (.n 1) (.n 2)) (.call 11 (.cons (.v 0) (.nil)))) (.cons (.ret (.op2 pSubI (.op1 pNeg (.v 2)) (.v 1))) (.nil)))
abbrev f_gap : Nat := 17
def w_answer_walk_0 : S := .frr (.n 4) gRange1 (.cons (.v 2) .nil) (.cons (.app 3 (.op2 pIdx (.call 9 (.cons (.v 0) (.cons (.tup (.nil)) (.cons (.op2 pIdx (.v 3) (.op1 pNeg (.k (.int 1)))) (.nil))))) (.k (.int 0)))) (.nil))
def b_answer_walk : Ss := .cons (.expr (.call 4 (.cons (.v 0) (.nil)))) (.cons (.ite (.op1 pNot (.call 1 (.cons (.v 1) (.cons (.k (.int 0)) (.cons (.op2 pSubI (.op1 pLen (.v 0)) (.k (.int 1))) (.nil)))))) (.cons (.stuck) (.nil)) (.nil)) (.cons (.expr (.call 2 (.cons (.v 2) (.cons (.k (.int 0)) (.cons (.k (.int 100)) (.nil)))))) (.cons (.set 3 (.lst (.cons (.v 1) (.nil)))) (.cons (w_answer_walk_0) (.cons (.ret (.op1 pTup (.v 3))) (.nil))))))
abbrev f_answer_walk : Nat := 18
def w_answer_ring_0 : S := .whl (.op2 pNe (.v 5) (.v 3)) (.cons (.app 4 (.v 5)) (.cons (.set 5 (.op2 pIdx (.call 9 (.cons (.v 0) (.cons (.tup (.nil)) (.cons (.v 5) (.nil))))) (.k (.int 0)))) (.nil)))
def b_answer_ring : Ss := .cons (.expr (.call 4 (.cons (.v 0) (.nil)))) (.cons (.set 2 (.call 18 (.cons (.v 0) (.cons (.v 1) (.cons (.op2 pMulI (.k (.int 2)) (.op1 pSumA (.call 5 (.cons (.v 0) (.nil))))) (.nil)))))) (.cons (.set 3 (.op2 pIdx (.v 2) (.op1 pNeg (.k (.int 1))))) (.cons (.set 4 (.lst (.cons (.v 3) (.nil)))) (.cons (.set 5 (.op2 pIdx (.call 9 (.cons (.v 0) (.cons (.tup (.nil)) (.cons (.v 3) (.nil))))) (.k (.int 0)))) (.cons (w_answer_ring_0) (.cons (.set 6 (.meth isLst pIndexM (.v 4) (.cons (.op1 pMinS (.v 4)) (.nil)))) (.cons (.ret (.op1 pTup (.op2 pAdd (.op2 pSlF (.v 4) (.v 6)) (.op2 pSlT (.v 4) (.v 6))))) (.nil))))))))
abbrev f_answer_ring : Nat := 19
def b__law_taken : Ss := .cons (.ite (.op2 pGt (.op2 pIdx (.v 0) (.k (.int 3))) (.k (.int 0))) (.cons (.set 2 (.op2 pModI (.op1 pInt1 (.op2 pIdx (.v 0) (.k (.int 3)))) (.v 1))) (.cons (.setAt 0 (.k (.int 3)) (.op2 pDivI (.op2 pIdx (.v 0) (.k (.int 3))) (.v 1))) (.cons (.ret (.v 2)) (.nil)))) (.nil)) (.cons (.setAt 0 (.k (.int 1)) (.op2 pAdd (.op2 pIdx (.v 0) (.k (.int 1))) (.k (.int 1)))) (.cons (.ite (.op2 pGt (.op2 pIdx (.v 0) (.k (.int 1))) (.op1 pLen (.op2 pIdx (.v 0) (.k (.int 0))))) (.cons (.setAt 0 (.k (.int 2)) (.op2 pModI (.op1 pInt1 (.op2 pAdd (.op2 pMulI (.op2 pIdx (.v 0) (.k (.int 2))) (.k (.int 48271))) (.k (.int 11)))) (.k (.int 2147483647)))) (.cons (.ret (.op2 pModI (.op1 pInt1 (.op2 pDivI (.op2 pIdx (.v 0) (.k (.int 2))) (.k (.int 7)))) (.v 1))) (.nil))) (.nil)) (.cons (.set 3 (.op2 pIdx (.op2 pIdx (.v 0) (.k (.int 0))) (.op2 pSubI (.op2 pIdx (.v 0) (.k (.int 1))) (.k (.int 1))))) (.cons (.setAt 0 (.k (.int 2)) (.op2 pModI (.op1 pInt1 (.op2 pAdd (.op2 pAdd (.op2 pMulI (.op2 pIdx (.v 0) (.k (.int 2))) (.k (.int 48271))) (.v 3)) (.k (.int 11)))) (.k (.int 2147483647)))) (.cons (.ite (.op2 pGe (.v 3) (.op2 pPowI (.k (.int 10)) (.k (.int 18)))) (.cons (.setAt 0 (.k (.int 3)) (.op2 pDivI (.v 3) (.v 1))) (.nil)) (.nil)) (.cons (.ret (.op2 pModI (.op1 pInt1 (.v 3)) (.v 1))) (.nil)))))))
abbrev f__law_taken : Nat := 20
def c__law_alike_0 : X := .lc (.v 2) (.n 2) gRange1 (.cons (.op1 pLen (.v 1)) .nil) (.op1 pNot (.call 21 (.cons (.op2 pIdx (.v 0) (.v 2)) (.cons (.op2 pIdx (.v 1) (.v 2)) (.nil))))) [2]
def b__law_alike : Ss := .cons (.ite (.op1 pIsTL (.v 1)) (.cons (.ite (.or (.op1 pNot (.op1 pIsTL (.v 0))) (.op2 pNe (.op1 pIsList (.v 0)) (.op1 pIsList (.v 1)))) (.cons (.ret (.k (.bool false))) (.nil)) (.nil)) (.cons (.ite (.op2 pNe (.op1 pLen (.v 0)) (.op1 pLen (.v 1))) (.cons (.ret (.k (.bool false))) (.nil)) (.nil)) (.cons (.ret (.op2 pEq (c__law_alike_0) (.lst (.nil)))) (.nil)))) (.nil)) (.cons (.ite (.or (.op1 pIsN (.v 1)) (.op1 pIsStr (.v 1))) (.cons (.ret (.and (.op2 pEq (.v 0) (.v 1)) (.op2 pEq (.op1 pIsStr (.v 0)) (.op1 pIsStr (.v 1))))) (.nil)) (.nil)) (.cons (.ret (.and (.op1 pIsInt (.v 0)) (.and (.op2 pEq (.op1 pIsBool (.v 0)) (.op1 pIsBool (.v 1))) (.op2 pEq (.v 0) (.v 1))))) (.nil)))
abbrev f__law_alike : Nat := 21
def b__law_is : Ss := .cons (.ret (.and (.op1 pIsBool (.v 0)) (.op2 pEq (.v 0) (.v 1)))) (.nil)
abbrev f__law_is : Nat := 22
def w__law_board_0 : S := .frr (.n 11) gRange1 (.cons (.v 5) .nil) (.cons (.app 10 (.tup (.cons (.op2 pAdd (.op2 pIdx (.v 7) (.v 9)) (.call 20 (.cons (.v 0) (.cons (.v 3) (.nil))))) (.cons (.op2 pSubI (.op2 pAdd (.op2 pIdx (.v 8) (.v 11)) (.call 20 (.cons (.v 0) (.cons (.v 3) (.nil))))) (.k (.int 1))) (.nil))))) (.nil))
def w__law_board_1 : S := .frr (.n 9) gRange1 (.cons (.v 4) .nil) (.cons (.set 10 (.lst (.nil))) (.cons (w__law_board_0) (.cons (.app 6 (.op1 pTup (.v 10))) (.nil))))
def c__law_board_0 : X := .lc (.op2 pMulI (.k (.int 2)) (.call 20 (.cons (.v 0) (.cons (.k (.int 4)) (.nil))))) (.n 9) gSeq (.cons (.v 8) .nil) (.k (.bool true)) [9]
def c__law_board_1 : X := .lc (.op2 pMulI (.k (.int 2)) (.call 20 (.cons (.v 0) (.cons (.k (.int 4)) (.nil))))) (.n 9) gSeq (.cons (.v 7) .nil) (.k (.bool true)) [9]
def b__law_board : Ss := .cons (.par [4, 5, 6] (.cons (.op2 pAdd (.k (.int 1)) (.call 20 (.cons (.v 0) (.cons (.v 1) (.nil))))) (.cons (.op2 pAdd (.k (.int 1)) (.call 20 (.cons (.v 0) (.cons (.v 2) (.nil))))) (.cons (.lst (.nil)) (.nil))))) (.cons (.par [7, 8] (.cons (.op2 pMulS (.lst (.cons (.k (.int 0)) (.nil))) (.v 4)) (.cons (.op2 pMulS (.lst (.cons (.k (.int 0)) (.nil))) (.v 5)) (.nil)))) (.cons (.ite (.op2 pGt (.call 20 (.cons (.v 0) (.cons (.k (.int 3)) (.nil)))) (.k (.int 0))) (.cons (.set 7 (c__law_board_1)) (.cons (.set 8 (c__law_board_0)) (.nil))) (.nil)) (.cons (w__law_board_1) (.cons (.ret (.op1 pTup (.v 6))) (.nil)))))
abbrev f__law_board : Nat := 23
def c__law_rows_0 : X := .lc (.v 2) (.n 2) gRange1 (.cons (.op1 pLen (.v 0)) .nil) (.op2 pNotIn (.v 2) (.v 1)) [2]
def b__law_rows : Ss := .cons (.ret (c__law_rows_0)) (.nil)
abbrev f__law_rows : Nat := 24
def c__law_columns_0 : X := .lc (.v 2) (.n 2) gRange2 (.cons (.op1 pLen (.v 0)) (.cons (.op2 pAdd (.op1 pLen (.v 0)) (.op1 pLen (.op2 pIdx (.v 0) (.k (.int 0))))) .nil)) (.op2 pNotIn (.v 2) (.v 1)) [2]
def b__law_columns : Ss := .cons (.ret (c__law_columns_0)) (.nil)
abbrev f__law_columns : Nat := 25
def c__law_numbers_0 : X := .lc (.op2 pIdx (.op2 pIdx (.op2 pIdx (.v 0) (.v 3)) (.op2 pSubI (.v 2) (.op1 pLen (.v 0)))) (.k (.int 1))) (.n 3) gSeq (.cons (.call 24 (.cons (.v 0) (.cons (.v 1) (.nil)))) .nil) (.k (.bool true)) [3]
def c__law_numbers_1 : X := .lc (.op2 pIdx (.op2 pIdx (.op2 pIdx (.v 0) (.v 2)) (.op2 pSubI (.v 3) (.op1 pLen (.v 0)))) (.k (.int 0))) (.n 3) gSeq (.cons (.call 25 (.cons (.v 0) (.cons (.v 1) (.nil)))) .nil) (.k (.bool true)) [3]
def b__law_numbers : Ss := .cons (.ite (.op2 pLt (.v 2) (.op1 pLen (.v 0))) (.cons (.ret (c__law_numbers_1)) (.nil)) (.nil)) (.cons (.ret (c__law_numbers_0)) (.nil))
abbrev f__law_numbers : Nat := 26
def c__law_answers_0 : X := .lc (.v 7) (.t (.n 6) (.n 7)) gSeq (.cons (.v 4) .nil) (.op2 pEq (.v 6) (.v 5)) [6, 7]
def c__law_answers_1 : X := .lc (.tup (.cons (.op2 pIdx (.op2 pIdx (.op2 pIdx (.v 0) (.v 2)) (.op2 pSubI (.v 7) (.v 3))) (.k (.int 1))) (.cons (.v 7) (.nil)))) (.n 7) gSeq (.cons (.call 25 (.cons (.v 0) (.cons (.v 1) (.nil)))) .nil) (.k (.bool true)) [7]
def c__law_answers_2 : X := .lc (.tup (.cons (.op2 pIdx (.op2 pIdx (.op2 pIdx (.v 0) (.v 7)) (.op2 pSubI (.v 2) (.v 3))) (.k (.int 0))) (.cons (.v 7) (.nil)))) (.n 7) gSeq (.cons (.call 24 (.cons (.v 0) (.cons (.v 1) (.nil)))) .nil) (.k (.bool true)) [7]
def b__law_answers : Ss := .cons (.set 3 (.op1 pLen (.v 0))) (.cons (.ite (.op2 pLt (.v 2) (.v 3)) (.cons (.set 4 (c__law_answers_1)) (.nil)) (.cons (.set 4 (c__law_answers_2)) (.nil))) (.cons (.set 5 (.op2 pIdx (.op1 pMaxS (.v 4)) (.k (.int 0)))) (.cons (.ret (c__law_answers_0)) (.nil))))
abbrev f__law_answers : Nat := 27
def w__law_bests_0 : S := .frr (.n 4) gSeq (.cons (.call 25 (.cons (.v 0) (.cons (.v 1) (.nil)))) .nil) (.cons (.ite (.and (.op2 pIn (.v 3) (.call 27 (.cons (.v 0) (.cons (.v 1) (.cons (.v 4) (.nil)))))) (.op2 pIn (.v 4) (.call 27 (.cons (.v 0) (.cons (.v 1) (.cons (.v 3) (.nil))))))) (.cons (.app 2 (.tup (.cons (.v 3) (.cons (.v 4) (.nil))))) (.nil)) (.nil)) (.nil))
def w__law_bests_1 : S := .frr (.n 3) gSeq (.cons (.call 24 (.cons (.v 0) (.cons (.v 1) (.nil)))) .nil) (.cons (w__law_bests_0) (.nil))
def b__law_bests : Ss := .cons (.set 2 (.lst (.nil))) (.cons (w__law_bests_1) (.cons (.ret (.op1 pTup (.v 2))) (.nil)))
abbrev f__law_bests : Nat := 28
def s_law_23 : S := .ret (.call 21 (.cons (.call 19 (.cons (.v 2) (.cons (.v 14) (.nil)))) (.cons (.op1 pTup (.op2 pAdd (.op2 pSlF (.v 18) (.v 20)) (.op2 pSlT (.v 18) (.v 20)))) (.nil))))
def s_law_22 : S := .set 20 (.meth isLst pIndexM (.v 18) (.cons (.op1 pMinS (.v 18)) (.nil)))
def w_law_0 : S := .frr (.n 19) gSeq (.cons (.op2 pSlF (.v 16) (.k (.int 41))) .nil) (.cons (.ite (.op2 pNotIn (.v 19) (.v 18)) (.cons (.app 18 (.v 19)) (.nil)) (.nil)) (.nil))
def s_law_21 : S := w_law_0
def s_law_20 : S := .set 18 (.lst (.cons (.op2 pIdx (.v 16) (.k (.int 40))) (.nil)))
def s_law_19 : S := .ite (.op1 pNot (.call 21 (.cons (.call 18 (.cons (.v 2) (.cons (.v 14) (.cons (.v 15) (.nil))))) (.cons (.op1 pTup (.op2 pSlT (.v 16) (.op2 pAdd (.v 15) (.k (.int 1))))) (.nil))))) (.cons (.ret (.k (.bool false))) (.nil)) (.nil)
def w_law_1 : S := .frr (.n 17) gRange1 (.cons (.k (.int 60)) .nil) (.cons (.app 16 (.op2 pIdx (.call 27 (.cons (.v 2) (.cons (.tup (.nil)) (.cons (.op2 pIdx (.v 16) (.op1 pNeg (.k (.int 1)))) (.nil))))) (.k (.int 0)))) (.nil))
def s_law_18 : S := w_law_1
def s_law_17 : S := .set 16 (.lst (.cons (.v 14) (.nil)))
def s_law_16 : S := .par [14, 15] (.cons (.call 20 (.cons (.v 1) (.cons (.v 3) (.nil)))) (.cons (.call 20 (.cons (.v 1) (.cons (.k (.int 12)) (.nil)))) (.nil)))
def s_law_15 : S := .ite (.op2 pNe (.op2 pEq (.v 10) (.k (.str ""))) (.op2 pEq (.v 9) (.lst (.nil)))) (.cons (.ret (.k (.bool false))) (.nil)) (.nil)
def t_law_0 : Ss := .cons (.set 12 (.call 28 (.cons (.v 2) (.cons (.tup (.nil)) (.nil))))) (.cons (.may 16 (.cons (.v 2) (.nil)) (.ite (.op1 pNot (.call 21 (.cons (.call 16 (.cons (.v 2) (.nil))) (.cons (.ite (.op2 pNe (.v 12) (.tup (.nil))) (.op2 pIdx (.op2 pIdx (.op2 pIdx (.v 2) (.op2 pIdx (.op2 pIdx (.v 12) (.k (.int 0))) (.k (.int 0)))) (.op2 pSubI (.op2 pIdx (.op2 pIdx (.v 12) (.k (.int 0))) (.k (.int 1))) (.v 3))) (.k (.int 0))) (.k .none)) (.nil))))) (.cons (.ret (.k (.bool false))) (.nil)) (.nil))) (.cons (.ite (.or (.op1 pNot (.call 21 (.cons (.call 17 (.cons (.v 2) (.nil))) (.cons (.op2 pSubI (.op2 pSubI (.k (.int 0)) (.v 6)) (.v 7)) (.nil))))) (.op2 pNe (.op2 pEq (.call 17 (.cons (.v 2) (.nil))) (.k (.int 0))) (.op2 pNe (.v 12) (.tup (.nil))))) (.cons (.ret (.k (.bool false))) (.nil)) (.nil)) (.cons (.ite (.op2 pLt (.call 17 (.cons (.v 2) (.nil))) (.k (.int 0))) (.cons (.ret (.k (.bool false))) (.nil)) (.nil)) (.nil))))
def t_law_1 : Ss := .cons (.set 10 (.k (.str "not"))) (.nil)
def s_law_14 : S := .tryS t_law_0 "NotAgainst" 13 t_law_1
def s_law_13 : S := .ite (.op1 pNot (.call 22 (.cons (.call 13 (.cons (.v 2) (.nil))) (.cons (.op2 pEq (.v 9) (.lst (.nil))) (.nil))))) (.cons (.ret (.k (.bool false))) (.nil)) (.nil)
def c_law_0 : X := .lc (.k (.int 1)) (.t (.n 21) (.n 22)) gSeq (.cons (.v 11) .nil) (.op2 pNe (.op2 pAdd (.v 21) (.v 22)) (.k (.int 0))) [21, 22]
def w_law_2 : S := .frr (.n 11) gSeq (.cons (.v 2) .nil) (.cons (.set 9 (.op2 pAdd (.v 9) (c_law_0))) (.nil))
def s_law_12 : S := w_law_2
def s_law_11 : S := .par [9, 10] (.cons (.lst (.nil)) (.cons (.k (.str "")) (.nil)))
def s_law_10 : S := .ite (.op1 pNot (.call 21 (.cons (.call 12 (.cons (.v 2) (.nil))) (.cons (.op1 pTup (.v 8)) (.nil))))) (.cons (.ret (.k (.bool false))) (.nil)) (.nil)
def c_law_1 : X := .lc (.v 19) (.n 19) gRange2 (.cons (.v 3) (.cons (.op2 pAdd (.v 3) (.v 4)) .nil)) (.op2 pEq (.op2 pIdx (.v 5) (.v 19)) (.v 7)) [19]
def s_law_9 : S := .set 8 (.op2 pAdd (.v 8) (c_law_1))
def c_law_2 : X := .lc (.v 19) (.n 19) gRange1 (.cons (.v 3) .nil) (.op2 pEq (.op2 pIdx (.v 5) (.v 19)) (.v 6)) [19]
def s_law_8 : S := .set 8 (c_law_2)
def s_law_7 : S := .ite (.op1 pNot (.call 21 (.cons (.call 11 (.cons (.v 2) (.nil))) (.cons (.tup (.cons (.v 6) (.cons (.v 7) (.nil)))) (.nil))))) (.cons (.ret (.k (.bool false))) (.nil)) (.nil)
def s_law_6 : S := .par [6, 7] (.cons (.op1 pMaxS (.op2 pSlT (.v 5) (.v 3))) (.cons (.op1 pMaxS (.op2 pSlF (.v 5) (.v 3))) (.nil)))
def c_law_3 : X := .lc (.op1 pMinS (.call 26 (.cons (.v 2) (.cons (.tup (.nil)) (.cons (.v 19) (.nil)))))) (.n 19) gRange1 (.cons (.op2 pAdd (.v 3) (.v 4)) .nil) (.k (.bool true)) [19]
def s_law_5 : S := .set 5 (c_law_3)
def s_law_4 : S := .par [3, 4] (.cons (.op1 pLen (.v 2)) (.cons (.op1 pLen (.op2 pIdx (.v 2) (.k (.int 0)))) (.nil)))
def c_law_4 : X := .lc (.tup (.cons (.v 21) (.cons (.op2 pSubI (.k (.int 0)) (.v 21)) (.nil)))) (.t (.n 21) (.n 22)) gSeq (.cons (.v 11) .nil) (.k (.bool true)) [21, 22]
def c_law_5 : X := .lc (.op1 pTup (c_law_4)) (.n 11) gSeq (.cons (.v 2) .nil) (.k (.bool true)) [11]
def s_law_3 : S := .ite (.op2 pEq (.call 20 (.cons (.v 1) (.cons (.k (.int 2)) (.nil)))) (.k (.int 0))) (.cons (.set 2 (.op1 pTup (c_law_5))) (.nil)) (.nil)
def s_law_2 : S := .set 2 (.call 23 (.cons (.v 1) (.cons (.k (.int 5)) (.cons (.k (.int 5)) (.cons (.k (.int 5)) (.nil))))))
def s_law_1 : S := .set 1 (.lst (.cons (.v 0) (.cons (.k (.int 0)) (.cons (.k (.int 5208)) (.cons (.k (.int 0)) (.nil))))))
def b_law : Ss := .cons (s_law_1) (.cons (s_law_2) (.cons (s_law_3) (.cons (s_law_4) (.cons (s_law_5) (.cons (s_law_6) (.cons (s_law_7) (.cons (s_law_8) (.cons (s_law_9) (.cons (s_law_10) (.cons (s_law_11) (.cons (s_law_12) (.cons (s_law_13) (.cons (s_law_14) (.cons (s_law_15) (.cons (s_law_16) (.cons (s_law_17) (.cons (s_law_18) (.cons (s_law_19) (.cons (s_law_20) (.cons (s_law_21) (.cons (s_law_22) (.cons (s_law_23) (.nil)))))))))))))))))))))))
abbrev f_law : Nat := 29
def bf : Nat → Option Nat
  | 20 => some 0
  | 23 => some 0
  | _ => none
def MM : Nat := 10 ^ 200
def run : Nat → Fns
  | 0 => fun _ _ => none
  | n + 1 => fun f ds => match f with
    | 0 => callBody (run n) bf MM b_is_int 1 1 none ds
    | 1 => callBody (run n) bf MM b_is_from 3 3 none ds
    | 2 => callBody (run n) bf MM b_need_from 3 3 none ds
    | 3 => callBody (run n) bf MM b_is_place 1 2 none ds
    | 4 => callBody (run n) bf MM b_need_board 1 4 none ds
    | 5 => callBody (run n) bf MM b_sides 1 1 none ds
    | 6 => callBody (run n) bf MM b_lines_of 1 1 none ds
    | 7 => callBody (run n) bf MM b_left_of 2 4 none ds
    | 8 => callBody (run n) bf MM b_numbers 3 7 none ds
    | 9 => callBody (run n) bf MM b_answers_of 3 10 none ds
    | 10 => callBody (run n) bf MM b_bests_of 2 7 none ds
    | 11 => callBody (run n) bf MM b_safe_numbers 1 3 none ds
    | 12 => callBody (run n) bf MM b_safe_lines 1 4 none ds
    | 13 => callBody (run n) bf MM b_is_against 1 1 none ds
    | 14 => callBody (run n) bf MM b_adds_up 1 3 none ds
    | 15 => callBody (run n) bf MM b_need_against 1 1 none ds
    | 16 => callBody (run n) bf MM b_saddle 1 2 none ds
    | 17 => callBody (run n) bf MM b_gap 1 3 none ds
    | 18 => callBody (run n) bf MM b_answer_walk 3 5 none ds
    | 19 => callBody (run n) bf MM b_answer_ring 2 7 none ds
    | 20 => callBody (run n) bf MM b__law_taken 2 4 (some 0) ds
    | 21 => callBody (run n) bf MM b__law_alike 2 3 none ds
    | 22 => callBody (run n) bf MM b__law_is 2 2 none ds
    | 23 => callBody (run n) bf MM b__law_board 4 12 (some 0) ds
    | 24 => callBody (run n) bf MM b__law_rows 2 3 none ds
    | 25 => callBody (run n) bf MM b__law_columns 2 3 none ds
    | 26 => callBody (run n) bf MM b__law_numbers 3 4 none ds
    | 27 => callBody (run n) bf MM b__law_answers 3 8 none ds
    | 28 => callBody (run n) bf MM b__law_bests 2 5 none ds
    | 29 => callBody (run n) bf MM b_law 1 23 none ds
    | 1015 => xBody (run n) bf MM b_need_against 1 1 ds
    | 1016 => xBody (run n) bf MM b_saddle 1 2 ds
    | 1017 => xBody (run n) bf MM b_gap 1 3 ds
    | _ => none
theorem run_is_int (n : Nat) (ds : List PyData) : run (n + 1) 0 ds = callBody (run n) bf MM b_is_int 1 1 none ds := rfl
theorem run_is_from (n : Nat) (ds : List PyData) : run (n + 1) 1 ds = callBody (run n) bf MM b_is_from 3 3 none ds := rfl
theorem run_need_from (n : Nat) (ds : List PyData) : run (n + 1) 2 ds = callBody (run n) bf MM b_need_from 3 3 none ds := rfl
theorem run_is_place (n : Nat) (ds : List PyData) : run (n + 1) 3 ds = callBody (run n) bf MM b_is_place 1 2 none ds := rfl
theorem run_need_board (n : Nat) (ds : List PyData) : run (n + 1) 4 ds = callBody (run n) bf MM b_need_board 1 4 none ds := rfl
theorem run_sides (n : Nat) (ds : List PyData) : run (n + 1) 5 ds = callBody (run n) bf MM b_sides 1 1 none ds := rfl
theorem run_lines_of (n : Nat) (ds : List PyData) : run (n + 1) 6 ds = callBody (run n) bf MM b_lines_of 1 1 none ds := rfl
theorem run_left_of (n : Nat) (ds : List PyData) : run (n + 1) 7 ds = callBody (run n) bf MM b_left_of 2 4 none ds := rfl
theorem run_numbers (n : Nat) (ds : List PyData) : run (n + 1) 8 ds = callBody (run n) bf MM b_numbers 3 7 none ds := rfl
theorem run_answers_of (n : Nat) (ds : List PyData) : run (n + 1) 9 ds = callBody (run n) bf MM b_answers_of 3 10 none ds := rfl
theorem run_bests_of (n : Nat) (ds : List PyData) : run (n + 1) 10 ds = callBody (run n) bf MM b_bests_of 2 7 none ds := rfl
theorem run_safe_numbers (n : Nat) (ds : List PyData) : run (n + 1) 11 ds = callBody (run n) bf MM b_safe_numbers 1 3 none ds := rfl
theorem run_safe_lines (n : Nat) (ds : List PyData) : run (n + 1) 12 ds = callBody (run n) bf MM b_safe_lines 1 4 none ds := rfl
theorem run_is_against (n : Nat) (ds : List PyData) : run (n + 1) 13 ds = callBody (run n) bf MM b_is_against 1 1 none ds := rfl
theorem run_adds_up (n : Nat) (ds : List PyData) : run (n + 1) 14 ds = callBody (run n) bf MM b_adds_up 1 3 none ds := rfl
theorem run_need_against (n : Nat) (ds : List PyData) : run (n + 1) 15 ds = callBody (run n) bf MM b_need_against 1 1 none ds := rfl
theorem run_saddle (n : Nat) (ds : List PyData) : run (n + 1) 16 ds = callBody (run n) bf MM b_saddle 1 2 none ds := rfl
theorem run_gap (n : Nat) (ds : List PyData) : run (n + 1) 17 ds = callBody (run n) bf MM b_gap 1 3 none ds := rfl
theorem run_answer_walk (n : Nat) (ds : List PyData) : run (n + 1) 18 ds = callBody (run n) bf MM b_answer_walk 3 5 none ds := rfl
theorem run_answer_ring (n : Nat) (ds : List PyData) : run (n + 1) 19 ds = callBody (run n) bf MM b_answer_ring 2 7 none ds := rfl
theorem run__law_taken (n : Nat) (ds : List PyData) : run (n + 1) 20 ds = callBody (run n) bf MM b__law_taken 2 4 (some 0) ds := rfl
theorem run__law_alike (n : Nat) (ds : List PyData) : run (n + 1) 21 ds = callBody (run n) bf MM b__law_alike 2 3 none ds := rfl
theorem run__law_is (n : Nat) (ds : List PyData) : run (n + 1) 22 ds = callBody (run n) bf MM b__law_is 2 2 none ds := rfl
theorem run__law_board (n : Nat) (ds : List PyData) : run (n + 1) 23 ds = callBody (run n) bf MM b__law_board 4 12 (some 0) ds := rfl
theorem run__law_rows (n : Nat) (ds : List PyData) : run (n + 1) 24 ds = callBody (run n) bf MM b__law_rows 2 3 none ds := rfl
theorem run__law_columns (n : Nat) (ds : List PyData) : run (n + 1) 25 ds = callBody (run n) bf MM b__law_columns 2 3 none ds := rfl
theorem run__law_numbers (n : Nat) (ds : List PyData) : run (n + 1) 26 ds = callBody (run n) bf MM b__law_numbers 3 4 none ds := rfl
theorem run__law_answers (n : Nat) (ds : List PyData) : run (n + 1) 27 ds = callBody (run n) bf MM b__law_answers 3 8 none ds := rfl
theorem run__law_bests (n : Nat) (ds : List PyData) : run (n + 1) 28 ds = callBody (run n) bf MM b__law_bests 2 5 none ds := rfl
theorem run_law (n : Nat) (ds : List PyData) : run (n + 1) 29 ds = callBody (run n) bf MM b_law 1 23 none ds := rfl
theorem xrun_need_against (n : Nat) (ds : List PyData) : run (n + 1) (XB + 15) ds = xBody (run n) bf MM b_need_against 1 1 ds := rfl
theorem xno_need_against {n : Nat} {ds : List PyData} {r : PyData × PyData} (h : run (n + 1) 15 ds = some r) : run (n + 1) (XB + 15) ds = some (.none, .none) := (xrun_need_against n ds).trans (xof ((run_need_against n ds).symm.trans h))
theorem xrun_saddle (n : Nat) (ds : List PyData) : run (n + 1) (XB + 16) ds = xBody (run n) bf MM b_saddle 1 2 ds := rfl
theorem xno_saddle {n : Nat} {ds : List PyData} {r : PyData × PyData} (h : run (n + 1) 16 ds = some r) : run (n + 1) (XB + 16) ds = some (.none, .none) := (xrun_saddle n ds).trans (xof ((run_saddle n ds).symm.trans h))
end L2.Z.K08
namespace L2.Z.K08
open PySem L2.Z
theorem ne_ii0 (m : Nat) : pNe (.int (m : Int)) (.int (m : Int)) = some (false, .bool false) := by rw [pNe_enc EncOk.int (by decide)]; simp
theorem pEq_bb (a b : Bool) : pEq (.bool a) (.bool b) = some (false, .bool (decide (a = b))) := pEq_enc EncOk.bool (by decide) a b
theorem pNe_bb (a b : Bool) : pNe (.bool a) (.bool b) = some (false, .bool (!decide (a = b))) := pNe_enc EncOk.bool (by decide) a b
theorem r_alike : ∀ (k : Nat) (d : PyData), al k d = true → ∀ n, run (n + k + 1) f__law_alike [d, d] = some (.bool true, .none) := by
  have base : ∀ (n : Nat) (d : PyData), (d = .none ∨ (∃ b, d = .bool b) ∨ (∃ i, d = .int i) ∨ ∃ x, d = .str x) → run (n + 1) f__law_alike [d, d] = some (.bool true, .none) := by
    rintro n d (rfl | ⟨b, rfl⟩ | ⟨i, rfl⟩ | ⟨x, rfl⟩)
    · have e : pEq .none .none = some (false, .bool true) := by simp [pEq, okEq, PyData.plain, PyData.depth, PyData.eqv]
      simp [run__law_alike, callBody, b__law_alike, slotsOf, conArg, truth, valof, esc, callArgs, callBack, escAll, asg, asgAll, evst, Tg.bind, getAll, Option.bind_some, Option.bind_none, bf, e, pEq_bb, pIsN, isNone, pIsTL, pIsStr]
    · simp [run__law_alike, callBody, b__law_alike, slotsOf, conArg, truth, valof, esc, callArgs, callBack, escAll, asg, asgAll, evst, Tg.bind, getAll, Option.bind_some, Option.bind_none, bf, pEq_bb, pIsN, isNone, pIsTL, pIsStr, pIsInt, pIsBool]
    · simp [run__law_alike, callBody, b__law_alike, slotsOf, conArg, truth, valof, esc, callArgs, callBack, escAll, asg, asgAll, evst, Tg.bind, getAll, Option.bind_some, Option.bind_none, bf, peq_int, pEq_bb, pIsN, isNone]
    · have e : pEq (.str x) (.str x) = some (false, .bool true) := by simp [pEq, okEq, PyData.plain, PyData.depth, PyData.eqv]
      simp [run__law_alike, callBody, b__law_alike, slotsOf, conArg, truth, valof, esc, callArgs, callBack, escAll, asg, asgAll, evst, Tg.bind, getAll, Option.bind_some, Option.bind_none, bf, e, pEq_bb, pIsN, isNone, pIsTL, pIsStr]
  have lc : ∀ (n : Nat) (ds : List PyData) (d : PyData), (d = .tuple ds ∨ d = .list ds) → ds.length ≤ 1000 → (∀ e ∈ ds, run n f__law_alike [e, e] = some (.bool true, .none)) →
      ev (run n) bf c__law_alike_0 [.dat d, .dat d, .un] = some (.new (.list []), [.dat d, .dat d, .un]) := fun n ds d hd hz h => by
    have e0 : gRange1 [.int (ds.length : Int)] = some ((List.range ds.length).map eI) := gRange1_nat hz
    have e2 : pLen d = some (false, .int ds.length) := by rcases hd with rfl | rfl <;> rfl
    refine (lc_eval eI (List.range ds.length) (fun _ => false) eI (rs := [.val (.int ds.length)]) (ds := [.int ds.length]) [.dat d, .dat d, .un] ?_ ?_ e0 ?_ ?_ ?_).trans ?_
    · simp [slotsOf, conArg, truth, valof, esc, callArgs, callBack, escAll, asg, asgAll, evst, Tg.bind, getAll, Option.bind_some, Option.bind_none, e2]
    · simp [slotsOf, conArg, truth, valof, esc, callArgs, callBack, escAll, asg, asgAll, evst, Tg.bind, getAll, Option.bind_some, Option.bind_none]
    · simp [slotsOf, conArg, truth, valof, esc, callArgs, callBack, escAll, asg, asgAll, evst, Tg.bind, getAll, Option.bind_some, Option.bind_none, z_frr, z_lc, gSeq, frLoop, lcLoop, wipeE, backE, lockAll, unlockAll, lockR, unlockR, Out.mapM, pAll, boolsOf]
    · intro k hk
      have hk := List.mem_range.mp hk
      have e1 : atI ds (k : Int) = some ds[k] := by rw [at_nat hk]; exact List.getElem?_eq_getElem hk
      have e3 : pIdx d (.int k) = some (false, ds[k]) := by rcases hd with rfl | rfl <;> simp [e1]
      have e4 := h _ (List.getElem_mem hk)
      simp [slotsOf, conArg, truth, valof, esc, callArgs, callBack, escAll, asg, asgAll, evst, Tg.bind, getAll, Option.bind_some, Option.bind_none, z_frr, z_lc, gSeq, frLoop, lcLoop, wipeE, backE, lockAll, unlockAll, lockR, unlockR, Out.mapM, pAll, boolsOf, e3, e4, bf]
    · simp [slotsOf, conArg, truth, valof, esc, callArgs, callBack, escAll, asg, asgAll, evst, Tg.bind, getAll, Option.bind_some, Option.bind_none, z_frr, z_lc, gSeq, frLoop, lcLoop, wipeE, backE, lockAll, unlockAll, lockR, unlockR, Out.mapM, pAll, boolsOf]
    · simp
  intro k
  induction k with
  | zero =>
    intro d h n
    cases d <;> simp only [al] at h <;> first | (cases h; done) | (apply base; simp; done)
  | succ k ih =>
    intro d h n
    have e0 := eq_N0 []
    simp only [List.map_nil] at e0
    cases d with
    | tuple ds =>
      simp only [al, Bool.and_eq_true, List.all_eq_true, decide_eq_true_eq] at h
      have e1 := lc (n + k + 1) ds (.tuple ds) (.inl rfl) h.2 fun e he => ih e (h.1 e he) n
      have e2 := ne_ii0 ds.length
      rw [show n + (k + 1) + 1 = (n + k + 1) + 1 by omega]
      simp [run__law_alike, callBody, b__law_alike, slotsOf, conArg, truth, valof, esc, callArgs, callBack, escAll, asg, asgAll, evst, Tg.bind, getAll, Option.bind_some, Option.bind_none, bf, e0, e1, e2, pNe_bb]
    | list ds =>
      simp only [al, Bool.and_eq_true, List.all_eq_true, decide_eq_true_eq] at h
      have e1 := lc (n + k + 1) ds (.list ds) (.inr rfl) h.2 fun e he => ih e (h.1 e he) n
      have e2 := ne_ii0 ds.length
      rw [show n + (k + 1) + 1 = (n + k + 1) + 1 by omega]
      simp [run__law_alike, callBody, b__law_alike, slotsOf, conArg, truth, valof, esc, callArgs, callBack, escAll, asg, asgAll, evst, Tg.bind, getAll, Option.bind_some, Option.bind_none, bf, e0, e1, e2, pNe_bb]
    | dict kvs => simp only [al] at h; cases h
    | none => exact base _ _ (by simp)
    | bool b => exact base _ _ (by simp)
    | int i => exact base _ _ (by simp)
    | str x => exact base _ _ (by simp)
theorem w__law_alike (n : Nat) {α : Type} [DecidableEq α] {e : α → PyData} {a b : α} {r : Bool} (h : oAlike e a b = some r) : run (n + 8) f__law_alike [e a, e b] = some (zB r, .none) := by
  unfold oAlike at h
  split at h
  · rename_i q; cases h; obtain ⟨rfl, q⟩ := q; exact r_alike 6 _ q (n + 1)
  · cases h
end L2.Z.K08
namespace L2.Z.K08
open PySem L2.Z L2.Z.Q
theorem w_is_int (n : Nat) {value : Int} {r : Bool} (h : q_is_int value = some r) : run (n + 1) f_is_int [zI value] = some (zB r, .none) := by
  unfold q_is_int at h
  refine (run_is_int (n + 0) _).trans (kbody rfl ?_)
  unfold b_is_int
  show Rn _ _ _ _ [.dat (zI value)] _
  (have e_ := Option.some.inj h; subst e_)
  exact kret (yv (xand (xt (x1v (xv rfl rfl) rfl rfl) rfl) (fun _ => xt (x1v (x1v (xv rfl rfl) rfl rfl) rfl o_notB) rfl))) ⟨_, rfl⟩
theorem w_is_from (n : Nat) {value : Int} {least : Int} {most : Int} {r : Bool} (h : q_is_from value least most = some r) : run (n + 2) f_is_from [zI value, zI least, zI most] = some (zB r, .none) := by
  unfold q_is_from at h
  refine (run_is_from (n + 1) _).trans (kbody rfl ?_)
  unfold b_is_from
  show Rn _ _ _ _ [.dat (zI value), .dat (zI least), .dat (zI most)] _
  obtain ⟨x1, hx1, h⟩ := bs h
  (have e_ := Option.some.inj h; subst e_)
  exact kret (yv (xand (xt (xcall (ds := [zI value]) (ρ2 := [.dat (zI value), .dat (zI least), .dat (zI most)]) rfl (s1 (xv rfl rfl) s0) rfl (w_is_int _ hx1)) rfl) (fun _ => xt (xch (xv rfl rfl) (xv rfl rfl) rfl rfl o_leI (xv rfl rfl) rfl o_leI) rfl))) ⟨_, rfl⟩
theorem w_need_from (n : Nat) {value : Int} {least : Int} {most : Int} {r : Unit} (h : q_need_from value least most = some r) : run (n + 3) f_need_from [zI value, zI least, zI most] = some (zU r, .none) := by
  unfold q_need_from at h
  refine (run_need_from (n + 2) _).trans (kbodyN rfl ?_)
  unfold b_need_from
  show Rn _ _ _ _ [.dat (zI value), .dat (zI least), .dat (zI most)] _
  obtain ⟨x1, hx1, h⟩ := bs h
  refine kif (xt (x1v (xcall (ds := [zI value, zI least, zI most]) (ρ2 := [.dat (zI value), .dat (zI least), .dat (zI most)]) rfl (s1 (xv rfl rfl) (s1 (xv rfl rfl) (s1 (xv rfl rfl) s0))) rfl (w_is_from _ hx1)) rfl o_notB) rfl) (fun ht => ?_) (fun ht => ?_)
  · have h := ift ht h
    cases h
  · have h := iff_ ht h
    refine knil (?_ : Rn _ _ _ _ _ _)
    (have e_ := Option.some.inj h; subst e_)
    exact knil (.inr ⟨_, rfl⟩)
theorem w_is_place (n : Nat) {value : (Int × Int)} {r : Bool} (h : q_is_place value = some r) : run (n + 3) f_is_place [eP value] = some (zB r, .none) := by
  unfold q_is_place at h
  refine (run_is_place (n + 2) _).trans (kbody rfl ?_)
  unfold b_is_place
  show Rn _ _ _ _ [.dat (eP value), .un] _
  refine kif (xt (xor (xt (x1v (x1v (xv rfl rfl) rfl rfl) rfl o_notB) rfl) (fun _ => xt (x2v (x1v (xv rfl rfl) rfl rfl) xk rfl rfl (pNe_enc EncOk.natI (by decide) (2 : Nat) (2 : Nat))) rfl)) rfl) (fun ht => ?_) (fun ht => ?_)
  · have h := ift ht h
    (have e_ := Option.some.inj h; subst e_)
    exact kret (yv xk) ⟨_, rfl⟩
  · have h := iff_ ht h
    refine knil (?_ : Rn _ _ _ _ _ _)
    obtain ⟨x3, hx3, h⟩ := bs h
    (have e_ := Option.some.inj h; subst e_)
    exact kret (yv (x1v (xlc (enc := zI) (en2 := zB) (ρ1 := [.dat (eP value), .un]) hx3 (s1 (xv rfl rfl) s0) rfl (i_T (e := zI) (l := ([value.1, value.2]))) rfl (fun y1 hy1 => ⟨[.dat (eP value), .dat (zI y1)], (gn (ρ1 := [.dat (eP value), .dat (zI y1)]) (rfl)), fun b hb => by (have e_ := Option.some.inj hb; subst e_); exact ⟨xt xk rfl, rfl, fun hbt y1_y hy => by obtain ⟨x2, hx2, hy⟩ := bs hy; (have e_ := Option.some.inj hy; subst e_); exact ⟨[.dat (eP value), .dat (zI y1)], (yv (xcall (ds := [zI y1, zI (-(1000 : Int)), zI (1000 : Int)]) (ρ2 := [.dat (eP value), .dat (zI y1)]) rfl (s1 (xv rfl rfl) (s1 (x1v xk rfl o_negI) (s1 xk s0))) rfl (w_is_from _ hx2))), rfl⟩⟩⟩) (ρ' := [.dat (eP value), .un]) rfl) rfl (o_all (l := x3)))) ⟨_, rfl⟩
theorem w_need_board (n : Nat) {value : (List (List (Int × Int)))} {r : Unit} (h : q_need_board value = some r) : run (n + 4) f_need_board [eB value] = some (zU r, .none) := by
  unfold q_need_board at h
  refine (run_need_board (n + 3) _).trans (kbodyN rfl ?_)
  unfold b_need_board
  show Rn _ _ _ _ [.dat (eB value), .un, .un, .un] _
  refine kif (xt (xor (xt (x1v (x1v (xv rfl rfl) rfl rfl) rfl o_notB) rfl) (fun _ => xt (x1v (xch xk (x1v (xv rfl rfl) rfl (o_lenT (e := eR) (l := value))) rfl rfl o_leN xk rfl o_leN) rfl o_notB) rfl)) rfl) (fun ht => ?_) (fun ht => ?_)
  · have h := ift ht h
    cases h
  · have h := iff_ ht h
    refine knil (?_ : Rn _ _ _ _ _ _)
    obtain ⟨z9, hz9, h⟩ := bs h
    refine kfor (enc := (zP eI eR)) (fun (s7 : Unit) ρ => ∃ (j10 : Slot) (j11 : Slot), Jd j10 ∧ Jd j11 ∧ ρ = [.dat (eB value), j10, j11, .un]) hz9 (s1 (xv rfl rfl) s0) rfl (i_enumT (e := eR)) ⟨.un, .un, Jd.un, Jd.un, rfl⟩ ?_ ?_
    · rintro y8 hy8 s7 ws7 ρ h ⟨j10, j11, kdj10, kdj11, rfl⟩
      refine ⟨[.dat (eB value), .dat (eI y8.1), .dat (eR y8.2), .un], (gt (gn (ρ1 := [.dat (eB value), .dat (eI y8.1), j11, .un]) (kdj10.jk.asg rfl)) (gn (ρ1 := [.dat (eB value), .dat (eI y8.1), .dat (eR y8.2), .un]) (kdj11.jk.asg rfl))), ?_⟩
      obtain ⟨x14, hx14, h⟩ := bs h
      refine kif (xt (xorP hx14 (xt (x1v (x1v (xv rfl rfl) rfl rfl) rfl o_notB) rfl) (fun _ hm => by obtain ⟨x13, hx13, hm⟩ := bs hm; exact xt (eqV (e := zB) hm (xorP hx13 (xt (x1v (xch xk (x1v (xv rfl rfl) rfl (o_lenT (e := eP) (l := y8.2))) rfl rfl o_leN xk rfl o_leN) rfl o_notB) rfl) (fun _ hm => by obtain ⟨x12, hx12, hm⟩ := bs hm; exact xt (eqV (e := zB) hm (x2v (x1v (xv rfl rfl) rfl (o_lenT (e := eP) (l := y8.2))) (x1v (x2v (xv rfl rfl) xk rfl rfl (o_atT (e := eR) hx12)) rfl (o_lenT (e := eP) (l := x12))) rfl rfl (pNe_enc EncOk.natI (by decide) y8.2.length x12.length))) rfl))) rfl)) rfl) (fun ht => ?_) (fun ht => ?_)
      · have h := ift ht h
        cases h
      · have h := iff_ ht h
        refine knil (?_ : Rn _ _ _ _ _ _)
        obtain ⟨x17, hx17, h⟩ := bs h
        refine kif (xt (x1v (x1v (xlc (enc := eP) (en2 := zB) (ρ1 := [.dat (eB value), .dat (eI y8.1), .dat (eR y8.2), .un]) hx17 (s1 (xv rfl rfl) s0) rfl (i_T (e := eP) (l := y8.2)) rfl (fun y15 hy15 => ⟨[.dat (eB value), .dat (eI y8.1), .dat (eR y8.2), .dat (eP y15)], (gn (ρ1 := [.dat (eB value), .dat (eI y8.1), .dat (eR y8.2), .dat (eP y15)]) (rfl)), fun b hb => by (have e_ := Option.some.inj hb; subst e_); exact ⟨xt xk rfl, rfl, fun hbt y15_y hy => by obtain ⟨x16, hx16, hy⟩ := bs hy; (have e_ := Option.some.inj hy; subst e_); exact ⟨[.dat (eB value), .dat (eI y8.1), .dat (eR y8.2), .dat (eP y15)], (yv (xcall (ds := [eP y15]) (ρ2 := [.dat (eB value), .dat (eI y8.1), .dat (eR y8.2), .dat (eP y15)]) rfl (s1 (xv rfl rfl) s0) rfl (w_is_place _ hx16))), rfl⟩⟩⟩) (ρ' := [.dat (eB value), .dat (eI y8.1), .dat (eR y8.2), .un]) rfl) rfl (o_all (l := x17))) rfl o_notB) rfl) (fun ht => ?_) (fun ht => ?_)
        · have h := ift ht h
          cases h
        · have h := iff_ ht h
          refine knil (?_ : Rn _ _ _ _ _ _)
          (have e_ := Option.some.inj h; subst e_)
          exact knil ⟨.dat (eI y8.1), .dat (eR y8.2), (Jd.dat _), (Jd.dat _), rfl⟩
    · rintro ρ ⟨j10, j11, kdj10, kdj11, rfl⟩
      refine ⟨[.dat (eB value), j10, j11, .un], rfl, ?_⟩
      (have e_ := Option.some.inj h; subst e_)
      exact knil (.inr ⟨_, rfl⟩)
theorem w_sides (n : Nat) {board : (List (List (Int × Int)))} {r : (Nat × Nat)} (h : q_sides board = some r) : run (n + 1) f_sides [eB board] = some ((zP eI eI) r, .none) := by
  unfold q_sides at h
  refine (run_sides (n + 0) _).trans (kbody rfl ?_)
  unfold b_sides
  show Rn _ _ _ _ [.dat (eB board)] _
  obtain ⟨x1, hx1, h⟩ := bs h
  (have e_ := Option.some.inj h; subst e_)
  exact kret (yv (show ev _ _ _ _ = some (.val ((zP eI eI) (board.length, x1.length)), _) from xtup (v1 (yv (x1v (xv rfl rfl) rfl (o_lenT (e := eR) (l := board)))) (v1 (yv (x1v (x2v (xv rfl rfl) xk rfl rfl (o_atT (e := eR) hx1)) rfl (o_lenT (e := eP) (l := x1)))) v0)))) ⟨_, rfl⟩
theorem w_lines_of (n : Nat) {board : (List (List (Int × Int)))} {r : (List Nat)} (h : q_lines_of board = some r) : run (n + 2) f_lines_of [eB board] = some (eT r, .none) := by
  unfold q_lines_of at h
  refine (run_lines_of (n + 1) _).trans (kbody rfl ?_)
  unfold b_lines_of
  show Rn _ _ _ _ [.dat (eB board)] _
  obtain ⟨x1, hx1, h⟩ := bs h
  obtain ⟨x2, hx2, h⟩ := bs h
  (have e_ := Option.some.inj h; subst e_)
  exact kret (yv (x1v (x1v (xcall (ds := [eB board]) (ρ2 := [.dat (eB board)]) rfl (s1 (xv rfl rfl) s0) rfl (w_sides _ hx1)) rfl (o_sumPN (n := x1.1) (k := x1.2))) rfl (o_rgvT hx2))) ⟨_, rfl⟩
theorem w_left_of (n : Nat) {board : (List (List (Int × Int)))} {lot : (List Nat)} {r : ((List Nat) × (List Nat))} (h : q_left_of board lot = some r) : run (n + 3) f_left_of [eB board, eT lot] = some ((zP eT eT) r, .none) := by
  unfold q_left_of at h
  refine (run_left_of (n + 2) _).trans (kbody rfl ?_)
  unfold b_left_of
  show Rn _ _ _ _ [.dat (eB board), .dat (eT lot), .un, .un] _
  obtain ⟨x1, hx1, h⟩ := bs h
  obtain ⟨x3, hx3, h⟩ := bs h
  refine kset (ρ3 := [.dat (eB board), .dat (eT lot), .dat (eT x3), .un]) (eqV (e := eT) hx3 (x1v (xlc (enc := eI) (en2 := eI) (ρ1 := [.dat (eB board), .dat (eT lot), .un, .un]) (lcM_filter (xs := x1) (p := (fun (y2 : Nat) => (!decide (y2 ∈ lot))))) (s1 (x1v (xv rfl rfl) rfl (o_lenT (e := eR) (l := board))) s0) rfl (i_rg1 hx1) rfl (fun y2 hy2 => ⟨[.dat (eB board), .dat (eT lot), .un, .dat (eI y2)], (gn (ρ1 := [.dat (eB board), .dat (eT lot), .un, .dat (eI y2)]) (rfl)), fun b hb => by (have e_ := Option.some.inj hb; subst e_); exact ⟨xt (x2v (xv rfl rfl) (xv rfl rfl) rfl rfl (pNotIn_tup EncOk.natI (by decide) y2 lot)) rfl, rfl, fun hbt y2_y hy => by (have e_ := Option.some.inj hy; subst e_); exact ⟨[.dat (eB board), .dat (eT lot), .un, .dat (eI y2)], (yd (xv rfl rfl) rfl), rfl⟩⟩⟩) (ρ' := [.dat (eB board), .dat (eT lot), .un, .un]) rfl) rfl (o_tupL (e := eI) (l := (x1.filter (fun (y2 : Nat) => (!decide (y2 ∈ lot)))))))) rfl rfl ?_
  obtain ⟨x4, hx4, h⟩ := bs h
  (have e_ := Option.some.inj h; subst e_)
  exact kret (yv (show ev _ _ _ _ = some (.val ((zP eT eT) (x3, ((cutD x4 (some (board.length : Int)) none).filter (fun (y5 : Nat) => (!decide (y5 ∈ lot)))))), _) from xtup (v1 (yd (xv rfl rfl) rfl) (v1 (yv (x1v (xlc (enc := eI) (en2 := eI) (ρ1 := [.dat (eB board), .dat (eT lot), .dat (eT x3), .un]) (lcM_filter (xs := (cutD x4 (some (board.length : Int)) none)) (p := (fun (y5 : Nat) => (!decide (y5 ∈ lot))))) (s1 (x2v (xcall (ds := [eB board]) (ρ2 := [.dat (eB board), .dat (eT lot), .dat (eT x3), .un]) rfl (s1 (xv rfl rfl) s0) rfl (w_lines_of _ hx4)) (x1v (xv rfl rfl) rfl (o_lenT (e := eR) (l := board))) rfl rfl (o_slFT (e := eI))) s0) rfl (i_T (e := eI) (l := (cutD x4 (some (board.length : Int)) none))) rfl (fun y5 hy5 => ⟨[.dat (eB board), .dat (eT lot), .dat (eT x3), .dat (eI y5)], (gn (ρ1 := [.dat (eB board), .dat (eT lot), .dat (eT x3), .dat (eI y5)]) (rfl)), fun b hb => by (have e_ := Option.some.inj hb; subst e_); exact ⟨xt (x2v (xv rfl rfl) (xv rfl rfl) rfl rfl (pNotIn_tup EncOk.natI (by decide) y5 lot)) rfl, rfl, fun hbt y5_y hy => by (have e_ := Option.some.inj hy; subst e_); exact ⟨[.dat (eB board), .dat (eT lot), .dat (eT x3), .dat (eI y5)], (yd (xv rfl rfl) rfl), rfl⟩⟩⟩) (ρ' := [.dat (eB board), .dat (eT lot), .dat (eT x3), .un]) rfl) rfl (o_tupL (e := eI) (l := ((cutD x4 (some (board.length : Int)) none).filter (fun (y5 : Nat) => (!decide (y5 ∈ lot)))))))) v0)))) ⟨_, rfl⟩
theorem w_numbers (n : Nat) {board : (List (List (Int × Int)))} {lot : (List Nat)} {line : Nat} {r : (List Int)} (h : q_numbers board lot line = some r) : run (n + 4) f_numbers [eB board, eT lot, eI line] = some ((zL zI) r, .none) := by
  unfold q_numbers at h
  refine (run_numbers (n + 3) _).trans (kbody rfl ?_)
  unfold b_numbers
  show Rn _ _ _ _ [.dat (eB board), .dat (eT lot), .dat (eI line), .un, .un, .un, .un] _
  obtain ⟨x1, hx1, h⟩ := bs h
  refine kput (yv (xcall (ds := [eB board, eT lot]) (ρ2 := [.dat (eB board), .dat (eT lot), .dat (eI line), .un, .un, .un, .un]) rfl (s1 (xv rfl rfl) (s1 (xv rfl rfl) s0)) rfl (w_left_of _ hx1))) (gt (gn (ρ1 := [.dat (eB board), .dat (eT lot), .dat (eI line), .dat (eT x1.1), .un, .un, .un]) (rfl)) (gn (ρ1 := [.dat (eB board), .dat (eT lot), .dat (eI line), .dat (eT x1.1), .dat (eT x1.2), .un, .un]) (rfl))) ?_
  refine kif (xt (x2v (xv rfl rfl) (x1v (xv rfl rfl) rfl (o_lenT (e := eR) (l := board))) rfl rfl o_ltN) rfl) (fun ht => ?_) (fun ht => ?_)
  · have h := ift ht h
    obtain ⟨x5, hx5, h⟩ := bs h
    (have e_ := Option.some.inj h; subst e_)
    exact kret (yn (xlc (enc := eI) (en2 := zI) (ρ1 := [.dat (eB board), .dat (eT lot), .dat (eI line), .dat (eT x1.1), .dat (eT x1.2), .un, .un]) hx5 (s1 (xv rfl rfl) s0) rfl (i_T (e := eI) (l := x1.2)) rfl (fun y2 hy2 => ⟨[.dat (eB board), .dat (eT lot), .dat (eI line), .dat (eT x1.1), .dat (eT x1.2), .un, .dat (eI y2)], (gn (ρ1 := [.dat (eB board), .dat (eT lot), .dat (eI line), .dat (eT x1.1), .dat (eT x1.2), .un, .dat (eI y2)]) (rfl)), fun b hb => by (have e_ := Option.some.inj hb; subst e_); exact ⟨xt xk rfl, rfl, fun hbt y2_y hy => by obtain ⟨x3, hx3, hy⟩ := bs hy; obtain ⟨x4, hx4, hy⟩ := bs hy; (have e_ := Option.some.inj hy; subst e_); exact ⟨[.dat (eB board), .dat (eT lot), .dat (eI line), .dat (eT x1.1), .dat (eT x1.2), .un, .dat (eI y2)], (yv (x2v (x2v (x2v (xv rfl rfl) (xv rfl rfl) rfl rfl (o_atT (e := eR) hx3)) (x2v (xv rfl rfl) (x1v (xv rfl rfl) rfl (o_lenT (e := eR) (l := board))) rfl rfl o_subI) rfl rfl (o_atT (e := eP) hx4)) xk rfl rfl o_p0)), rfl⟩⟩⟩) (ρ' := [.dat (eB board), .dat (eT lot), .dat (eI line), .dat (eT x1.1), .dat (eT x1.2), .un, .un]) rfl)) ⟨_, rfl⟩
  · have h := iff_ ht h
    refine knil (?_ : Rn _ _ _ _ _ _)
    obtain ⟨x9, hx9, h⟩ := bs h
    (have e_ := Option.some.inj h; subst e_)
    exact kret (yn (xlc (enc := eI) (en2 := zI) (ρ1 := [.dat (eB board), .dat (eT lot), .dat (eI line), .dat (eT x1.1), .dat (eT x1.2), .un, .un]) hx9 (s1 (xv rfl rfl) s0) rfl (i_T (e := eI) (l := x1.1)) rfl (fun y6 hy6 => ⟨[.dat (eB board), .dat (eT lot), .dat (eI line), .dat (eT x1.1), .dat (eT x1.2), .dat (eI y6), .un], (gn (ρ1 := [.dat (eB board), .dat (eT lot), .dat (eI line), .dat (eT x1.1), .dat (eT x1.2), .dat (eI y6), .un]) (rfl)), fun b hb => by (have e_ := Option.some.inj hb; subst e_); exact ⟨xt xk rfl, rfl, fun hbt y6_y hy => by obtain ⟨x7, hx7, hy⟩ := bs hy; obtain ⟨x8, hx8, hy⟩ := bs hy; (have e_ := Option.some.inj hy; subst e_); exact ⟨[.dat (eB board), .dat (eT lot), .dat (eI line), .dat (eT x1.1), .dat (eT x1.2), .dat (eI y6), .un], (yv (x2v (x2v (x2v (xv rfl rfl) (xv rfl rfl) rfl rfl (o_atT (e := eR) hx7)) (x2v (xv rfl rfl) (x1v (xv rfl rfl) rfl (o_lenT (e := eR) (l := board))) rfl rfl o_subI) rfl rfl (o_atT (e := eP) hx8)) xk rfl rfl o_p1)), rfl⟩⟩⟩) (ρ' := [.dat (eB board), .dat (eT lot), .dat (eI line), .dat (eT x1.1), .dat (eT x1.2), .un, .un]) rfl)) ⟨_, rfl⟩
theorem w_answers_of (n : Nat) {board : (List (List (Int × Int)))} {lot : (List Nat)} {line : Nat} {r : (List Nat)} (h : q_answers_of board lot line = some r) : run (n + 4) f_answers_of [eB board, eT lot, eI line] = some (eN r, .none) := by
  unfold q_answers_of at h
  refine (run_answers_of (n + 3) _).trans (kbody rfl ?_)
  unfold b_answers_of
  show Rn _ _ _ _ [.dat (eB board), .dat (eT lot), .dat (eI line), .un, .un, .un, .un, .un, .un, .un] _
  obtain ⟨x1, hx1, h⟩ := bs h
  refine kput (yv (xcall (ds := [eB board, eT lot]) (ρ2 := [.dat (eB board), .dat (eT lot), .dat (eI line), .un, .un, .un, .un, .un, .un, .un]) rfl (s1 (xv rfl rfl) (s1 (xv rfl rfl) s0)) rfl (w_left_of _ hx1))) (gt (gn (ρ1 := [.dat (eB board), .dat (eT lot), .dat (eI line), .dat (eT x1.1), .un, .un, .un, .un, .un, .un]) (rfl)) (gn (ρ1 := [.dat (eB board), .dat (eT lot), .dat (eI line), .dat (eT x1.1), .dat (eT x1.2), .un, .un, .un, .un, .un]) (rfl))) ?_
  obtain ⟨z18, hz18, h⟩ := bs h
  refine kifJ (fun ρ => ρ = [.dat (eB board), .dat (eT lot), .dat (eI line), .dat (eT x1.1), .dat (eT x1.2), .own ((eD eI zI) z18), .un, .un, .un, .un]) (xt (x2v (xv rfl rfl) (x1v (xv rfl rfl) rfl (o_lenT (e := eR) (l := board))) rfl rfl o_ltN) rfl) (fun ht => ?_) (fun ht => ?_) ?_
  · have h := ift ht hz18
    obtain ⟨x13, hx13, h⟩ := bs h
    refine kset (ρ3 := [.dat (eB board), .dat (eT lot), .dat (eI line), .dat (eT x1.1), .dat (eT x1.2), .own ((eD eI zI) (mergeD x13)), .un, .un, .un, .un]) (x1n (xlc (enc := eI) (en2 := (zP eI zI)) (ρ1 := [.dat (eB board), .dat (eT lot), .dat (eI line), .dat (eT x1.1), .dat (eT x1.2), .un, .un, .un, .un, .un]) hx13 (s1 (xv rfl rfl) s0) rfl (i_T (e := eI) (l := x1.2)) rfl (fun y10 hy10 => ⟨[.dat (eB board), .dat (eT lot), .dat (eI line), .dat (eT x1.1), .dat (eT x1.2), .un, .un, .un, .dat (eI y10), .un], (gn (ρ1 := [.dat (eB board), .dat (eT lot), .dat (eI line), .dat (eT x1.1), .dat (eT x1.2), .un, .un, .un, .dat (eI y10), .un]) (rfl)), fun b hb => by (have e_ := Option.some.inj hb; subst e_); exact ⟨xt xk rfl, rfl, fun hbt y10_y hy => by obtain ⟨x11, hx11, hy⟩ := bs hy; obtain ⟨x12, hx12, hy⟩ := bs hy; (have e_ := Option.some.inj hy; subst e_); exact ⟨[.dat (eB board), .dat (eT lot), .dat (eI line), .dat (eT x1.1), .dat (eT x1.2), .un, .un, .un, .dat (eI y10), .un], (yv (show ev _ _ _ _ = some (.val ((zP eI zI) (y10, x12.2)), _) from xtup (v1 (yd (xv rfl rfl) rfl) (v1 (yv (x2v (x2v (x2v (xv rfl rfl) (xv rfl rfl) rfl rfl (o_atT (e := eR) hx11)) (x2v (xv rfl rfl) (x1v (xv rfl rfl) rfl (o_lenT (e := eR) (l := board))) rfl rfl o_subI) rfl rfl (o_atT (e := eP) hx12)) xk rfl rfl o_p1)) v0)))), rfl⟩⟩⟩) (ρ' := [.dat (eB board), .dat (eT lot), .dat (eI line), .dat (eT x1.1), .dat (eT x1.2), .un, .un, .un, .un, .un]) rfl) rfl (o_dictP kEnc_eI (fun _ => rfl) (ev := zI) (l := x13))) rfl rfl ?_
    (have e_ := Option.some.inj h; subst e_)
    exact kj rfl
  · have h := iff_ ht hz18
    obtain ⟨x17, hx17, h⟩ := bs h
    refine kset (ρ3 := [.dat (eB board), .dat (eT lot), .dat (eI line), .dat (eT x1.1), .dat (eT x1.2), .own ((eD eI zI) (mergeD x17)), .un, .un, .un, .un]) (x1n (xlc (enc := eI) (en2 := (zP eI zI)) (ρ1 := [.dat (eB board), .dat (eT lot), .dat (eI line), .dat (eT x1.1), .dat (eT x1.2), .un, .un, .un, .un, .un]) hx17 (s1 (xv rfl rfl) s0) rfl (i_T (e := eI) (l := x1.1)) rfl (fun y14 hy14 => ⟨[.dat (eB board), .dat (eT lot), .dat (eI line), .dat (eT x1.1), .dat (eT x1.2), .un, .un, .un, .un, .dat (eI y14)], (gn (ρ1 := [.dat (eB board), .dat (eT lot), .dat (eI line), .dat (eT x1.1), .dat (eT x1.2), .un, .un, .un, .un, .dat (eI y14)]) (rfl)), fun b hb => by (have e_ := Option.some.inj hb; subst e_); exact ⟨xt xk rfl, rfl, fun hbt y14_y hy => by obtain ⟨x15, hx15, hy⟩ := bs hy; obtain ⟨x16, hx16, hy⟩ := bs hy; (have e_ := Option.some.inj hy; subst e_); exact ⟨[.dat (eB board), .dat (eT lot), .dat (eI line), .dat (eT x1.1), .dat (eT x1.2), .un, .un, .un, .un, .dat (eI y14)], (yv (show ev _ _ _ _ = some (.val ((zP eI zI) (y14, x16.1)), _) from xtup (v1 (yd (xv rfl rfl) rfl) (v1 (yv (x2v (x2v (x2v (xv rfl rfl) (xv rfl rfl) rfl rfl (o_atT (e := eR) hx15)) (x2v (xv rfl rfl) (x1v (xv rfl rfl) rfl (o_lenT (e := eR) (l := board))) rfl rfl o_subI) rfl rfl (o_atT (e := eP) hx16)) xk rfl rfl o_p0)) v0)))), rfl⟩⟩⟩) (ρ' := [.dat (eB board), .dat (eT lot), .dat (eI line), .dat (eT x1.1), .dat (eT x1.2), .un, .un, .un, .un, .un]) rfl) rfl (o_dictP kEnc_eI (fun _ => rfl) (ev := zI) (l := x17))) rfl rfl ?_
    (have e_ := Option.some.inj h; subst e_)
    exact kj rfl
  · rintro ρ rfl
    obtain ⟨x19, hx19, h⟩ := bs h
    refine kset (ρ3 := [.dat (eB board), .dat (eT lot), .dat (eI line), .dat (eT x1.1), .dat (eT x1.2), .own ((eD eI zI) z18), .dat (zI x19), .un, .un, .un]) (x1v (xv rfl rfl) rfl (o_maxV (ek := eI) (fun _ => rfl) hx19)) rfl rfl ?_
    obtain ⟨x20, hx20, h⟩ := bs h
    obtain ⟨x23, hx23, h⟩ := bs h
    (have e_ := Option.some.inj h; subst e_)
    exact kret (yn (xlc (enc := eI) (en2 := eI) (ρ1 := [.dat (eB board), .dat (eT lot), .dat (eI line), .dat (eT x1.1), .dat (eT x1.2), .own ((eD eI zI) z18), .dat (zI x19), .un, .un, .un]) hx23 (s1 (x1n (xv rfl rfl) rfl (o_sortKN (ev := zI) hx20)) s0) rfl (i_L (e := eI) (l := x20)) rfl (fun y21 hy21 => ⟨[.dat (eB board), .dat (eT lot), .dat (eI line), .dat (eT x1.1), .dat (eT x1.2), .own ((eD eI zI) z18), .dat (zI x19), .dat (eI y21), .un, .un], (gn (ρ1 := [.dat (eB board), .dat (eT lot), .dat (eI line), .dat (eT x1.1), .dat (eT x1.2), .own ((eD eI zI) z18), .dat (zI x19), .dat (eI y21), .un, .un]) (rfl)), fun b hb => by obtain ⟨x22, hx22, hb⟩ := bs hb; (have e_ := Option.some.inj hb; subst e_); exact ⟨xt (x2v (x2v (xv rfl rfl) (xv rfl rfl) rfl rfl (idx_D kEnc_eI z18 y21 hx22)) (xv rfl rfl) rfl rfl (pEq_enc EncOk.intI (by decide) x22 x19)) rfl, rfl, fun hbt y21_y hy => by (have e_ := Option.some.inj hy; subst e_); exact ⟨[.dat (eB board), .dat (eT lot), .dat (eI line), .dat (eT x1.1), .dat (eT x1.2), .own ((eD eI zI) z18), .dat (zI x19), .dat (eI y21), .un, .un], (yd (xv rfl rfl) rfl), rfl⟩⟩⟩) (ρ' := [.dat (eB board), .dat (eT lot), .dat (eI line), .dat (eT x1.1), .dat (eT x1.2), .own ((eD eI zI) z18), .dat (zI x19), .un, .un, .un]) rfl)) ⟨_, rfl⟩
theorem w_bests_of (n : Nat) {board : (List (List (Int × Int)))} {lot : (List Nat)} {r : (List (Nat × Nat))} (h : q_bests_of board lot = some r) : run (n + 5) f_bests_of [eB board, eT lot] = some ((zL (zP eI eI)) r, .none) := by
  unfold q_bests_of at h
  refine (run_bests_of (n + 4) _).trans (kbody rfl ?_)
  unfold b_bests_of
  show Rn _ _ _ _ [.dat (eB board), .dat (eT lot), .un, .un, .un, .un, .un] _
  obtain ⟨x1, hx1, h⟩ := bs h
  refine kput (yv (xcall (ds := [eB board, eT lot]) (ρ2 := [.dat (eB board), .dat (eT lot), .un, .un, .un, .un, .un]) rfl (s1 (xv rfl rfl) (s1 (xv rfl rfl) s0)) rfl (w_left_of _ hx1))) (gt (gn (ρ1 := [.dat (eB board), .dat (eT lot), .dat (eT x1.1), .un, .un, .un, .un]) (rfl)) (gn (ρ1 := [.dat (eB board), .dat (eT lot), .dat (eT x1.1), .dat (eT x1.2), .un, .un, .un]) (rfl))) ?_
  refine kset (ρ3 := [.dat (eB board), .dat (eT lot), .dat (eT x1.1), .dat (eT x1.2), .own ((zL (zP eI eI)) ([] : (List (Nat × Nat)))), .un, .un]) (xlst v0) rfl rfl ?_
  obtain ⟨z20, hz20, h⟩ := bs h
  refine kfor (enc := eI) (fun (s18 : (List (Nat × Nat))) ρ => ∃ (j21 : Slot) (j22 : Slot), Jd j21 ∧ Jd j22 ∧ ρ = [.dat (eB board), .dat (eT lot), .dat (eT x1.1), .dat (eT x1.2), .own ((zL (zP eI eI)) s18), j21, j22]) hz20 (s1 (xv rfl rfl) s0) rfl (i_T (e := eI) (l := x1.1)) ⟨.un, .un, Jd.un, Jd.un, rfl⟩ ?_ ?_
  · rintro y19 hy19 s18 ws18 ρ h ⟨j21, j22, kdj21, kdj22, rfl⟩
    refine ⟨[.dat (eB board), .dat (eT lot), .dat (eT x1.1), .dat (eT x1.2), .own ((zL (zP eI eI)) s18), .dat (eI y19), j22], (gn (ρ1 := [.dat (eB board), .dat (eT lot), .dat (eT x1.1), .dat (eT x1.2), .own ((zL (zP eI eI)) s18), .dat (eI y19), j22]) (kdj21.jk.asg rfl)), ?_⟩
    obtain ⟨z31, hz31, h⟩ := bs h
    refine kfor (enc := eI) (fun (s29 : (List (Nat × Nat))) ρ => ∃ (j32 : Slot), Jd j32 ∧ ρ = [.dat (eB board), .dat (eT lot), .dat (eT x1.1), .dat (eT x1.2), .own ((zL (zP eI eI)) s29), .dat (eI y19), j32]) hz31 (s1 (xv rfl rfl) s0) rfl (i_T (e := eI) (l := x1.2)) ⟨j22, kdj22, rfl⟩ ?_ ?_
    · rintro y30 hy30 s29 ws29 ρ h ⟨j32, kdj32, rfl⟩
      refine ⟨[.dat (eB board), .dat (eT lot), .dat (eT x1.1), .dat (eT x1.2), .own ((zL (zP eI eI)) s29), .dat (eI y19), .dat (eI y30)], (gn (ρ1 := [.dat (eB board), .dat (eT lot), .dat (eT x1.1), .dat (eT x1.2), .own ((zL (zP eI eI)) s29), .dat (eI y19), .dat (eI y30)]) (kdj32.jk.asg rfl)), ?_⟩
      obtain ⟨x33, hx33, h⟩ := bs h
      obtain ⟨x35, hx35, h⟩ := bs h
      obtain ⟨z38, hz38, h⟩ := bs h
      refine kifJ (fun ρ => ρ = [.dat (eB board), .dat (eT lot), .dat (eT x1.1), .dat (eT x1.2), .own ((zL (zP eI eI)) z38), .dat (eI y19), .dat (eI y30)]) (xt (xandP hx35 (xt (x2v (xv rfl rfl) (xcall (ds := [eB board, eT lot, eI y30]) (ρ2 := [.dat (eB board), .dat (eT lot), .dat (eT x1.1), .dat (eT x1.2), .own ((zL (zP eI eI)) s29), .dat (eI y19), .dat (eI y30)]) rfl (s1 (xv rfl rfl) (s1 (xv rfl rfl) (s1 (xv rfl rfl) s0))) rfl (w_answers_of _ hx33)) rfl rfl (pIn_lst EncOk.natI (by decide) y19 x33)) rfl) (fun _ hm => by obtain ⟨x34, hx34, hm⟩ := bs hm; exact xt (eqV (e := zB) hm (x2v (xv rfl rfl) (xcall (ds := [eB board, eT lot, eI y19]) (ρ2 := [.dat (eB board), .dat (eT lot), .dat (eT x1.1), .dat (eT x1.2), .own ((zL (zP eI eI)) s29), .dat (eI y19), .dat (eI y30)]) rfl (s1 (xv rfl rfl) (s1 (xv rfl rfl) (s1 (xv rfl rfl) s0))) rfl (w_answers_of _ hx34)) rfl rfl (pIn_lst EncOk.natI (by decide) y30 x34))) rfl)) rfl) (fun ht => ?_) (fun ht => ?_) ?_
      · have h := ift ht hz38
        obtain ⟨x37, hx37, h⟩ := bs h
        refine kapp (e := (zP eI eI)) hx37 rfl (yv (show ev _ _ _ _ = some (.val ((zP eI eI) (y19, y30)), _) from xtup (v1 (yd (xv rfl rfl) rfl) (v1 (yd (xv rfl rfl) rfl) v0)))) rfl (ρ2 := [.dat (eB board), .dat (eT lot), .dat (eT x1.1), .dat (eT x1.2), .own ((zL (zP eI eI)) x37), .dat (eI y19), .dat (eI y30)]) rfl ?_
        (have e_ := Option.some.inj h; subst e_)
        exact kj rfl
      · have h := iff_ ht hz38
        (have e_ := Option.some.inj h; subst e_)
        exact kj rfl
      · rintro ρ rfl
        (have e_ := Option.some.inj h; subst e_)
        exact knil ⟨.dat (eI y30), (Jd.dat _), rfl⟩
    · rintro ρ ⟨j32, kdj32, rfl⟩
      refine ⟨[.dat (eB board), .dat (eT lot), .dat (eT x1.1), .dat (eT x1.2), .own ((zL (zP eI eI)) z31), .dat (eI y19), j32], rfl, ?_⟩
      (have e_ := Option.some.inj h; subst e_)
      exact knil ⟨.dat (eI y19), j32, (Jd.dat _), kdj32, rfl⟩
  · rintro ρ ⟨j21, j22, kdj21, kdj22, rfl⟩
    refine ⟨[.dat (eB board), .dat (eT lot), .dat (eT x1.1), .dat (eT x1.2), .own ((zL (zP eI eI)) z20), j21, j22], rfl, ?_⟩
    (have e_ := Option.some.inj h; subst e_)
    exact kret (yo (ρ2 := [.dat (eB board), .dat (eT lot), .dat (eT x1.1), .dat (eT x1.2), .dat ((zL (zP eI eI)) z20), j21, j22]) (xv rfl rfl) rfl rfl) ⟨_, rfl⟩
theorem w_safe_numbers (n : Nat) {board : (List (List (Int × Int)))} {r : (Int × Int)} (h : q_safe_numbers board = some r) : run (n + 5) f_safe_numbers [eB board] = some (eP r, .none) := by
  unfold q_safe_numbers at h
  refine (run_safe_numbers (n + 4) _).trans (kbody rfl ?_)
  unfold b_safe_numbers
  show Rn _ _ _ _ [.dat (eB board), .un, .un] _
  obtain ⟨x1, hx1, h⟩ := bs h
  refine kexpr (xcall (ds := [eB board]) (ρ2 := [.dat (eB board), .un, .un]) rfl (s1 (xv rfl rfl) s0) rfl (w_need_board _ hx1)) ?_
  obtain ⟨x2, hx2, h⟩ := bs h
  obtain ⟨x6, hx6, h⟩ := bs h
  obtain ⟨x7, hx7, h⟩ := bs h
  refine kset (ρ3 := [.dat (eB board), .dat (zI x7), .un]) (x1v (xlc (enc := eI) (en2 := zI) (ρ1 := [.dat (eB board), .un, .un]) hx6 (s1 (x1v (xv rfl rfl) rfl (o_lenT (e := eR) (l := board))) s0) rfl (i_rg1 hx2) rfl (fun y3 hy3 => ⟨[.dat (eB board), .un, .dat (eI y3)], (gn (ρ1 := [.dat (eB board), .un, .dat (eI y3)]) (rfl)), fun b hb => by (have e_ := Option.some.inj hb; subst e_); exact ⟨xt xk rfl, rfl, fun hbt y3_y hy => by obtain ⟨x4, hx4, hy⟩ := bs hy; obtain ⟨x5, hx5, hy⟩ := bs hy; (have e_ := Option.some.inj hy; subst e_); exact ⟨[.dat (eB board), .un, .dat (eI y3)], (yv (x1v (xcall (ds := [eB board, eT ([] : (List Nat)), eI y3]) (ρ2 := [.dat (eB board), .un, .dat (eI y3)]) rfl (s1 (xv rfl rfl) (s1 (xtup v0) (s1 (xv rfl rfl) s0))) rfl (w_numbers _ hx4)) rfl (o_minLI hx5).1)), rfl⟩⟩⟩) (ρ' := [.dat (eB board), .un, .un]) rfl) rfl (o_maxLI hx7).1) rfl rfl ?_
  obtain ⟨x8, hx8, h⟩ := bs h
  obtain ⟨x12, hx12, h⟩ := bs h
  obtain ⟨x13, hx13, h⟩ := bs h
  (have e_ := Option.some.inj h; subst e_)
  exact kret (yv (show ev _ _ _ _ = some (.val (eP (x7, x13)), _) from xtup (v1 (yd (xv rfl rfl) rfl) (v1 (yv (x1v (xlc (enc := eI) (en2 := zI) (ρ1 := [.dat (eB board), .dat (zI x7), .un]) hx12 (s1 (x2v (xcall (ds := [eB board]) (ρ2 := [.dat (eB board), .dat (zI x7), .un]) rfl (s1 (xv rfl rfl) s0) rfl (w_lines_of _ hx8)) (x1v (xv rfl rfl) rfl (o_lenT (e := eR) (l := board))) rfl rfl (o_slFT (e := eI))) s0) rfl (i_T (e := eI) (l := (cutD x8 (some (board.length : Int)) none))) rfl (fun y9 hy9 => ⟨[.dat (eB board), .dat (zI x7), .dat (eI y9)], (gn (ρ1 := [.dat (eB board), .dat (zI x7), .dat (eI y9)]) (rfl)), fun b hb => by (have e_ := Option.some.inj hb; subst e_); exact ⟨xt xk rfl, rfl, fun hbt y9_y hy => by obtain ⟨x10, hx10, hy⟩ := bs hy; obtain ⟨x11, hx11, hy⟩ := bs hy; (have e_ := Option.some.inj hy; subst e_); exact ⟨[.dat (eB board), .dat (zI x7), .dat (eI y9)], (yv (x1v (xcall (ds := [eB board, eT ([] : (List Nat)), eI y9]) (ρ2 := [.dat (eB board), .dat (zI x7), .dat (eI y9)]) rfl (s1 (xv rfl rfl) (s1 (xtup v0) (s1 (xv rfl rfl) s0))) rfl (w_numbers _ hx10)) rfl (o_minLI hx11).1)), rfl⟩⟩⟩) (ρ' := [.dat (eB board), .dat (zI x7), .un]) rfl) rfl (o_maxLI hx13).1)) v0)))) ⟨_, rfl⟩
theorem w_safe_lines (n : Nat) {board : (List (List (Int × Int)))} {r : (List Nat)} (h : q_safe_lines board = some r) : run (n + 6) f_safe_lines [eB board] = some (eT r, .none) := by
  unfold q_safe_lines at h
  refine (run_safe_lines (n + 5) _).trans (kbody rfl ?_)
  unfold b_safe_lines
  show Rn _ _ _ _ [.dat (eB board), .un, .un, .un] _
  obtain ⟨x1, hx1, h⟩ := bs h
  refine kset (ρ3 := [.dat (eB board), .dat (eP x1), .un, .un]) (xcall (ds := [eB board]) (ρ2 := [.dat (eB board), .un, .un, .un]) rfl (s1 (xv rfl rfl) s0) rfl (w_safe_numbers _ hx1)) rfl rfl ?_
  refine kset (ρ3 := [.dat (eB board), .dat (eP x1), .own (eN ([] : (List Nat))), .un]) (xlst v0) rfl rfl ?_
  obtain ⟨x2, hx2, h⟩ := bs h
  obtain ⟨z12, hz12, h⟩ := bs h
  refine kfor (enc := eI) (fun (s10 : (List Nat)) ρ => ∃ (j13 : Slot), Jd j13 ∧ ρ = [.dat (eB board), .dat (eP x1), .own (eN s10), j13]) hz12 (s1 (xcall (ds := [eB board]) (ρ2 := [.dat (eB board), .dat (eP x1), .own (eN ([] : (List Nat))), .un]) rfl (s1 (xv rfl rfl) s0) rfl (w_lines_of _ hx2)) s0) rfl (i_T (e := eI) (l := x2)) ⟨.un, Jd.un, rfl⟩ ?_ ?_
  · rintro y11 hy11 s10 ws10 ρ h ⟨j13, kdj13, rfl⟩
    refine ⟨[.dat (eB board), .dat (eP x1), .own (eN s10), .dat (eI y11)], (gn (ρ1 := [.dat (eB board), .dat (eP x1), .own (eN s10), .dat (eI y11)]) (kdj13.jk.asg rfl)), ?_⟩
    obtain ⟨x14, hx14, h⟩ := bs h
    obtain ⟨x15, hx15, h⟩ := bs h
    obtain ⟨x16, hx16, h⟩ := bs h
    obtain ⟨x17, hx17, h⟩ := bs h
    obtain ⟨z20, hz20, h⟩ := bs h
    refine kifJ (fun ρ => ρ = [.dat (eB board), .dat (eP x1), .own (eN z20), .dat (eI y11)]) (xt (x2v (x1v (xcall (ds := [eB board, eT ([] : (List Nat)), eI y11]) (ρ2 := [.dat (eB board), .dat (eP x1), .own (eN s10), .dat (eI y11)]) rfl (s1 (xv rfl rfl) (s1 (xtup v0) (s1 (xv rfl rfl) s0))) rfl (w_numbers _ hx14)) rfl (o_minLI hx15).1) (x2v (xv rfl rfl) (xiteV (e := eI) (ρ2 := [.dat (eB board), .dat (eP x1), .own (eN s10), .dat (eI y11)]) hx16 (xt (x2v (xv rfl rfl) (x1v (xv rfl rfl) rfl (o_lenT (e := eR) (l := board))) rfl rfl o_ltN) rfl) (fun ht_ hm => by exact eqV (e := eI) hm xk) (fun ht_ hm => by exact eqV (e := eI) hm xk)) rfl rfl (o_atP (e := zI) (p := x1) hx17)) rfl rfl (pEq_enc EncOk.intI (by decide) x15 x17)) rfl) (fun ht => ?_) (fun ht => ?_) ?_
    · have h := ift ht hz20
      obtain ⟨x19, hx19, h⟩ := bs h
      refine kapp (e := eI) hx19 rfl (yd (xv rfl rfl) rfl) rfl (ρ2 := [.dat (eB board), .dat (eP x1), .own (eN x19), .dat (eI y11)]) rfl ?_
      (have e_ := Option.some.inj h; subst e_)
      exact kj rfl
    · have h := iff_ ht hz20
      (have e_ := Option.some.inj h; subst e_)
      exact kj rfl
    · rintro ρ rfl
      (have e_ := Option.some.inj h; subst e_)
      exact knil ⟨.dat (eI y11), (Jd.dat _), rfl⟩
  · rintro ρ ⟨j13, kdj13, rfl⟩
    refine ⟨[.dat (eB board), .dat (eP x1), .own (eN z12), j13], rfl, ?_⟩
    (have e_ := Option.some.inj h; subst e_)
    exact kret (yv (x1v (xv rfl rfl) rfl (o_tupL (e := eI) (l := z12)))) ⟨_, rfl⟩
theorem w_adds_up (n : Nat) {board : (List (List (Int × Int)))} {r : Bool} (h : q_adds_up board = some r) : run (n + 1) f_adds_up [eB board] = some (zB r, .none) := by
  unfold q_adds_up at h
  refine (run_adds_up (n + 0) _).trans (kbody rfl ?_)
  unfold b_adds_up
  show Rn _ _ _ _ [.dat (eB board), .un, .un] _
  (have e_ := Option.some.inj h; subst e_)
  exact kret (yv (x1v (xlc (enc := eR) (en2 := zB) (ρ1 := [.dat (eB board), .un, .un]) (lcM_map (xs := board) (f := (fun (y1 : (List (Int × Int))) => ((y1.map (fun (y2 : (Int × Int)) => decide ((y2.1 + y2.2) = (0 : Int)))).all id)))) (s1 (xv rfl rfl) s0) rfl (i_T (e := eR) (l := board)) rfl (fun y1 hy1 => ⟨[.dat (eB board), .dat (eR y1), .un], (gn (ρ1 := [.dat (eB board), .dat (eR y1), .un]) (rfl)), fun b hb => by (have e_ := Option.some.inj hb; subst e_); exact ⟨xt xk rfl, rfl, fun hbt y1_y hy => by (have e_ := Option.some.inj hy; subst e_); exact ⟨[.dat (eB board), .dat (eR y1), .un], (yv (x1v (xlc (enc := eP) (en2 := zB) (ρ1 := [.dat (eB board), .dat (eR y1), .un]) (lcM_map (xs := y1) (f := (fun (y2 : (Int × Int)) => decide ((y2.1 + y2.2) = (0 : Int))))) (s1 (xv rfl rfl) s0) rfl (i_T (e := eP) (l := y1)) rfl (fun y2 hy2 => ⟨[.dat (eB board), .dat (eR y1), .dat (eP y2)], (gn (ρ1 := [.dat (eB board), .dat (eR y1), .dat (eP y2)]) (rfl)), fun b hb => by (have e_ := Option.some.inj hb; subst e_); exact ⟨xt xk rfl, rfl, fun hbt y2_y hy => by (have e_ := Option.some.inj hy; subst e_); exact ⟨[.dat (eB board), .dat (eR y1), .dat (eP y2)], (yv (x2v (x1v (xv rfl rfl) rfl o_sumPI) xk rfl rfl (pEq_enc EncOk.intI (by decide) (y2.1 + y2.2) (0 : Int)))), rfl⟩⟩⟩) (ρ' := [.dat (eB board), .dat (eR y1), .un]) rfl) rfl (o_all (l := (y1.map (fun (y2 : (Int × Int)) => decide ((y2.1 + y2.2) = (0 : Int)))))))), rfl⟩⟩⟩) (ρ' := [.dat (eB board), .un, .un]) rfl) rfl (o_all (l := (board.map (fun (y1 : (List (Int × Int))) => ((y1.map (fun (y2 : (Int × Int)) => decide ((y2.1 + y2.2) = (0 : Int)))).all id))))))) ⟨_, rfl⟩
theorem w_is_against (n : Nat) {board : (List (List (Int × Int)))} {r : Bool} (h : q_is_against board = some r) : run (n + 5) f_is_against [eB board] = some (zB r, .none) := by
  unfold q_is_against at h
  refine (run_is_against (n + 4) _).trans (kbody rfl ?_)
  unfold b_is_against
  show Rn _ _ _ _ [.dat (eB board)] _
  obtain ⟨x1, hx1, h⟩ := bs h
  refine kexpr (xcall (ds := [eB board]) (ρ2 := [.dat (eB board)]) rfl (s1 (xv rfl rfl) s0) rfl (w_need_board _ hx1)) ?_
  obtain ⟨x2, hx2, h⟩ := bs h
  (have e_ := Option.some.inj h; subst e_)
  exact kret (yv (xcall (ds := [eB board]) (ρ2 := [.dat (eB board)]) rfl (s1 (xv rfl rfl) s0) rfl (w_adds_up _ hx2))) ⟨_, rfl⟩
theorem w_need_against (n : Nat) {board : (List (List (Int × Int)))} {r : Unit} (h : q_need_against board = some r) : run (n + 5) f_need_against [eB board] = some (zU r, .none) := by
  unfold q_need_against at h
  refine (run_need_against (n + 4) _).trans (kbodyN rfl ?_)
  unfold b_need_against
  show Rn _ _ _ _ [.dat (eB board)] _
  obtain ⟨x1, hx1, h⟩ := bs h
  refine kexpr (xcall (ds := [eB board]) (ρ2 := [.dat (eB board)]) rfl (s1 (xv rfl rfl) s0) rfl (w_need_board _ hx1)) ?_
  obtain ⟨x2, hx2, h⟩ := bs h
  refine kif (xt (x1v (xcall (ds := [eB board]) (ρ2 := [.dat (eB board)]) rfl (s1 (xv rfl rfl) s0) rfl (w_adds_up _ hx2)) rfl o_notB) rfl) (fun ht => ?_) (fun ht => ?_)
  · have h := ift ht h
    cases h
  · have h := iff_ ht h
    refine knil (?_ : Rn _ _ _ _ _ _)
    (have e_ := Option.some.inj h; subst e_)
    exact knil (.inr ⟨_, rfl⟩)
theorem w_saddle (n : Nat) {board : (List (List (Int × Int)))} {r : (Option Int)} (h : q_saddle board = some r) : run (n + 6) f_saddle [eB board] = some ((zO zI) r, .none) := by
  unfold q_saddle at h
  refine (run_saddle (n + 5) _).trans (kbody rfl ?_)
  unfold b_saddle
  show Rn _ _ _ _ [.dat (eB board), .un] _
  obtain ⟨x1, hx1, h⟩ := bs h
  refine kmayN (ds := [eB board]) (ρ1 := [.dat (eB board), .un]) (ρ2 := [.dat (eB board), .un]) (s1 (xv rfl rfl) s0) rfl (xno_need_against (w_need_against _ hx1)) ?_
  refine kexpr (xcall (ds := [eB board]) (ρ2 := [.dat (eB board), .un]) rfl (s1 (xv rfl rfl) s0) rfl (w_need_against _ hx1)) ?_
  obtain ⟨x2, hx2, h⟩ := bs h
  refine kset (ρ3 := [.dat (eB board), .dat ((zL (zP eI eI)) x2)]) (xcall (ds := [eB board, eT ([] : (List Nat))]) (ρ2 := [.dat (eB board), .un]) rfl (s1 (xv rfl rfl) (s1 (xtup v0) s0)) rfl (w_bests_of _ hx2)) rfl rfl ?_
  obtain ⟨x7, hx7, h⟩ := bs h
  (have e_ := Option.some.inj h; subst e_)
  exact kret (yv (xiteV (e := (zO zI)) (ρ2 := [.dat (eB board), .dat ((zL (zP eI eI)) x2)]) hx7 (xt (x2v (xv rfl rfl) (xlst v0) rfl rfl (pNe_enc (EncOk.tL (EncOk.tP EncOk.natI EncOk.natI)) (by decide) x2 ([] : (List (Nat × Nat))))) rfl) (fun ht_ hm => by obtain ⟨x3, hx3, hm⟩ := bs hm; obtain ⟨x4, hx4, hm⟩ := bs hm; obtain ⟨x5, hx5, hm⟩ := bs hm; obtain ⟨x6, hx6, hm⟩ := bs hm; exact eqV (e := (zO zI)) hm (show ev _ _ _ _ = some (.val ((zO zI) (some x6.1)), _) from (x2v (x2v (x2v (xv rfl rfl) (x2v (x2v (xv rfl rfl) xk rfl rfl (o_atL (e := (zP eI eI)) hx3)) xk rfl rfl o_p0) rfl rfl (o_atT (e := eR) hx4)) (x2v (x2v (x2v (xv rfl rfl) xk rfl rfl (o_atL (e := (zP eI eI)) hx5)) xk rfl rfl o_p1) (x1v (xv rfl rfl) rfl (o_lenT (e := eR) (l := board))) rfl rfl o_subI) rfl rfl (o_atT (e := eP) hx6)) xk rfl rfl o_p0))) (fun ht_ hm => by exact eqV (e := (zO zI)) hm (show ev _ _ _ _ = some (.val ((zO zI) none), _) from xk)))) ⟨_, rfl⟩
theorem w_gap (n : Nat) {board : (List (List (Int × Int)))} {r : Int} (h : q_gap board = some r) : run (n + 6) f_gap [eB board] = some (zI r, .none) := by
  unfold q_gap at h
  refine (run_gap (n + 5) _).trans (kbody rfl ?_)
  unfold b_gap
  show Rn _ _ _ _ [.dat (eB board), .un, .un] _
  obtain ⟨x1, hx1, h⟩ := bs h
  refine kmayN (ds := [eB board]) (ρ1 := [.dat (eB board), .un, .un]) (ρ2 := [.dat (eB board), .un, .un]) (s1 (xv rfl rfl) s0) rfl (xno_need_against (w_need_against _ hx1)) ?_
  refine kexpr (xcall (ds := [eB board]) (ρ2 := [.dat (eB board), .un, .un]) rfl (s1 (xv rfl rfl) s0) rfl (w_need_against _ hx1)) ?_
  obtain ⟨x2, hx2, h⟩ := bs h
  refine kput (yv (xcall (ds := [eB board]) (ρ2 := [.dat (eB board), .un, .un]) rfl (s1 (xv rfl rfl) s0) rfl (w_safe_numbers _ hx2))) (gt (gn (ρ1 := [.dat (eB board), .dat (zI x2.1), .un]) (rfl)) (gn (ρ1 := [.dat (eB board), .dat (zI x2.1), .dat (zI x2.2)]) (rfl))) ?_
  (have e_ := Option.some.inj h; subst e_)
  exact kret (yv (x2v (x1v (xv rfl rfl) rfl o_negI) (xv rfl rfl) rfl rfl o_subI)) ⟨_, rfl⟩
theorem w_answer_walk (n : Nat) {board : (List (List (Int × Int)))} {row : Nat} {steps : Nat} {r : (List Nat)} (h : q_answer_walk board row steps = some r) : run (n + 5) f_answer_walk [eB board, eI row, eI steps] = some (eT r, .none) := by
  unfold q_answer_walk at h
  refine (run_answer_walk (n + 4) _).trans (kbody rfl ?_)
  unfold b_answer_walk
  show Rn _ _ _ _ [.dat (eB board), .dat (eI row), .dat (eI steps), .un, .un] _
  obtain ⟨x1, hx1, h⟩ := bs h
  refine kexpr (xcall (ds := [eB board]) (ρ2 := [.dat (eB board), .dat (eI row), .dat (eI steps), .un, .un]) rfl (s1 (xv rfl rfl) s0) rfl (w_need_board _ hx1)) ?_
  obtain ⟨x2, hx2, h⟩ := bs h
  refine kif (xt (x1v (xcall (ds := [zI (row : Int), zI (0 : Int), zI ((board.length : Int) - (1 : Int))]) (ρ2 := [.dat (eB board), .dat (eI row), .dat (eI steps), .un, .un]) rfl (s1 (xv rfl rfl) (s1 xk (s1 (x2v (x1v (xv rfl rfl) rfl (o_lenT (e := eR) (l := board))) xk rfl rfl o_subI) s0))) rfl (w_is_from _ hx2)) rfl o_notB) rfl) (fun ht => ?_) (fun ht => ?_)
  · have h := ift ht h
    cases h
  · have h := iff_ ht h
    refine knil (?_ : Rn _ _ _ _ _ _)
    obtain ⟨x3, hx3, h⟩ := bs h
    refine kexpr (xcall (ds := [zI (steps : Int), zI (0 : Int), zI (100 : Int)]) (ρ2 := [.dat (eB board), .dat (eI row), .dat (eI steps), .un, .un]) rfl (s1 (xv rfl rfl) (s1 xk (s1 xk s0))) rfl (w_need_from _ hx3)) ?_
    refine kset (ρ3 := [.dat (eB board), .dat (eI row), .dat (eI steps), .own (eN [row]), .un]) (show ev _ _ _ _ = some (.new (eN [row]), _) from xlst (v1 (yd (xv rfl rfl) rfl) v0)) rfl rfl ?_
    obtain ⟨x4, hx4, h⟩ := bs h
    obtain ⟨z11, hz11, h⟩ := bs h
    refine kfor (enc := eI) (fun (s9 : (List Nat)) ρ => ∃ (j12 : Slot), Jd j12 ∧ ρ = [.dat (eB board), .dat (eI row), .dat (eI steps), .own (eN s9), j12]) hz11 (s1 (xv rfl rfl) s0) rfl (i_rg1 hx4) ⟨.un, Jd.un, rfl⟩ ?_ ?_
    · rintro y10 hy10 s9 ws9 ρ h ⟨j12, kdj12, rfl⟩
      refine ⟨[.dat (eB board), .dat (eI row), .dat (eI steps), .own (eN s9), .dat (eI y10)], (gn (ρ1 := [.dat (eB board), .dat (eI row), .dat (eI steps), .own (eN s9), .dat (eI y10)]) (kdj12.jk.asg rfl)), ?_⟩
      obtain ⟨x13, hx13, h⟩ := bs h
      obtain ⟨x14, hx14, h⟩ := bs h
      obtain ⟨x15, hx15, h⟩ := bs h
      obtain ⟨x16, hx16, h⟩ := bs h
      refine kapp (e := eI) hx16 rfl (yv (x2v (xcall (ds := [eB board, eT ([] : (List Nat)), eI x13]) (ρ2 := [.dat (eB board), .dat (eI row), .dat (eI steps), .own (eN s9), .dat (eI y10)]) rfl (s1 (xv rfl rfl) (s1 (xtup v0) (s1 (x2v (xv rfl rfl) (x1v xk rfl o_negI) rfl rfl (o_atL (e := eI) hx13)) s0))) rfl (w_answers_of _ hx14)) xk rfl rfl (o_atL (e := eI) hx15))) rfl (ρ2 := [.dat (eB board), .dat (eI row), .dat (eI steps), .own (eN x16), .dat (eI y10)]) rfl ?_
      (have e_ := Option.some.inj h; subst e_)
      exact knil ⟨.dat (eI y10), (Jd.dat _), rfl⟩
    · rintro ρ ⟨j12, kdj12, rfl⟩
      refine ⟨[.dat (eB board), .dat (eI row), .dat (eI steps), .own (eN z11), j12], rfl, ?_⟩
      (have e_ := Option.some.inj h; subst e_)
      exact kret (yv (x1v (xv rfl rfl) rfl (o_tupL (e := eI) (l := z11)))) ⟨_, rfl⟩
theorem w_answer_ring (n : Nat) {board : (List (List (Int × Int)))} {row : Nat} {r : (List Nat)} (h : q_answer_ring board row = some r) : run (n + 6) f_answer_ring [eB board, eI row] = some (eT r, .none) := by
  unfold q_answer_ring at h
  refine (run_answer_ring (n + 5) _).trans (kbody rfl ?_)
  unfold b_answer_ring
  show Rn _ _ _ _ [.dat (eB board), .dat (eI row), .un, .un, .un, .un, .un] _
  obtain ⟨x1, hx1, h⟩ := bs h
  refine kexpr (xcall (ds := [eB board]) (ρ2 := [.dat (eB board), .dat (eI row), .un, .un, .un, .un, .un]) rfl (s1 (xv rfl rfl) s0) rfl (w_need_board _ hx1)) ?_
  obtain ⟨x2, hx2, h⟩ := bs h
  obtain ⟨x3, hx3, h⟩ := bs h
  obtain ⟨x4, hx4, h⟩ := bs h
  refine kset (ρ3 := [.dat (eB board), .dat (eI row), .dat (eT x4), .un, .un, .un, .un]) (xcall (ds := [eB board, eI row, eI x3]) (ρ2 := [.dat (eB board), .dat (eI row), .un, .un, .un, .un, .un]) rfl (s1 (xv rfl rfl) (s1 (xv rfl rfl) (s1 (x2v xk (x1v (xcall (ds := [eB board]) (ρ2 := [.dat (eB board), .dat (eI row), .un, .un, .un, .un, .un]) rfl (s1 (xv rfl rfl) s0) rfl (w_sides _ hx2)) rfl (o_sumPN (n := x2.1) (k := x2.2))) rfl rfl (o_mulN hx3)) s0))) rfl (w_answer_walk _ hx4)) rfl rfl ?_
  obtain ⟨x5, hx5, h⟩ := bs h
  refine kset (ρ3 := [.dat (eB board), .dat (eI row), .dat (eT x4), .dat (eI x5), .un, .un, .un]) (x2v (xv rfl rfl) (x1v xk rfl o_negI) rfl rfl (o_atT (e := eI) hx5)) rfl rfl ?_
  refine kset (ρ3 := [.dat (eB board), .dat (eI row), .dat (eT x4), .dat (eI x5), .own (eN [x5]), .un, .un]) (show ev _ _ _ _ = some (.new (eN [x5]), _) from xlst (v1 (yd (xv rfl rfl) rfl) v0)) rfl rfl ?_
  obtain ⟨x6, hx6, h⟩ := bs h
  obtain ⟨x7, hx7, h⟩ := bs h
  refine kset (ρ3 := [.dat (eB board), .dat (eI row), .dat (eT x4), .dat (eI x5), .own (eN [x5]), .dat (eI x7), .un]) (x2v (xcall (ds := [eB board, eT ([] : (List Nat)), eI x5]) (ρ2 := [.dat (eB board), .dat (eI row), .dat (eT x4), .dat (eI x5), .own (eN [x5]), .un, .un]) rfl (s1 (xv rfl rfl) (s1 (xtup v0) (s1 (xv rfl rfl) s0))) rfl (w_answers_of _ hx6)) xk rfl rfl (o_atL (e := eI) hx7)) rfl rfl ?_
  obtain ⟨z12, hz12, h⟩ := bs h
  refine kwhl (fun (s11 : ((List Nat) × Nat)) ρ => ρ = [.dat (eB board), .dat (eI row), .dat (eT x4), .dat (eI x5), .own (eN s11.1), .dat (eI s11.2), .un]) hz12 rfl ?_ ?_ ?_
  · rintro s11 t ρ ht rfl
    (have e_ := Option.some.inj ht; subst e_)
    exact xt (x2v (xv rfl rfl) (xv rfl rfl) rfl rfl (pNe_enc EncOk.natI (by decide) s11.2 x5)) rfl
  · rintro s11 ws11 ρ hc h rfl
    obtain ⟨x13, hx13, h⟩ := bs h
    refine kapp (e := eI) hx13 rfl (yd (xv rfl rfl) rfl) rfl (ρ2 := [.dat (eB board), .dat (eI row), .dat (eT x4), .dat (eI x5), .own (eN x13), .dat (eI s11.2), .un]) rfl ?_
    obtain ⟨x14, hx14, h⟩ := bs h
    obtain ⟨x15, hx15, h⟩ := bs h
    refine kset (ρ3 := [.dat (eB board), .dat (eI row), .dat (eT x4), .dat (eI x5), .own (eN x13), .dat (eI x15), .un]) (x2v (xcall (ds := [eB board, eT ([] : (List Nat)), eI s11.2]) (ρ2 := [.dat (eB board), .dat (eI row), .dat (eT x4), .dat (eI x5), .own (eN x13), .dat (eI s11.2), .un]) rfl (s1 (xv rfl rfl) (s1 (xtup v0) (s1 (xv rfl rfl) s0))) rfl (w_answers_of _ hx14)) xk rfl rfl (o_atL (e := eI) hx15)) rfl rfl ?_
    (have e_ := Option.some.inj h; subst e_)
    exact knil rfl
  · rintro ρ rfl hc
    obtain ⟨x16, hx16, h⟩ := bs h
    obtain ⟨x17, hx17, h⟩ := bs h
    refine kset (ρ3 := [.dat (eB board), .dat (eI row), .dat (eT x4), .dat (eI x5), .own (eN z12.1), .dat (eI z12.2), .dat (eI x17)]) (xmeth (xv rfl rfl) rfl rfl (s1 (x1v (xv rfl rfl) rfl (o_minLN hx16).1) s0) rfl rfl (o_index EncOk.natI (by decide) hx17)) rfl rfl ?_
    obtain ⟨x18, hx18, h⟩ := bs h
    (have e_ := Option.some.inj h; subst e_)
    exact kret (yv (x1v (x2n (x2n (xv rfl rfl) (xv rfl rfl) rfl rfl (o_slFL (e := eI))) (x2n (xv rfl rfl) (xv rfl rfl) rfl rfl (o_slTL (e := eI))) rfl rfl (o_catL (e := eI) hx18)) rfl (o_tupL (e := eI) (l := x18)))) ⟨_, rfl⟩
theorem w__law_taken (n : Nat) {lrow : Row} {lmany : Nat} {r : (Nat × Row)} (h : q__law_taken lrow lmany = some r) : run (n + 1) f__law_taken [zRow lrow, eI lmany] = some (eI r.1, zRow r.2) := by
  unfold q__law_taken at h
  refine (run__law_taken (n + 0) _).trans (kbodyR rfl ?_)
  unfold b__law_taken
  show Rn _ _ _ _ [.ref (zRow lrow), .dat (eI lmany), .un, .un] _
  refine kif (xt (x2v (x2v (xv rfl rfl) xk rfl rfl (o_row3 (R := lrow))) xk rfl rfl o_gtI) rfl) (fun ht => ?_) (fun ht => ?_)
  · have h := ift ht h
    obtain ⟨x1, hx1, h⟩ := bs h
    obtain ⟨x2, hx2, h⟩ := bs h
    refine kset (ρ3 := [.ref (zRow lrow), .dat (eI lmany), .dat (eI x2), .un]) (eqNat hx2 (x2v (x1v (x2v (xv rfl rfl) xk rfl rfl (o_row3 (R := lrow))) rfl o_int1I) (xv rfl rfl) rfl rfl (o_modI hx1))) rfl rfl ?_
    obtain ⟨x3, hx3, h⟩ := bs h
    refine ksetAt (yv (x2v (x2v (xv rfl rfl) xk rfl rfl (o_row3 (R := lrow))) (xv rfl rfl) rfl rfl (o_divI hx3))) rfl xk rfl rfl (set_row3 (R := lrow)) (ρ3 := [.ref (zRow (lrow.1, lrow.2.1, lrow.2.2.1, x3)), .dat (eI lmany), .dat (eI x2), .un]) rfl ?_
    (have e_ := Option.some.inj h; subst e_)
    exact kret (yd (xv rfl rfl) rfl) ⟨_, rfl, rfl⟩
  · have h := iff_ ht h
    refine knil (?_ : Rn _ _ _ _ _ _)
    refine ksetAt (yv (x2v (x2v (xv rfl rfl) xk rfl rfl (o_row1 (R := lrow))) xk rfl rfl o_addI)) rfl xk rfl rfl (set_row1 (R := lrow)) (ρ3 := [.ref (zRow (lrow.1, (lrow.2.1 + (1 : Int)), lrow.2.2.1, lrow.2.2.2)), .dat (eI lmany), .un, .un]) rfl ?_
    refine kif (xt (x2v (x2v (xv rfl rfl) xk rfl rfl (o_row1 (R := (lrow.1, (lrow.2.1 + (1 : Int)), lrow.2.2.1, lrow.2.2.2)))) (x1v (x2v (xv rfl rfl) xk rfl rfl (o_row0 (R := (lrow.1, (lrow.2.1 + (1 : Int)), lrow.2.2.1, lrow.2.2.2)))) rfl (o_lenL (e := zI) (l := lrow.1))) rfl rfl o_gtI) rfl) (fun ht => ?_) (fun ht => ?_)
    · have h := ift ht h
      obtain ⟨x4, hx4, h⟩ := bs h
      obtain ⟨x5, hx5, h⟩ := bs h
      refine ksetAt (yv (x2v (x1v (x2v (x2v (x2v (xv rfl rfl) xk rfl rfl (o_row2 (R := (lrow.1, (lrow.2.1 + (1 : Int)), lrow.2.2.1, lrow.2.2.2)))) xk rfl rfl (o_mulI hx4)) xk rfl rfl o_addI) rfl o_int1I) xk rfl rfl (o_modI hx5))) rfl xk rfl rfl (set_row2 (R := (lrow.1, (lrow.2.1 + (1 : Int)), lrow.2.2.1, lrow.2.2.2))) (ρ3 := [.ref (zRow (lrow.1, (lrow.2.1 + (1 : Int)), x5, lrow.2.2.2)), .dat (eI lmany), .un, .un]) rfl ?_
      obtain ⟨x6, hx6, h⟩ := bs h
      obtain ⟨x7, hx7, h⟩ := bs h
      obtain ⟨x8, hx8, h⟩ := bs h
      (have e_ := Option.some.inj h; subst e_)
      exact kret (yv (eqNat hx8 (x2v (x1v (x2v (x2v (xv rfl rfl) xk rfl rfl (o_row2 (R := (lrow.1, (lrow.2.1 + (1 : Int)), x5, lrow.2.2.2)))) xk rfl rfl (o_divI hx6)) rfl o_int1I) (xv rfl rfl) rfl rfl (o_modI hx7)))) ⟨_, rfl, rfl⟩
    · have h := iff_ ht h
      refine knil (?_ : Rn _ _ _ _ _ _)
      obtain ⟨x9, hx9, h⟩ := bs h
      refine kset (ρ3 := [.ref (zRow (lrow.1, (lrow.2.1 + (1 : Int)), lrow.2.2.1, lrow.2.2.2)), .dat (eI lmany), .un, .dat (zI x9)]) (x2v (x2v (xv rfl rfl) xk rfl rfl (o_row0 (R := (lrow.1, (lrow.2.1 + (1 : Int)), lrow.2.2.1, lrow.2.2.2)))) (x2v (x2v (xv rfl rfl) xk rfl rfl (o_row1 (R := (lrow.1, (lrow.2.1 + (1 : Int)), lrow.2.2.1, lrow.2.2.2)))) xk rfl rfl o_subI) rfl rfl (o_atL (e := zI) hx9)) rfl rfl ?_
      obtain ⟨x10, hx10, h⟩ := bs h
      obtain ⟨x11, hx11, h⟩ := bs h
      refine ksetAt (yv (x2v (x1v (x2v (x2v (x2v (x2v (xv rfl rfl) xk rfl rfl (o_row2 (R := (lrow.1, (lrow.2.1 + (1 : Int)), lrow.2.2.1, lrow.2.2.2)))) xk rfl rfl (o_mulI hx10)) (xv rfl rfl) rfl rfl o_addI) xk rfl rfl o_addI) rfl o_int1I) xk rfl rfl (o_modI hx11))) rfl xk rfl rfl (set_row2 (R := (lrow.1, (lrow.2.1 + (1 : Int)), lrow.2.2.1, lrow.2.2.2))) (ρ3 := [.ref (zRow (lrow.1, (lrow.2.1 + (1 : Int)), x11, lrow.2.2.2)), .dat (eI lmany), .un, .dat (zI x9)]) rfl ?_
      obtain ⟨x12, hx12, h⟩ := bs h
      obtain ⟨z15, hz15, h⟩ := bs h
      refine kifJ (fun ρ => ρ = [.ref (zRow z15), .dat (eI lmany), .un, .dat (zI x9)]) (xt (x2v (xv rfl rfl) (x2v xk xk rfl rfl (o_powI hx12)) rfl rfl o_geI) rfl) (fun ht => ?_) (fun ht => ?_) ?_
      · have h := ift ht hz15
        obtain ⟨x14, hx14, h⟩ := bs h
        refine ksetAt (yv (x2v (xv rfl rfl) (xv rfl rfl) rfl rfl (o_divI hx14))) rfl xk rfl rfl (set_row3 (R := (lrow.1, (lrow.2.1 + (1 : Int)), x11, lrow.2.2.2))) (ρ3 := [.ref (zRow (lrow.1, (lrow.2.1 + (1 : Int)), x11, x14)), .dat (eI lmany), .un, .dat (zI x9)]) rfl ?_
        (have e_ := Option.some.inj h; subst e_)
        exact kj rfl
      · have h := iff_ ht hz15
        (have e_ := Option.some.inj h; subst e_)
        exact kj rfl
      · rintro ρ rfl
        obtain ⟨x16, hx16, h⟩ := bs h
        obtain ⟨x17, hx17, h⟩ := bs h
        (have e_ := Option.some.inj h; subst e_)
        exact kret (yv (eqNat hx17 (x2v (x1v (xv rfl rfl) rfl o_int1I) (xv rfl rfl) rfl rfl (o_modI hx16)))) ⟨_, rfl, rfl⟩
theorem w__law_is (n : Nat) {lfound : Bool} {ldue : Bool} {r : Bool} (h : q__law_is lfound ldue = some r) : run (n + 1) f__law_is [zB lfound, zB ldue] = some (zB r, .none) := by
  unfold q__law_is at h
  refine (run__law_is (n + 0) _).trans (kbody rfl ?_)
  unfold b__law_is
  show Rn _ _ _ _ [.dat (zB lfound), .dat (zB ldue)] _
  (have e_ := Option.some.inj h; subst e_)
  exact kret (yv (xand (xt (x1v (xv rfl rfl) rfl rfl) rfl) (fun _ => xt (x2v (xv rfl rfl) (xv rfl rfl) rfl rfl (pEq_enc EncOk.boolI (by decide) lfound ldue)) rfl))) ⟨_, rfl⟩
theorem w__law_board (n : Nat) {lrow : Row} {lrows_here : Nat} {lcolumns_here : Nat} {lmany : Nat} {r : ((List (List (Int × Int))) × Row)} (h : q__law_board lrow lrows_here lcolumns_here lmany = some r) : run (n + 2) f__law_board [zRow lrow, eI lrows_here, eI lcolumns_here, eI lmany] = some (eB r.1, zRow r.2) := by
  unfold q__law_board at h
  refine (run__law_board (n + 1) _).trans (kbodyR rfl ?_)
  unfold b__law_board
  show Rn _ _ _ _ [.ref (zRow lrow), .dat (eI lrows_here), .dat (eI lcolumns_here), .dat (eI lmany), .un, .un, .un, .un, .un, .un, .un, .un] _
  obtain ⟨x1, hx1, h⟩ := bs h
  obtain ⟨x2, hx2, h⟩ := bs h
  obtain ⟨x3, hx3, h⟩ := bs h
  obtain ⟨x4, hx4, h⟩ := bs h
  refine kpar (t1 (eqV (e := eI) hx2 (x2v xk (xcallR (ds := [zRow lrow, eI lrows_here]) (ρ2 := [.ref (zRow lrow), .dat (eI lrows_here), .dat (eI lcolumns_here), .dat (eI lmany), .un, .un, .un, .un, .un, .un, .un, .un]) (ρ3 := [.ref (zRow x1.2), .dat (eI lrows_here), .dat (eI lcolumns_here), .dat (eI lmany), .un, .un, .un, .un, .un, .un, .un, .un]) rfl (s1 (xv rfl rfl) (s1 (xv rfl rfl) s0)) rfl (w__law_taken _ hx1) rfl) rfl rfl o_addN)) rfl (t1 (eqV (e := eI) hx4 (x2v xk (xcallR (ds := [zRow x1.2, eI lcolumns_here]) (ρ2 := [.ref (zRow x1.2), .dat (eI lrows_here), .dat (eI lcolumns_here), .dat (eI lmany), .un, .un, .un, .un, .un, .un, .un, .un]) (ρ3 := [.ref (zRow x3.2), .dat (eI lrows_here), .dat (eI lcolumns_here), .dat (eI lmany), .un, .un, .un, .un, .un, .un, .un, .un]) rfl (s1 (xv rfl rfl) (s1 (xv rfl rfl) s0)) rfl (w__law_taken _ hx3) rfl) rfl rfl o_addN)) rfl (t1 (xlst v0) rfl t0))) (a1 (ρ2 := [.ref (zRow x3.2), .dat (eI lrows_here), .dat (eI lcolumns_here), .dat (eI lmany), .dat (eI x2), .dat (eI x4), .own ((zL eR) ([] : (List (List (Int × Int))))), .un, .un, .un, .un, .un]) (a1 (ρ2 := [.ref (zRow x3.2), .dat (eI lrows_here), .dat (eI lcolumns_here), .dat (eI lmany), .un, .dat (eI x4), .own ((zL eR) ([] : (List (List (Int × Int))))), .un, .un, .un, .un, .un]) (a1 (ρ2 := [.ref (zRow x3.2), .dat (eI lrows_here), .dat (eI lcolumns_here), .dat (eI lmany), .un, .un, .own ((zL eR) ([] : (List (List (Int × Int))))), .un, .un, .un, .un, .un]) a0 rfl) rfl) rfl) ?_
  obtain ⟨x5, hx5, h⟩ := bs h
  obtain ⟨x6, hx6, h⟩ := bs h
  refine kpar (t1 (x2n (show ev _ _ _ _ = some (.new (eN [(0 : Nat)]), _) from xlst (v1 (yv xk) v0)) (xv rfl rfl) rfl rfl (o_repL (e := eI) hx5)) rfl (t1 (x2n (show ev _ _ _ _ = some (.new (eN [(0 : Nat)]), _) from xlst (v1 (yv xk) v0)) (xv rfl rfl) rfl rfl (o_repL (e := eI) hx6)) rfl t0)) (a1 (ρ2 := [.ref (zRow x3.2), .dat (eI lrows_here), .dat (eI lcolumns_here), .dat (eI lmany), .dat (eI x2), .dat (eI x4), .own ((zL eR) ([] : (List (List (Int × Int))))), .own (eN x5), .own (eN x6), .un, .un, .un]) (a1 (ρ2 := [.ref (zRow x3.2), .dat (eI lrows_here), .dat (eI lcolumns_here), .dat (eI lmany), .dat (eI x2), .dat (eI x4), .own ((zL eR) ([] : (List (List (Int × Int))))), .un, .own (eN x6), .un, .un, .un]) a0 rfl) rfl) ?_
  obtain ⟨x7, hx7, h⟩ := bs h
  obtain ⟨z36, hz36, h⟩ := bs h
  refine kifJ (fun ρ => ρ = [.ref (zRow z36.1), .dat (eI lrows_here), .dat (eI lcolumns_here), .dat (eI lmany), .dat (eI x2), .dat (eI x4), .own ((zL eR) ([] : (List (List (Int × Int))))), .own (eN z36.2.1), .own (eN z36.2.2), .un, .un, .un]) (xt (x2v (xcallR (ds := [zRow x3.2, eI (3 : Nat)]) (ρ2 := [.ref (zRow x3.2), .dat (eI lrows_here), .dat (eI lcolumns_here), .dat (eI lmany), .dat (eI x2), .dat (eI x4), .own ((zL eR) ([] : (List (List (Int × Int))))), .own (eN x5), .own (eN x6), .un, .un, .un]) (ρ3 := [.ref (zRow x7.2), .dat (eI lrows_here), .dat (eI lcolumns_here), .dat (eI lmany), .dat (eI x2), .dat (eI x4), .own ((zL eR) ([] : (List (List (Int × Int))))), .own (eN x5), .own (eN x6), .un, .un, .un]) rfl (s1 (xv rfl rfl) (s1 xk s0)) rfl (w__law_taken _ hx7) rfl) xk rfl rfl o_gtN) rfl) (fun ht => ?_) (fun ht => ?_) ?_
  · have h := ift ht hz36
    obtain ⟨x28, hx28, h⟩ := bs h
    refine kset (ρ3 := [.ref (zRow x28.2), .dat (eI lrows_here), .dat (eI lcolumns_here), .dat (eI lmany), .dat (eI x2), .dat (eI x4), .own ((zL eR) ([] : (List (List (Int × Int))))), .own (eN x28.1), .own (eN x6), .un, .un, .un]) (xlcS (enc := eI) (en2 := eI) (E := (fun s25 : Row => [.ref (zRow s25), .dat (eI lrows_here), .dat (eI lcolumns_here), .dat (eI lmany), .dat (eI x2), .dat (eI x4), .own ((zL eR) ([] : (List (List (Int × Int))))), .lok false (eN x5), .own (eN x6), .un, .un, .un])) hx28 (s1 (xv rfl rfl) s0) rfl (i_L (e := eI) (l := x5)) rfl (fun y22 hy22 s25 y22_y hy => by obtain ⟨x26, hx26, hy⟩ := bs hy; obtain ⟨x27, hx27, hy⟩ := bs hy; (have e_ := Option.some.inj hy; subst e_); exact ⟨[.ref (zRow s25), .dat (eI lrows_here), .dat (eI lcolumns_here), .dat (eI lmany), .dat (eI x2), .dat (eI x4), .own ((zL eR) ([] : (List (List (Int × Int))))), .lok false (eN x5), .own (eN x6), .dat (eI y22), .un, .un], [.ref (zRow x26.2), .dat (eI lrows_here), .dat (eI lcolumns_here), .dat (eI lmany), .dat (eI x2), .dat (eI x4), .own ((zL eR) ([] : (List (List (Int × Int))))), .lok false (eN x5), .own (eN x6), .dat (eI y22), .un, .un], (gn (ρ1 := [.ref (zRow s25), .dat (eI lrows_here), .dat (eI lcolumns_here), .dat (eI lmany), .dat (eI x2), .dat (eI x4), .own ((zL eR) ([] : (List (List (Int × Int))))), .lok false (eN x5), .own (eN x6), .dat (eI y22), .un, .un]) (rfl)), xt xk rfl, (yv (x2v xk (xcallR (ds := [zRow s25, eI (4 : Nat)]) (ρ2 := [.ref (zRow s25), .dat (eI lrows_here), .dat (eI lcolumns_here), .dat (eI lmany), .dat (eI x2), .dat (eI x4), .own ((zL eR) ([] : (List (List (Int × Int))))), .lok false (eN x5), .own (eN x6), .dat (eI y22), .un, .un]) (ρ3 := [.ref (zRow x26.2), .dat (eI lrows_here), .dat (eI lcolumns_here), .dat (eI lmany), .dat (eI x2), .dat (eI x4), .own ((zL eR) ([] : (List (List (Int × Int))))), .lok false (eN x5), .own (eN x6), .dat (eI y22), .un, .un]) rfl (s1 (xv rfl rfl) (s1 xk s0)) rfl (w__law_taken _ hx26) rfl) rfl rfl (o_mulN hx27))), rfl⟩) (ρ' := [.ref (zRow x28.2), .dat (eI lrows_here), .dat (eI lcolumns_here), .dat (eI lmany), .dat (eI x2), .dat (eI x4), .own ((zL eR) ([] : (List (List (Int × Int))))), .own (eN x5), .own (eN x6), .un, .un, .un]) rfl) rfl rfl ?_
    obtain ⟨x35, hx35, h⟩ := bs h
    refine kset (ρ3 := [.ref (zRow x35.2), .dat (eI lrows_here), .dat (eI lcolumns_here), .dat (eI lmany), .dat (eI x2), .dat (eI x4), .own ((zL eR) ([] : (List (List (Int × Int))))), .own (eN x28.1), .own (eN x35.1), .un, .un, .un]) (xlcS (enc := eI) (en2 := eI) (E := (fun s32 : Row => [.ref (zRow s32), .dat (eI lrows_here), .dat (eI lcolumns_here), .dat (eI lmany), .dat (eI x2), .dat (eI x4), .own ((zL eR) ([] : (List (List (Int × Int))))), .own (eN x28.1), .lok false (eN x6), .un, .un, .un])) hx35 (s1 (xv rfl rfl) s0) rfl (i_L (e := eI) (l := x6)) rfl (fun y29 hy29 s32 y29_y hy => by obtain ⟨x33, hx33, hy⟩ := bs hy; obtain ⟨x34, hx34, hy⟩ := bs hy; (have e_ := Option.some.inj hy; subst e_); exact ⟨[.ref (zRow s32), .dat (eI lrows_here), .dat (eI lcolumns_here), .dat (eI lmany), .dat (eI x2), .dat (eI x4), .own ((zL eR) ([] : (List (List (Int × Int))))), .own (eN x28.1), .lok false (eN x6), .dat (eI y29), .un, .un], [.ref (zRow x33.2), .dat (eI lrows_here), .dat (eI lcolumns_here), .dat (eI lmany), .dat (eI x2), .dat (eI x4), .own ((zL eR) ([] : (List (List (Int × Int))))), .own (eN x28.1), .lok false (eN x6), .dat (eI y29), .un, .un], (gn (ρ1 := [.ref (zRow s32), .dat (eI lrows_here), .dat (eI lcolumns_here), .dat (eI lmany), .dat (eI x2), .dat (eI x4), .own ((zL eR) ([] : (List (List (Int × Int))))), .own (eN x28.1), .lok false (eN x6), .dat (eI y29), .un, .un]) (rfl)), xt xk rfl, (yv (x2v xk (xcallR (ds := [zRow s32, eI (4 : Nat)]) (ρ2 := [.ref (zRow s32), .dat (eI lrows_here), .dat (eI lcolumns_here), .dat (eI lmany), .dat (eI x2), .dat (eI x4), .own ((zL eR) ([] : (List (List (Int × Int))))), .own (eN x28.1), .lok false (eN x6), .dat (eI y29), .un, .un]) (ρ3 := [.ref (zRow x33.2), .dat (eI lrows_here), .dat (eI lcolumns_here), .dat (eI lmany), .dat (eI x2), .dat (eI x4), .own ((zL eR) ([] : (List (List (Int × Int))))), .own (eN x28.1), .lok false (eN x6), .dat (eI y29), .un, .un]) rfl (s1 (xv rfl rfl) (s1 xk s0)) rfl (w__law_taken _ hx33) rfl) rfl rfl (o_mulN hx34))), rfl⟩) (ρ' := [.ref (zRow x35.2), .dat (eI lrows_here), .dat (eI lcolumns_here), .dat (eI lmany), .dat (eI x2), .dat (eI x4), .own ((zL eR) ([] : (List (List (Int × Int))))), .own (eN x28.1), .own (eN x6), .un, .un, .un]) rfl) rfl rfl ?_
    (have e_ := Option.some.inj h; subst e_)
    exact kj rfl
  · have h := iff_ ht hz36
    (have e_ := Option.some.inj h; subst e_)
    exact kj rfl
  · rintro ρ rfl
    obtain ⟨x37, hx37, h⟩ := bs h
    obtain ⟨z76, hz76, h⟩ := bs h
    refine kfor (enc := eI) (fun (s74 : (Row × (List (List (Int × Int))))) ρ => ∃ (j77 : Slot) (j78 : Slot) (j79 : Slot), Jd j77 ∧ Jk j78 ∧ Jd j79 ∧ ρ = [.ref (zRow s74.1), .dat (eI lrows_here), .dat (eI lcolumns_here), .dat (eI lmany), .dat (eI x2), .dat (eI x4), .own ((zL eR) s74.2), .own (eN z36.2.1), .own (eN z36.2.2), j77, j78, j79]) hz76 (s1 (xv rfl rfl) s0) rfl (i_rg1 hx37) ⟨.un, .un, .un, Jd.un, Jk.un, Jd.un, rfl⟩ ?_ ?_
    · rintro y75 hy75 s74 ws74 ρ h ⟨j77, j78, j79, kdj77, kjj78, kdj79, rfl⟩
      refine ⟨[.ref (zRow s74.1), .dat (eI lrows_here), .dat (eI lcolumns_here), .dat (eI lmany), .dat (eI x2), .dat (eI x4), .own ((zL eR) s74.2), .own (eN z36.2.1), .own (eN z36.2.2), .dat (eI y75), j78, j79], (gn (ρ1 := [.ref (zRow s74.1), .dat (eI lrows_here), .dat (eI lcolumns_here), .dat (eI lmany), .dat (eI x2), .dat (eI x4), .own ((zL eR) s74.2), .own (eN z36.2.1), .own (eN z36.2.2), .dat (eI y75), j78, j79]) (kdj77.jk.asg rfl)), ?_⟩
      refine kset (ρ3 := [.ref (zRow s74.1), .dat (eI lrows_here), .dat (eI lcolumns_here), .dat (eI lmany), .dat (eI x2), .dat (eI x4), .own ((zL eR) s74.2), .own (eN z36.2.1), .own (eN z36.2.2), .dat (eI y75), .own ((zL eP) ([] : (List (Int × Int)))), j79]) (xlst v0) rfl (kjj78.asg rfl) ?_
      obtain ⟨x80, hx80, h⟩ := bs h
      obtain ⟨z89, hz89, h⟩ := bs h
      refine kfor (enc := eI) (fun (s87 : (Row × (List (Int × Int)))) ρ => ∃ (j90 : Slot), Jd j90 ∧ ρ = [.ref (zRow s87.1), .dat (eI lrows_here), .dat (eI lcolumns_here), .dat (eI lmany), .dat (eI x2), .dat (eI x4), .own ((zL eR) s74.2), .own (eN z36.2.1), .own (eN z36.2.2), .dat (eI y75), .own ((zL eP) s87.2), j90]) hz89 (s1 (xv rfl rfl) s0) rfl (i_rg1 hx80) ⟨j79, kdj79, rfl⟩ ?_ ?_
      · rintro y88 hy88 s87 ws87 ρ h ⟨j90, kdj90, rfl⟩
        refine ⟨[.ref (zRow s87.1), .dat (eI lrows_here), .dat (eI lcolumns_here), .dat (eI lmany), .dat (eI x2), .dat (eI x4), .own ((zL eR) s74.2), .own (eN z36.2.1), .own (eN z36.2.2), .dat (eI y75), .own ((zL eP) s87.2), .dat (eI y88)], (gn (ρ1 := [.ref (zRow s87.1), .dat (eI lrows_here), .dat (eI lcolumns_here), .dat (eI lmany), .dat (eI x2), .dat (eI x4), .own ((zL eR) s74.2), .own (eN z36.2.1), .own (eN z36.2.2), .dat (eI y75), .own ((zL eP) s87.2), .dat (eI y88)]) (kdj90.jk.asg rfl)), ?_⟩
        obtain ⟨x91, hx91, h⟩ := bs h
        obtain ⟨x92, hx92, h⟩ := bs h
        obtain ⟨x93, hx93, h⟩ := bs h
        obtain ⟨x94, hx94, h⟩ := bs h
        obtain ⟨x95, hx95, h⟩ := bs h
        obtain ⟨x96, hx96, h⟩ := bs h
        refine kapp (e := eP) hx96 rfl (yv (eqV (e := eP) hx95 (show ev _ _ _ _ = some (.val (eP ((((x91 + x92.1) : Nat) : Int), ((((x93 + x94.1) : Nat) : Int) - (1 : Int)))), _) from xtup (v1 (yv (x2v (x2v (xv rfl rfl) (xv rfl rfl) rfl rfl (o_atL (e := eI) hx91)) (xcallR (ds := [zRow s87.1, eI lmany]) (ρ2 := [.ref (zRow s87.1), .dat (eI lrows_here), .dat (eI lcolumns_here), .dat (eI lmany), .dat (eI x2), .dat (eI x4), .own ((zL eR) s74.2), .own (eN z36.2.1), .own (eN z36.2.2), .dat (eI y75), .own ((zL eP) s87.2), .dat (eI y88)]) (ρ3 := [.ref (zRow x92.2), .dat (eI lrows_here), .dat (eI lcolumns_here), .dat (eI lmany), .dat (eI x2), .dat (eI x4), .own ((zL eR) s74.2), .own (eN z36.2.1), .own (eN z36.2.2), .dat (eI y75), .own ((zL eP) s87.2), .dat (eI y88)]) rfl (s1 (xv rfl rfl) (s1 (xv rfl rfl) s0)) rfl (w__law_taken _ hx92) rfl) rfl rfl o_addN)) (v1 (yv (x2v (x2v (x2v (xv rfl rfl) (xv rfl rfl) rfl rfl (o_atL (e := eI) hx93)) (xcallR (ds := [zRow x92.2, eI lmany]) (ρ2 := [.ref (zRow x92.2), .dat (eI lrows_here), .dat (eI lcolumns_here), .dat (eI lmany), .dat (eI x2), .dat (eI x4), .own ((zL eR) s74.2), .own (eN z36.2.1), .own (eN z36.2.2), .dat (eI y75), .own ((zL eP) s87.2), .dat (eI y88)]) (ρ3 := [.ref (zRow x94.2), .dat (eI lrows_here), .dat (eI lcolumns_here), .dat (eI lmany), .dat (eI x2), .dat (eI x4), .own ((zL eR) s74.2), .own (eN z36.2.1), .own (eN z36.2.2), .dat (eI y75), .own ((zL eP) s87.2), .dat (eI y88)]) rfl (s1 (xv rfl rfl) (s1 (xv rfl rfl) s0)) rfl (w__law_taken _ hx94) rfl) rfl rfl o_addN) xk rfl rfl o_subI)) v0))))) rfl (ρ2 := [.ref (zRow x94.2), .dat (eI lrows_here), .dat (eI lcolumns_here), .dat (eI lmany), .dat (eI x2), .dat (eI x4), .own ((zL eR) s74.2), .own (eN z36.2.1), .own (eN z36.2.2), .dat (eI y75), .own ((zL eP) x96), .dat (eI y88)]) rfl ?_
        (have e_ := Option.some.inj h; subst e_)
        exact knil ⟨.dat (eI y88), (Jd.dat _), rfl⟩
      · rintro ρ ⟨j90, kdj90, rfl⟩
        refine ⟨[.ref (zRow z89.1), .dat (eI lrows_here), .dat (eI lcolumns_here), .dat (eI lmany), .dat (eI x2), .dat (eI x4), .own ((zL eR) s74.2), .own (eN z36.2.1), .own (eN z36.2.2), .dat (eI y75), .own ((zL eP) z89.2), j90], rfl, ?_⟩
        obtain ⟨x97, hx97, h⟩ := bs h
        refine kapp (e := eR) hx97 rfl (yv (x1v (xv rfl rfl) rfl (o_tupL (e := eP) (l := z89.2)))) rfl (ρ2 := [.ref (zRow z89.1), .dat (eI lrows_here), .dat (eI lcolumns_here), .dat (eI lmany), .dat (eI x2), .dat (eI x4), .own ((zL eR) x97), .own (eN z36.2.1), .own (eN z36.2.2), .dat (eI y75), .own ((zL eP) z89.2), j90]) rfl ?_
        (have e_ := Option.some.inj h; subst e_)
        exact knil ⟨.dat (eI y75), .own ((zL eP) z89.2), j90, (Jd.dat _), (Jk.own _), kdj90, rfl⟩
    · rintro ρ ⟨j77, j78, j79, kdj77, kjj78, kdj79, rfl⟩
      refine ⟨[.ref (zRow z76.1), .dat (eI lrows_here), .dat (eI lcolumns_here), .dat (eI lmany), .dat (eI x2), .dat (eI x4), .own ((zL eR) z76.2), .own (eN z36.2.1), .own (eN z36.2.2), j77, j78, j79], rfl, ?_⟩
      (have e_ := Option.some.inj h; subst e_)
      exact kret (yv (x1v (xv rfl rfl) rfl (o_tupL (e := eR) (l := z76.2)))) ⟨_, rfl, rfl⟩
theorem w__law_rows (n : Nat) {lboard_here : (List (List (Int × Int)))} {llot : (List Nat)} {r : (List Nat)} (h : q__law_rows lboard_here llot = some r) : run (n + 1) f__law_rows [eB lboard_here, eT llot] = some (eN r, .none) := by
  unfold q__law_rows at h
  refine (run__law_rows (n + 0) _).trans (kbody rfl ?_)
  unfold b__law_rows
  show Rn _ _ _ _ [.dat (eB lboard_here), .dat (eT llot), .un] _
  obtain ⟨x1, hx1, h⟩ := bs h
  (have e_ := Option.some.inj h; subst e_)
  exact kret (yn (xlc (enc := eI) (en2 := eI) (ρ1 := [.dat (eB lboard_here), .dat (eT llot), .un]) (lcM_filter (xs := x1) (p := (fun (y2 : Nat) => (!decide (y2 ∈ llot))))) (s1 (x1v (xv rfl rfl) rfl (o_lenT (e := eR) (l := lboard_here))) s0) rfl (i_rg1 hx1) rfl (fun y2 hy2 => ⟨[.dat (eB lboard_here), .dat (eT llot), .dat (eI y2)], (gn (ρ1 := [.dat (eB lboard_here), .dat (eT llot), .dat (eI y2)]) (rfl)), fun b hb => by (have e_ := Option.some.inj hb; subst e_); exact ⟨xt (x2v (xv rfl rfl) (xv rfl rfl) rfl rfl (pNotIn_tup EncOk.natI (by decide) y2 llot)) rfl, rfl, fun hbt y2_y hy => by (have e_ := Option.some.inj hy; subst e_); exact ⟨[.dat (eB lboard_here), .dat (eT llot), .dat (eI y2)], (yd (xv rfl rfl) rfl), rfl⟩⟩⟩) (ρ' := [.dat (eB lboard_here), .dat (eT llot), .un]) rfl)) ⟨_, rfl⟩
theorem w__law_columns (n : Nat) {lboard_here : (List (List (Int × Int)))} {llot : (List Nat)} {r : (List Nat)} (h : q__law_columns lboard_here llot = some r) : run (n + 1) f__law_columns [eB lboard_here, eT llot] = some (eN r, .none) := by
  unfold q__law_columns at h
  refine (run__law_columns (n + 0) _).trans (kbody rfl ?_)
  unfold b__law_columns
  show Rn _ _ _ _ [.dat (eB lboard_here), .dat (eT llot), .un] _
  obtain ⟨x1, hx1, h⟩ := bs h
  obtain ⟨x2, hx2, h⟩ := bs h
  (have e_ := Option.some.inj h; subst e_)
  exact kret (yn (xlc (enc := eI) (en2 := eI) (ρ1 := [.dat (eB lboard_here), .dat (eT llot), .un]) (lcM_filter (xs := x2) (p := (fun (y3 : Nat) => (!decide (y3 ∈ llot))))) (s1 (x1v (xv rfl rfl) rfl (o_lenT (e := eR) (l := lboard_here))) (s1 (x2v (x1v (xv rfl rfl) rfl (o_lenT (e := eR) (l := lboard_here))) (x1v (x2v (xv rfl rfl) xk rfl rfl (o_atT (e := eR) hx1)) rfl (o_lenT (e := eP) (l := x1))) rfl rfl o_addN) s0)) rfl (i_rg2 hx2) rfl (fun y3 hy3 => ⟨[.dat (eB lboard_here), .dat (eT llot), .dat (eI y3)], (gn (ρ1 := [.dat (eB lboard_here), .dat (eT llot), .dat (eI y3)]) (rfl)), fun b hb => by (have e_ := Option.some.inj hb; subst e_); exact ⟨xt (x2v (xv rfl rfl) (xv rfl rfl) rfl rfl (pNotIn_tup EncOk.natI (by decide) y3 llot)) rfl, rfl, fun hbt y3_y hy => by (have e_ := Option.some.inj hy; subst e_); exact ⟨[.dat (eB lboard_here), .dat (eT llot), .dat (eI y3)], (yd (xv rfl rfl) rfl), rfl⟩⟩⟩) (ρ' := [.dat (eB lboard_here), .dat (eT llot), .un]) rfl)) ⟨_, rfl⟩
theorem w__law_numbers (n : Nat) {lboard_here : (List (List (Int × Int)))} {llot : (List Nat)} {lline : Nat} {r : (List Int)} (h : q__law_numbers lboard_here llot lline = some r) : run (n + 2) f__law_numbers [eB lboard_here, eT llot, eI lline] = some ((zL zI) r, .none) := by
  unfold q__law_numbers at h
  refine (run__law_numbers (n + 1) _).trans (kbody rfl ?_)
  unfold b__law_numbers
  show Rn _ _ _ _ [.dat (eB lboard_here), .dat (eT llot), .dat (eI lline), .un] _
  refine kif (xt (x2v (xv rfl rfl) (x1v (xv rfl rfl) rfl (o_lenT (e := eR) (l := lboard_here))) rfl rfl o_ltN) rfl) (fun ht => ?_) (fun ht => ?_)
  · have h := ift ht h
    obtain ⟨x1, hx1, h⟩ := bs h
    obtain ⟨x5, hx5, h⟩ := bs h
    (have e_ := Option.some.inj h; subst e_)
    exact kret (yn (xlc (enc := eI) (en2 := zI) (ρ1 := [.dat (eB lboard_here), .dat (eT llot), .dat (eI lline), .un]) hx5 (s1 (xcall (ds := [eB lboard_here, eT llot]) (ρ2 := [.dat (eB lboard_here), .dat (eT llot), .dat (eI lline), .un]) rfl (s1 (xv rfl rfl) (s1 (xv rfl rfl) s0)) rfl (w__law_columns _ hx1)) s0) rfl (i_L (e := eI) (l := x1)) rfl (fun y2 hy2 => ⟨[.dat (eB lboard_here), .dat (eT llot), .dat (eI lline), .dat (eI y2)], (gn (ρ1 := [.dat (eB lboard_here), .dat (eT llot), .dat (eI lline), .dat (eI y2)]) (rfl)), fun b hb => by (have e_ := Option.some.inj hb; subst e_); exact ⟨xt xk rfl, rfl, fun hbt y2_y hy => by obtain ⟨x3, hx3, hy⟩ := bs hy; obtain ⟨x4, hx4, hy⟩ := bs hy; (have e_ := Option.some.inj hy; subst e_); exact ⟨[.dat (eB lboard_here), .dat (eT llot), .dat (eI lline), .dat (eI y2)], (yv (x2v (x2v (x2v (xv rfl rfl) (xv rfl rfl) rfl rfl (o_atT (e := eR) hx3)) (x2v (xv rfl rfl) (x1v (xv rfl rfl) rfl (o_lenT (e := eR) (l := lboard_here))) rfl rfl o_subI) rfl rfl (o_atT (e := eP) hx4)) xk rfl rfl o_p0)), rfl⟩⟩⟩) (ρ' := [.dat (eB lboard_here), .dat (eT llot), .dat (eI lline), .un]) rfl)) ⟨_, rfl⟩
  · have h := iff_ ht h
    refine knil (?_ : Rn _ _ _ _ _ _)
    obtain ⟨x6, hx6, h⟩ := bs h
    obtain ⟨x10, hx10, h⟩ := bs h
    (have e_ := Option.some.inj h; subst e_)
    exact kret (yn (xlc (enc := eI) (en2 := zI) (ρ1 := [.dat (eB lboard_here), .dat (eT llot), .dat (eI lline), .un]) hx10 (s1 (xcall (ds := [eB lboard_here, eT llot]) (ρ2 := [.dat (eB lboard_here), .dat (eT llot), .dat (eI lline), .un]) rfl (s1 (xv rfl rfl) (s1 (xv rfl rfl) s0)) rfl (w__law_rows _ hx6)) s0) rfl (i_L (e := eI) (l := x6)) rfl (fun y7 hy7 => ⟨[.dat (eB lboard_here), .dat (eT llot), .dat (eI lline), .dat (eI y7)], (gn (ρ1 := [.dat (eB lboard_here), .dat (eT llot), .dat (eI lline), .dat (eI y7)]) (rfl)), fun b hb => by (have e_ := Option.some.inj hb; subst e_); exact ⟨xt xk rfl, rfl, fun hbt y7_y hy => by obtain ⟨x8, hx8, hy⟩ := bs hy; obtain ⟨x9, hx9, hy⟩ := bs hy; (have e_ := Option.some.inj hy; subst e_); exact ⟨[.dat (eB lboard_here), .dat (eT llot), .dat (eI lline), .dat (eI y7)], (yv (x2v (x2v (x2v (xv rfl rfl) (xv rfl rfl) rfl rfl (o_atT (e := eR) hx8)) (x2v (xv rfl rfl) (x1v (xv rfl rfl) rfl (o_lenT (e := eR) (l := lboard_here))) rfl rfl o_subI) rfl rfl (o_atT (e := eP) hx9)) xk rfl rfl o_p1)), rfl⟩⟩⟩) (ρ' := [.dat (eB lboard_here), .dat (eT llot), .dat (eI lline), .un]) rfl)) ⟨_, rfl⟩
theorem w__law_answers (n : Nat) {lboard_here : (List (List (Int × Int)))} {llot : (List Nat)} {lline : Nat} {r : (List Nat)} (h : q__law_answers lboard_here llot lline = some r) : run (n + 2) f__law_answers [eB lboard_here, eT llot, eI lline] = some (eN r, .none) := by
  unfold q__law_answers at h
  refine (run__law_answers (n + 1) _).trans (kbody rfl ?_)
  unfold b__law_answers
  show Rn _ _ _ _ [.dat (eB lboard_here), .dat (eT llot), .dat (eI lline), .un, .un, .un, .un, .un] _
  refine kset (ρ3 := [.dat (eB lboard_here), .dat (eT llot), .dat (eI lline), .dat (eI lboard_here.length), .un, .un, .un, .un]) (x1v (xv rfl rfl) rfl (o_lenT (e := eR) (l := lboard_here))) rfl rfl ?_
  obtain ⟨z21, hz21, h⟩ := bs h
  refine kifJ (fun ρ => ρ = [.dat (eB lboard_here), .dat (eT llot), .dat (eI lline), .dat (eI lboard_here.length), .own ((zL (zP zI eI)) z21), .un, .un, .un]) (xt (x2v (xv rfl rfl) (xv rfl rfl) rfl rfl o_ltN) rfl) (fun ht => ?_) (fun ht => ?_) ?_
  · have h := ift ht hz21
    obtain ⟨x11, hx11, h⟩ := bs h
    obtain ⟨x15, hx15, h⟩ := bs h
    refine kset (ρ3 := [.dat (eB lboard_here), .dat (eT llot), .dat (eI lline), .dat (eI lboard_here.length), .own ((zL (zP zI eI)) x15), .un, .un, .un]) (xlc (enc := eI) (en2 := (zP zI eI)) (ρ1 := [.dat (eB lboard_here), .dat (eT llot), .dat (eI lline), .dat (eI lboard_here.length), .un, .un, .un, .un]) hx15 (s1 (xcall (ds := [eB lboard_here, eT llot]) (ρ2 := [.dat (eB lboard_here), .dat (eT llot), .dat (eI lline), .dat (eI lboard_here.length), .un, .un, .un, .un]) rfl (s1 (xv rfl rfl) (s1 (xv rfl rfl) s0)) rfl (w__law_columns _ hx11)) s0) rfl (i_L (e := eI) (l := x11)) rfl (fun y12 hy12 => ⟨[.dat (eB lboard_here), .dat (eT llot), .dat (eI lline), .dat (eI lboard_here.length), .un, .un, .un, .dat (eI y12)], (gn (ρ1 := [.dat (eB lboard_here), .dat (eT llot), .dat (eI lline), .dat (eI lboard_here.length), .un, .un, .un, .dat (eI y12)]) (rfl)), fun b hb => by (have e_ := Option.some.inj hb; subst e_); exact ⟨xt xk rfl, rfl, fun hbt y12_y hy => by obtain ⟨x13, hx13, hy⟩ := bs hy; obtain ⟨x14, hx14, hy⟩ := bs hy; (have e_ := Option.some.inj hy; subst e_); exact ⟨[.dat (eB lboard_here), .dat (eT llot), .dat (eI lline), .dat (eI lboard_here.length), .un, .un, .un, .dat (eI y12)], (yv (show ev _ _ _ _ = some (.val ((zP zI eI) (x14.2, y12)), _) from xtup (v1 (yv (x2v (x2v (x2v (xv rfl rfl) (xv rfl rfl) rfl rfl (o_atT (e := eR) hx13)) (x2v (xv rfl rfl) (xv rfl rfl) rfl rfl o_subI) rfl rfl (o_atT (e := eP) hx14)) xk rfl rfl o_p1)) (v1 (yd (xv rfl rfl) rfl) v0)))), rfl⟩⟩⟩) (ρ' := [.dat (eB lboard_here), .dat (eT llot), .dat (eI lline), .dat (eI lboard_here.length), .un, .un, .un, .un]) rfl) rfl rfl ?_
    (have e_ := Option.some.inj h; subst e_)
    exact kj rfl
  · have h := iff_ ht hz21
    obtain ⟨x16, hx16, h⟩ := bs h
    obtain ⟨x20, hx20, h⟩ := bs h
    refine kset (ρ3 := [.dat (eB lboard_here), .dat (eT llot), .dat (eI lline), .dat (eI lboard_here.length), .own ((zL (zP zI eI)) x20), .un, .un, .un]) (xlc (enc := eI) (en2 := (zP zI eI)) (ρ1 := [.dat (eB lboard_here), .dat (eT llot), .dat (eI lline), .dat (eI lboard_here.length), .un, .un, .un, .un]) hx20 (s1 (xcall (ds := [eB lboard_here, eT llot]) (ρ2 := [.dat (eB lboard_here), .dat (eT llot), .dat (eI lline), .dat (eI lboard_here.length), .un, .un, .un, .un]) rfl (s1 (xv rfl rfl) (s1 (xv rfl rfl) s0)) rfl (w__law_rows _ hx16)) s0) rfl (i_L (e := eI) (l := x16)) rfl (fun y17 hy17 => ⟨[.dat (eB lboard_here), .dat (eT llot), .dat (eI lline), .dat (eI lboard_here.length), .un, .un, .un, .dat (eI y17)], (gn (ρ1 := [.dat (eB lboard_here), .dat (eT llot), .dat (eI lline), .dat (eI lboard_here.length), .un, .un, .un, .dat (eI y17)]) (rfl)), fun b hb => by (have e_ := Option.some.inj hb; subst e_); exact ⟨xt xk rfl, rfl, fun hbt y17_y hy => by obtain ⟨x18, hx18, hy⟩ := bs hy; obtain ⟨x19, hx19, hy⟩ := bs hy; (have e_ := Option.some.inj hy; subst e_); exact ⟨[.dat (eB lboard_here), .dat (eT llot), .dat (eI lline), .dat (eI lboard_here.length), .un, .un, .un, .dat (eI y17)], (yv (show ev _ _ _ _ = some (.val ((zP zI eI) (x19.1, y17)), _) from xtup (v1 (yv (x2v (x2v (x2v (xv rfl rfl) (xv rfl rfl) rfl rfl (o_atT (e := eR) hx18)) (x2v (xv rfl rfl) (xv rfl rfl) rfl rfl o_subI) rfl rfl (o_atT (e := eP) hx19)) xk rfl rfl o_p0)) (v1 (yd (xv rfl rfl) rfl) v0)))), rfl⟩⟩⟩) (ρ' := [.dat (eB lboard_here), .dat (eT llot), .dat (eI lline), .dat (eI lboard_here.length), .un, .un, .un, .un]) rfl) rfl rfl ?_
    (have e_ := Option.some.inj h; subst e_)
    exact kj rfl
  · rintro ρ rfl
    obtain ⟨x22, hx22, h⟩ := bs h
    refine kset (ρ3 := [.dat (eB lboard_here), .dat (eT llot), .dat (eI lline), .dat (eI lboard_here.length), .own ((zL (zP zI eI)) z21), .dat (zI x22.1), .un, .un]) (x2v (x1v (xv rfl rfl) rfl (o_maxD (EncOk.tP EncOk.intI EncOk.natI) (by decide) (lt_P2 (fun _ => ⟨_, rfl⟩) (fun _ => ⟨_, rfl⟩)) hx22).1) xk rfl rfl o_p0) rfl rfl ?_
    (have e_ := Option.some.inj h; subst e_)
    exact kret (yn (xlc (enc := (zP zI eI)) (en2 := eI) (ρ1 := [.dat (eB lboard_here), .dat (eT llot), .dat (eI lline), .dat (eI lboard_here.length), .lok false ((zL (zP zI eI)) z21), .dat (zI x22.1), .un, .un]) (lcM_pure (xs := z21) (p := (fun (y23 : (Int × Nat)) => decide (y23.1 = x22.1))) (f := (fun (y23 : (Int × Nat)) => y23.2))) (s1 (xv rfl rfl) s0) rfl (i_L (e := (zP zI eI)) (l := z21)) rfl (fun y23 hy23 => ⟨[.dat (eB lboard_here), .dat (eT llot), .dat (eI lline), .dat (eI lboard_here.length), .lok false ((zL (zP zI eI)) z21), .dat (zI x22.1), .dat (zI y23.1), .dat (eI y23.2)], (gt (gn (ρ1 := [.dat (eB lboard_here), .dat (eT llot), .dat (eI lline), .dat (eI lboard_here.length), .lok false ((zL (zP zI eI)) z21), .dat (zI x22.1), .dat (zI y23.1), .un]) (rfl)) (gn (ρ1 := [.dat (eB lboard_here), .dat (eT llot), .dat (eI lline), .dat (eI lboard_here.length), .lok false ((zL (zP zI eI)) z21), .dat (zI x22.1), .dat (zI y23.1), .dat (eI y23.2)]) (rfl))), fun b hb => by (have e_ := Option.some.inj hb; subst e_); exact ⟨xt (x2v (xv rfl rfl) (xv rfl rfl) rfl rfl (pEq_enc EncOk.intI (by decide) y23.1 x22.1)) rfl, rfl, fun hbt y23_y hy => by (have e_ := Option.some.inj hy; subst e_); exact ⟨[.dat (eB lboard_here), .dat (eT llot), .dat (eI lline), .dat (eI lboard_here.length), .lok false ((zL (zP zI eI)) z21), .dat (zI x22.1), .dat (zI y23.1), .dat (eI y23.2)], (yd (xv rfl rfl) rfl), rfl⟩⟩⟩) (ρ' := [.dat (eB lboard_here), .dat (eT llot), .dat (eI lline), .dat (eI lboard_here.length), .own ((zL (zP zI eI)) z21), .dat (zI x22.1), .un, .un]) rfl)) ⟨_, rfl⟩
theorem w__law_bests (n : Nat) {lboard_here : (List (List (Int × Int)))} {llot : (List Nat)} {r : (List (Nat × Nat))} (h : q__law_bests lboard_here llot = some r) : run (n + 3) f__law_bests [eB lboard_here, eT llot] = some ((zT (zP eI eI)) r, .none) := by
  unfold q__law_bests at h
  refine (run__law_bests (n + 2) _).trans (kbody rfl ?_)
  unfold b__law_bests
  show Rn _ _ _ _ [.dat (eB lboard_here), .dat (eT llot), .un, .un, .un] _
  refine kset (ρ3 := [.dat (eB lboard_here), .dat (eT llot), .own ((zL (zP eI eI)) ([] : (List (Nat × Nat)))), .un, .un]) (xlst v0) rfl rfl ?_
  obtain ⟨x1, hx1, h⟩ := bs h
  obtain ⟨z21, hz21, h⟩ := bs h
  refine kfor (enc := eI) (fun (s19 : (List (Nat × Nat))) ρ => ∃ (j22 : Slot) (j23 : Slot), Jd j22 ∧ Jd j23 ∧ ρ = [.dat (eB lboard_here), .dat (eT llot), .own ((zL (zP eI eI)) s19), j22, j23]) hz21 (s1 (xcall (ds := [eB lboard_here, eT llot]) (ρ2 := [.dat (eB lboard_here), .dat (eT llot), .own ((zL (zP eI eI)) ([] : (List (Nat × Nat)))), .un, .un]) rfl (s1 (xv rfl rfl) (s1 (xv rfl rfl) s0)) rfl (w__law_rows _ hx1)) s0) rfl (i_L (e := eI) (l := x1)) ⟨.un, .un, Jd.un, Jd.un, rfl⟩ ?_ ?_
  · rintro y20 hy20 s19 ws19 ρ h ⟨j22, j23, kdj22, kdj23, rfl⟩
    refine ⟨[.dat (eB lboard_here), .dat (eT llot), .own ((zL (zP eI eI)) s19), .dat (eI y20), j23], (gn (ρ1 := [.dat (eB lboard_here), .dat (eT llot), .own ((zL (zP eI eI)) s19), .dat (eI y20), j23]) (kdj22.jk.asg rfl)), ?_⟩
    obtain ⟨x24, hx24, h⟩ := bs h
    obtain ⟨z33, hz33, h⟩ := bs h
    refine kfor (enc := eI) (fun (s31 : (List (Nat × Nat))) ρ => ∃ (j34 : Slot), Jd j34 ∧ ρ = [.dat (eB lboard_here), .dat (eT llot), .own ((zL (zP eI eI)) s31), .dat (eI y20), j34]) hz33 (s1 (xcall (ds := [eB lboard_here, eT llot]) (ρ2 := [.dat (eB lboard_here), .dat (eT llot), .own ((zL (zP eI eI)) s19), .dat (eI y20), j23]) rfl (s1 (xv rfl rfl) (s1 (xv rfl rfl) s0)) rfl (w__law_columns _ hx24)) s0) rfl (i_L (e := eI) (l := x24)) ⟨j23, kdj23, rfl⟩ ?_ ?_
    · rintro y32 hy32 s31 ws31 ρ h ⟨j34, kdj34, rfl⟩
      refine ⟨[.dat (eB lboard_here), .dat (eT llot), .own ((zL (zP eI eI)) s31), .dat (eI y20), .dat (eI y32)], (gn (ρ1 := [.dat (eB lboard_here), .dat (eT llot), .own ((zL (zP eI eI)) s31), .dat (eI y20), .dat (eI y32)]) (kdj34.jk.asg rfl)), ?_⟩
      obtain ⟨x35, hx35, h⟩ := bs h
      obtain ⟨x37, hx37, h⟩ := bs h
      obtain ⟨z40, hz40, h⟩ := bs h
      refine kifJ (fun ρ => ρ = [.dat (eB lboard_here), .dat (eT llot), .own ((zL (zP eI eI)) z40), .dat (eI y20), .dat (eI y32)]) (xt (xandP hx37 (xt (x2v (xv rfl rfl) (xcall (ds := [eB lboard_here, eT llot, eI y32]) (ρ2 := [.dat (eB lboard_here), .dat (eT llot), .own ((zL (zP eI eI)) s31), .dat (eI y20), .dat (eI y32)]) rfl (s1 (xv rfl rfl) (s1 (xv rfl rfl) (s1 (xv rfl rfl) s0))) rfl (w__law_answers _ hx35)) rfl rfl (pIn_lst EncOk.natI (by decide) y20 x35)) rfl) (fun _ hm => by obtain ⟨x36, hx36, hm⟩ := bs hm; exact xt (eqV (e := zB) hm (x2v (xv rfl rfl) (xcall (ds := [eB lboard_here, eT llot, eI y20]) (ρ2 := [.dat (eB lboard_here), .dat (eT llot), .own ((zL (zP eI eI)) s31), .dat (eI y20), .dat (eI y32)]) rfl (s1 (xv rfl rfl) (s1 (xv rfl rfl) (s1 (xv rfl rfl) s0))) rfl (w__law_answers _ hx36)) rfl rfl (pIn_lst EncOk.natI (by decide) y32 x36))) rfl)) rfl) (fun ht => ?_) (fun ht => ?_) ?_
      · have h := ift ht hz40
        obtain ⟨x39, hx39, h⟩ := bs h
        refine kapp (e := (zP eI eI)) hx39 rfl (yv (show ev _ _ _ _ = some (.val ((zP eI eI) (y20, y32)), _) from xtup (v1 (yd (xv rfl rfl) rfl) (v1 (yd (xv rfl rfl) rfl) v0)))) rfl (ρ2 := [.dat (eB lboard_here), .dat (eT llot), .own ((zL (zP eI eI)) x39), .dat (eI y20), .dat (eI y32)]) rfl ?_
        (have e_ := Option.some.inj h; subst e_)
        exact kj rfl
      · have h := iff_ ht hz40
        (have e_ := Option.some.inj h; subst e_)
        exact kj rfl
      · rintro ρ rfl
        (have e_ := Option.some.inj h; subst e_)
        exact knil ⟨.dat (eI y32), (Jd.dat _), rfl⟩
    · rintro ρ ⟨j34, kdj34, rfl⟩
      refine ⟨[.dat (eB lboard_here), .dat (eT llot), .own ((zL (zP eI eI)) z33), .dat (eI y20), j34], rfl, ?_⟩
      (have e_ := Option.some.inj h; subst e_)
      exact knil ⟨.dat (eI y20), j34, (Jd.dat _), kdj34, rfl⟩
  · rintro ρ ⟨j22, j23, kdj22, kdj23, rfl⟩
    refine ⟨[.dat (eB lboard_here), .dat (eT llot), .own ((zL (zP eI eI)) z21), j22, j23], rfl, ?_⟩
    (have e_ := Option.some.inj h; subst e_)
    exact kret (yv (x1v (xv rfl rfl) rfl (o_tupL (e := (zP eI eI)) (l := z21)))) ⟨_, rfl⟩
theorem wx_need_against (n : Nat) {board : (List (List (Int × Int)))} (h : x_need_against board = some true) : run (n + 5) (XB + f_need_against) [eB board] = some (.str "NotAgainst", .none) := by
  unfold x_need_against at h
  refine (xrun_need_against (n + 4) _).trans (kxbody rfl ?_)
  unfold b_need_against
  show Rn _ _ _ _ [.dat (eB board)] _
  obtain ⟨x1, hx1, h⟩ := bs h
  refine kexpr (xcall (ds := [eB board]) (ρ2 := [.dat (eB board)]) rfl (s1 (xv rfl rfl) s0) rfl (w_need_board _ hx1)) ?_
  obtain ⟨x2, hx2, h⟩ := bs h
  refine kif (xt (x1v (xcall (ds := [eB board]) (ρ2 := [.dat (eB board)]) rfl (s1 (xv rfl rfl) s0) rfl (w_adds_up _ hx2)) rfl o_notB) rfl) (fun ht => ?_) (fun ht => ?_)
  · have h := ift ht h
    exact kraise ⟨_, rfl⟩
  · have h := iff_ ht h
    refine knil (?_ : Rn _ _ _ _ _ _)
    cases h
theorem wx_saddle (n : Nat) {board : (List (List (Int × Int)))} (h : x_saddle board = some true) : run (n + 6) (XB + f_saddle) [eB board] = some (.str "NotAgainst", .none) := by
  unfold x_saddle at h
  refine (xrun_saddle (n + 5) _).trans (kxbody rfl ?_)
  unfold b_saddle
  show Rn _ _ _ _ [.dat (eB board), .un] _
  obtain ⟨x2, hx2, h⟩ := bs h
  cases x2
  · rw [if_neg Bool.false_ne_true] at h
    cases h
  · rw [if_pos rfl] at h
    refine kmayX (ds := [eB board]) (ρ1 := [.dat (eB board), .un]) (ρ2 := [.dat (eB board), .un]) (s1 (xv rfl rfl) s0) rfl (wx_need_against _ hx2) ?_
    exact ⟨_, rfl⟩
theorem w_law (n : Nat) {lscript : (List Int)} {r : Bool} (h : q_law lscript = some r) : run (n + 9) f_law [(zL zI) lscript] = some (zB r, .none) := by
  unfold q_law at h
  refine (run_law (n + 8) _).trans (kbody rfl ?_)
  unfold b_law
  show Rn _ _ _ _ [.dat ((zL zI) lscript), .un, .un, .un, .un, .un, .un, .un, .un, .un, .un, .un, .un, .un, .un, .un, .un, .un, .un, .un, .un, .un, .un] _
  refine kset (ρ3 := [.dat ((zL zI) lscript), .own (zRow (lscript, (0 : Int), (5208 : Int), (0 : Int))), .un, .un, .un, .un, .un, .un, .un, .un, .un, .un, .un, .un, .un, .un, .un, .un, .un, .un, .un, .un, .un]) (show ev _ _ _ _ = some (.new (zRow (lscript, (0 : Int), (5208 : Int), (0 : Int))), _) from xlst (v1 (yd (xv rfl rfl) rfl) (v1 (yv xk) (v1 (yv xk) (v1 (yv xk) v0))))) rfl rfl ?_
  obtain ⟨x1, hx1, h⟩ := bs h
  refine kset (ρ3 := [.dat ((zL zI) lscript), .own (zRow x1.2), .dat (eB x1.1), .un, .un, .un, .un, .un, .un, .un, .un, .un, .un, .un, .un, .un, .un, .un, .un, .un, .un, .un, .un]) (xcallR (ds := [zRow (lscript, (0 : Int), (5208 : Int), (0 : Int)), eI (5 : Nat), eI (5 : Nat), eI (5 : Nat)]) (ρ2 := [.dat ((zL zI) lscript), .own (zRow (lscript, (0 : Int), (5208 : Int), (0 : Int))), .un, .un, .un, .un, .un, .un, .un, .un, .un, .un, .un, .un, .un, .un, .un, .un, .un, .un, .un, .un, .un]) (ρ3 := [.dat ((zL zI) lscript), .own (zRow x1.2), .un, .un, .un, .un, .un, .un, .un, .un, .un, .un, .un, .un, .un, .un, .un, .un, .un, .un, .un, .un, .un]) rfl (s1 (xv rfl rfl) (s1 xk (s1 xk (s1 xk s0)))) rfl (w__law_board _ hx1) rfl) rfl rfl ?_
  obtain ⟨x2, hx2, h⟩ := bs h
  obtain ⟨z9, hz9, h⟩ := bs h
  refine kifJ (fun ρ => ρ = [.dat ((zL zI) lscript), .own (zRow x2.2), .dat (eB z9), .un, .un, .un, .un, .un, .un, .un, .un, .un, .un, .un, .un, .un, .un, .un, .un, .un, .un, .un, .un]) (xt (x2v (xcallR (ds := [zRow x1.2, eI (2 : Nat)]) (ρ2 := [.dat ((zL zI) lscript), .own (zRow x1.2), .dat (eB x1.1), .un, .un, .un, .un, .un, .un, .un, .un, .un, .un, .un, .un, .un, .un, .un, .un, .un, .un, .un, .un]) (ρ3 := [.dat ((zL zI) lscript), .own (zRow x2.2), .dat (eB x1.1), .un, .un, .un, .un, .un, .un, .un, .un, .un, .un, .un, .un, .un, .un, .un, .un, .un, .un, .un, .un]) rfl (s1 (xv rfl rfl) (s1 xk s0)) rfl (w__law_taken _ hx2) rfl) xk rfl rfl (pEq_enc EncOk.natI (by decide) x2.1 (0 : Nat))) rfl) (fun ht => ?_) (fun ht => ?_) ?_
  · have h := ift ht hz9
    obtain ⟨x8, hx8, h⟩ := bs h
    refine kset (ρ3 := [.dat ((zL zI) lscript), .own (zRow x2.2), .dat (eB x8), .un, .un, .un, .un, .un, .un, .un, .un, .un, .un, .un, .un, .un, .un, .un, .un, .un, .un, .un, .un]) (eqV (e := eB) hx8 (x1v (xlc (enc := eR) (en2 := eR) (ρ1 := [.dat ((zL zI) lscript), .own (zRow x2.2), .dat (eB x1.1), .un, .un, .un, .un, .un, .un, .un, .un, .un, .un, .un, .un, .un, .un, .un, .un, .un, .un, .un, .un]) (lcM_map (xs := x1.1) (f := (fun (y6 : (List (Int × Int))) => (y6.map (fun (y7 : (Int × Int)) => (y7.1, ((0 : Int) - y7.1))))))) (s1 (xv rfl rfl) s0) rfl (i_T (e := eR) (l := x1.1)) rfl (fun y6 hy6 => ⟨[.dat ((zL zI) lscript), .own (zRow x2.2), .dat (eB x1.1), .un, .un, .un, .un, .un, .un, .un, .un, .dat (eR y6), .un, .un, .un, .un, .un, .un, .un, .un, .un, .un, .un], (gn (ρ1 := [.dat ((zL zI) lscript), .own (zRow x2.2), .dat (eB x1.1), .un, .un, .un, .un, .un, .un, .un, .un, .dat (eR y6), .un, .un, .un, .un, .un, .un, .un, .un, .un, .un, .un]) (rfl)), fun b hb => by (have e_ := Option.some.inj hb; subst e_); exact ⟨xt xk rfl, rfl, fun hbt y6_y hy => by (have e_ := Option.some.inj hy; subst e_); exact ⟨[.dat ((zL zI) lscript), .own (zRow x2.2), .dat (eB x1.1), .un, .un, .un, .un, .un, .un, .un, .un, .dat (eR y6), .un, .un, .un, .un, .un, .un, .un, .un, .un, .un, .un], (yv (x1v (xlc (enc := eP) (en2 := eP) (ρ1 := [.dat ((zL zI) lscript), .own (zRow x2.2), .dat (eB x1.1), .un, .un, .un, .un, .un, .un, .un, .un, .dat (eR y6), .un, .un, .un, .un, .un, .un, .un, .un, .un, .un, .un]) (lcM_map (xs := y6) (f := (fun (y7 : (Int × Int)) => (y7.1, ((0 : Int) - y7.1))))) (s1 (xv rfl rfl) s0) rfl (i_T (e := eP) (l := y6)) rfl (fun y7 hy7 => ⟨[.dat ((zL zI) lscript), .own (zRow x2.2), .dat (eB x1.1), .un, .un, .un, .un, .un, .un, .un, .un, .dat (eR y6), .un, .un, .un, .un, .un, .un, .un, .un, .un, .dat (zI y7.1), .dat (zI y7.2)], (gt (gn (ρ1 := [.dat ((zL zI) lscript), .own (zRow x2.2), .dat (eB x1.1), .un, .un, .un, .un, .un, .un, .un, .un, .dat (eR y6), .un, .un, .un, .un, .un, .un, .un, .un, .un, .dat (zI y7.1), .un]) (rfl)) (gn (ρ1 := [.dat ((zL zI) lscript), .own (zRow x2.2), .dat (eB x1.1), .un, .un, .un, .un, .un, .un, .un, .un, .dat (eR y6), .un, .un, .un, .un, .un, .un, .un, .un, .un, .dat (zI y7.1), .dat (zI y7.2)]) (rfl))), fun b hb => by (have e_ := Option.some.inj hb; subst e_); exact ⟨xt xk rfl, rfl, fun hbt y7_y hy => by (have e_ := Option.some.inj hy; subst e_); exact ⟨[.dat ((zL zI) lscript), .own (zRow x2.2), .dat (eB x1.1), .un, .un, .un, .un, .un, .un, .un, .un, .dat (eR y6), .un, .un, .un, .un, .un, .un, .un, .un, .un, .dat (zI y7.1), .dat (zI y7.2)], (yv (show ev _ _ _ _ = some (.val (eP (y7.1, ((0 : Int) - y7.1))), _) from xtup (v1 (yd (xv rfl rfl) rfl) (v1 (yv (x2v xk (xv rfl rfl) rfl rfl o_subI)) v0)))), rfl⟩⟩⟩) (ρ' := [.dat ((zL zI) lscript), .own (zRow x2.2), .dat (eB x1.1), .un, .un, .un, .un, .un, .un, .un, .un, .dat (eR y6), .un, .un, .un, .un, .un, .un, .un, .un, .un, .un, .un]) rfl) rfl (o_tupL (e := eP) (l := (y6.map (fun (y7 : (Int × Int)) => (y7.1, ((0 : Int) - y7.1)))))))), rfl⟩⟩⟩) (ρ' := [.dat ((zL zI) lscript), .own (zRow x2.2), .dat (eB x1.1), .un, .un, .un, .un, .un, .un, .un, .un, .un, .un, .un, .un, .un, .un, .un, .un, .un, .un, .un, .un]) rfl) rfl (o_tupL (e := eR) (l := (x1.1.map (fun (y6 : (List (Int × Int))) => (y6.map (fun (y7 : (Int × Int)) => (y7.1, ((0 : Int) - y7.1)))))))))) rfl rfl ?_
    (have e_ := Option.some.inj h; subst e_)
    exact kj rfl
  · have h := iff_ ht hz9
    (have e_ := Option.some.inj h; subst e_)
    exact kj rfl
  · rintro ρ rfl
    obtain ⟨x10, hx10, h⟩ := bs h
    refine kpar (t1 (x1v (xv rfl rfl) rfl (o_lenT (e := eR) (l := z9))) rfl (t1 (x1v (x2v (xv rfl rfl) xk rfl rfl (o_atT (e := eR) hx10)) rfl (o_lenT (e := eP) (l := x10))) rfl t0)) (a1 (ρ2 := [.dat ((zL zI) lscript), .own (zRow x2.2), .dat (eB z9), .dat (eI z9.length), .dat (eI x10.length), .un, .un, .un, .un, .un, .un, .un, .un, .un, .un, .un, .un, .un, .un, .un, .un, .un, .un]) (a1 (ρ2 := [.dat ((zL zI) lscript), .own (zRow x2.2), .dat (eB z9), .un, .dat (eI x10.length), .un, .un, .un, .un, .un, .un, .un, .un, .un, .un, .un, .un, .un, .un, .un, .un, .un, .un]) a0 rfl) rfl) ?_
    obtain ⟨x11, hx11, h⟩ := bs h
    obtain ⟨x15, hx15, h⟩ := bs h
    refine kset (ρ3 := [.dat ((zL zI) lscript), .own (zRow x2.2), .dat (eB z9), .dat (eI z9.length), .dat (eI x10.length), .own ((zL zI) x15), .un, .un, .un, .un, .un, .un, .un, .un, .un, .un, .un, .un, .un, .un, .un, .un, .un]) (xlc (enc := eI) (en2 := zI) (ρ1 := [.dat ((zL zI) lscript), .own (zRow x2.2), .dat (eB z9), .dat (eI z9.length), .dat (eI x10.length), .un, .un, .un, .un, .un, .un, .un, .un, .un, .un, .un, .un, .un, .un, .un, .un, .un, .un]) hx15 (s1 (x2v (xv rfl rfl) (xv rfl rfl) rfl rfl o_addN) s0) rfl (i_rg1 hx11) rfl (fun y12 hy12 => ⟨[.dat ((zL zI) lscript), .own (zRow x2.2), .dat (eB z9), .dat (eI z9.length), .dat (eI x10.length), .un, .un, .un, .un, .un, .un, .un, .un, .un, .un, .un, .un, .un, .un, .dat (eI y12), .un, .un, .un], (gn (ρ1 := [.dat ((zL zI) lscript), .own (zRow x2.2), .dat (eB z9), .dat (eI z9.length), .dat (eI x10.length), .un, .un, .un, .un, .un, .un, .un, .un, .un, .un, .un, .un, .un, .un, .dat (eI y12), .un, .un, .un]) (rfl)), fun b hb => by (have e_ := Option.some.inj hb; subst e_); exact ⟨xt xk rfl, rfl, fun hbt y12_y hy => by obtain ⟨x13, hx13, hy⟩ := bs hy; obtain ⟨x14, hx14, hy⟩ := bs hy; (have e_ := Option.some.inj hy; subst e_); exact ⟨[.dat ((zL zI) lscript), .own (zRow x2.2), .dat (eB z9), .dat (eI z9.length), .dat (eI x10.length), .un, .un, .un, .un, .un, .un, .un, .un, .un, .un, .un, .un, .un, .un, .dat (eI y12), .un, .un, .un], (yv (x1v (xcall (ds := [eB z9, eT ([] : (List Nat)), eI y12]) (ρ2 := [.dat ((zL zI) lscript), .own (zRow x2.2), .dat (eB z9), .dat (eI z9.length), .dat (eI x10.length), .un, .un, .un, .un, .un, .un, .un, .un, .un, .un, .un, .un, .un, .un, .dat (eI y12), .un, .un, .un]) rfl (s1 (xv rfl rfl) (s1 (xtup v0) (s1 (xv rfl rfl) s0))) rfl (w__law_numbers _ hx13)) rfl (o_minLI hx14).1)), rfl⟩⟩⟩) (ρ' := [.dat ((zL zI) lscript), .own (zRow x2.2), .dat (eB z9), .dat (eI z9.length), .dat (eI x10.length), .un, .un, .un, .un, .un, .un, .un, .un, .un, .un, .un, .un, .un, .un, .un, .un, .un, .un]) rfl) rfl rfl ?_
    obtain ⟨x16, hx16, h⟩ := bs h
    obtain ⟨x17, hx17, h⟩ := bs h
    refine kpar (t1 (x1v (x2n (xv rfl rfl) (xv rfl rfl) rfl rfl (o_slTL (e := zI))) rfl (o_maxLI hx16).1) rfl (t1 (x1v (x2n (xv rfl rfl) (xv rfl rfl) rfl rfl (o_slFL (e := zI))) rfl (o_maxLI hx17).1) rfl t0)) (a1 (ρ2 := [.dat ((zL zI) lscript), .own (zRow x2.2), .dat (eB z9), .dat (eI z9.length), .dat (eI x10.length), .own ((zL zI) x15), .dat (zI x16), .dat (zI x17), .un, .un, .un, .un, .un, .un, .un, .un, .un, .un, .un, .un, .un, .un, .un]) (a1 (ρ2 := [.dat ((zL zI) lscript), .own (zRow x2.2), .dat (eB z9), .dat (eI z9.length), .dat (eI x10.length), .own ((zL zI) x15), .un, .dat (zI x17), .un, .un, .un, .un, .un, .un, .un, .un, .un, .un, .un, .un, .un, .un, .un]) a0 rfl) rfl) ?_
    obtain ⟨x18, hx18, h⟩ := bs h
    obtain ⟨x19, hx19, h⟩ := bs h
    refine kif (xt (x1v (xcall (ds := [eP x18, eP (x16, x17)]) (ρ2 := [.dat ((zL zI) lscript), .own (zRow x2.2), .dat (eB z9), .dat (eI z9.length), .dat (eI x10.length), .own ((zL zI) x15), .dat (zI x16), .dat (zI x17), .un, .un, .un, .un, .un, .un, .un, .un, .un, .un, .un, .un, .un, .un, .un]) rfl (s1 (xcall (ds := [eB z9]) (ρ2 := [.dat ((zL zI) lscript), .own (zRow x2.2), .dat (eB z9), .dat (eI z9.length), .dat (eI x10.length), .own ((zL zI) x15), .dat (zI x16), .dat (zI x17), .un, .un, .un, .un, .un, .un, .un, .un, .un, .un, .un, .un, .un, .un, .un]) rfl (s1 (xv rfl rfl) s0) rfl (w_safe_numbers _ hx18)) (s1 (show ev _ _ _ _ = some (.val (eP (x16, x17)), _) from xtup (v1 (yd (xv rfl rfl) rfl) (v1 (yd (xv rfl rfl) rfl) v0))) s0)) rfl (w__law_alike _ hx19)) rfl o_notB) rfl) (fun ht => ?_) (fun ht => ?_)
    · have h := ift ht h
      (have e_ := Option.some.inj h; subst e_)
      exact kret (yv xk) ⟨_, rfl⟩
    · have h := iff_ ht h
      refine knil (?_ : Rn _ _ _ _ _ _)
      obtain ⟨x20, hx20, h⟩ := bs h
      obtain ⟨x23, hx23, h⟩ := bs h
      refine kset (ρ3 := [.dat ((zL zI) lscript), .own (zRow x2.2), .dat (eB z9), .dat (eI z9.length), .dat (eI x10.length), .own ((zL zI) x15), .dat (zI x16), .dat (zI x17), .own (eN x23), .un, .un, .un, .un, .un, .un, .un, .un, .un, .un, .un, .un, .un, .un]) (xlc (enc := eI) (en2 := eI) (ρ1 := [.dat ((zL zI) lscript), .own (zRow x2.2), .dat (eB z9), .dat (eI z9.length), .dat (eI x10.length), .own ((zL zI) x15), .dat (zI x16), .dat (zI x17), .un, .un, .un, .un, .un, .un, .un, .un, .un, .un, .un, .un, .un, .un, .un]) hx23 (s1 (xv rfl rfl) s0) rfl (i_rg1 hx20) rfl (fun y21 hy21 => ⟨[.dat ((zL zI) lscript), .own (zRow x2.2), .dat (eB z9), .dat (eI z9.length), .dat (eI x10.length), .own ((zL zI) x15), .dat (zI x16), .dat (zI x17), .un, .un, .un, .un, .un, .un, .un, .un, .un, .un, .un, .dat (eI y21), .un, .un, .un], (gn (ρ1 := [.dat ((zL zI) lscript), .own (zRow x2.2), .dat (eB z9), .dat (eI z9.length), .dat (eI x10.length), .own ((zL zI) x15), .dat (zI x16), .dat (zI x17), .un, .un, .un, .un, .un, .un, .un, .un, .un, .un, .un, .dat (eI y21), .un, .un, .un]) (rfl)), fun b hb => by obtain ⟨x22, hx22, hb⟩ := bs hb; (have e_ := Option.some.inj hb; subst e_); exact ⟨xt (x2v (x2v (xv rfl rfl) (xv rfl rfl) rfl rfl (o_atL (e := zI) hx22)) (xv rfl rfl) rfl rfl (pEq_enc EncOk.intI (by decide) x22 x16)) rfl, rfl, fun hbt y21_y hy => by (have e_ := Option.some.inj hy; subst e_); exact ⟨[.dat ((zL zI) lscript), .own (zRow x2.2), .dat (eB z9), .dat (eI z9.length), .dat (eI x10.length), .own ((zL zI) x15), .dat (zI x16), .dat (zI x17), .un, .un, .un, .un, .un, .un, .un, .un, .un, .un, .un, .dat (eI y21), .un, .un, .un], (yd (xv rfl rfl) rfl), rfl⟩⟩⟩) (ρ' := [.dat ((zL zI) lscript), .own (zRow x2.2), .dat (eB z9), .dat (eI z9.length), .dat (eI x10.length), .own ((zL zI) x15), .dat (zI x16), .dat (zI x17), .un, .un, .un, .un, .un, .un, .un, .un, .un, .un, .un, .un, .un, .un, .un]) rfl) rfl rfl ?_
      obtain ⟨x24, hx24, h⟩ := bs h
      obtain ⟨x27, hx27, h⟩ := bs h
      obtain ⟨x28, hx28, h⟩ := bs h
      refine kset (ρ3 := [.dat ((zL zI) lscript), .own (zRow x2.2), .dat (eB z9), .dat (eI z9.length), .dat (eI x10.length), .own ((zL zI) x15), .dat (zI x16), .dat (zI x17), .own (eN x28), .un, .un, .un, .un, .un, .un, .un, .un, .un, .un, .un, .un, .un, .un]) (x2n (xv rfl rfl) (xlc (enc := eI) (en2 := eI) (ρ1 := [.dat ((zL zI) lscript), .own (zRow x2.2), .dat (eB z9), .dat (eI z9.length), .dat (eI x10.length), .own ((zL zI) x15), .dat (zI x16), .dat (zI x17), .own (eN x23), .un, .un, .un, .un, .un, .un, .un, .un, .un, .un, .un, .un, .un, .un]) hx27 (s1 (xv rfl rfl) (s1 (x2v (xv rfl rfl) (xv rfl rfl) rfl rfl o_addN) s0)) rfl (i_rg2 hx24) rfl (fun y25 hy25 => ⟨[.dat ((zL zI) lscript), .own (zRow x2.2), .dat (eB z9), .dat (eI z9.length), .dat (eI x10.length), .own ((zL zI) x15), .dat (zI x16), .dat (zI x17), .own (eN x23), .un, .un, .un, .un, .un, .un, .un, .un, .un, .un, .dat (eI y25), .un, .un, .un], (gn (ρ1 := [.dat ((zL zI) lscript), .own (zRow x2.2), .dat (eB z9), .dat (eI z9.length), .dat (eI x10.length), .own ((zL zI) x15), .dat (zI x16), .dat (zI x17), .own (eN x23), .un, .un, .un, .un, .un, .un, .un, .un, .un, .un, .dat (eI y25), .un, .un, .un]) (rfl)), fun b hb => by obtain ⟨x26, hx26, hb⟩ := bs hb; (have e_ := Option.some.inj hb; subst e_); exact ⟨xt (x2v (x2v (xv rfl rfl) (xv rfl rfl) rfl rfl (o_atL (e := zI) hx26)) (xv rfl rfl) rfl rfl (pEq_enc EncOk.intI (by decide) x26 x17)) rfl, rfl, fun hbt y25_y hy => by (have e_ := Option.some.inj hy; subst e_); exact ⟨[.dat ((zL zI) lscript), .own (zRow x2.2), .dat (eB z9), .dat (eI z9.length), .dat (eI x10.length), .own ((zL zI) x15), .dat (zI x16), .dat (zI x17), .own (eN x23), .un, .un, .un, .un, .un, .un, .un, .un, .un, .un, .dat (eI y25), .un, .un, .un], (yd (xv rfl rfl) rfl), rfl⟩⟩⟩) (ρ' := [.dat ((zL zI) lscript), .own (zRow x2.2), .dat (eB z9), .dat (eI z9.length), .dat (eI x10.length), .own ((zL zI) x15), .dat (zI x16), .dat (zI x17), .own (eN x23), .un, .un, .un, .un, .un, .un, .un, .un, .un, .un, .un, .un, .un, .un]) rfl) rfl rfl (o_catL (e := eI) hx28)) rfl rfl ?_
      obtain ⟨x29, hx29, h⟩ := bs h
      obtain ⟨x30, hx30, h⟩ := bs h
      refine kif (xt (x1v (xcall (ds := [eT x29, eT x28]) (ρ2 := [.dat ((zL zI) lscript), .own (zRow x2.2), .dat (eB z9), .dat (eI z9.length), .dat (eI x10.length), .own ((zL zI) x15), .dat (zI x16), .dat (zI x17), .own (eN x28), .un, .un, .un, .un, .un, .un, .un, .un, .un, .un, .un, .un, .un, .un]) rfl (s1 (xcall (ds := [eB z9]) (ρ2 := [.dat ((zL zI) lscript), .own (zRow x2.2), .dat (eB z9), .dat (eI z9.length), .dat (eI x10.length), .own ((zL zI) x15), .dat (zI x16), .dat (zI x17), .own (eN x28), .un, .un, .un, .un, .un, .un, .un, .un, .un, .un, .un, .un, .un, .un]) rfl (s1 (xv rfl rfl) s0) rfl (w_safe_lines _ hx29)) (s1 (x1v (xv rfl rfl) rfl (o_tupL (e := eI) (l := x28))) s0)) rfl (w__law_alike _ hx30)) rfl o_notB) rfl) (fun ht => ?_) (fun ht => ?_)
      · have h := ift ht h
        (have e_ := Option.some.inj h; subst e_)
        exact kret (yv xk) ⟨_, rfl⟩
      · have h := iff_ ht h
        refine knil (?_ : Rn _ _ _ _ _ _)
        refine kpar (t1 (xlst v0) rfl (t1 xk rfl t0)) (a1 (ρ2 := [.dat ((zL zI) lscript), .own (zRow x2.2), .dat (eB z9), .dat (eI z9.length), .dat (eI x10.length), .own ((zL zI) x15), .dat (zI x16), .dat (zI x17), .own (eN x28), .own (eN ([] : (List Nat))), .dat (zS ("" : Str)), .un, .un, .un, .un, .un, .un, .un, .un, .un, .un, .un, .un]) (a1 (ρ2 := [.dat ((zL zI) lscript), .own (zRow x2.2), .dat (eB z9), .dat (eI z9.length), .dat (eI x10.length), .own ((zL zI) x15), .dat (zI x16), .dat (zI x17), .own (eN x28), .un, .dat (zS ("" : Str)), .un, .un, .un, .un, .un, .un, .un, .un, .un, .un, .un, .un]) a0 rfl) rfl) ?_
        obtain ⟨z35, hz35, h⟩ := bs h
        refine kfor (enc := eR) (fun (s33 : (List Nat)) ρ => ∃ (j36 : Slot), Jd j36 ∧ ρ = [.dat ((zL zI) lscript), .own (zRow x2.2), .dat (eB z9), .dat (eI z9.length), .dat (eI x10.length), .own ((zL zI) x15), .dat (zI x16), .dat (zI x17), .own (eN x28), .own (eN s33), .dat (zS ("" : Str)), j36, .un, .un, .un, .un, .un, .un, .un, .un, .un, .un, .un]) hz35 (s1 (xv rfl rfl) s0) rfl (i_T (e := eR) (l := z9)) ⟨.un, Jd.un, rfl⟩ ?_ ?_
        · rintro y34 hy34 s33 ws33 ρ h ⟨j36, kdj36, rfl⟩
          refine ⟨[.dat ((zL zI) lscript), .own (zRow x2.2), .dat (eB z9), .dat (eI z9.length), .dat (eI x10.length), .own ((zL zI) x15), .dat (zI x16), .dat (zI x17), .own (eN x28), .own (eN s33), .dat (zS ("" : Str)), .dat (eR y34), .un, .un, .un, .un, .un, .un, .un, .un, .un, .un, .un], (gn (ρ1 := [.dat ((zL zI) lscript), .own (zRow x2.2), .dat (eB z9), .dat (eI z9.length), .dat (eI x10.length), .own ((zL zI) x15), .dat (zI x16), .dat (zI x17), .own (eN x28), .own (eN s33), .dat (zS ("" : Str)), .dat (eR y34), .un, .un, .un, .un, .un, .un, .un, .un, .un, .un, .un]) (kdj36.jk.asg rfl)), ?_⟩
          obtain ⟨x38, hx38, h⟩ := bs h
          refine kset (ρ3 := [.dat ((zL zI) lscript), .own (zRow x2.2), .dat (eB z9), .dat (eI z9.length), .dat (eI x10.length), .own ((zL zI) x15), .dat (zI x16), .dat (zI x17), .own (eN x28), .own (eN x38), .dat (zS ("" : Str)), .dat (eR y34), .un, .un, .un, .un, .un, .un, .un, .un, .un, .un, .un]) (x2n (xv rfl rfl) (xlc (enc := eP) (en2 := eI) (ρ1 := [.dat ((zL zI) lscript), .own (zRow x2.2), .dat (eB z9), .dat (eI z9.length), .dat (eI x10.length), .own ((zL zI) x15), .dat (zI x16), .dat (zI x17), .own (eN x28), .own (eN s33), .dat (zS ("" : Str)), .dat (eR y34), .un, .un, .un, .un, .un, .un, .un, .un, .un, .un, .un]) (lcM_pure (xs := y34) (p := (fun (y37 : (Int × Int)) => (!decide ((y37.1 + y37.2) = (0 : Int))))) (f := (fun (y37 : (Int × Int)) => (1 : Nat)))) (s1 (xv rfl rfl) s0) rfl (i_T (e := eP) (l := y34)) rfl (fun y37 hy37 => ⟨[.dat ((zL zI) lscript), .own (zRow x2.2), .dat (eB z9), .dat (eI z9.length), .dat (eI x10.length), .own ((zL zI) x15), .dat (zI x16), .dat (zI x17), .own (eN x28), .own (eN s33), .dat (zS ("" : Str)), .dat (eR y34), .un, .un, .un, .un, .un, .un, .un, .un, .un, .dat (zI y37.1), .dat (zI y37.2)], (gt (gn (ρ1 := [.dat ((zL zI) lscript), .own (zRow x2.2), .dat (eB z9), .dat (eI z9.length), .dat (eI x10.length), .own ((zL zI) x15), .dat (zI x16), .dat (zI x17), .own (eN x28), .own (eN s33), .dat (zS ("" : Str)), .dat (eR y34), .un, .un, .un, .un, .un, .un, .un, .un, .un, .dat (zI y37.1), .un]) (rfl)) (gn (ρ1 := [.dat ((zL zI) lscript), .own (zRow x2.2), .dat (eB z9), .dat (eI z9.length), .dat (eI x10.length), .own ((zL zI) x15), .dat (zI x16), .dat (zI x17), .own (eN x28), .own (eN s33), .dat (zS ("" : Str)), .dat (eR y34), .un, .un, .un, .un, .un, .un, .un, .un, .un, .dat (zI y37.1), .dat (zI y37.2)]) (rfl))), fun b hb => by (have e_ := Option.some.inj hb; subst e_); exact ⟨xt (x2v (x2v (xv rfl rfl) (xv rfl rfl) rfl rfl o_addI) xk rfl rfl (pNe_enc EncOk.intI (by decide) (y37.1 + y37.2) (0 : Int))) rfl, rfl, fun hbt y37_y hy => by (have e_ := Option.some.inj hy; subst e_); exact ⟨[.dat ((zL zI) lscript), .own (zRow x2.2), .dat (eB z9), .dat (eI z9.length), .dat (eI x10.length), .own ((zL zI) x15), .dat (zI x16), .dat (zI x17), .own (eN x28), .own (eN s33), .dat (zS ("" : Str)), .dat (eR y34), .un, .un, .un, .un, .un, .un, .un, .un, .un, .dat (zI y37.1), .dat (zI y37.2)], (yv xk), rfl⟩⟩⟩) (ρ' := [.dat ((zL zI) lscript), .own (zRow x2.2), .dat (eB z9), .dat (eI z9.length), .dat (eI x10.length), .own ((zL zI) x15), .dat (zI x16), .dat (zI x17), .own (eN x28), .own (eN s33), .dat (zS ("" : Str)), .dat (eR y34), .un, .un, .un, .un, .un, .un, .un, .un, .un, .un, .un]) rfl) rfl rfl (o_catL (e := eI) hx38)) rfl rfl ?_
          (have e_ := Option.some.inj h; subst e_)
          exact knil ⟨.dat (eR y34), (Jd.dat _), rfl⟩
        · rintro ρ ⟨j36, kdj36, rfl⟩
          refine ⟨[.dat ((zL zI) lscript), .own (zRow x2.2), .dat (eB z9), .dat (eI z9.length), .dat (eI x10.length), .own ((zL zI) x15), .dat (zI x16), .dat (zI x17), .own (eN x28), .own (eN z35), .dat (zS ("" : Str)), j36, .un, .un, .un, .un, .un, .un, .un, .un, .un, .un, .un], rfl, ?_⟩
          obtain ⟨x39, hx39, h⟩ := bs h
          obtain ⟨x40, hx40, h⟩ := bs h
          refine kif (xt (x1v (xcall (ds := [zB x39, zB (decide (z35 = ([] : (List Nat))))]) (ρ2 := [.dat ((zL zI) lscript), .own (zRow x2.2), .dat (eB z9), .dat (eI z9.length), .dat (eI x10.length), .own ((zL zI) x15), .dat (zI x16), .dat (zI x17), .own (eN x28), .own (eN z35), .dat (zS ("" : Str)), j36, .un, .un, .un, .un, .un, .un, .un, .un, .un, .un, .un]) rfl (s1 (xcall (ds := [eB z9]) (ρ2 := [.dat ((zL zI) lscript), .own (zRow x2.2), .dat (eB z9), .dat (eI z9.length), .dat (eI x10.length), .own ((zL zI) x15), .dat (zI x16), .dat (zI x17), .own (eN x28), .own (eN z35), .dat (zS ("" : Str)), j36, .un, .un, .un, .un, .un, .un, .un, .un, .un, .un, .un]) rfl (s1 (xv rfl rfl) s0) rfl (w_is_against _ hx39)) (s1 (x2v (xv rfl rfl) (xlst v0) rfl rfl (pEq_enc (EncOk.tL EncOk.natI) (by decide) z35 ([] : (List Nat)))) s0)) rfl (w__law_is _ hx40)) rfl o_notB) rfl) (fun ht => ?_) (fun ht => ?_)
          · have h := ift ht h
            (have e_ := Option.some.inj h; subst e_)
            exact kret (yv xk) ⟨_, rfl⟩
          · have h := iff_ ht h
            refine knil (?_ : Rn _ _ _ _ _ _)
            obtain ⟨o69, ho69, h⟩ := bs h
            refine ktryR (e := zB) (fun (z70 : Str) ρ => ∃ (j72 : Slot), Jd j72 ∧ ρ = [.dat ((zL zI) lscript), .own (zRow x2.2), .dat (eB z9), .dat (eI z9.length), .dat (eI x10.length), .own ((zL zI) x15), .dat (zI x16), .dat (zI x17), .own (eN x28), .own (eN z35), .dat (zS z70), j36, j72, .un, .un, .un, .un, .un, .un, .un, .un, .un, .un]) ho69 rfl (fun h => ?_) ?_ ?_
            · obtain ⟨x55, hx55, h⟩ := bs h
              refine kset (ρ3 := [.dat ((zL zI) lscript), .own (zRow x2.2), .dat (eB z9), .dat (eI z9.length), .dat (eI x10.length), .own ((zL zI) x15), .dat (zI x16), .dat (zI x17), .own (eN x28), .own (eN z35), .dat (zS ("" : Str)), j36, .dat ((zT (zP eI eI)) x55), .un, .un, .un, .un, .un, .un, .un, .un, .un, .un]) (xcall (ds := [eB z9, eT ([] : (List Nat))]) (ρ2 := [.dat ((zL zI) lscript), .own (zRow x2.2), .dat (eB z9), .dat (eI z9.length), .dat (eI x10.length), .own ((zL zI) x15), .dat (zI x16), .dat (zI x17), .own (eN x28), .own (eN z35), .dat (zS ("" : Str)), j36, .un, .un, .un, .un, .un, .un, .un, .un, .un, .un, .un]) rfl (s1 (xv rfl rfl) (s1 (xtup v0) s0)) rfl (w__law_bests _ hx55)) rfl rfl ?_
              obtain ⟨x68, hx68, h⟩ := bs h
              cases x68
              · rw [if_neg Bool.false_ne_true] at h
                obtain ⟨x56, hx56, h⟩ := bs h
                obtain ⟨x61, hx61, h⟩ := bs h
                obtain ⟨x62, hx62, h⟩ := bs h
                refine kmayN (ds := [eB z9]) (ρ1 := [.dat ((zL zI) lscript), .own (zRow x2.2), .dat (eB z9), .dat (eI z9.length), .dat (eI x10.length), .own ((zL zI) x15), .dat (zI x16), .dat (zI x17), .own (eN x28), .own (eN z35), .dat (zS ("" : Str)), j36, .dat ((zT (zP eI eI)) x55), .un, .un, .un, .un, .un, .un, .un, .un, .un, .un]) (ρ2 := [.dat ((zL zI) lscript), .own (zRow x2.2), .dat (eB z9), .dat (eI z9.length), .dat (eI x10.length), .own ((zL zI) x15), .dat (zI x16), .dat (zI x17), .own (eN x28), .own (eN z35), .dat (zS ("" : Str)), j36, .dat ((zT (zP eI eI)) x55), .un, .un, .un, .un, .un, .un, .un, .un, .un, .un]) (s1 (xv rfl rfl) s0) rfl (xno_saddle (w_saddle _ hx56)) ?_
                refine kif (xt (x1v (xcall (ds := [(zO zI) x56, (zO zI) x61]) (ρ2 := [.dat ((zL zI) lscript), .own (zRow x2.2), .dat (eB z9), .dat (eI z9.length), .dat (eI x10.length), .own ((zL zI) x15), .dat (zI x16), .dat (zI x17), .own (eN x28), .own (eN z35), .dat (zS ("" : Str)), j36, .dat ((zT (zP eI eI)) x55), .un, .un, .un, .un, .un, .un, .un, .un, .un, .un]) rfl (s1 (xcall (ds := [eB z9]) (ρ2 := [.dat ((zL zI) lscript), .own (zRow x2.2), .dat (eB z9), .dat (eI z9.length), .dat (eI x10.length), .own ((zL zI) x15), .dat (zI x16), .dat (zI x17), .own (eN x28), .own (eN z35), .dat (zS ("" : Str)), j36, .dat ((zT (zP eI eI)) x55), .un, .un, .un, .un, .un, .un, .un, .un, .un, .un]) rfl (s1 (xv rfl rfl) s0) rfl (w_saddle _ hx56)) (s1 (xiteV (e := (zO zI)) (ρ2 := [.dat ((zL zI) lscript), .own (zRow x2.2), .dat (eB z9), .dat (eI z9.length), .dat (eI x10.length), .own ((zL zI) x15), .dat (zI x16), .dat (zI x17), .own (eN x28), .own (eN z35), .dat (zS ("" : Str)), j36, .dat ((zT (zP eI eI)) x55), .un, .un, .un, .un, .un, .un, .un, .un, .un, .un]) hx61 (xt (x2v (xv rfl rfl) (xtup v0) rfl rfl (pNe_enc (EncOk.tT (EncOk.tP EncOk.natI EncOk.natI)) (by decide) x55 ([] : (List (Nat × Nat))))) rfl) (fun ht_ hm => by obtain ⟨x57, hx57, hm⟩ := bs hm; obtain ⟨x58, hx58, hm⟩ := bs hm; obtain ⟨x59, hx59, hm⟩ := bs hm; obtain ⟨x60, hx60, hm⟩ := bs hm; exact eqV (e := (zO zI)) hm (show ev _ _ _ _ = some (.val ((zO zI) (some x60.1)), _) from (x2v (x2v (x2v (xv rfl rfl) (x2v (x2v (xv rfl rfl) xk rfl rfl (o_atT (e := (zP eI eI)) hx57)) xk rfl rfl o_p0) rfl rfl (o_atT (e := eR) hx58)) (x2v (x2v (x2v (xv rfl rfl) xk rfl rfl (o_atT (e := (zP eI eI)) hx59)) xk rfl rfl o_p1) (xv rfl rfl) rfl rfl o_subI) rfl rfl (o_atT (e := eP) hx60)) xk rfl rfl o_p0))) (fun ht_ hm => by exact eqV (e := (zO zI)) hm (show ev _ _ _ _ = some (.val ((zO zI) none), _) from xk))) s0)) rfl (w__law_alike _ hx62)) rfl o_notB) rfl) (fun ht => ?_) (fun ht => ?_)
                · have h := ift ht h
                  (have e_ := Option.some.inj h; subst e_)
                  exact kret (yv xk) rfl
                · have h := iff_ ht h
                  refine knil (?_ : Rn _ _ _ _ _ _)
                  obtain ⟨x63, hx63, h⟩ := bs h
                  obtain ⟨x64, hx64, h⟩ := bs h
                  obtain ⟨x66, hx66, h⟩ := bs h
                  refine kif (xt (xorP hx66 (xt (x1v (xcall (ds := [zI x63, zI (((0 : Int) - x16) - x17)]) (ρ2 := [.dat ((zL zI) lscript), .own (zRow x2.2), .dat (eB z9), .dat (eI z9.length), .dat (eI x10.length), .own ((zL zI) x15), .dat (zI x16), .dat (zI x17), .own (eN x28), .own (eN z35), .dat (zS ("" : Str)), j36, .dat ((zT (zP eI eI)) x55), .un, .un, .un, .un, .un, .un, .un, .un, .un, .un]) rfl (s1 (xcall (ds := [eB z9]) (ρ2 := [.dat ((zL zI) lscript), .own (zRow x2.2), .dat (eB z9), .dat (eI z9.length), .dat (eI x10.length), .own ((zL zI) x15), .dat (zI x16), .dat (zI x17), .own (eN x28), .own (eN z35), .dat (zS ("" : Str)), j36, .dat ((zT (zP eI eI)) x55), .un, .un, .un, .un, .un, .un, .un, .un, .un, .un]) rfl (s1 (xv rfl rfl) s0) rfl (w_gap _ hx63)) (s1 (x2v (x2v xk (xv rfl rfl) rfl rfl o_subI) (xv rfl rfl) rfl rfl o_subI) s0)) rfl (w__law_alike _ hx64)) rfl o_notB) rfl) (fun _ hm => by obtain ⟨x65, hx65, hm⟩ := bs hm; exact xt (eqV (e := zB) hm (x2v (x2v (xcall (ds := [eB z9]) (ρ2 := [.dat ((zL zI) lscript), .own (zRow x2.2), .dat (eB z9), .dat (eI z9.length), .dat (eI x10.length), .own ((zL zI) x15), .dat (zI x16), .dat (zI x17), .own (eN x28), .own (eN z35), .dat (zS ("" : Str)), j36, .dat ((zT (zP eI eI)) x55), .un, .un, .un, .un, .un, .un, .un, .un, .un, .un]) rfl (s1 (xv rfl rfl) s0) rfl (w_gap _ hx65)) xk rfl rfl (pEq_enc EncOk.intI (by decide) x65 (0 : Int))) (x2v (xv rfl rfl) (xtup v0) rfl rfl (pNe_enc (EncOk.tT (EncOk.tP EncOk.natI EncOk.natI)) (by decide) x55 ([] : (List (Nat × Nat))))) rfl rfl (pNe_enc EncOk.boolI (by decide) (decide (x65 = (0 : Int))) (!decide (x55 = ([] : (List (Nat × Nat)))))))) rfl)) rfl) (fun ht => ?_) (fun ht => ?_)
                  · have h := ift ht h
                    (have e_ := Option.some.inj h; subst e_)
                    exact kret (yv xk) rfl
                  · have h := iff_ ht h
                    refine knil (?_ : Rn _ _ _ _ _ _)
                    obtain ⟨x67, hx67, h⟩ := bs h
                    refine kif (xt (x2v (xcall (ds := [eB z9]) (ρ2 := [.dat ((zL zI) lscript), .own (zRow x2.2), .dat (eB z9), .dat (eI z9.length), .dat (eI x10.length), .own ((zL zI) x15), .dat (zI x16), .dat (zI x17), .own (eN x28), .own (eN z35), .dat (zS ("" : Str)), j36, .dat ((zT (zP eI eI)) x55), .un, .un, .un, .un, .un, .un, .un, .un, .un, .un]) rfl (s1 (xv rfl rfl) s0) rfl (w_gap _ hx67)) xk rfl rfl o_ltI) rfl) (fun ht => ?_) (fun ht => ?_)
                    · have h := ift ht h
                      (have e_ := Option.some.inj h; subst e_)
                      exact kret (yv xk) rfl
                    · have h := iff_ ht h
                      refine knil (?_ : Rn _ _ _ _ _ _)
                      (have e_ := Option.some.inj h; subst e_)
                      exact knil ⟨.dat ((zT (zP eI eI)) x55), (Jd.dat _), rfl⟩
              · rw [if_pos rfl] at h
                refine kmayX (ds := [eB z9]) (ρ1 := [.dat ((zL zI) lscript), .own (zRow x2.2), .dat (eB z9), .dat (eI z9.length), .dat (eI x10.length), .own ((zL zI) x15), .dat (zI x16), .dat (zI x17), .own (eN x28), .own (eN z35), .dat (zS ("" : Str)), j36, .dat ((zT (zP eI eI)) x55), .un, .un, .un, .un, .un, .un, .un, .un, .un, .un]) (ρ2 := [.dat ((zL zI) lscript), .own (zRow x2.2), .dat (eB z9), .dat (eI z9.length), .dat (eI x10.length), .own ((zL zI) x15), .dat (zI x16), .dat (zI x17), .own (eN x28), .own (eN z35), .dat (zS ("" : Str)), j36, .dat ((zT (zP eI eI)) x55), .un, .un, .un, .un, .un, .un, .un, .un, .un, .un]) (s1 (xv rfl rfl) s0) rfl (wx_saddle _ hx68) ?_
                refine ⟨rfl, rfl, ?_⟩
                refine kset (ρ3 := [.dat ((zL zI) lscript), .own (zRow x2.2), .dat (eB z9), .dat (eI z9.length), .dat (eI x10.length), .own ((zL zI) x15), .dat (zI x16), .dat (zI x17), .own (eN x28), .own (eN z35), .dat (zS ("not" : Str)), j36, .dat ((zT (zP eI eI)) x55), .un, .un, .un, .un, .un, .un, .un, .un, .un, .un]) xk rfl rfl ?_
                (have e_ := Option.some.inj h; subst e_)
                exact knil ⟨_, rfl, ⟨.dat ((zT (zP eI eI)) x55), (Jd.dat _), rfl⟩⟩
            · rintro z70 ρ rfl ⟨j72, kdj72, rfl⟩
              refine kif (xt (x2v (x2v (xv rfl rfl) xk rfl rfl (pEq_enc EncOk.str (by decide) z70 ("" : Str))) (x2v (xv rfl rfl) (xlst v0) rfl rfl (pEq_enc (EncOk.tL EncOk.natI) (by decide) z35 ([] : (List Nat)))) rfl rfl (pNe_enc EncOk.boolI (by decide) (decide (z70 = ("" : Str))) (decide (z35 = ([] : (List Nat)))))) rfl) (fun ht => ?_) (fun ht => ?_)
              · have h := ift ht h
                (have e_ := Option.some.inj h; subst e_)
                exact kret (yv xk) ⟨_, rfl⟩
              · have h := iff_ ht h
                refine knil (?_ : Rn _ _ _ _ _ _)
                obtain ⟨x73, hx73, h⟩ := bs h
                obtain ⟨x74, hx74, h⟩ := bs h
                refine kpar (t1 (xcallR (ds := [zRow x2.2, eI z9.length]) (ρ2 := [.dat ((zL zI) lscript), .own (zRow x2.2), .dat (eB z9), .dat (eI z9.length), .dat (eI x10.length), .own ((zL zI) x15), .dat (zI x16), .dat (zI x17), .own (eN x28), .own (eN z35), .dat (zS z70), j36, j72, .un, .un, .un, .un, .un, .un, .un, .un, .un, .un]) (ρ3 := [.dat ((zL zI) lscript), .own (zRow x73.2), .dat (eB z9), .dat (eI z9.length), .dat (eI x10.length), .own ((zL zI) x15), .dat (zI x16), .dat (zI x17), .own (eN x28), .own (eN z35), .dat (zS z70), j36, j72, .un, .un, .un, .un, .un, .un, .un, .un, .un, .un]) rfl (s1 (xv rfl rfl) (s1 (xv rfl rfl) s0)) rfl (w__law_taken _ hx73) rfl) rfl (t1 (xcallR (ds := [zRow x73.2, eI (12 : Nat)]) (ρ2 := [.dat ((zL zI) lscript), .own (zRow x73.2), .dat (eB z9), .dat (eI z9.length), .dat (eI x10.length), .own ((zL zI) x15), .dat (zI x16), .dat (zI x17), .own (eN x28), .own (eN z35), .dat (zS z70), j36, j72, .un, .un, .un, .un, .un, .un, .un, .un, .un, .un]) (ρ3 := [.dat ((zL zI) lscript), .own (zRow x74.2), .dat (eB z9), .dat (eI z9.length), .dat (eI x10.length), .own ((zL zI) x15), .dat (zI x16), .dat (zI x17), .own (eN x28), .own (eN z35), .dat (zS z70), j36, j72, .un, .un, .un, .un, .un, .un, .un, .un, .un, .un]) rfl (s1 (xv rfl rfl) (s1 xk s0)) rfl (w__law_taken _ hx74) rfl) rfl t0)) (a1 (ρ2 := [.dat ((zL zI) lscript), .own (zRow x74.2), .dat (eB z9), .dat (eI z9.length), .dat (eI x10.length), .own ((zL zI) x15), .dat (zI x16), .dat (zI x17), .own (eN x28), .own (eN z35), .dat (zS z70), j36, j72, .un, .dat (eI x73.1), .dat (eI x74.1), .un, .un, .un, .un, .un, .un, .un]) (a1 (ρ2 := [.dat ((zL zI) lscript), .own (zRow x74.2), .dat (eB z9), .dat (eI z9.length), .dat (eI x10.length), .own ((zL zI) x15), .dat (zI x16), .dat (zI x17), .own (eN x28), .own (eN z35), .dat (zS z70), j36, j72, .un, .un, .dat (eI x74.1), .un, .un, .un, .un, .un, .un, .un]) a0 rfl) rfl) ?_
                refine kset (ρ3 := [.dat ((zL zI) lscript), .own (zRow x74.2), .dat (eB z9), .dat (eI z9.length), .dat (eI x10.length), .own ((zL zI) x15), .dat (zI x16), .dat (zI x17), .own (eN x28), .own (eN z35), .dat (zS z70), j36, j72, .un, .dat (eI x73.1), .dat (eI x74.1), .own (eN [x73.1]), .un, .un, .un, .un, .un, .un]) (show ev _ _ _ _ = some (.new (eN [x73.1]), _) from xlst (v1 (yd (xv rfl rfl) rfl) v0)) rfl rfl ?_
                obtain ⟨x75, hx75, h⟩ := bs h
                obtain ⟨z82, hz82, h⟩ := bs h
                refine kfor (enc := eI) (fun (s80 : (List Nat)) ρ => ∃ (j83 : Slot), Jd j83 ∧ ρ = [.dat ((zL zI) lscript), .own (zRow x74.2), .dat (eB z9), .dat (eI z9.length), .dat (eI x10.length), .own ((zL zI) x15), .dat (zI x16), .dat (zI x17), .own (eN x28), .own (eN z35), .dat (zS z70), j36, j72, .un, .dat (eI x73.1), .dat (eI x74.1), .own (eN s80), j83, .un, .un, .un, .un, .un]) hz82 (s1 xk s0) rfl (i_rg1 hx75) ⟨.un, Jd.un, rfl⟩ ?_ ?_
                · rintro y81 hy81 s80 ws80 ρ h ⟨j83, kdj83, rfl⟩
                  refine ⟨[.dat ((zL zI) lscript), .own (zRow x74.2), .dat (eB z9), .dat (eI z9.length), .dat (eI x10.length), .own ((zL zI) x15), .dat (zI x16), .dat (zI x17), .own (eN x28), .own (eN z35), .dat (zS z70), j36, j72, .un, .dat (eI x73.1), .dat (eI x74.1), .own (eN s80), .dat (eI y81), .un, .un, .un, .un, .un], (gn (ρ1 := [.dat ((zL zI) lscript), .own (zRow x74.2), .dat (eB z9), .dat (eI z9.length), .dat (eI x10.length), .own ((zL zI) x15), .dat (zI x16), .dat (zI x17), .own (eN x28), .own (eN z35), .dat (zS z70), j36, j72, .un, .dat (eI x73.1), .dat (eI x74.1), .own (eN s80), .dat (eI y81), .un, .un, .un, .un, .un]) (kdj83.jk.asg rfl)), ?_⟩
                  obtain ⟨x84, hx84, h⟩ := bs h
                  obtain ⟨x85, hx85, h⟩ := bs h
                  obtain ⟨x86, hx86, h⟩ := bs h
                  obtain ⟨x87, hx87, h⟩ := bs h
                  refine kapp (e := eI) hx87 rfl (yv (x2v (xcall (ds := [eB z9, eT ([] : (List Nat)), eI x84]) (ρ2 := [.dat ((zL zI) lscript), .own (zRow x74.2), .dat (eB z9), .dat (eI z9.length), .dat (eI x10.length), .own ((zL zI) x15), .dat (zI x16), .dat (zI x17), .own (eN x28), .own (eN z35), .dat (zS z70), j36, j72, .un, .dat (eI x73.1), .dat (eI x74.1), .own (eN s80), .dat (eI y81), .un, .un, .un, .un, .un]) rfl (s1 (xv rfl rfl) (s1 (xtup v0) (s1 (x2v (xv rfl rfl) (x1v xk rfl o_negI) rfl rfl (o_atL (e := eI) hx84)) s0))) rfl (w__law_answers _ hx85)) xk rfl rfl (o_atL (e := eI) hx86))) rfl (ρ2 := [.dat ((zL zI) lscript), .own (zRow x74.2), .dat (eB z9), .dat (eI z9.length), .dat (eI x10.length), .own ((zL zI) x15), .dat (zI x16), .dat (zI x17), .own (eN x28), .own (eN z35), .dat (zS z70), j36, j72, .un, .dat (eI x73.1), .dat (eI x74.1), .own (eN x87), .dat (eI y81), .un, .un, .un, .un, .un]) rfl ?_
                  (have e_ := Option.some.inj h; subst e_)
                  exact knil ⟨.dat (eI y81), (Jd.dat _), rfl⟩
                · rintro ρ ⟨j83, kdj83, rfl⟩
                  refine ⟨[.dat ((zL zI) lscript), .own (zRow x74.2), .dat (eB z9), .dat (eI z9.length), .dat (eI x10.length), .own ((zL zI) x15), .dat (zI x16), .dat (zI x17), .own (eN x28), .own (eN z35), .dat (zS z70), j36, j72, .un, .dat (eI x73.1), .dat (eI x74.1), .own (eN z82), j83, .un, .un, .un, .un, .un], rfl, ?_⟩
                  obtain ⟨x88, hx88, h⟩ := bs h
                  obtain ⟨x89, hx89, h⟩ := bs h
                  refine kif (xt (x1v (xcall (ds := [eT x88, eT (cutD z82 none (some (((x74.1 + (1 : Nat)) : Nat) : Int)))]) (ρ2 := [.dat ((zL zI) lscript), .own (zRow x74.2), .dat (eB z9), .dat (eI z9.length), .dat (eI x10.length), .own ((zL zI) x15), .dat (zI x16), .dat (zI x17), .own (eN x28), .own (eN z35), .dat (zS z70), j36, j72, .un, .dat (eI x73.1), .dat (eI x74.1), .own (eN z82), j83, .un, .un, .un, .un, .un]) rfl (s1 (xcall (ds := [eB z9, eI x73.1, eI x74.1]) (ρ2 := [.dat ((zL zI) lscript), .own (zRow x74.2), .dat (eB z9), .dat (eI z9.length), .dat (eI x10.length), .own ((zL zI) x15), .dat (zI x16), .dat (zI x17), .own (eN x28), .own (eN z35), .dat (zS z70), j36, j72, .un, .dat (eI x73.1), .dat (eI x74.1), .own (eN z82), j83, .un, .un, .un, .un, .un]) rfl (s1 (xv rfl rfl) (s1 (xv rfl rfl) (s1 (xv rfl rfl) s0))) rfl (w_answer_walk _ hx88)) (s1 (x1v (x2n (xv rfl rfl) (x2v (xv rfl rfl) xk rfl rfl o_addN) rfl rfl (o_slTL (e := eI))) rfl (o_tupL (e := eI) (l := (cutD z82 none (some (((x74.1 + (1 : Nat)) : Nat) : Int)))))) s0)) rfl (w__law_alike _ hx89)) rfl o_notB) rfl) (fun ht => ?_) (fun ht => ?_)
                  · have h := ift ht h
                    (have e_ := Option.some.inj h; subst e_)
                    exact kret (yv xk) ⟨_, rfl⟩
                  · have h := iff_ ht h
                    refine knil (?_ : Rn _ _ _ _ _ _)
                    obtain ⟨x90, hx90, h⟩ := bs h
                    refine kset (ρ3 := [.dat ((zL zI) lscript), .own (zRow x74.2), .dat (eB z9), .dat (eI z9.length), .dat (eI x10.length), .own ((zL zI) x15), .dat (zI x16), .dat (zI x17), .own (eN x28), .own (eN z35), .dat (zS z70), j36, j72, .un, .dat (eI x73.1), .dat (eI x74.1), .own (eN z82), j83, .own (eN [x90]), .un, .un, .un, .un]) (show ev _ _ _ _ = some (.new (eN [x90]), _) from xlst (v1 (yv (x2v (xv rfl rfl) xk rfl rfl (o_atL (e := eI) hx90))) v0)) rfl rfl ?_
                    obtain ⟨z96, hz96, h⟩ := bs h
                    refine kfor (enc := eI) (fun (s94 : (List Nat)) ρ => ∃ (j97 : Slot), Jd j97 ∧ ρ = [.dat ((zL zI) lscript), .own (zRow x74.2), .dat (eB z9), .dat (eI z9.length), .dat (eI x10.length), .own ((zL zI) x15), .dat (zI x16), .dat (zI x17), .own (eN x28), .own (eN z35), .dat (zS z70), j36, j72, .un, .dat (eI x73.1), .dat (eI x74.1), .own (eN z82), j83, .own (eN s94), j97, .un, .un, .un]) hz96 (s1 (x2n (xv rfl rfl) xk rfl rfl (o_slFL (e := eI))) s0) rfl (i_L (e := eI) (l := (cutD z82 (some (41 : Int)) none))) ⟨.un, Jd.un, rfl⟩ ?_ ?_
                    · rintro y95 hy95 s94 ws94 ρ h ⟨j97, kdj97, rfl⟩
                      refine ⟨[.dat ((zL zI) lscript), .own (zRow x74.2), .dat (eB z9), .dat (eI z9.length), .dat (eI x10.length), .own ((zL zI) x15), .dat (zI x16), .dat (zI x17), .own (eN x28), .own (eN z35), .dat (zS z70), j36, j72, .un, .dat (eI x73.1), .dat (eI x74.1), .own (eN z82), j83, .own (eN s94), .dat (eI y95), .un, .un, .un], (gn (ρ1 := [.dat ((zL zI) lscript), .own (zRow x74.2), .dat (eB z9), .dat (eI z9.length), .dat (eI x10.length), .own ((zL zI) x15), .dat (zI x16), .dat (zI x17), .own (eN x28), .own (eN z35), .dat (zS z70), j36, j72, .un, .dat (eI x73.1), .dat (eI x74.1), .own (eN z82), j83, .own (eN s94), .dat (eI y95), .un, .un, .un]) (kdj97.jk.asg rfl)), ?_⟩
                      obtain ⟨z100, hz100, h⟩ := bs h
                      refine kifJ (fun ρ => ρ = [.dat ((zL zI) lscript), .own (zRow x74.2), .dat (eB z9), .dat (eI z9.length), .dat (eI x10.length), .own ((zL zI) x15), .dat (zI x16), .dat (zI x17), .own (eN x28), .own (eN z35), .dat (zS z70), j36, j72, .un, .dat (eI x73.1), .dat (eI x74.1), .own (eN z82), j83, .own (eN z100), .dat (eI y95), .un, .un, .un]) (xt (x2v (xv rfl rfl) (xv rfl rfl) rfl rfl (pNotIn_lst EncOk.natI (by decide) y95 s94)) rfl) (fun ht => ?_) (fun ht => ?_) ?_
                      · have h := ift ht hz100
                        obtain ⟨x99, hx99, h⟩ := bs h
                        refine kapp (e := eI) hx99 rfl (yd (xv rfl rfl) rfl) rfl (ρ2 := [.dat ((zL zI) lscript), .own (zRow x74.2), .dat (eB z9), .dat (eI z9.length), .dat (eI x10.length), .own ((zL zI) x15), .dat (zI x16), .dat (zI x17), .own (eN x28), .own (eN z35), .dat (zS z70), j36, j72, .un, .dat (eI x73.1), .dat (eI x74.1), .own (eN z82), j83, .own (eN x99), .dat (eI y95), .un, .un, .un]) rfl ?_
                        (have e_ := Option.some.inj h; subst e_)
                        exact kj rfl
                      · have h := iff_ ht hz100
                        (have e_ := Option.some.inj h; subst e_)
                        exact kj rfl
                      · rintro ρ rfl
                        (have e_ := Option.some.inj h; subst e_)
                        exact knil ⟨.dat (eI y95), (Jd.dat _), rfl⟩
                    · rintro ρ ⟨j97, kdj97, rfl⟩
                      refine ⟨[.dat ((zL zI) lscript), .own (zRow x74.2), .dat (eB z9), .dat (eI z9.length), .dat (eI x10.length), .own ((zL zI) x15), .dat (zI x16), .dat (zI x17), .own (eN x28), .own (eN z35), .dat (zS z70), j36, j72, .un, .dat (eI x73.1), .dat (eI x74.1), .own (eN z82), j83, .own (eN z96), j97, .un, .un, .un], rfl, ?_⟩
                      obtain ⟨x101, hx101, h⟩ := bs h
                      obtain ⟨x102, hx102, h⟩ := bs h
                      refine kset (ρ3 := [.dat ((zL zI) lscript), .own (zRow x74.2), .dat (eB z9), .dat (eI z9.length), .dat (eI x10.length), .own ((zL zI) x15), .dat (zI x16), .dat (zI x17), .own (eN x28), .own (eN z35), .dat (zS z70), j36, j72, .un, .dat (eI x73.1), .dat (eI x74.1), .own (eN z82), j83, .own (eN z96), j97, .dat (eI x102), .un, .un]) (xmeth (xv rfl rfl) rfl rfl (s1 (x1v (xv rfl rfl) rfl (o_minLN hx101).1) s0) rfl rfl (o_index EncOk.natI (by decide) hx102)) rfl rfl ?_
                      obtain ⟨x103, hx103, h⟩ := bs h
                      obtain ⟨x104, hx104, h⟩ := bs h
                      obtain ⟨x105, hx105, h⟩ := bs h
                      (have e_ := Option.some.inj h; subst e_)
                      exact kret (yv (xcall (ds := [eT x103, eT x104]) (ρ2 := [.dat ((zL zI) lscript), .own (zRow x74.2), .dat (eB z9), .dat (eI z9.length), .dat (eI x10.length), .own ((zL zI) x15), .dat (zI x16), .dat (zI x17), .own (eN x28), .own (eN z35), .dat (zS z70), j36, j72, .un, .dat (eI x73.1), .dat (eI x74.1), .own (eN z82), j83, .own (eN z96), j97, .dat (eI x102), .un, .un]) rfl (s1 (xcall (ds := [eB z9, eI x73.1]) (ρ2 := [.dat ((zL zI) lscript), .own (zRow x74.2), .dat (eB z9), .dat (eI z9.length), .dat (eI x10.length), .own ((zL zI) x15), .dat (zI x16), .dat (zI x17), .own (eN x28), .own (eN z35), .dat (zS z70), j36, j72, .un, .dat (eI x73.1), .dat (eI x74.1), .own (eN z82), j83, .own (eN z96), j97, .dat (eI x102), .un, .un]) rfl (s1 (xv rfl rfl) (s1 (xv rfl rfl) s0)) rfl (w_answer_ring _ hx103)) (s1 (x1v (x2n (x2n (xv rfl rfl) (xv rfl rfl) rfl rfl (o_slFL (e := eI))) (x2n (xv rfl rfl) (xv rfl rfl) rfl rfl (o_slTL (e := eI))) rfl rfl (o_catL (e := eI) hx104)) rfl (o_tupL (e := eI) (l := x104))) s0)) rfl (w__law_alike _ hx105))) ⟨_, rfl⟩
            · rintro r71 ρ rfl
              (have e_ := Option.some.inj h; subst e_)
              exact ⟨_, rfl⟩
end L2.Z.K08
namespace L2.Z.K08
open PySem L2.Z
def LV : Nat := 9
theorem law_true (ns : List Int) (hn : ns.length ≤ 63) : run LV 29 [.list (ns.map .int)] = some (.bool true, .none) := w_law 0 (law_q ns)
end L2.Z.K08
namespace L2.Z.K08
open PySem PySem.Spec PyProof.Rows L2 L2.Z
def topS (i : Nat) : Stmt := PySem.Challenge.pw_struckboards_k08_whole_safe_numbers.main.body.getD i (.Pass ⟨0, 0, 0, 0⟩)
abbrev s0 : Stmt := topS 8
abbrev N0 : List Str := ["value"]
abbrev P0 : List Str := ["value"]
theorem sc0 : FnScope N0 P0 (defScope s0) := ⟨rfl, rfl, rfl, by decide +kernel, rfl, by decide +kernel, by decide +kernel⟩
abbrev s1 : Stmt := topS 9
abbrev N1 : List Str := ["value", "least", "most"]
abbrev P1 : List Str := ["value", "least", "most"]
theorem sc1 : FnScope N1 P1 (defScope s1) := ⟨rfl, rfl, rfl, by decide +kernel, rfl, by decide +kernel, by decide +kernel⟩
abbrev s2 : Stmt := topS 10
abbrev N2 : List Str := ["value", "least", "most"]
abbrev P2 : List Str := ["value", "least", "most"]
theorem sc2 : FnScope N2 P2 (defScope s2) := ⟨rfl, rfl, rfl, by decide +kernel, rfl, by decide +kernel, by decide +kernel⟩
abbrev s3 : Stmt := topS 11
abbrev N3 : List Str := ["value", "one"]
abbrev P3 : List Str := ["value"]
theorem sc3 : FnScope N3 P3 (defScope s3) := ⟨rfl, rfl, rfl, by decide +kernel, rfl, by decide +kernel, by decide +kernel⟩
abbrev s4 : Stmt := topS 12
abbrev N4 : List Str := ["value", "index", "row", "place"]
abbrev P4 : List Str := ["value"]
theorem sc4 : FnScope N4 P4 (defScope s4) := ⟨rfl, rfl, rfl, by decide +kernel, rfl, by decide +kernel, by decide +kernel⟩
abbrev s5 : Stmt := topS 13
abbrev N5 : List Str := ["board"]
abbrev P5 : List Str := ["board"]
theorem sc5 : FnScope N5 P5 (defScope s5) := ⟨rfl, rfl, rfl, by decide +kernel, rfl, by decide +kernel, by decide +kernel⟩
abbrev s6 : Stmt := topS 14
abbrev N6 : List Str := ["board"]
abbrev P6 : List Str := ["board"]
theorem sc6 : FnScope N6 P6 (defScope s6) := ⟨rfl, rfl, rfl, by decide +kernel, rfl, by decide +kernel, by decide +kernel⟩
abbrev s7 : Stmt := topS 15
abbrev N7 : List Str := ["board", "lot", "rows", "one"]
abbrev P7 : List Str := ["board", "lot"]
theorem sc7 : FnScope N7 P7 (defScope s7) := ⟨rfl, rfl, rfl, by decide +kernel, rfl, by decide +kernel, by decide +kernel⟩
abbrev s8 : Stmt := topS 16
abbrev N8 : List Str := ["board", "lot", "line", "rows", "columns", "row", "column"]
abbrev P8 : List Str := ["board", "lot", "line"]
theorem sc8 : FnScope N8 P8 (defScope s8) := ⟨rfl, rfl, rfl, by decide +kernel, rfl, by decide +kernel, by decide +kernel⟩
abbrev s9 : Stmt := topS 18
abbrev N9 : List Str := ["board", "lot", "line", "rows", "columns", "some", "best", "one", "column", "row"]
abbrev P9 : List Str := ["board", "lot", "line"]
theorem sc9 : FnScope N9 P9 (defScope s9) := ⟨rfl, rfl, rfl, by decide +kernel, rfl, by decide +kernel, by decide +kernel⟩
abbrev s10 : Stmt := topS 19
abbrev N10 : List Str := ["board", "lot", "rows", "columns", "found", "row", "column"]
abbrev P10 : List Str := ["board", "lot"]
theorem sc10 : FnScope N10 P10 (defScope s10) := ⟨rfl, rfl, rfl, by decide +kernel, rfl, by decide +kernel, by decide +kernel⟩
abbrev s11 : Stmt := topS 20
abbrev N11 : List Str := ["board", "rows", "line"]
abbrev P11 : List Str := ["board"]
theorem sc11 : FnScope N11 P11 (defScope s11) := ⟨rfl, rfl, rfl, by decide +kernel, rfl, by decide +kernel, by decide +kernel⟩
abbrev s12 : Stmt := topS 21
abbrev N12 : List Str := ["board", "told", "found", "line"]
abbrev P12 : List Str := ["board"]
theorem sc12 : FnScope N12 P12 (defScope s12) := ⟨rfl, rfl, rfl, by decide +kernel, rfl, by decide +kernel, by decide +kernel⟩
abbrev s13 : Stmt := topS 22
abbrev N13 : List Str := ["board"]
abbrev P13 : List Str := ["board"]
theorem sc13 : FnScope N13 P13 (defScope s13) := ⟨rfl, rfl, rfl, by decide +kernel, rfl, by decide +kernel, by decide +kernel⟩
abbrev s14 : Stmt := topS 23
abbrev N14 : List Str := ["board", "row", "place"]
abbrev P14 : List Str := ["board"]
theorem sc14 : FnScope N14 P14 (defScope s14) := ⟨rfl, rfl, rfl, by decide +kernel, rfl, by decide +kernel, by decide +kernel⟩
abbrev s15 : Stmt := topS 24
abbrev N15 : List Str := ["board"]
abbrev P15 : List Str := ["board"]
theorem sc15 : FnScope N15 P15 (defScope s15) := ⟨rfl, rfl, rfl, by decide +kernel, rfl, by decide +kernel, by decide +kernel⟩
abbrev s16 : Stmt := topS 25
abbrev N16 : List Str := ["board", "some"]
abbrev P16 : List Str := ["board"]
theorem sc16 : FnScope N16 P16 (defScope s16) := ⟨rfl, rfl, rfl, by decide +kernel, rfl, by decide +kernel, by decide +kernel⟩
abbrev s17 : Stmt := topS 26
abbrev N17 : List Str := ["board", "rows", "columns"]
abbrev P17 : List Str := ["board"]
theorem sc17 : FnScope N17 P17 (defScope s17) := ⟨rfl, rfl, rfl, by decide +kernel, rfl, by decide +kernel, by decide +kernel⟩
abbrev s18 : Stmt := topS 27
abbrev N18 : List Str := ["board", "row", "steps", "found", "turn"]
abbrev P18 : List Str := ["board", "row", "steps"]
theorem sc18 : FnScope N18 P18 (defScope s18) := ⟨rfl, rfl, rfl, by decide +kernel, rfl, by decide +kernel, by decide +kernel⟩
abbrev s19 : Stmt := topS 28
abbrev N19 : List Str := ["board", "row", "told", "last", "ring", "now", "at"]
abbrev P19 : List Str := ["board", "row"]
theorem sc19 : FnScope N19 P19 (defScope s19) := ⟨rfl, rfl, rfl, by decide +kernel, rfl, by decide +kernel, by decide +kernel⟩
abbrev s20 : Stmt := topS 30
abbrev N20 : List Str := ["_law_row", "_law_many", "_law_found", "_law_cell"]
abbrev P20 : List Str := ["_law_row", "_law_many"]
theorem sc20 : FnScope N20 P20 (defScope s20) := ⟨rfl, rfl, rfl, by decide +kernel, rfl, by decide +kernel, by decide +kernel⟩
abbrev s21 : Stmt := topS 31
abbrev N21 : List Str := ["_law_found", "_law_due", "_law_k"]
abbrev P21 : List Str := ["_law_found", "_law_due"]
theorem sc21 : FnScope N21 P21 (defScope s21) := ⟨rfl, rfl, rfl, by decide +kernel, rfl, by decide +kernel, by decide +kernel⟩
abbrev s22 : Stmt := topS 32
abbrev N22 : List Str := ["_law_found", "_law_due"]
abbrev P22 : List Str := ["_law_found", "_law_due"]
theorem sc22 : FnScope N22 P22 (defScope s22) := ⟨rfl, rfl, rfl, by decide +kernel, rfl, by decide +kernel, by decide +kernel⟩
abbrev s23 : Stmt := topS 33
abbrev N23 : List Str := ["_law_row", "_law_rows_here", "_law_columns_here", "_law_many", "_law_high", "_law_wide", "_law_found", "_law_first", "_law_second", "_law_one", "_law_told", "_law_at"]
abbrev P23 : List Str := ["_law_row", "_law_rows_here", "_law_columns_here", "_law_many"]
theorem sc23 : FnScope N23 P23 (defScope s23) := ⟨rfl, rfl, rfl, by decide +kernel, rfl, by decide +kernel, by decide +kernel⟩
abbrev s24 : Stmt := topS 34
abbrev N24 : List Str := ["_law_board_here", "_law_lot", "_law_one"]
abbrev P24 : List Str := ["_law_board_here", "_law_lot"]
theorem sc24 : FnScope N24 P24 (defScope s24) := ⟨rfl, rfl, rfl, by decide +kernel, rfl, by decide +kernel, by decide +kernel⟩
abbrev s25 : Stmt := topS 35
abbrev N25 : List Str := ["_law_board_here", "_law_lot", "_law_one"]
abbrev P25 : List Str := ["_law_board_here", "_law_lot"]
theorem sc25 : FnScope N25 P25 (defScope s25) := ⟨rfl, rfl, rfl, by decide +kernel, rfl, by decide +kernel, by decide +kernel⟩
abbrev s26 : Stmt := topS 36
abbrev N26 : List Str := ["_law_board_here", "_law_lot", "_law_line", "_law_one"]
abbrev P26 : List Str := ["_law_board_here", "_law_lot", "_law_line"]
theorem sc26 : FnScope N26 P26 (defScope s26) := ⟨rfl, rfl, rfl, by decide +kernel, rfl, by decide +kernel, by decide +kernel⟩
abbrev s27 : Stmt := topS 37
abbrev N27 : List Str := ["_law_board_here", "_law_lot", "_law_line", "_law_high", "_law_some", "_law_best", "_law_number", "_law_one"]
abbrev P27 : List Str := ["_law_board_here", "_law_lot", "_law_line"]
theorem sc27 : FnScope N27 P27 (defScope s27) := ⟨rfl, rfl, rfl, by decide +kernel, rfl, by decide +kernel, by decide +kernel⟩
abbrev s28 : Stmt := topS 38
abbrev N28 : List Str := ["_law_board_here", "_law_lot", "_law_found", "_law_one", "_law_other"]
abbrev P28 : List Str := ["_law_board_here", "_law_lot"]
theorem sc28 : FnScope N28 P28 (defScope s28) := ⟨rfl, rfl, rfl, by decide +kernel, rfl, by decide +kernel, by decide +kernel⟩
abbrev s29 : Stmt := topS 39
abbrev N29 : List Str := ["_law_script", "_law_row", "_law_board_here", "_law_high", "_law_wide", "_law_lows", "_law_first", "_law_second", "_law_due", "_law_against", "_law_word", "_law_told", "_law_some", "e", "_law_start", "_law_steps", "_law_way", "_law_turn", "_law_ring", "_law_line", "_law_at", "_law_a", "_law_b"]
abbrev P29 : List Str := ["_law_script"]
theorem sc29 : FnScope N29 P29 (defScope s29) := ⟨rfl, rfl, rfl, by decide +kernel, rfl, by decide +kernel, by decide +kernel⟩
structure Tops (K : PySem.W.Frag) (mg : Str → Option Value) where
  a0 : Addr
  d0 : FuncData
  F0 : Fun K "is_int" "is_int" s0 a0 d0
  B0 : Binds K d0 P0 []
  G0 : mg "is_int" = some (.ref a0)
  a1 : Addr
  d1 : FuncData
  F1 : Fun K "is_from" "is_from" s1 a1 d1
  B1 : Binds K d1 P1 []
  G1 : mg "is_from" = some (.ref a1)
  a2 : Addr
  d2 : FuncData
  F2 : Fun K "need_from" "need_from" s2 a2 d2
  B2 : Binds K d2 P2 []
  G2 : mg "need_from" = some (.ref a2)
  a3 : Addr
  d3 : FuncData
  F3 : Fun K "is_place" "is_place" s3 a3 d3
  B3 : Binds K d3 P3 []
  G3 : mg "is_place" = some (.ref a3)
  a4 : Addr
  d4 : FuncData
  F4 : Fun K "need_board" "need_board" s4 a4 d4
  B4 : Binds K d4 P4 []
  G4 : mg "need_board" = some (.ref a4)
  a5 : Addr
  d5 : FuncData
  F5 : Fun K "sides" "sides" s5 a5 d5
  B5 : Binds K d5 P5 []
  G5 : mg "sides" = some (.ref a5)
  a6 : Addr
  d6 : FuncData
  F6 : Fun K "lines_of" "lines_of" s6 a6 d6
  B6 : Binds K d6 P6 []
  G6 : mg "lines_of" = some (.ref a6)
  a7 : Addr
  d7 : FuncData
  F7 : Fun K "left_of" "left_of" s7 a7 d7
  B7 : Binds K d7 P7 []
  G7 : mg "left_of" = some (.ref a7)
  a8 : Addr
  d8 : FuncData
  F8 : Fun K "numbers" "numbers" s8 a8 d8
  B8 : Binds K d8 P8 []
  G8 : mg "numbers" = some (.ref a8)
  a9 : Addr
  d9 : FuncData
  F9 : Fun K "answers_of" "answers_of" s9 a9 d9
  B9 : Binds K d9 P9 []
  G9 : mg "answers_of" = some (.ref a9)
  a10 : Addr
  d10 : FuncData
  F10 : Fun K "bests_of" "bests_of" s10 a10 d10
  B10 : Binds K d10 P10 []
  G10 : mg "bests_of" = some (.ref a10)
  a11 : Addr
  d11 : FuncData
  F11 : Fun K "safe_numbers" "safe_numbers" s11 a11 d11
  B11 : Binds K d11 P11 []
  G11 : mg "safe_numbers" = some (.ref a11)
  a12 : Addr
  d12 : FuncData
  F12 : Fun K "safe_lines" "safe_lines" s12 a12 d12
  B12 : Binds K d12 P12 []
  G12 : mg "safe_lines" = some (.ref a12)
  a13 : Addr
  d13 : FuncData
  F13 : Fun K "is_against" "is_against" s13 a13 d13
  B13 : Binds K d13 P13 []
  G13 : mg "is_against" = some (.ref a13)
  a14 : Addr
  d14 : FuncData
  F14 : Fun K "adds_up" "adds_up" s14 a14 d14
  B14 : Binds K d14 P14 []
  G14 : mg "adds_up" = some (.ref a14)
  a15 : Addr
  d15 : FuncData
  F15 : Fun K "need_against" "need_against" s15 a15 d15
  B15 : Binds K d15 P15 []
  G15 : mg "need_against" = some (.ref a15)
  a16 : Addr
  d16 : FuncData
  F16 : Fun K "saddle" "saddle" s16 a16 d16
  B16 : Binds K d16 P16 []
  G16 : mg "saddle" = some (.ref a16)
  a17 : Addr
  d17 : FuncData
  F17 : Fun K "gap" "gap" s17 a17 d17
  B17 : Binds K d17 P17 []
  G17 : mg "gap" = some (.ref a17)
  a18 : Addr
  d18 : FuncData
  F18 : Fun K "answer_walk" "answer_walk" s18 a18 d18
  B18 : Binds K d18 P18 []
  G18 : mg "answer_walk" = some (.ref a18)
  a19 : Addr
  d19 : FuncData
  F19 : Fun K "answer_ring" "answer_ring" s19 a19 d19
  B19 : Binds K d19 P19 []
  G19 : mg "answer_ring" = some (.ref a19)
  a20 : Addr
  d20 : FuncData
  F20 : Fun K "_law_taken" "_law_taken" s20 a20 d20
  B20 : Binds K d20 P20 []
  G20 : mg "_law_taken" = some (.ref a20)
  a21 : Addr
  d21 : FuncData
  F21 : Fun K "_law_alike" "_law_alike" s21 a21 d21
  B21 : Binds K d21 P21 []
  G21 : mg "_law_alike" = some (.ref a21)
  a22 : Addr
  d22 : FuncData
  F22 : Fun K "_law_is" "_law_is" s22 a22 d22
  B22 : Binds K d22 P22 []
  G22 : mg "_law_is" = some (.ref a22)
  a23 : Addr
  d23 : FuncData
  F23 : Fun K "_law_board" "_law_board" s23 a23 d23
  B23 : Binds K d23 P23 []
  G23 : mg "_law_board" = some (.ref a23)
  a24 : Addr
  d24 : FuncData
  F24 : Fun K "_law_rows" "_law_rows" s24 a24 d24
  B24 : Binds K d24 P24 []
  G24 : mg "_law_rows" = some (.ref a24)
  a25 : Addr
  d25 : FuncData
  F25 : Fun K "_law_columns" "_law_columns" s25 a25 d25
  B25 : Binds K d25 P25 []
  G25 : mg "_law_columns" = some (.ref a25)
  a26 : Addr
  d26 : FuncData
  F26 : Fun K "_law_numbers" "_law_numbers" s26 a26 d26
  B26 : Binds K d26 P26 []
  G26 : mg "_law_numbers" = some (.ref a26)
  a27 : Addr
  d27 : FuncData
  F27 : Fun K "_law_answers" "_law_answers" s27 a27 d27
  B27 : Binds K d27 P27 []
  G27 : mg "_law_answers" = some (.ref a27)
  a28 : Addr
  d28 : FuncData
  F28 : Fun K "_law_bests" "_law_bests" s28 a28 d28
  B28 : Binds K d28 P28 []
  G28 : mg "_law_bests" = some (.ref a28)
  a29 : Addr
  d29 : FuncData
  F29 : Fun K "law" "law" s29 a29 d29
  B29 : Binds K d29 P29 []
  G29 : mg "law" = some (.ref a29)
  z_all : mg "all" = none
  z_bool : mg "bool" = none
  z_dict : mg "dict" = none
  z_enumerate : mg "enumerate" = none
  z_int : mg "int" = none
  z_isinstance : mg "isinstance" = none
  z_len : mg "len" = none
  z_list : mg "list" = none
  z_max : mg "max" = none
  z_min : mg "min" = none
  z_range : mg "range" = none
  z_sorted : mg "sorted" = none
  z_str : mg "str" = none
  z_sum : mg "sum" = none
  z_tuple : mg "tuple" = none
  t_MOST_SIDE : Tok
  c_MOST_SIDE : mg "MOST_SIDE" = some (.int 6 t_MOST_SIDE)
  t_MOST_VALUE : Tok
  c_MOST_VALUE : mg "MOST_VALUE" = some (.int 1000 t_MOST_VALUE)
  C_NotAgainst : Addr
  g_NotAgainst : mg "NotAgainst" = some (.ref C_NotAgainst)
  p_NotAgainst : PySem.W.keepIn K (.ref C_NotAgainst) = true
  x_NotAgainst : PySem.W.excIn K C_NotAgainst [.type "ValueError", .type "Exception", .type "BaseException", .type "object"] "ValueError.__new__" = true
  b_NotAgainst : PySem.W.subIn K (.ref C_NotAgainst) (.type "BaseException") = some true
  t_NotAgainst : PySem.W.typeIn K (.ref C_NotAgainst) = some (.type "type")
  e_NotAgainst : PySem.W.exmOne K (.ref C_NotAgainst) (.ref C_NotAgainst) = some true
section
variable {P : Program} {w : World} {K : PySem.W.Frag} {mg : Str → Option Value} {base : Heap}
structure Lv (P : Program) (w : World) (K : PySem.W.Frag) (mg : Str → Option Value) (base : Heap) (T : Tops K mg) (n : Nat) : Prop where
  k0 : FnOk P w K mg base CX0 n T.a0 T.d0 P0 (spF K (bf 0) P0.length (run n 0))
  l0 : ∀ ds r, run n 0 ds = some r → ds.length = P0.length
  k1 : FnOk P w K mg base CX0 n T.a1 T.d1 P1 (spF K (bf 1) P1.length (run n 1))
  l1 : ∀ ds r, run n 1 ds = some r → ds.length = P1.length
  k2 : FnOk P w K mg base CX0 n T.a2 T.d2 P2 (spF K (bf 2) P2.length (run n 2))
  l2 : ∀ ds r, run n 2 ds = some r → ds.length = P2.length
  k3 : FnOk P w K mg base CX0 n T.a3 T.d3 P3 (spF K (bf 3) P3.length (run n 3))
  l3 : ∀ ds r, run n 3 ds = some r → ds.length = P3.length
  k4 : FnOk P w K mg base CX0 n T.a4 T.d4 P4 (spF K (bf 4) P4.length (run n 4))
  l4 : ∀ ds r, run n 4 ds = some r → ds.length = P4.length
  k5 : FnOk P w K mg base CX0 n T.a5 T.d5 P5 (spF K (bf 5) P5.length (run n 5))
  l5 : ∀ ds r, run n 5 ds = some r → ds.length = P5.length
  k6 : FnOk P w K mg base CX0 n T.a6 T.d6 P6 (spF K (bf 6) P6.length (run n 6))
  l6 : ∀ ds r, run n 6 ds = some r → ds.length = P6.length
  k7 : FnOk P w K mg base CX0 n T.a7 T.d7 P7 (spF K (bf 7) P7.length (run n 7))
  l7 : ∀ ds r, run n 7 ds = some r → ds.length = P7.length
  k8 : FnOk P w K mg base CX0 n T.a8 T.d8 P8 (spF K (bf 8) P8.length (run n 8))
  l8 : ∀ ds r, run n 8 ds = some r → ds.length = P8.length
  k9 : FnOk P w K mg base CX0 n T.a9 T.d9 P9 (spF K (bf 9) P9.length (run n 9))
  l9 : ∀ ds r, run n 9 ds = some r → ds.length = P9.length
  k10 : FnOk P w K mg base CX0 n T.a10 T.d10 P10 (spF K (bf 10) P10.length (run n 10))
  l10 : ∀ ds r, run n 10 ds = some r → ds.length = P10.length
  k11 : FnOk P w K mg base CX0 n T.a11 T.d11 P11 (spF K (bf 11) P11.length (run n 11))
  l11 : ∀ ds r, run n 11 ds = some r → ds.length = P11.length
  k12 : FnOk P w K mg base CX0 n T.a12 T.d12 P12 (spF K (bf 12) P12.length (run n 12))
  l12 : ∀ ds r, run n 12 ds = some r → ds.length = P12.length
  k13 : FnOk P w K mg base CX0 n T.a13 T.d13 P13 (spF K (bf 13) P13.length (run n 13))
  l13 : ∀ ds r, run n 13 ds = some r → ds.length = P13.length
  k14 : FnOk P w K mg base CX0 n T.a14 T.d14 P14 (spF K (bf 14) P14.length (run n 14))
  l14 : ∀ ds r, run n 14 ds = some r → ds.length = P14.length
  k15 : FnOk P w K mg base CX0 n T.a15 T.d15 P15 (spF K (bf 15) P15.length (run n 15))
  l15 : ∀ ds r, run n 15 ds = some r → ds.length = P15.length
  k16 : FnOk P w K mg base CX0 n T.a16 T.d16 P16 (spF K (bf 16) P16.length (run n 16))
  l16 : ∀ ds r, run n 16 ds = some r → ds.length = P16.length
  k17 : FnOk P w K mg base CX0 n T.a17 T.d17 P17 (spF K (bf 17) P17.length (run n 17))
  l17 : ∀ ds r, run n 17 ds = some r → ds.length = P17.length
  k18 : FnOk P w K mg base CX0 n T.a18 T.d18 P18 (spF K (bf 18) P18.length (run n 18))
  l18 : ∀ ds r, run n 18 ds = some r → ds.length = P18.length
  k19 : FnOk P w K mg base CX0 n T.a19 T.d19 P19 (spF K (bf 19) P19.length (run n 19))
  l19 : ∀ ds r, run n 19 ds = some r → ds.length = P19.length
  k20 : FnOk P w K mg base CX0 n T.a20 T.d20 P20 (spF K (bf 20) P20.length (run n 20))
  l20 : ∀ ds r, run n 20 ds = some r → ds.length = P20.length
  k21 : FnOk P w K mg base CX0 n T.a21 T.d21 P21 (spF K (bf 21) P21.length (run n 21))
  l21 : ∀ ds r, run n 21 ds = some r → ds.length = P21.length
  k22 : FnOk P w K mg base CX0 n T.a22 T.d22 P22 (spF K (bf 22) P22.length (run n 22))
  l22 : ∀ ds r, run n 22 ds = some r → ds.length = P22.length
  k23 : FnOk P w K mg base CX0 n T.a23 T.d23 P23 (spF K (bf 23) P23.length (run n 23))
  l23 : ∀ ds r, run n 23 ds = some r → ds.length = P23.length
  k24 : FnOk P w K mg base CX0 n T.a24 T.d24 P24 (spF K (bf 24) P24.length (run n 24))
  l24 : ∀ ds r, run n 24 ds = some r → ds.length = P24.length
  k25 : FnOk P w K mg base CX0 n T.a25 T.d25 P25 (spF K (bf 25) P25.length (run n 25))
  l25 : ∀ ds r, run n 25 ds = some r → ds.length = P25.length
  k26 : FnOk P w K mg base CX0 n T.a26 T.d26 P26 (spF K (bf 26) P26.length (run n 26))
  l26 : ∀ ds r, run n 26 ds = some r → ds.length = P26.length
  k27 : FnOk P w K mg base CX0 n T.a27 T.d27 P27 (spF K (bf 27) P27.length (run n 27))
  l27 : ∀ ds r, run n 27 ds = some r → ds.length = P27.length
  k28 : FnOk P w K mg base CX0 n T.a28 T.d28 P28 (spF K (bf 28) P28.length (run n 28))
  l28 : ∀ ds r, run n 28 ds = some r → ds.length = P28.length
  k29 : FnOk P w K mg base CX0 n T.a29 T.d29 P29 (spF K (bf 29) P29.length (run n 29))
  l29 : ∀ ds r, run n 29 ds = some r → ds.length = P29.length
  x15 : FnOk P w K mg base (L2.CX P w) n T.a15 T.d15 P15 (spX K mg P15.length (run n (XB + 15)))
  xl15 : ∀ ds r, run n (XB + 15) ds = some r → ds.length = P15.length
  x16 : FnOk P w K mg base (L2.CX P w) n T.a16 T.d16 P16 (spX K mg P16.length (run n (XB + 16)))
  xl16 : ∀ ds r, run n (XB + 16) ds = some r → ds.length = P16.length
  x17 : FnOk P w K mg base (L2.CX P w) n T.a17 T.d17 P17 (spX K mg P17.length (run n (XB + 17)))
  xl17 : ∀ ds r, run n (XB + 17) ds = some r → ds.length = P17.length
theorem body0 {T : Tops K mg} {n : Nat} (L : Lv P w K mg base T n) {cdv : Value} {A : Around} {outer : List Env} {s : Shared} {H : Hp} {E : XK} (hr : Room n (A.deeper (envOfC "is_int" (defScope s0) s.heap.objs.size T.a0 cdv))) :
    CSs (cxOf CX0 P w K mg base N0 "is_int" (defScope s0) T.a0 cdv A outer s H E).nox (run n) bf MM (defBody s0) b_is_int :=
  (cs_cons (cs_ret (ce_and (ce_isi ok_isInt (by decide +kernel) (by decide) (by decide) T.z_isinstance T.z_int rfl rfl (ce_v 0 rfl (.inl rfl))) (ce_one (ce_not (ce_isi ok_isBool (by decide +kernel) (by decide) (by decide) T.z_isinstance T.z_bool rfl rfl (ce_v 0 rfl (.inl rfl))))))) cs_nil)
theorem body1 {T : Tops K mg} {n : Nat} (L : Lv P w K mg base T n) {cdv : Value} {A : Around} {outer : List Env} {s : Shared} {H : Hp} {E : XK} (hr : Room n (A.deeper (envOfC "is_from" (defScope s1) s.heap.objs.size T.a1 cdv))) :
    CSs (cxOf CX0 P w K mg base N1 "is_from" (defScope s1) T.a1 cdv A outer s H E).nox (run n) bf MM (defBody s1) b_is_from :=
  (cs_cons (cs_ret (ce_and (ce_call L.k0 L.l0 hr T.G0 T.F0.kp T.B0 rfl (ca_cons (ce_v 0 rfl (.inl rfl)) ca_nil)) (ce_one (ce_chain ok_IB ok_IB op_le op_le (ce_v 1 rfl (.inl rfl)) (ce_v 0 rfl (.inl rfl)) (ce_v 2 rfl (.inl rfl)))))) cs_nil)
theorem body2 {T : Tops K mg} {n : Nat} (L : Lv P w K mg base T n) {cdv : Value} {A : Around} {outer : List Env} {s : Shared} {H : Hp} {E : XK} (hr : Room n (A.deeper (envOfC "need_from" (defScope s2) s.heap.objs.size T.a2 cdv))) :
    CSs (cxOf CX0 P w K mg base N2 "need_from" (defScope s2) T.a2 cdv A outer s H E).nox (run n) bf MM (defBody s2) b_need_from :=
  (cs_cons (cs_ite (ct_not (ct_of (fun _ h => pt_val h) (ce_call L.k1 L.l1 hr T.G1 T.F1.kp T.B1 rfl (ca_cons (ce_v 0 rfl (.inl rfl)) (ca_cons (ce_v 1 rfl (.inl rfl)) (ca_cons (ce_v 2 rfl (.inl rfl)) ca_nil)))))) (cs_cons cs_stuck cs_nil) cs_nil) cs_nil)
theorem body3 {T : Tops K mg} {n : Nat} (L : Lv P w K mg base T n) {cdv : Value} {A : Around} {outer : List Env} {s : Shared} {H : Hp} {E : XK} (hr : Room n (A.deeper (envOfC "is_place" (defScope s3) s.heap.objs.size T.a3 cdv))) :
    CSs (cxOf CX0 P w K mg base N3 "is_place" (defScope s3) T.a3 cdv A outer s H E).nox (run n) bf MM (defBody s3) b_is_place :=
  (cs_cons (cs_ite (PW.pt (ct_or (ct_not (ct_of (fun _ h => pt_val h) (ce_isi ok_isTup (by decide +kernel) (by decide) (by decide) T.z_isinstance T.z_tuple rfl rfl (ce_v 0 rfl (.inl rfl))))) (ct_or1 (ct_cmp ok_ne (op_neZ hr.units) (ce_b1 ok_len call_len (by decide +kernel) (by decide) (by decide) T.z_len rfl (ce_v 0 rfl (.inl rfl))) ce_int (nomark _))))) (cs_cons (cs_ret ce_bl) cs_nil) cs_nil) (cs_cons (cs_ret (ce_b1 ok_all (cr_all rfl) (by decide +kernel) (by decide) (by decide) T.z_all rfl (ce_lc (own := [("one", 1)]) (t := .n 1) rfl sc3.nd (fun _ h => h) (ci_seq (ce_v 0 rfl (.inl rfl))) (blkX (N := N3) (sc := (defScope s3)) (by decide +kernel)) (fun _ _ _ _ _ => (cg_n 1 sc3.nd rfl (.inl rfl))) (fun _ _ _ _ _ => pts0) (fun _ _ _ _ _ => (ce_call L.k1 L.l1 hr T.G1 T.F1.kp T.B1 rfl (ca_cons (ce_v 1 rfl (.inl rfl)) (ca_cons (ce_un ok_I1 un_neg (ce_glob (v := .int 1000) T.c_MOST_VALUE ⟨_, rfl⟩ (fun _ => .int _) rfl (by decide))) (ca_cons (ce_glob (v := .int 1000) T.c_MOST_VALUE ⟨_, rfl⟩ (fun _ => .int _) rfl (by decide)) ca_nil)))))))) cs_nil))
theorem body4 {T : Tops K mg} {n : Nat} (L : Lv P w K mg base T n) {cdv : Value} {A : Around} {outer : List Env} {s : Shared} {H : Hp} {E : XK} (hr : Room n (A.deeper (envOfC "need_board" (defScope s4) s.heap.objs.size T.a4 cdv))) :
    CSs (cxOf CX0 P w K mg base N4 "need_board" (defScope s4) T.a4 cdv A outer s H E).nox (run n) bf MM (defBody s4) b_need_board :=
  (cs_cons (cs_ite (PW.pt (ct_or (ct_not (ct_of (fun _ h => pt_val h) (ce_isi ok_isTup (by decide +kernel) (by decide) (by decide) T.z_isinstance T.z_tuple rfl rfl (ce_v 0 rfl (.inl rfl))))) (ct_or1 (ct_not (ct_chain ok_IB ok_IB op_le op_le ce_int (ce_b1 ok_len call_len (by decide +kernel) (by decide) (by decide) T.z_len rfl (ce_v 0 rfl (.inl rfl))) (ce_glob (v := .int 6) T.c_MOST_SIDE ⟨_, rfl⟩ (fun _ => .int _) rfl (by decide))))))) (cs_cons cs_stuck cs_nil) cs_nil) (cs_cons (cs_for PassesOwn.never rfl (ci_enum rfl T.z_enumerate (ce_v 0 rfl (.inl rfl))) (cg_t rfl (cg_n 1 sc4.nd rfl (.inl rfl)) (cg_n 2 sc4.nd rfl (.inl rfl))) (cs_cons (cs_ite (PW.pt (ct_or (ct_not (ct_of (fun _ h => pt_val h) (ce_isi ok_isTup (by decide +kernel) (by decide) (by decide) T.z_isinstance T.z_tuple rfl rfl (ce_v 2 rfl (.inl rfl))))) (ct_or (ct_not (ct_chain ok_IB ok_IB op_le op_le ce_int (ce_b1 ok_len call_len (by decide +kernel) (by decide) (by decide) T.z_len rfl (ce_v 2 rfl (.inl rfl))) (ce_glob (v := .int 6) T.c_MOST_SIDE ⟨_, rfl⟩ (fun _ => .int _) rfl (by decide)))) (ct_or1 (ct_cmp ok_ne (op_neZ hr.units) (ce_b1 ok_len call_len (by decide +kernel) (by decide) (by decide) T.z_len rfl (ce_v 2 rfl (.inl rfl))) (ce_b1 ok_len call_len (by decide +kernel) (by decide) (by decide) T.z_len rfl (ce_idx hr.units (fun _ _ => rfl) (ce_v 0 rfl (.inl rfl)) ce_int)) (nomark _)))))) (cs_cons cs_stuck cs_nil) cs_nil) (cs_cons (cs_ite (ct_not (ct_of (fun _ h => pt_val h) (ce_b1 ok_all (cr_all rfl) (by decide +kernel) (by decide) (by decide) T.z_all rfl (ce_lc (own := [("place", 3)]) (t := .n 3) rfl sc4.nd (fun _ h => h) (ci_seq (ce_v 2 rfl (.inl rfl))) (blkX (N := N4) (sc := (defScope s4)) (by decide +kernel)) (fun _ _ _ _ _ => (cg_n 3 sc4.nd rfl (.inl rfl))) (fun _ _ _ _ _ => pts0) (fun _ _ _ _ _ => (ce_call L.k3 L.l3 hr T.G3 T.F3.kp T.B3 rfl (ca_cons (ce_v 3 rfl (.inl rfl)) ca_nil))))))) (cs_cons cs_stuck cs_nil) cs_nil) cs_nil))) cs_nil))
theorem body5 {T : Tops K mg} {n : Nat} (L : Lv P w K mg base T n) {cdv : Value} {A : Around} {outer : List Env} {s : Shared} {H : Hp} {E : XK} (hr : Room n (A.deeper (envOfC "sides" (defScope s5) s.heap.objs.size T.a5 cdv))) :
    CSs (cxOf CX0 P w K mg base N5 "sides" (defScope s5) T.a5 cdv A outer s H E).nox (run n) bf MM (defBody s5) b_sides :=
  (cs_cons (cs_ret (ce_tup (cv_cons (ce_b1 ok_len call_len (by decide +kernel) (by decide) (by decide) T.z_len rfl (ce_v 0 rfl (.inl rfl))) (cv_cons (ce_b1 ok_len call_len (by decide +kernel) (by decide) (by decide) T.z_len rfl (ce_idx hr.units (fun _ _ => rfl) (ce_v 0 rfl (.inl rfl)) ce_int)) cv_nil)) (lenZ rfl))) cs_nil)
theorem body6 {T : Tops K mg} {n : Nat} (L : Lv P w K mg base T n) {cdv : Value} {A : Around} {outer : List Env} {s : Shared} {H : Hp} {E : XK} (hr : Room n (A.deeper (envOfC "lines_of" (defScope s6) s.heap.objs.size T.a6 cdv))) :
    CSs (cxOf CX0 P w K mg base N6 "lines_of" (defScope s6) T.a6 cdv A outer s H E).nox (run n) bf MM (defBody s6) b_lines_of :=
  (cs_cons (cs_ret (ce_tupRg1 rfl T.z_tuple rfl T.z_range rfl (ce_b1 ok_sumA (cr_sumA rfl) (by decide +kernel) (by decide) (by decide) T.z_sum rfl (ce_call L.k5 L.l5 hr T.G5 T.F5.kp T.B5 rfl (ca_cons (ce_v 0 rfl (.inl rfl)) ca_nil))))) cs_nil)
theorem body7 {T : Tops K mg} {n : Nat} (L : Lv P w K mg base T n) {cdv : Value} {A : Around} {outer : List Env} {s : Shared} {H : Hp} {E : XK} (hr : Room n (A.deeper (envOfC "left_of" (defScope s7) s.heap.objs.size T.a7 cdv))) :
    CSs (cxOf CX0 P w K mg base N7 "left_of" (defScope s7) T.a7 cdv A outer s H E).nox (run n) bf MM (defBody s7) b_left_of :=
  (cs_cons (cs_set 2 (ce_ty1 ok_tupOf cr_tupOf (by decide +kernel) (by decide) (by decide) T.z_tuple rfl (ce_lc (own := [("one", 3)]) (t := .n 3) rfl sc7.nd (fun _ h => h) (ci_range1 rfl T.z_range (ce_b1 ok_len call_len (by decide +kernel) (by decide) (by decide) T.z_len rfl (ce_v 0 rfl (.inl rfl)))) (blkX (N := N7) (sc := (defScope s7)) (by decide +kernel)) (fun _ _ _ _ _ => (cg_n 3 sc7.nd rfl (.inl rfl))) (fun _ _ _ _ _ => (pts1 (ct_cmp ok_notIn (op_notInZD hr.units) (ce_v 3 rfl (.inl rfl)) (ce_v 1 rfl (.inr (.inl rfl))) (by with_unfolding_all rfl)))) (fun _ _ _ _ _ => (ce_v 3 rfl (.inl rfl))))) sc7.nd rfl (.inl rfl)) (cs_cons (cs_ret (ce_tup (cv_cons (ce_v 2 rfl (.inl rfl)) (cv_cons (ce_ty1 ok_tupOf cr_tupOf (by decide +kernel) (by decide) (by decide) T.z_tuple rfl (ce_lc (own := [("one", 3)]) (t := .n 3) rfl sc7.nd (fun _ h => h) (ci_seq (ce_slF (ce_call L.k6 L.l6 hr T.G6 T.F6.kp T.B6 rfl (ca_cons (ce_v 0 rfl (.inl rfl)) ca_nil)) (ce_b1 ok_len call_len (by decide +kernel) (by decide) (by decide) T.z_len rfl (ce_v 0 rfl (.inl rfl))))) (blkX (N := N7) (sc := (defScope s7)) (by decide +kernel)) (fun _ _ _ _ _ => (cg_n 3 sc7.nd rfl (.inl rfl))) (fun _ _ _ _ _ => (pts1 (ct_cmp ok_notIn (op_notInZD hr.units) (ce_v 3 rfl (.inl rfl)) (ce_v 1 rfl (.inr (.inl rfl))) (by with_unfolding_all rfl)))) (fun _ _ _ _ _ => (ce_v 3 rfl (.inl rfl))))) cv_nil)) (lenZ rfl))) cs_nil))
theorem body8 {T : Tops K mg} {n : Nat} (L : Lv P w K mg base T n) {cdv : Value} {A : Around} {outer : List Env} {s : Shared} {H : Hp} {E : XK} (hr : Room n (A.deeper (envOfC "numbers" (defScope s8) s.heap.objs.size T.a8 cdv))) :
    CSs (cxOf CX0 P w K mg base N8 "numbers" (defScope s8) T.a8 cdv A outer s H E).nox (run n) bf MM (defBody s8) b_numbers :=
  (cs_cons (cs_put (ce_call L.k7 L.l7 hr T.G7 T.F7.kp T.B7 rfl (ca_cons (ce_v 0 rfl (.inr (.inl rfl))) (ca_cons (ce_v 1 rfl (.inl rfl)) ca_nil))) (cg_t rfl (cg_n 3 sc8.nd rfl (.inl rfl)) (cg_n 4 sc8.nd rfl (.inl rfl)))) (cs_cons (cs_ite (ct_cmp ok_IB op_lt (ce_v 2 rfl (.inr (.inl rfl))) (ce_b1 ok_len call_len (by decide +kernel) (by decide) (by decide) T.z_len rfl (ce_v 0 rfl (.inr (.inl rfl)))) (nomark _)) (cs_cons (cs_ret (ce_lc (own := [("column", 6)]) (t := .n 6) rfl sc8.nd (fun _ h => h) (ci_seq (ce_v 4 rfl (.inl rfl))) (blkX (N := N8) (sc := (defScope s8)) (by decide +kernel)) (fun _ _ _ _ _ => (cg_n 6 sc8.nd rfl (.inl rfl))) (fun _ _ _ _ _ => pts0) (fun _ _ _ _ _ => (ce_idx hr.units (fun _ _ => rfl) (ce_idx hr.units (fun _ _ => rfl) (ce_idx hr.units (fun _ _ => rfl) (ce_v 0 rfl (.inr (.inl rfl))) (ce_v 2 rfl (.inr (.inl rfl)))) (ce_bin ok_I2 op_sub (ce_v 6 rfl (.inl rfl)) (ce_b1 ok_len call_len (by decide +kernel) (by decide) (by decide) T.z_len rfl (ce_v 0 rfl (.inr (.inl rfl)))))) ce_int)))) cs_nil) cs_nil) (cs_cons (cs_ret (ce_lc (own := [("row", 5)]) (t := .n 5) rfl sc8.nd (fun _ h => h) (ci_seq (ce_v 3 rfl (.inl rfl))) (blkX (N := N8) (sc := (defScope s8)) (by decide +kernel)) (fun _ _ _ _ _ => (cg_n 5 sc8.nd rfl (.inl rfl))) (fun _ _ _ _ _ => pts0) (fun _ _ _ _ _ => (ce_idx hr.units (fun _ _ => rfl) (ce_idx hr.units (fun _ _ => rfl) (ce_idx hr.units (fun _ _ => rfl) (ce_v 0 rfl (.inr (.inl rfl))) (ce_v 5 rfl (.inl rfl))) (ce_bin ok_I2 op_sub (ce_v 2 rfl (.inr (.inl rfl))) (ce_b1 ok_len call_len (by decide +kernel) (by decide) (by decide) T.z_len rfl (ce_v 0 rfl (.inr (.inl rfl)))))) ce_int)))) cs_nil)))
theorem body9 {T : Tops K mg} {n : Nat} (L : Lv P w K mg base T n) {cdv : Value} {A : Around} {outer : List Env} {s : Shared} {H : Hp} {E : XK} (hr : Room n (A.deeper (envOfC "answers_of" (defScope s9) s.heap.objs.size T.a9 cdv))) :
    CSs (cxOf CX0 P w K mg base N9 "answers_of" (defScope s9) T.a9 cdv A outer s H E).nox (run n) bf MM (defBody s9) b_answers_of :=
  (cs_cons (cs_put (ce_call L.k7 L.l7 hr T.G7 T.F7.kp T.B7 rfl (ca_cons (ce_v 0 rfl (.inr (.inl rfl))) (ca_cons (ce_v 1 rfl (.inl rfl)) ca_nil))) (cg_t rfl (cg_n 3 sc9.nd rfl (.inl rfl)) (cg_n 4 sc9.nd rfl (.inl rfl)))) (cs_cons (cs_ite (ct_cmp ok_IB op_lt (ce_v 2 rfl (.inr (.inl rfl))) (ce_b1 ok_len call_len (by decide +kernel) (by decide) (by decide) T.z_len rfl (ce_v 0 rfl (.inr (.inl rfl)))) (nomark _)) (cs_cons (cs_set 5 (ce_ty1 ok_dictP (call_dictP rfl) (by decide +kernel) (by decide) (by decide) T.z_dict rfl (ce_lc (own := [("column", 8)]) (t := .n 8) rfl sc9.nd (fun _ h => h) (ci_seq (ce_v 4 rfl (.inl rfl))) (blkX (N := N9) (sc := (defScope s9)) (by decide +kernel)) (fun _ _ _ _ _ => (cg_n 8 sc9.nd rfl (.inl rfl))) (fun _ _ _ _ _ => pts0) (fun _ _ _ _ _ => (ce_tup (cv_cons (ce_v 8 rfl (.inl rfl)) (cv_cons (ce_idx hr.units (fun _ _ => rfl) (ce_idx hr.units (fun _ _ => rfl) (ce_idx hr.units (fun _ _ => rfl) (ce_v 0 rfl (.inr (.inl rfl))) (ce_v 2 rfl (.inr (.inl rfl)))) (ce_bin ok_I2 op_sub (ce_v 8 rfl (.inl rfl)) (ce_b1 ok_len call_len (by decide +kernel) (by decide) (by decide) T.z_len rfl (ce_v 0 rfl (.inr (.inl rfl)))))) ce_int) cv_nil)) (lenZ rfl))))) sc9.nd rfl (.inr rfl)) cs_nil) (cs_cons (cs_set 5 (ce_ty1 ok_dictP (call_dictP rfl) (by decide +kernel) (by decide) (by decide) T.z_dict rfl (ce_lc (own := [("row", 9)]) (t := .n 9) rfl sc9.nd (fun _ h => h) (ci_seq (ce_v 3 rfl (.inl rfl))) (blkX (N := N9) (sc := (defScope s9)) (by decide +kernel)) (fun _ _ _ _ _ => (cg_n 9 sc9.nd rfl (.inl rfl))) (fun _ _ _ _ _ => pts0) (fun _ _ _ _ _ => (ce_tup (cv_cons (ce_v 9 rfl (.inl rfl)) (cv_cons (ce_idx hr.units (fun _ _ => rfl) (ce_idx hr.units (fun _ _ => rfl) (ce_idx hr.units (fun _ _ => rfl) (ce_v 0 rfl (.inr (.inl rfl))) (ce_v 9 rfl (.inl rfl))) (ce_bin ok_I2 op_sub (ce_v 2 rfl (.inr (.inl rfl))) (ce_b1 ok_len call_len (by decide +kernel) (by decide) (by decide) T.z_len rfl (ce_v 0 rfl (.inr (.inl rfl)))))) ce_int) cv_nil)) (lenZ rfl))))) sc9.nd rfl (.inr rfl)) cs_nil)) (cs_cons (cs_set 6 (ce_maxV rfl rfl T.z_max (ce_v 5 rfl (.inr (.inl rfl)))) sc9.nd rfl (.inr rfl)) (cs_cons (cs_ret (ce_lc (own := [("one", 7)]) (t := .n 7) rfl sc9.nd (fun _ h => h) (ci_seq (ce_b1 ok_sortK (cr_sortK rfl hr.units) (by decide +kernel) (by decide) (by decide) T.z_sorted rfl (ce_v 5 rfl (.inr (.inl rfl))))) (blkX (N := N9) (sc := (defScope s9)) (by decide +kernel)) (fun _ _ _ _ _ => (cg_n 7 sc9.nd rfl (.inl rfl))) (fun _ _ _ _ _ => (pts1 (ct_cmp ok_eq (op_eqZ hr.units) (ce_idx hr.units (fun _ _ => rfl) (ce_v 5 rfl (.inr (.inl rfl))) (ce_v 7 rfl (.inl rfl))) (ce_v 6 rfl (.inr (.inl rfl))) (nomark _)))) (fun _ _ _ _ _ => (ce_v 7 rfl (.inl rfl))))) cs_nil))))
theorem body10 {T : Tops K mg} {n : Nat} (L : Lv P w K mg base T n) {cdv : Value} {A : Around} {outer : List Env} {s : Shared} {H : Hp} {E : XK} (hr : Room n (A.deeper (envOfC "bests_of" (defScope s10) s.heap.objs.size T.a10 cdv))) :
    CSs (cxOf CX0 P w K mg base N10 "bests_of" (defScope s10) T.a10 cdv A outer s H E).nox (run n) bf MM (defBody s10) b_bests_of :=
  (cs_cons (cs_put (ce_call L.k7 L.l7 hr T.G7 T.F7.kp T.B7 rfl (ca_cons (ce_v 0 rfl (.inl rfl)) (ca_cons (ce_v 1 rfl (.inl rfl)) ca_nil))) (cg_t rfl (cg_n 2 sc10.nd rfl (.inl rfl)) (cg_n 3 sc10.nd rfl (.inl rfl)))) (cs_cons (cs_set 4 (ce_lst cv_nil (lenZ rfl)) sc10.nd rfl (.inl rfl)) (cs_cons (cs_for PassesOwn.never rfl (ci_seq (ce_v 2 rfl (.inl rfl))) (cg_n 5 sc10.nd rfl (.inl rfl)) (cs_cons (cs_for PassesOwn.never rfl (ci_seq (ce_v 3 rfl (.inl rfl))) (cg_n 6 sc10.nd rfl (.inl rfl)) (cs_cons (cs_ite (PW.pt (ct_and (ct_cmp ok_in (op_inZD hr.units) (ce_v 5 rfl (.inl rfl)) (ce_call L.k9 L.l9 hr T.G9 T.F9.kp T.B9 rfl (ca_cons (ce_v 0 rfl (.inl rfl)) (ca_cons (ce_v 1 rfl (.inl rfl)) (ca_cons (ce_v 6 rfl (.inl rfl)) ca_nil)))) (by with_unfolding_all rfl)) (ct_and1 (ct_cmp ok_in (op_inZD hr.units) (ce_v 6 rfl (.inl rfl)) (ce_call L.k9 L.l9 hr T.G9 T.F9.kp T.B9 rfl (ca_cons (ce_v 0 rfl (.inl rfl)) (ca_cons (ce_v 1 rfl (.inl rfl)) (ca_cons (ce_v 5 rfl (.inl rfl)) ca_nil)))) (by with_unfolding_all rfl))))) (cs_cons (cs_app 4 rfl (.inl rfl) (by decide) (by decide) (ce_tup (cv_cons (ce_v 5 rfl (.inl rfl)) (cv_cons (ce_v 6 rfl (.inl rfl)) cv_nil)) (lenZ rfl))) cs_nil) cs_nil) cs_nil)) cs_nil)) (cs_cons (cs_ret (ce_v 4 rfl (.inl rfl))) cs_nil))))
theorem body11 {T : Tops K mg} {n : Nat} (L : Lv P w K mg base T n) {cdv : Value} {A : Around} {outer : List Env} {s : Shared} {H : Hp} {E : XK} (hr : Room n (A.deeper (envOfC "safe_numbers" (defScope s11) s.heap.objs.size T.a11 cdv))) :
    CSs (cxOf CX0 P w K mg base N11 "safe_numbers" (defScope s11) T.a11 cdv A outer s H E).nox (run n) bf MM (defBody s11) b_safe_numbers :=
  (cs_cons (cs_expr (ce_call L.k4 L.l4 hr T.G4 T.F4.kp T.B4 rfl (ca_cons (ce_v 0 rfl (.inr (.inl rfl))) ca_nil))) (cs_cons (cs_set 1 (ce_b1 ok_maxS (cr_maxS rfl hr.units) (by decide +kernel) (by decide) (by decide) T.z_max rfl (ce_lc (own := [("line", 2)]) (t := .n 2) rfl sc11.nd (fun _ h => h) (ci_range1 rfl T.z_range (ce_b1 ok_len call_len (by decide +kernel) (by decide) (by decide) T.z_len rfl (ce_v 0 rfl (.inr (.inl rfl))))) (blkX (N := N11) (sc := (defScope s11)) (by decide +kernel)) (fun _ _ _ _ _ => (cg_n 2 sc11.nd rfl (.inl rfl))) (fun _ _ _ _ _ => pts0) (fun _ _ _ _ _ => (ce_b1 ok_minS (cr_minS rfl hr.units) (by decide +kernel) (by decide) (by decide) T.z_min rfl (ce_call L.k8 L.l8 hr T.G8 T.F8.kp T.B8 rfl (ca_cons (ce_v 0 rfl (.inr (.inl rfl))) (ca_cons (ce_tup cv_nil (lenZ rfl)) (ca_cons (ce_v 2 rfl (.inl rfl)) ca_nil)))))))) sc11.nd rfl (.inl rfl)) (cs_cons (cs_ret (ce_tup (cv_cons (ce_v 1 rfl (.inl rfl)) (cv_cons (ce_b1 ok_maxS (cr_maxS rfl hr.units) (by decide +kernel) (by decide) (by decide) T.z_max rfl (ce_lc (own := [("line", 2)]) (t := .n 2) rfl sc11.nd (fun _ h => h) (ci_seq (ce_slF (ce_call L.k6 L.l6 hr T.G6 T.F6.kp T.B6 rfl (ca_cons (ce_v 0 rfl (.inr (.inl rfl))) ca_nil)) (ce_b1 ok_len call_len (by decide +kernel) (by decide) (by decide) T.z_len rfl (ce_v 0 rfl (.inr (.inl rfl)))))) (blkX (N := N11) (sc := (defScope s11)) (by decide +kernel)) (fun _ _ _ _ _ => (cg_n 2 sc11.nd rfl (.inl rfl))) (fun _ _ _ _ _ => pts0) (fun _ _ _ _ _ => (ce_b1 ok_minS (cr_minS rfl hr.units) (by decide +kernel) (by decide) (by decide) T.z_min rfl (ce_call L.k8 L.l8 hr T.G8 T.F8.kp T.B8 rfl (ca_cons (ce_v 0 rfl (.inr (.inl rfl))) (ca_cons (ce_tup cv_nil (lenZ rfl)) (ca_cons (ce_v 2 rfl (.inl rfl)) ca_nil)))))))) cv_nil)) (lenZ rfl))) cs_nil)))
theorem body12 {T : Tops K mg} {n : Nat} (L : Lv P w K mg base T n) {cdv : Value} {A : Around} {outer : List Env} {s : Shared} {H : Hp} {E : XK} (hr : Room n (A.deeper (envOfC "safe_lines" (defScope s12) s.heap.objs.size T.a12 cdv))) :
    CSs (cxOf CX0 P w K mg base N12 "safe_lines" (defScope s12) T.a12 cdv A outer s H E).nox (run n) bf MM (defBody s12) b_safe_lines :=
  (cs_cons (cs_set 1 (ce_call L.k11 L.l11 hr T.G11 T.F11.kp T.B11 rfl (ca_cons (ce_v 0 rfl (.inl rfl)) ca_nil)) sc12.nd rfl (.inl rfl)) (cs_cons (cs_set 2 (ce_lst cv_nil (lenZ rfl)) sc12.nd rfl (.inl rfl)) (cs_cons (cs_for PassesOwn.never rfl (ci_seq (ce_call L.k6 L.l6 hr T.G6 T.F6.kp T.B6 rfl (ca_cons (ce_v 0 rfl (.inl rfl)) ca_nil))) (cg_n 3 sc12.nd rfl (.inl rfl)) (cs_cons (cs_ite (ct_cmp ok_eq (op_eqZ hr.units) (ce_b1 ok_minS (cr_minS rfl hr.units) (by decide +kernel) (by decide) (by decide) T.z_min rfl (ce_call L.k8 L.l8 hr T.G8 T.F8.kp T.B8 rfl (ca_cons (ce_v 0 rfl (.inl rfl)) (ca_cons (ce_tup cv_nil (lenZ rfl)) (ca_cons (ce_v 3 rfl (.inl rfl)) ca_nil))))) (ce_idx hr.units (fun _ _ => rfl) (ce_v 1 rfl (.inl rfl)) (ce_ite (ct_cmp ok_IB op_lt (ce_v 3 rfl (.inl rfl)) (ce_b1 ok_len call_len (by decide +kernel) (by decide) (by decide) T.z_len rfl (ce_v 0 rfl (.inl rfl))) (nomark _)) ce_int ce_int)) (nomark _)) (cs_cons (cs_app 2 rfl (.inl rfl) (by decide) (by decide) (ce_v 3 rfl (.inl rfl))) cs_nil) cs_nil) cs_nil)) (cs_cons (cs_ret (ce_ty1 ok_tupOf cr_tupOf (by decide +kernel) (by decide) (by decide) T.z_tuple rfl (ce_v 2 rfl (.inl rfl)))) cs_nil))))
theorem body13 {T : Tops K mg} {n : Nat} (L : Lv P w K mg base T n) {cdv : Value} {A : Around} {outer : List Env} {s : Shared} {H : Hp} {E : XK} (hr : Room n (A.deeper (envOfC "is_against" (defScope s13) s.heap.objs.size T.a13 cdv))) :
    CSs (cxOf CX0 P w K mg base N13 "is_against" (defScope s13) T.a13 cdv A outer s H E).nox (run n) bf MM (defBody s13) b_is_against :=
  (cs_cons (cs_expr (ce_call L.k4 L.l4 hr T.G4 T.F4.kp T.B4 rfl (ca_cons (ce_v 0 rfl (.inl rfl)) ca_nil))) (cs_cons (cs_ret (ce_call L.k14 L.l14 hr T.G14 T.F14.kp T.B14 rfl (ca_cons (ce_v 0 rfl (.inl rfl)) ca_nil))) cs_nil))
theorem body14 {T : Tops K mg} {n : Nat} (L : Lv P w K mg base T n) {cdv : Value} {A : Around} {outer : List Env} {s : Shared} {H : Hp} {E : XK} (hr : Room n (A.deeper (envOfC "adds_up" (defScope s14) s.heap.objs.size T.a14 cdv))) :
    CSs (cxOf CX0 P w K mg base N14 "adds_up" (defScope s14) T.a14 cdv A outer s H E).nox (run n) bf MM (defBody s14) b_adds_up :=
  (cs_cons (cs_ret (ce_b1 ok_all (cr_all rfl) (by decide +kernel) (by decide) (by decide) T.z_all rfl (ce_lc (own := [("row", 1)]) (t := .n 1) rfl sc14.nd (fun _ h => h) (ci_seq (ce_v 0 rfl (.inl rfl))) (blkX (N := N14) (sc := (defScope s14)) (by decide +kernel)) (fun _ _ _ _ _ => (cg_n 1 sc14.nd rfl (.inl rfl))) (fun _ _ _ _ _ => pts0) (fun _ _ _ _ _ => (ce_b1 ok_all (cr_all rfl) (by decide +kernel) (by decide) (by decide) T.z_all rfl (ce_lc (own := [("place", 2)]) (t := .n 2) rfl sc14.nd (fun _ h => h) (ci_seq (ce_v 1 rfl (.inl rfl))) (blkX (N := N14) (sc := (relS _ (defScope s14))) (by decide +kernel)) (fun _ _ _ _ _ => (cg_n 2 sc14.nd rfl (.inl rfl))) (fun _ _ _ _ _ => pts0) (fun _ _ _ _ _ => (ce_cmp ok_eq (op_eqZ hr.units) (ce_b1 ok_sumA (cr_sumA rfl) (by decide +kernel) (by decide) (by decide) T.z_sum rfl (ce_v 2 rfl (.inl rfl))) ce_int (nomark _))))))))) cs_nil)
theorem body15 {T : Tops K mg} {n : Nat} (L : Lv P w K mg base T n) {cdv : Value} {A : Around} {outer : List Env} {s : Shared} {H : Hp} {E : XK} (hr : Room n (A.deeper (envOfC "need_against" (defScope s15) s.heap.objs.size T.a15 cdv))) :
    CSs (cxOf CX0 P w K mg base N15 "need_against" (defScope s15) T.a15 cdv A outer s H E).nox (run n) bf MM (defBody s15) b_need_against :=
  (cs_cons (cs_expr (ce_call L.k4 L.l4 hr T.G4 T.F4.kp T.B4 rfl (ca_cons (ce_v 0 rfl (.inl rfl)) ca_nil))) (cs_cons (cs_ite (ct_not (ct_of (fun _ h => pt_val h) (ce_call L.k14 L.l14 hr T.G14 T.F14.kp T.B14 rfl (ca_cons (ce_v 0 rfl (.inl rfl)) ca_nil)))) (cs_cons cs_raise cs_nil) cs_nil) cs_nil))
theorem body16 {T : Tops K mg} {n : Nat} (L : Lv P w K mg base T n) {cdv : Value} {A : Around} {outer : List Env} {s : Shared} {H : Hp} {E : XK} (hr : Room n (A.deeper (envOfC "saddle" (defScope s16) s.heap.objs.size T.a16 cdv))) :
    CSs (cxOf CX0 P w K mg base N16 "saddle" (defScope s16) T.a16 cdv A outer s H E).nox (run n) bf MM (defBody s16) b_saddle :=
  (cs_cons (cs_may (cs_expr (ce_call L.k15 L.l15 hr T.G15 T.F15.kp T.B15 rfl (ca_cons (ce_v 0 rfl (.inl rfl)) ca_nil)))) (cs_cons (cs_set 1 (ce_call L.k10 L.l10 hr T.G10 T.F10.kp T.B10 rfl (ca_cons (ce_v 0 rfl (.inl rfl)) (ca_cons (ce_tup cv_nil (lenZ rfl)) ca_nil))) sc16.nd rfl (.inl rfl)) (cs_cons (cs_ret (ce_ite (ct_cmp ok_ne (op_neZ hr.units) (ce_v 1 rfl (.inl rfl)) (ce_lst cv_nil (lenZ rfl)) (nomark _)) (ce_idx hr.units (fun _ _ => rfl) (ce_idx hr.units (fun _ _ => rfl) (ce_idx hr.units (fun _ _ => rfl) (ce_v 0 rfl (.inl rfl)) (ce_idx hr.units (fun _ _ => rfl) (ce_idx hr.units (fun _ _ => rfl) (ce_v 1 rfl (.inl rfl)) ce_int) ce_int)) (ce_bin ok_I2 op_sub (ce_idx hr.units (fun _ _ => rfl) (ce_idx hr.units (fun _ _ => rfl) (ce_v 1 rfl (.inl rfl)) ce_int) ce_int) (ce_b1 ok_len call_len (by decide +kernel) (by decide) (by decide) T.z_len rfl (ce_v 0 rfl (.inl rfl))))) ce_int) ce_non)) cs_nil)))
theorem body17 {T : Tops K mg} {n : Nat} (L : Lv P w K mg base T n) {cdv : Value} {A : Around} {outer : List Env} {s : Shared} {H : Hp} {E : XK} (hr : Room n (A.deeper (envOfC "gap" (defScope s17) s.heap.objs.size T.a17 cdv))) :
    CSs (cxOf CX0 P w K mg base N17 "gap" (defScope s17) T.a17 cdv A outer s H E).nox (run n) bf MM (defBody s17) b_gap :=
  (cs_cons (cs_may (cs_expr (ce_call L.k15 L.l15 hr T.G15 T.F15.kp T.B15 rfl (ca_cons (ce_v 0 rfl (.inl rfl)) ca_nil)))) (cs_cons (cs_put (ce_call L.k11 L.l11 hr T.G11 T.F11.kp T.B11 rfl (ca_cons (ce_v 0 rfl (.inl rfl)) ca_nil)) (cg_t rfl (cg_n 1 sc17.nd rfl (.inl rfl)) (cg_n 2 sc17.nd rfl (.inl rfl)))) (cs_cons (cs_ret (ce_bin ok_I2 op_sub (ce_un ok_I1 un_neg (ce_v 2 rfl (.inl rfl))) (ce_v 1 rfl (.inl rfl)))) cs_nil)))
theorem body18 {T : Tops K mg} {n : Nat} (L : Lv P w K mg base T n) {cdv : Value} {A : Around} {outer : List Env} {s : Shared} {H : Hp} {E : XK} (hr : Room n (A.deeper (envOfC "answer_walk" (defScope s18) s.heap.objs.size T.a18 cdv))) :
    CSs (cxOf CX0 P w K mg base N18 "answer_walk" (defScope s18) T.a18 cdv A outer s H E).nox (run n) bf MM (defBody s18) b_answer_walk :=
  (cs_cons (cs_expr (ce_call L.k4 L.l4 hr T.G4 T.F4.kp T.B4 rfl (ca_cons (ce_v 0 rfl (.inl rfl)) ca_nil))) (cs_cons (cs_ite (ct_not (ct_of (fun _ h => pt_val h) (ce_call L.k1 L.l1 hr T.G1 T.F1.kp T.B1 rfl (ca_cons (ce_v 1 rfl (.inl rfl)) (ca_cons ce_int (ca_cons (ce_bin ok_I2 op_sub (ce_b1 ok_len call_len (by decide +kernel) (by decide) (by decide) T.z_len rfl (ce_v 0 rfl (.inl rfl))) ce_int) ca_nil)))))) (cs_cons cs_stuck cs_nil) cs_nil) (cs_cons (cs_expr (ce_call L.k2 L.l2 hr T.G2 T.F2.kp T.B2 rfl (ca_cons (ce_v 2 rfl (.inl rfl)) (ca_cons ce_int (ca_cons ce_int ca_nil))))) (cs_cons (cs_set 3 (ce_lst (cv_cons (ce_v 1 rfl (.inl rfl)) cv_nil) (lenZ rfl)) sc18.nd rfl (.inl rfl)) (cs_cons (cs_for PassesOwn.never rfl (ci_range1 rfl T.z_range (ce_v 2 rfl (.inl rfl))) (cg_n 4 sc18.nd rfl (.inl rfl)) (cs_cons (cs_app 3 rfl (.inl rfl) (by decide) (by decide) (ce_idx hr.units (fun _ _ => rfl) (ce_call L.k9 L.l9 hr T.G9 T.F9.kp T.B9 rfl (ca_cons (ce_v 0 rfl (.inl rfl)) (ca_cons (ce_tup cv_nil (lenZ rfl)) (ca_cons (ce_idx hr.units (fun _ _ => rfl) (ce_v 3 rfl (.inl rfl)) (ce_un ok_I1 un_neg ce_int)) ca_nil)))) ce_int)) cs_nil)) (cs_cons (cs_ret (ce_ty1 ok_tupOf cr_tupOf (by decide +kernel) (by decide) (by decide) T.z_tuple rfl (ce_v 3 rfl (.inl rfl)))) cs_nil))))))
theorem body19 {T : Tops K mg} {n : Nat} (L : Lv P w K mg base T n) {cdv : Value} {A : Around} {outer : List Env} {s : Shared} {H : Hp} {E : XK} (hr : Room n (A.deeper (envOfC "answer_ring" (defScope s19) s.heap.objs.size T.a19 cdv))) :
    CSs (cxOf CX0 P w K mg base N19 "answer_ring" (defScope s19) T.a19 cdv A outer s H E).nox (run n) bf MM (defBody s19) b_answer_ring :=
  (cs_cons (cs_expr (ce_call L.k4 L.l4 hr T.G4 T.F4.kp T.B4 rfl (ca_cons (ce_v 0 rfl (.inl rfl)) ca_nil))) (cs_cons (cs_set 2 (ce_call L.k18 L.l18 hr T.G18 T.F18.kp T.B18 rfl (ca_cons (ce_v 0 rfl (.inl rfl)) (ca_cons (ce_v 1 rfl (.inl rfl)) (ca_cons (ce_bin ok_IC op_mulZ ce_int (ce_b1 ok_sumA (cr_sumA rfl) (by decide +kernel) (by decide) (by decide) T.z_sum rfl (ce_call L.k5 L.l5 hr T.G5 T.F5.kp T.B5 rfl (ca_cons (ce_v 0 rfl (.inl rfl)) ca_nil)))) ca_nil)))) sc19.nd rfl (.inl rfl)) (cs_cons (cs_set 3 (ce_idx hr.units (fun _ _ => rfl) (ce_v 2 rfl (.inl rfl)) (ce_un ok_I1 un_neg ce_int)) sc19.nd rfl (.inl rfl)) (cs_cons (cs_set 4 (ce_lst (cv_cons (ce_v 3 rfl (.inl rfl)) cv_nil) (lenZ rfl)) sc19.nd rfl (.inl rfl)) (cs_cons (cs_set 5 (ce_idx hr.units (fun _ _ => rfl) (ce_call L.k9 L.l9 hr T.G9 T.F9.kp T.B9 rfl (ca_cons (ce_v 0 rfl (.inl rfl)) (ca_cons (ce_tup cv_nil (lenZ rfl)) (ca_cons (ce_v 3 rfl (.inl rfl)) ca_nil)))) ce_int) sc19.nd rfl (.inl rfl)) (cs_cons (cs_whl PassesOwn.never (ct_cmp ok_ne (op_neZ hr.units) (ce_v 5 rfl (.inl rfl)) (ce_v 3 rfl (.inl rfl)) (nomark _)) (cs_cons (cs_app 4 rfl (.inl rfl) (by decide) (by decide) (ce_v 5 rfl (.inl rfl))) (cs_cons (cs_set 5 (ce_idx hr.units (fun _ _ => rfl) (ce_call L.k9 L.l9 hr T.G9 T.F9.kp T.B9 rfl (ca_cons (ce_v 0 rfl (.inl rfl)) (ca_cons (ce_tup cv_nil (lenZ rfl)) (ca_cons (ce_v 5 rfl (.inl rfl)) ca_nil)))) ce_int) sc19.nd rfl (.inl rfl)) cs_nil))) (cs_cons (cs_set 6 (ce_index hr.units (ce_v 4 rfl (.inl rfl)) (ca_cons (ce_b1 ok_minS (cr_minS rfl hr.units) (by decide +kernel) (by decide) (by decide) T.z_min rfl (ce_v 4 rfl (.inl rfl))) ca_nil)) sc19.nd rfl (.inl rfl)) (cs_cons (cs_ret (ce_ty1 ok_tupOf cr_tupOf (by decide +kernel) (by decide) (by decide) T.z_tuple rfl (ce_bin ok_add op_addZ (ce_slF (ce_v 4 rfl (.inl rfl)) (ce_v 6 rfl (.inl rfl))) (ce_slT (ce_v 4 rfl (.inl rfl)) (ce_v 6 rfl (.inl rfl)))))) cs_nil))))))))
theorem body20 {T : Tops K mg} {n : Nat} (L : Lv P w K mg base T n) {cdv : Value} {A : Around} {outer : List Env} {s : Shared} {H : Hp} {E : XK} (hr : Room n (A.deeper (envOfC "_law_taken" (defScope s20) s.heap.objs.size T.a20 cdv))) :
    CSs (cxOf CX0 P w K mg base N20 "_law_taken" (defScope s20) T.a20 cdv A outer s H E).nox (run n) bf MM (defBody s20) b__law_taken :=
  (cs_cons (cs_ite (ct_cmp ok_IB op_gt (ce_idx hr.units (fun _ _ => rfl) (ce_v 0 rfl (.inl rfl)) ce_int) ce_int (nomark _)) (cs_cons (cs_set 2 (ce_bin ok_IC op_mod (ce_ty1 ok_int1 call_int1 (by decide +kernel) (by decide) (by decide) T.z_int rfl (ce_idx hr.units (fun _ _ => rfl) (ce_v 0 rfl (.inl rfl)) ce_int)) (ce_v 1 rfl (.inl rfl))) sc20.nd rfl (.inl rfl)) (cs_cons (cs_setL hr.units 0 rfl (.inl rfl) (by decide) (by decide) ce_int (ce_bin ok_IC op_fdiv (ce_idx hr.units (fun _ _ => rfl) (ce_v 0 rfl (.inl rfl)) ce_int) (ce_v 1 rfl (.inl rfl)))) (cs_cons (cs_ret (ce_v 2 rfl (.inl rfl))) cs_nil))) cs_nil) (cs_cons (cs_setL hr.units 0 rfl (.inl rfl) (by decide) (by decide) ce_int (ce_bin ok_add op_addZ (ce_idx hr.units (fun _ _ => rfl) (ce_v 0 rfl (.inl rfl)) ce_int) ce_int)) (cs_cons (cs_ite (ct_cmp ok_IB op_gt (ce_idx hr.units (fun _ _ => rfl) (ce_v 0 rfl (.inl rfl)) ce_int) (ce_b1 ok_len call_len (by decide +kernel) (by decide) (by decide) T.z_len rfl (ce_idx hr.units (fun _ _ => rfl) (ce_v 0 rfl (.inl rfl)) ce_int)) (nomark _)) (cs_cons (cs_setL hr.units 0 rfl (.inl rfl) (by decide) (by decide) ce_int (ce_bin ok_IC op_mod (ce_ty1 ok_int1 call_int1 (by decide +kernel) (by decide) (by decide) T.z_int rfl (ce_bin ok_add op_addZ (ce_bin ok_IC op_mulZ (ce_idx hr.units (fun _ _ => rfl) (ce_v 0 rfl (.inl rfl)) ce_int) ce_int) ce_int)) ce_int)) (cs_cons (cs_ret (ce_bin ok_IC op_mod (ce_ty1 ok_int1 call_int1 (by decide +kernel) (by decide) (by decide) T.z_int rfl (ce_bin ok_IC op_fdiv (ce_idx hr.units (fun _ _ => rfl) (ce_v 0 rfl (.inl rfl)) ce_int) ce_int)) (ce_v 1 rfl (.inl rfl)))) cs_nil)) cs_nil) (cs_cons (cs_set 3 (ce_idx hr.units (fun _ _ => rfl) (ce_idx hr.units (fun _ _ => rfl) (ce_v 0 rfl (.inl rfl)) ce_int) (ce_bin ok_I2 op_sub (ce_idx hr.units (fun _ _ => rfl) (ce_v 0 rfl (.inl rfl)) ce_int) ce_int)) sc20.nd rfl (.inl rfl)) (cs_cons (cs_setL hr.units 0 rfl (.inl rfl) (by decide) (by decide) ce_int (ce_bin ok_IC op_mod (ce_ty1 ok_int1 call_int1 (by decide +kernel) (by decide) (by decide) T.z_int rfl (ce_bin ok_add op_addZ (ce_bin ok_add op_addZ (ce_bin ok_IC op_mulZ (ce_idx hr.units (fun _ _ => rfl) (ce_v 0 rfl (.inl rfl)) ce_int) ce_int) (ce_v 3 rfl (.inl rfl))) ce_int)) ce_int)) (cs_cons (cs_ite (ct_cmp ok_IB op_ge (ce_v 3 rfl (.inl rfl)) (ce_bin ok_IC op_pow ce_int ce_int) (nomark _)) (cs_cons (cs_setL hr.units 0 rfl (.inl rfl) (by decide) (by decide) ce_int (ce_bin ok_IC op_fdiv (ce_v 3 rfl (.inl rfl)) (ce_v 1 rfl (.inl rfl)))) cs_nil) cs_nil) (cs_cons (cs_ret (ce_bin ok_IC op_mod (ce_ty1 ok_int1 call_int1 (by decide +kernel) (by decide) (by decide) T.z_int rfl (ce_v 3 rfl (.inl rfl))) (ce_v 1 rfl (.inl rfl)))) cs_nil)))))))
theorem body21 {T : Tops K mg} {n : Nat} (L : Lv P w K mg base T n) {cdv : Value} {A : Around} {outer : List Env} {s : Shared} {H : Hp} {E : XK} (hr : Room n (A.deeper (envOfC "_law_alike" (defScope s21) s.heap.objs.size T.a21 cdv))) :
    CSs (cxOf CX0 P w K mg base N21 "_law_alike" (defScope s21) T.a21 cdv A outer s H E).nox (run n) bf MM (defBody s21) b__law_alike :=
  (cs_cons (cs_ite (ct_of (fun _ h => pt_val h) (ce_isi2 is_TL (by decide +kernel) (by decide +kernel) (by decide) (by decide) (by decide) (by decide) T.z_isinstance T.z_tuple T.z_list rfl rfl rfl (ce_v 1 rfl (.inr (.inl rfl))))) (cs_cons (cs_ite (PW.pt (ct_or (ct_not (ct_of (fun _ h => pt_val h) (ce_isi2 is_TL (by decide +kernel) (by decide +kernel) (by decide) (by decide) (by decide) (by decide) T.z_isinstance T.z_tuple T.z_list rfl rfl rfl (ce_v 0 rfl (.inr (.inl rfl)))))) (ct_or1 (ct_cmp ok_ne (op_neZ hr.units) (ce_isi ok_isList (by decide +kernel) (by decide) (by decide) T.z_isinstance T.z_list rfl rfl (ce_v 0 rfl (.inr (.inl rfl)))) (ce_isi ok_isList (by decide +kernel) (by decide) (by decide) T.z_isinstance T.z_list rfl rfl (ce_v 1 rfl (.inr (.inl rfl)))) (nomark _))))) (cs_cons (cs_ret ce_bl) cs_nil) cs_nil) (cs_cons (cs_ite (ct_cmp ok_ne (op_neZ hr.units) (ce_b1 ok_len call_len (by decide +kernel) (by decide) (by decide) T.z_len rfl (ce_v 0 rfl (.inr (.inl rfl)))) (ce_b1 ok_len call_len (by decide +kernel) (by decide) (by decide) T.z_len rfl (ce_v 1 rfl (.inr (.inl rfl)))) (nomark _)) (cs_cons (cs_ret ce_bl) cs_nil) cs_nil) (cs_cons (cs_ret (ce_cmp ok_eq (op_eqZ hr.units) (ce_lc (own := [("_law_k", 2)]) (t := .n 2) rfl sc21.nd (fun _ h => h) (ci_range1 rfl T.z_range (ce_b1 ok_len call_len (by decide +kernel) (by decide) (by decide) T.z_len rfl (ce_v 1 rfl (.inr (.inl rfl))))) (blkX (N := N21) (sc := (defScope s21)) (by decide +kernel)) (fun _ _ _ _ _ => (cg_n 2 sc21.nd rfl (.inl rfl))) (fun _ _ _ _ _ => (pts1 (ct_not (ct_of (fun _ h => pt_val h) (ce_call L.k21 L.l21 hr T.G21 T.F21.kp T.B21 rfl (ca_cons (ce_idx hr.units (fun _ _ => rfl) (ce_v 0 rfl (.inr (.inl rfl))) (ce_v 2 rfl (.inl rfl))) (ca_cons (ce_idx hr.units (fun _ _ => rfl) (ce_v 1 rfl (.inr (.inl rfl))) (ce_v 2 rfl (.inl rfl))) ca_nil))))))) (fun _ _ _ _ _ => (ce_v 2 rfl (.inl rfl)))) (ce_lst cv_nil (lenZ rfl)) (nomark _))) cs_nil))) cs_nil) (cs_cons (cs_ite (PW.pt (ct_or (ct_isN (ce_v 1 rfl (.inr (.inl rfl)))) (ct_or1 (ct_of (fun _ h => pt_val h) (ce_isi ok_isStr (by decide +kernel) (by decide) (by decide) T.z_isinstance T.z_str rfl rfl (ce_v 1 rfl (.inr (.inl rfl)))))))) (cs_cons (cs_ret (ce_and (ce_cmp ok_eq (op_eqZ hr.units) (ce_v 0 rfl (.inr (.inl rfl))) (ce_v 1 rfl (.inr (.inl rfl))) (nomark _)) (ce_one (ce_cmp ok_eq (op_eqZ hr.units) (ce_isi ok_isStr (by decide +kernel) (by decide) (by decide) T.z_isinstance T.z_str rfl rfl (ce_v 0 rfl (.inr (.inl rfl)))) (ce_isi ok_isStr (by decide +kernel) (by decide) (by decide) T.z_isinstance T.z_str rfl rfl (ce_v 1 rfl (.inr (.inl rfl)))) (nomark _))))) cs_nil) cs_nil) (cs_cons (cs_ret (ce_and (ce_isi ok_isInt (by decide +kernel) (by decide) (by decide) T.z_isinstance T.z_int rfl rfl (ce_v 0 rfl (.inr (.inl rfl)))) (ce_and (ce_cmp ok_eq (op_eqZ hr.units) (ce_isi ok_isBool (by decide +kernel) (by decide) (by decide) T.z_isinstance T.z_bool rfl rfl (ce_v 0 rfl (.inr (.inl rfl)))) (ce_isi ok_isBool (by decide +kernel) (by decide) (by decide) T.z_isinstance T.z_bool rfl rfl (ce_v 1 rfl (.inr (.inl rfl)))) (nomark _)) (ce_one (ce_cmp ok_eq (op_eqZ hr.units) (ce_v 0 rfl (.inr (.inl rfl))) (ce_v 1 rfl (.inr (.inl rfl))) (nomark _)))))) cs_nil)))
theorem body22 {T : Tops K mg} {n : Nat} (L : Lv P w K mg base T n) {cdv : Value} {A : Around} {outer : List Env} {s : Shared} {H : Hp} {E : XK} (hr : Room n (A.deeper (envOfC "_law_is" (defScope s22) s.heap.objs.size T.a22 cdv))) :
    CSs (cxOf CX0 P w K mg base N22 "_law_is" (defScope s22) T.a22 cdv A outer s H E).nox (run n) bf MM (defBody s22) b__law_is :=
  (cs_cons (cs_ret (ce_and (ce_isi ok_isBool (by decide +kernel) (by decide) (by decide) T.z_isinstance T.z_bool rfl rfl (ce_v 0 rfl (.inl rfl))) (ce_one (ce_cmp ok_eq (op_eqZ hr.units) (ce_v 0 rfl (.inl rfl)) (ce_v 1 rfl (.inl rfl)) (nomark _))))) cs_nil)
theorem body23 {T : Tops K mg} {n : Nat} (L : Lv P w K mg base T n) {cdv : Value} {A : Around} {outer : List Env} {s : Shared} {H : Hp} {E : XK} (hr : Room n (A.deeper (envOfC "_law_board" (defScope s23) s.heap.objs.size T.a23 cdv))) :
    CSs (cxOf CX0 P w K mg base N23 "_law_board" (defScope s23) T.a23 cdv A outer s H E).nox (run n) bf MM (defBody s23) b__law_board :=
  (cs_cons (cs_par3 (i := 4) (j := 5) (l := 6) rfl sc23.nd rfl rfl rfl (by decide) (by decide) (by decide) (fun h => ps_par3 rfl sc23.nd rfl rfl rfl (by decide) (by decide) (by decide) rfl rfl rfl h rfl) (cl_cons (ce_bin ok_add op_addZ ce_int (ce_call L.k20 L.l20 hr T.G20 T.F20.kp T.B20 rfl (ca_cons (ce_v 0 rfl (.inr (.inl rfl))) (ca_cons (ce_v 1 rfl (.inl rfl)) ca_nil)))) (cl_cons (ce_bin ok_add op_addZ ce_int (ce_call L.k20 L.l20 hr T.G20 T.F20.kp T.B20 rfl (ca_cons (ce_v 0 rfl (.inr (.inl rfl))) (ca_cons (ce_v 2 rfl (.inl rfl)) ca_nil)))) (cl_cons (ce_lst cv_nil (lenZ rfl)) cl_nil)))) (cs_cons (cs_par2 (i := 7) (j := 8) rfl sc23.nd rfl rfl (by decide) rfl rfl (cl_cons (ce_bin ok_mulS op_mulS (ce_lst (cv_cons ce_int cv_nil) (lenZ rfl)) (ce_v 4 rfl (.inl rfl))) (cl_cons (ce_bin ok_mulS op_mulS (ce_lst (cv_cons ce_int cv_nil) (lenZ rfl)) (ce_v 5 rfl (.inl rfl))) cl_nil)) rfl) (cs_cons (cs_ite (ct_cmp ok_IB op_gt (ce_call L.k20 L.l20 hr T.G20 T.F20.kp T.B20 rfl (ca_cons (ce_v 0 rfl (.inr (.inl rfl))) (ca_cons ce_int ca_nil))) ce_int (nomark _)) (cs_cons (cs_setLc 7 (hk := rfl) (hy := rfl) (hyl := rfl) (hl := by rfl) (hany := by decide +kernel) (own := [("_law_one", 9)]) (t := .n 9) rfl sc23.nd (fun _ h => h) (ci_seq (ce_v 7 rfl (.inl rfl))) (blkX (N := N23) (sc := (defScope s23)) (by decide +kernel)) (fun _ _ _ _ _ => (cg_n 9 sc23.nd rfl (.inl rfl))) (fun _ _ _ _ _ => pts0) (fun _ _ _ _ _ => (ce_bin ok_IC op_mulZ ce_int (ce_call L.k20 L.l20 hr T.G20 T.F20.kp T.B20 rfl (ca_cons (ce_v 0 rfl (.inr (.inl rfl))) (ca_cons ce_int ca_nil)))))) (cs_cons (cs_setLc 8 (hk := rfl) (hy := rfl) (hyl := rfl) (hl := by rfl) (hany := by decide +kernel) (own := [("_law_one", 9)]) (t := .n 9) rfl sc23.nd (fun _ h => h) (ci_seq (ce_v 8 rfl (.inl rfl))) (blkX (N := N23) (sc := (defScope s23)) (by decide +kernel)) (fun _ _ _ _ _ => (cg_n 9 sc23.nd rfl (.inl rfl))) (fun _ _ _ _ _ => pts0) (fun _ _ _ _ _ => (ce_bin ok_IC op_mulZ ce_int (ce_call L.k20 L.l20 hr T.G20 T.F20.kp T.B20 rfl (ca_cons (ce_v 0 rfl (.inr (.inl rfl))) (ca_cons ce_int ca_nil)))))) cs_nil)) cs_nil) (cs_cons (cs_for PassesOwn.never rfl (ci_range1 rfl T.z_range (ce_v 4 rfl (.inl rfl))) (cg_n 9 sc23.nd rfl (.inl rfl)) (cs_cons (cs_set 10 (ce_lst cv_nil (lenZ rfl)) sc23.nd rfl (.inl rfl)) (cs_cons (cs_for PassesOwn.never rfl (ci_range1 rfl T.z_range (ce_v 5 rfl (.inl rfl))) (cg_n 11 sc23.nd rfl (.inl rfl)) (cs_cons (cs_app 10 rfl (.inl rfl) (by decide) (by decide) (ce_tup (cv_cons (ce_bin ok_add op_addZ (ce_idx hr.units (fun _ _ => rfl) (ce_v 7 rfl (.inl rfl)) (ce_v 9 rfl (.inl rfl))) (ce_call L.k20 L.l20 hr T.G20 T.F20.kp T.B20 rfl (ca_cons (ce_v 0 rfl (.inr (.inl rfl))) (ca_cons (ce_v 3 rfl (.inl rfl)) ca_nil)))) (cv_cons (ce_bin ok_I2 op_sub (ce_bin ok_add op_addZ (ce_idx hr.units (fun _ _ => rfl) (ce_v 8 rfl (.inl rfl)) (ce_v 11 rfl (.inl rfl))) (ce_call L.k20 L.l20 hr T.G20 T.F20.kp T.B20 rfl (ca_cons (ce_v 0 rfl (.inr (.inl rfl))) (ca_cons (ce_v 3 rfl (.inl rfl)) ca_nil)))) ce_int) cv_nil)) (lenZ rfl))) cs_nil)) (cs_cons (cs_app 6 rfl (.inl rfl) (by decide) (by decide) (ce_ty1 ok_tupOf cr_tupOf (by decide +kernel) (by decide) (by decide) T.z_tuple rfl (ce_v 10 rfl (.inl rfl)))) cs_nil)))) (cs_cons (cs_ret (ce_ty1 ok_tupOf cr_tupOf (by decide +kernel) (by decide) (by decide) T.z_tuple rfl (ce_v 6 rfl (.inl rfl)))) cs_nil)))))
theorem body24 {T : Tops K mg} {n : Nat} (L : Lv P w K mg base T n) {cdv : Value} {A : Around} {outer : List Env} {s : Shared} {H : Hp} {E : XK} (hr : Room n (A.deeper (envOfC "_law_rows" (defScope s24) s.heap.objs.size T.a24 cdv))) :
    CSs (cxOf CX0 P w K mg base N24 "_law_rows" (defScope s24) T.a24 cdv A outer s H E).nox (run n) bf MM (defBody s24) b__law_rows :=
  (cs_cons (cs_ret (ce_lc (own := [("_law_one", 2)]) (t := .n 2) rfl sc24.nd (fun _ h => h) (ci_range1 rfl T.z_range (ce_b1 ok_len call_len (by decide +kernel) (by decide) (by decide) T.z_len rfl (ce_v 0 rfl (.inl rfl)))) (blkX (N := N24) (sc := (defScope s24)) (by decide +kernel)) (fun _ _ _ _ _ => (cg_n 2 sc24.nd rfl (.inl rfl))) (fun _ _ _ _ _ => (pts1 (ct_cmp ok_notIn (op_notInZD hr.units) (ce_v 2 rfl (.inl rfl)) (ce_v 1 rfl (.inr (.inl rfl))) (by with_unfolding_all rfl)))) (fun _ _ _ _ _ => (ce_v 2 rfl (.inl rfl))))) cs_nil)
theorem body25 {T : Tops K mg} {n : Nat} (L : Lv P w K mg base T n) {cdv : Value} {A : Around} {outer : List Env} {s : Shared} {H : Hp} {E : XK} (hr : Room n (A.deeper (envOfC "_law_columns" (defScope s25) s.heap.objs.size T.a25 cdv))) :
    CSs (cxOf CX0 P w K mg base N25 "_law_columns" (defScope s25) T.a25 cdv A outer s H E).nox (run n) bf MM (defBody s25) b__law_columns :=
  (cs_cons (cs_ret (ce_lc (own := [("_law_one", 2)]) (t := .n 2) rfl sc25.nd (fun _ h => h) (ci_range2 rfl T.z_range (ce_b1 ok_len call_len (by decide +kernel) (by decide) (by decide) T.z_len rfl (ce_v 0 rfl (.inl rfl))) (ce_bin ok_add op_addZ (ce_b1 ok_len call_len (by decide +kernel) (by decide) (by decide) T.z_len rfl (ce_v 0 rfl (.inl rfl))) (ce_b1 ok_len call_len (by decide +kernel) (by decide) (by decide) T.z_len rfl (ce_idx hr.units (fun _ _ => rfl) (ce_v 0 rfl (.inl rfl)) ce_int)))) (blkX (N := N25) (sc := (defScope s25)) (by decide +kernel)) (fun _ _ _ _ _ => (cg_n 2 sc25.nd rfl (.inl rfl))) (fun _ _ _ _ _ => (pts1 (ct_cmp ok_notIn (op_notInZD hr.units) (ce_v 2 rfl (.inl rfl)) (ce_v 1 rfl (.inr (.inl rfl))) (by with_unfolding_all rfl)))) (fun _ _ _ _ _ => (ce_v 2 rfl (.inl rfl))))) cs_nil)
theorem body26 {T : Tops K mg} {n : Nat} (L : Lv P w K mg base T n) {cdv : Value} {A : Around} {outer : List Env} {s : Shared} {H : Hp} {E : XK} (hr : Room n (A.deeper (envOfC "_law_numbers" (defScope s26) s.heap.objs.size T.a26 cdv))) :
    CSs (cxOf CX0 P w K mg base N26 "_law_numbers" (defScope s26) T.a26 cdv A outer s H E).nox (run n) bf MM (defBody s26) b__law_numbers :=
  (cs_cons (cs_ite (ct_cmp ok_IB op_lt (ce_v 2 rfl (.inr (.inl rfl))) (ce_b1 ok_len call_len (by decide +kernel) (by decide) (by decide) T.z_len rfl (ce_v 0 rfl (.inr (.inl rfl)))) (nomark _)) (cs_cons (cs_ret (ce_lc (own := [("_law_one", 3)]) (t := .n 3) rfl sc26.nd (fun _ h => h) (ci_seq (ce_call L.k25 L.l25 hr T.G25 T.F25.kp T.B25 rfl (ca_cons (ce_v 0 rfl (.inr (.inl rfl))) (ca_cons (ce_v 1 rfl (.inl rfl)) ca_nil)))) (blkX (N := N26) (sc := (defScope s26)) (by decide +kernel)) (fun _ _ _ _ _ => (cg_n 3 sc26.nd rfl (.inl rfl))) (fun _ _ _ _ _ => pts0) (fun _ _ _ _ _ => (ce_idx hr.units (fun _ _ => rfl) (ce_idx hr.units (fun _ _ => rfl) (ce_idx hr.units (fun _ _ => rfl) (ce_v 0 rfl (.inr (.inl rfl))) (ce_v 2 rfl (.inr (.inl rfl)))) (ce_bin ok_I2 op_sub (ce_v 3 rfl (.inl rfl)) (ce_b1 ok_len call_len (by decide +kernel) (by decide) (by decide) T.z_len rfl (ce_v 0 rfl (.inr (.inl rfl)))))) ce_int)))) cs_nil) cs_nil) (cs_cons (cs_ret (ce_lc (own := [("_law_one", 3)]) (t := .n 3) rfl sc26.nd (fun _ h => h) (ci_seq (ce_call L.k24 L.l24 hr T.G24 T.F24.kp T.B24 rfl (ca_cons (ce_v 0 rfl (.inr (.inl rfl))) (ca_cons (ce_v 1 rfl (.inl rfl)) ca_nil)))) (blkX (N := N26) (sc := (defScope s26)) (by decide +kernel)) (fun _ _ _ _ _ => (cg_n 3 sc26.nd rfl (.inl rfl))) (fun _ _ _ _ _ => pts0) (fun _ _ _ _ _ => (ce_idx hr.units (fun _ _ => rfl) (ce_idx hr.units (fun _ _ => rfl) (ce_idx hr.units (fun _ _ => rfl) (ce_v 0 rfl (.inr (.inl rfl))) (ce_v 3 rfl (.inl rfl))) (ce_bin ok_I2 op_sub (ce_v 2 rfl (.inr (.inl rfl))) (ce_b1 ok_len call_len (by decide +kernel) (by decide) (by decide) T.z_len rfl (ce_v 0 rfl (.inr (.inl rfl)))))) ce_int)))) cs_nil))
theorem body27 {T : Tops K mg} {n : Nat} (L : Lv P w K mg base T n) {cdv : Value} {A : Around} {outer : List Env} {s : Shared} {H : Hp} {E : XK} (hr : Room n (A.deeper (envOfC "_law_answers" (defScope s27) s.heap.objs.size T.a27 cdv))) :
    CSs (cxOf CX0 P w K mg base N27 "_law_answers" (defScope s27) T.a27 cdv A outer s H E).nox (run n) bf MM (defBody s27) b__law_answers :=
  (cs_cons (cs_set 3 (ce_b1 ok_len call_len (by decide +kernel) (by decide) (by decide) T.z_len rfl (ce_v 0 rfl (.inr (.inl rfl)))) sc27.nd rfl (.inr rfl)) (cs_cons (cs_ite (ct_cmp ok_IB op_lt (ce_v 2 rfl (.inr (.inl rfl))) (ce_v 3 rfl (.inr (.inl rfl))) (nomark _)) (cs_cons (cs_setLc 4 (hk := rfl) (hy := rfl) (hyl := rfl) (hl := by rfl) (hany := by decide +kernel) (own := [("_law_one", 7)]) (t := .n 7) rfl sc27.nd (fun _ h => h) (ci_seq (ce_call L.k25 L.l25 hr T.G25 T.F25.kp T.B25 rfl (ca_cons (ce_v 0 rfl (.inr (.inl rfl))) (ca_cons (ce_v 1 rfl (.inl rfl)) ca_nil)))) (blkX (N := N27) (sc := (defScope s27)) (by decide +kernel)) (fun _ _ _ _ _ => (cg_n 7 sc27.nd rfl (.inl rfl))) (fun _ _ _ _ _ => pts0) (fun _ _ _ _ _ => (ce_tup (cv_cons (ce_idx hr.units (fun _ _ => rfl) (ce_idx hr.units (fun _ _ => rfl) (ce_idx hr.units (fun _ _ => rfl) (ce_v 0 rfl (.inr (.inl rfl))) (ce_v 2 rfl (.inr (.inl rfl)))) (ce_bin ok_I2 op_sub (ce_v 7 rfl (.inl rfl)) (ce_v 3 rfl (.inr (.inl rfl))))) ce_int) (cv_cons (ce_v 7 rfl (.inl rfl)) cv_nil)) (lenZ rfl)))) cs_nil) (cs_cons (cs_setLc 4 (hk := rfl) (hy := rfl) (hyl := rfl) (hl := by rfl) (hany := by decide +kernel) (own := [("_law_one", 7)]) (t := .n 7) rfl sc27.nd (fun _ h => h) (ci_seq (ce_call L.k24 L.l24 hr T.G24 T.F24.kp T.B24 rfl (ca_cons (ce_v 0 rfl (.inr (.inl rfl))) (ca_cons (ce_v 1 rfl (.inl rfl)) ca_nil)))) (blkX (N := N27) (sc := (defScope s27)) (by decide +kernel)) (fun _ _ _ _ _ => (cg_n 7 sc27.nd rfl (.inl rfl))) (fun _ _ _ _ _ => pts0) (fun _ _ _ _ _ => (ce_tup (cv_cons (ce_idx hr.units (fun _ _ => rfl) (ce_idx hr.units (fun _ _ => rfl) (ce_idx hr.units (fun _ _ => rfl) (ce_v 0 rfl (.inr (.inl rfl))) (ce_v 7 rfl (.inl rfl))) (ce_bin ok_I2 op_sub (ce_v 2 rfl (.inr (.inl rfl))) (ce_v 3 rfl (.inr (.inl rfl))))) ce_int) (cv_cons (ce_v 7 rfl (.inl rfl)) cv_nil)) (lenZ rfl)))) cs_nil)) (cs_cons (cs_set 5 (ce_idx hr.units (fun _ _ => rfl) (ce_b1 ok_maxS (cr_maxS rfl hr.units) (by decide +kernel) (by decide) (by decide) T.z_max rfl (ce_v 4 rfl (.inl rfl))) ce_int) sc27.nd rfl (.inr rfl)) (cs_cons (cs_ret (ce_lc (own := [("_law_number", 6), ("_law_one", 7)]) (t := .t (.n 6) (.n 7)) rfl sc27.nd (fun _ h => h) (ci_seq (ce_v 4 rfl (.inl rfl))) (blkX (N := N27) (sc := (defScope s27)) (by decide +kernel)) (fun _ _ _ _ _ => (cg_t rfl (cg_n 6 sc27.nd rfl (.inl rfl)) (cg_n 7 sc27.nd rfl (.inl rfl)))) (fun _ _ _ _ _ => (pts1 (ct_cmp ok_eq (op_eqZ hr.units) (ce_v 6 rfl (.inl rfl)) (ce_v 5 rfl (.inr (.inl rfl))) (nomark _)))) (fun _ _ _ _ _ => (ce_v 7 rfl (.inl rfl))))) cs_nil))))
theorem body28 {T : Tops K mg} {n : Nat} (L : Lv P w K mg base T n) {cdv : Value} {A : Around} {outer : List Env} {s : Shared} {H : Hp} {E : XK} (hr : Room n (A.deeper (envOfC "_law_bests" (defScope s28) s.heap.objs.size T.a28 cdv))) :
    CSs (cxOf CX0 P w K mg base N28 "_law_bests" (defScope s28) T.a28 cdv A outer s H E).nox (run n) bf MM (defBody s28) b__law_bests :=
  (cs_cons (cs_set 2 (ce_lst cv_nil (lenZ rfl)) sc28.nd rfl (.inl rfl)) (cs_cons (cs_for PassesOwn.never rfl (ci_seq (ce_call L.k24 L.l24 hr T.G24 T.F24.kp T.B24 rfl (ca_cons (ce_v 0 rfl (.inl rfl)) (ca_cons (ce_v 1 rfl (.inl rfl)) ca_nil)))) (cg_n 3 sc28.nd rfl (.inl rfl)) (cs_cons (cs_for PassesOwn.never rfl (ci_seq (ce_call L.k25 L.l25 hr T.G25 T.F25.kp T.B25 rfl (ca_cons (ce_v 0 rfl (.inl rfl)) (ca_cons (ce_v 1 rfl (.inl rfl)) ca_nil)))) (cg_n 4 sc28.nd rfl (.inl rfl)) (cs_cons (cs_ite (PW.pt (ct_and (ct_cmp ok_in (op_inZD hr.units) (ce_v 3 rfl (.inl rfl)) (ce_call L.k27 L.l27 hr T.G27 T.F27.kp T.B27 rfl (ca_cons (ce_v 0 rfl (.inl rfl)) (ca_cons (ce_v 1 rfl (.inl rfl)) (ca_cons (ce_v 4 rfl (.inl rfl)) ca_nil)))) (by with_unfolding_all rfl)) (ct_and1 (ct_cmp ok_in (op_inZD hr.units) (ce_v 4 rfl (.inl rfl)) (ce_call L.k27 L.l27 hr T.G27 T.F27.kp T.B27 rfl (ca_cons (ce_v 0 rfl (.inl rfl)) (ca_cons (ce_v 1 rfl (.inl rfl)) (ca_cons (ce_v 3 rfl (.inl rfl)) ca_nil)))) (by with_unfolding_all rfl))))) (cs_cons (cs_app 2 rfl (.inl rfl) (by decide) (by decide) (ce_tup (cv_cons (ce_v 3 rfl (.inl rfl)) (cv_cons (ce_v 4 rfl (.inl rfl)) cv_nil)) (lenZ rfl))) cs_nil) cs_nil) cs_nil)) cs_nil)) (cs_cons (cs_ret (ce_ty1 ok_tupOf cr_tupOf (by decide +kernel) (by decide) (by decide) T.z_tuple rfl (ce_v 2 rfl (.inl rfl)))) cs_nil)))
theorem body29 {T : Tops K mg} {n : Nat} (L : Lv P w K mg base T n) {cdv : Value} {A : Around} {outer : List Env} {s : Shared} {H : Hp} {E : XK} (hr : Room n (A.deeper (envOfC "law" (defScope s29) s.heap.objs.size T.a29 cdv))) :
    CSs (cxOf CX0 P w K mg base N29 "law" (defScope s29) T.a29 cdv A outer s H E).nox (run n) bf MM (defBody s29) b_law :=
  (cs_cons (cs_set 1 (ce_lst (cv_cons (ce_v 0 rfl (.inl rfl)) (cv_cons ce_int (cv_cons ce_int (cv_cons ce_int cv_nil)))) (lenZ rfl)) sc29.nd rfl (.inl rfl)) (cs_cons (cs_set 2 (ce_call L.k23 L.l23 hr T.G23 T.F23.kp T.B23 rfl (ca_cons (ce_v 1 rfl (.inl rfl)) (ca_cons ce_int (ca_cons ce_int (ca_cons ce_int ca_nil))))) sc29.nd rfl (.inr rfl)) (cs_cons (cs_ite (ct_cmp ok_eq (op_eqZ hr.units) (ce_call L.k20 L.l20 hr T.G20 T.F20.kp T.B20 rfl (ca_cons (ce_v 1 rfl (.inl rfl)) (ca_cons ce_int ca_nil))) ce_int (nomark _)) (cs_cons (cs_set 2 (ce_ty1 ok_tupOf cr_tupOf (by decide +kernel) (by decide) (by decide) T.z_tuple rfl (ce_lc (own := [("_law_told", 11)]) (t := .n 11) rfl sc29.nd (fun _ h => h) (ci_seq (ce_v 2 rfl (.inr (.inl rfl)))) (blkX (N := N29) (sc := (defScope s29)) (by decide +kernel)) (fun _ _ _ _ _ => (cg_n 11 sc29.nd rfl (.inl rfl))) (fun _ _ _ _ _ => pts0) (fun _ _ _ _ _ => (ce_ty1 ok_tupOf cr_tupOf (by decide +kernel) (by decide) (by decide) T.z_tuple rfl (ce_lc (own := [("_law_a", 21), ("_law_b", 22)]) (t := .t (.n 21) (.n 22)) rfl sc29.nd (fun _ h => h) (ci_seq (ce_v 11 rfl (.inl rfl))) (blkX (N := N29) (sc := (relS _ (defScope s29))) (by decide +kernel)) (fun _ _ _ _ _ => (cg_t rfl (cg_n 21 sc29.nd rfl (.inl rfl)) (cg_n 22 sc29.nd rfl (.inl rfl)))) (fun _ _ _ _ _ => pts0) (fun _ _ _ _ _ => (ce_tup (cv_cons (ce_v 21 rfl (.inl rfl)) (cv_cons (ce_bin ok_I2 op_sub ce_int (ce_v 21 rfl (.inl rfl))) cv_nil)) (lenZ rfl)))))))) sc29.nd rfl (.inr rfl)) cs_nil) cs_nil) (cs_cons (cs_par2 (i := 3) (j := 4) rfl sc29.nd rfl rfl (by decide) rfl rfl (cl_cons (ce_b1 ok_len call_len (by decide +kernel) (by decide) (by decide) T.z_len rfl (ce_v 2 rfl (.inr (.inl rfl)))) (cl_cons (ce_b1 ok_len call_len (by decide +kernel) (by decide) (by decide) T.z_len rfl (ce_idx hr.units (fun _ _ => rfl) (ce_v 2 rfl (.inr (.inl rfl))) ce_int)) cl_nil)) rfl) (cs_cons (cs_set 5 (ce_lc (own := [("_law_line", 19)]) (t := .n 19) rfl sc29.nd (fun _ h => h) (ci_range1 rfl T.z_range (ce_bin ok_add op_addZ (ce_v 3 rfl (.inl rfl)) (ce_v 4 rfl (.inl rfl)))) (blkX (N := N29) (sc := (defScope s29)) (by decide +kernel)) (fun _ _ _ _ _ => (cg_n 19 sc29.nd rfl (.inl rfl))) (fun _ _ _ _ _ => pts0) (fun _ _ _ _ _ => (ce_b1 ok_minS (cr_minS rfl hr.units) (by decide +kernel) (by decide) (by decide) T.z_min rfl (ce_call L.k26 L.l26 hr T.G26 T.F26.kp T.B26 rfl (ca_cons (ce_v 2 rfl (.inr (.inl rfl))) (ca_cons (ce_tup cv_nil (lenZ rfl)) (ca_cons (ce_v 19 rfl (.inl rfl)) ca_nil))))))) sc29.nd rfl (.inr rfl)) (cs_cons (cs_parT2 rfl (by decide) (pg_name (i := 6) sc29.nd rfl (.inr rfl)) (pg_name (i := 7) sc29.nd rfl (.inr rfl)) (cl_cons (ce_b1 ok_maxS (cr_maxS rfl hr.units) (by decide +kernel) (by decide) (by decide) T.z_max rfl (ce_slT (ce_v 5 rfl (.inr (.inl rfl))) (ce_v 3 rfl (.inl rfl)))) (cl_cons (ce_b1 ok_maxS (cr_maxS rfl hr.units) (by decide +kernel) (by decide) (by decide) T.z_max rfl (ce_slF (ce_v 5 rfl (.inr (.inl rfl))) (ce_v 3 rfl (.inl rfl)))) cl_nil)) (hw := rfl)) (cs_cons (cs_ite (ct_not (ct_of (fun _ h => pt_val h) (ce_call L.k21 L.l21 hr T.G21 T.F21.kp T.B21 rfl (ca_cons (ce_call L.k11 L.l11 hr T.G11 T.F11.kp T.B11 rfl (ca_cons (ce_v 2 rfl (.inr (.inl rfl))) ca_nil)) (ca_cons (ce_tup (cv_cons (ce_v 6 rfl (.inr (.inl rfl))) (cv_cons (ce_v 7 rfl (.inr (.inl rfl))) cv_nil)) (lenZ rfl)) ca_nil))))) (cs_cons (cs_ret ce_bl) cs_nil) cs_nil) (cs_cons (cs_setLc 8 (hk := rfl) (hy := rfl) (hyl := rfl) (hl := by rfl) (hany := by decide +kernel) (own := [("_law_line", 19)]) (t := .n 19) rfl sc29.nd (fun _ h => h) (ci_range1 rfl T.z_range (ce_v 3 rfl (.inl rfl))) (blkX (N := N29) (sc := (defScope s29)) (by decide +kernel)) (fun _ _ _ _ _ => (cg_n 19 sc29.nd rfl (.inl rfl))) (fun _ _ _ _ _ => (pts1 (ct_cmp ok_eq (op_eqZ hr.units) (ce_idx hr.units (fun _ _ => rfl) (ce_v 5 rfl (.inr (.inl rfl))) (ce_v 19 rfl (.inl rfl))) (ce_v 6 rfl (.inr (.inl rfl))) (nomark _)))) (fun _ _ _ _ _ => (ce_v 19 rfl (.inl rfl)))) (cs_cons (cs_set 8 (ce_bin ok_add op_addZ (ce_v 8 rfl (.inl rfl)) (ce_lc (own := [("_law_line", 19)]) (t := .n 19) rfl sc29.nd (fun _ h => h) (ci_range2 rfl T.z_range (ce_v 3 rfl (.inl rfl)) (ce_bin ok_add op_addZ (ce_v 3 rfl (.inl rfl)) (ce_v 4 rfl (.inl rfl)))) (blkX (N := N29) (sc := (defScope s29)) (by decide +kernel)) (fun _ _ _ _ _ => (cg_n 19 sc29.nd rfl (.inl rfl))) (fun _ _ _ _ _ => (pts1 (ct_cmp ok_eq (op_eqZ hr.units) (ce_idx hr.units (fun _ _ => rfl) (ce_v 5 rfl (.inr (.inl rfl))) (ce_v 19 rfl (.inl rfl))) (ce_v 7 rfl (.inr (.inl rfl))) (nomark _)))) (fun _ _ _ _ _ => (ce_v 19 rfl (.inl rfl))))) sc29.nd rfl (.inl rfl)) (cs_cons (cs_ite (ct_not (ct_of (fun _ h => pt_val h) (ce_call L.k21 L.l21 hr T.G21 T.F21.kp T.B21 rfl (ca_cons (ce_call L.k12 L.l12 hr T.G12 T.F12.kp T.B12 rfl (ca_cons (ce_v 2 rfl (.inr (.inl rfl))) ca_nil)) (ca_cons (ce_ty1 ok_tupOf cr_tupOf (by decide +kernel) (by decide) (by decide) T.z_tuple rfl (ce_v 8 rfl (.inl rfl))) ca_nil))))) (cs_cons (cs_ret ce_bl) cs_nil) cs_nil) (cs_cons (cs_par2 (i := 9) (j := 10) rfl sc29.nd rfl rfl (by decide) rfl rfl (cl_cons (ce_lst cv_nil (lenZ rfl)) (cl_cons ce_str cl_nil)) rfl) (cs_cons (cs_for PassesOwn.never rfl (ci_seq (ce_v 2 rfl (.inr (.inl rfl)))) (cg_n 11 sc29.nd rfl (.inl rfl)) (cs_cons (cs_set 9 (ce_bin ok_add op_addZ (ce_v 9 rfl (.inl rfl)) (ce_lc (own := [("_law_a", 21), ("_law_b", 22)]) (t := .t (.n 21) (.n 22)) rfl sc29.nd (fun _ h => h) (ci_seq (ce_v 11 rfl (.inl rfl))) (blkX (N := N29) (sc := (defScope s29)) (by decide +kernel)) (fun _ _ _ _ _ => (cg_t rfl (cg_n 21 sc29.nd rfl (.inl rfl)) (cg_n 22 sc29.nd rfl (.inl rfl)))) (fun _ _ _ _ _ => (pts1 (ct_cmp ok_ne (op_neZ hr.units) (ce_bin ok_add op_addZ (ce_v 21 rfl (.inl rfl)) (ce_v 22 rfl (.inl rfl))) ce_int (nomark _)))) (fun _ _ _ _ _ => ce_int))) sc29.nd rfl (.inl rfl)) cs_nil)) (cs_cons (cs_ite (ct_not (ct_of (fun _ h => pt_val h) (ce_call L.k22 L.l22 hr T.G22 T.F22.kp T.B22 rfl (ca_cons (ce_call L.k13 L.l13 hr T.G13 T.F13.kp T.B13 rfl (ca_cons (ce_v 2 rfl (.inr (.inl rfl))) ca_nil)) (ca_cons (ce_cmp ok_eq (op_eqZ hr.units) (ce_v 9 rfl (.inl rfl)) (ce_lst cv_nil (lenZ rfl)) (nomark _)) ca_nil))))) (cs_cons (cs_ret ce_bl) cs_nil) cs_nil) (cs_cons (cs_try 13 rfl rfl sc29.nd rfl rfl rfl (by decide) T.g_NotAgainst T.e_NotAgainst (fun W pn xe tk hpo => (csW_cons (csW_of (cs_set 12 (ce_call L.k28 L.l28 hr T.G28 T.F28.kp T.B28 rfl (ca_cons (ce_v 2 rfl (.inr (.inl rfl))) (ca_cons (ce_tup cv_nil (lenZ rfl)) ca_nil))) sc29.nd rfl (.inl rfl))) (csW_cons (csW_may (ld_if (ld_not (ld_t (ld_arg L.k21 hr T.G21 T.F21.kp T.B21 rfl (ld_call L.x16 L.xl16 tk hr T.G16 T.F16.kp T.B16 rfl (ca_cons (ce_v 2 rfl (.inr (.inl rfl))) ca_nil)) (ca_rest (run n) bf (ca_cons (ce_ite (ct_cmp ok_ne (op_neZ hr.units) (ce_v 12 rfl (.inl rfl)) (ce_tup cv_nil (lenZ rfl)) (nomark _)) (ce_idx hr.units (fun _ _ => rfl) (ce_idx hr.units (fun _ _ => rfl) (ce_idx hr.units (fun _ _ => rfl) (ce_v 2 rfl (.inr (.inl rfl))) (ce_idx hr.units (fun _ _ => rfl) (ce_idx hr.units (fun _ _ => rfl) (ce_v 12 rfl (.inl rfl)) ce_int) ce_int)) (ce_bin ok_I2 op_sub (ce_idx hr.units (fun _ _ => rfl) (ce_idx hr.units (fun _ _ => rfl) (ce_v 12 rfl (.inl rfl)) ce_int) ce_int) (ce_v 3 rfl (.inl rfl)))) ce_int) ce_non) ca_nil)))))) (csW_ite (ct_not (ct_of (fun _ h => pt_val h) (ce_call L.k21 L.l21 hr T.G21 T.F21.kp T.B21 rfl (ca_cons (ce_call L.k16 L.l16 hr T.G16 T.F16.kp T.B16 rfl (ca_cons (ce_v 2 rfl (.inr (.inl rfl))) ca_nil)) (ca_cons (ce_ite (ct_cmp ok_ne (op_neZ hr.units) (ce_v 12 rfl (.inl rfl)) (ce_tup cv_nil (lenZ rfl)) (nomark _)) (ce_idx hr.units (fun _ _ => rfl) (ce_idx hr.units (fun _ _ => rfl) (ce_idx hr.units (fun _ _ => rfl) (ce_v 2 rfl (.inr (.inl rfl))) (ce_idx hr.units (fun _ _ => rfl) (ce_idx hr.units (fun _ _ => rfl) (ce_v 12 rfl (.inl rfl)) ce_int) ce_int)) (ce_bin ok_I2 op_sub (ce_idx hr.units (fun _ _ => rfl) (ce_idx hr.units (fun _ _ => rfl) (ce_v 12 rfl (.inl rfl)) ce_int) ce_int) (ce_v 3 rfl (.inl rfl)))) ce_int) ce_non) ca_nil))))) (csW_cons (csW_of (cs_ret ce_bl)) csW_nil) csW_nil)) (csW_cons (csW_ite (PW.pt (ct_or (ct_not (ct_of (fun _ h => pt_val h) (ce_call L.k21 L.l21 hr T.G21 T.F21.kp T.B21 rfl (ca_cons (ce_call L.k17 L.l17 hr T.G17 T.F17.kp T.B17 rfl (ca_cons (ce_v 2 rfl (.inr (.inl rfl))) ca_nil)) (ca_cons (ce_bin ok_I2 op_sub (ce_bin ok_I2 op_sub ce_int (ce_v 6 rfl (.inr (.inl rfl)))) (ce_v 7 rfl (.inr (.inl rfl)))) ca_nil))))) (ct_or1 (ct_cmp ok_ne (op_neZ hr.units) (ce_cmp ok_eq (op_eqZ hr.units) (ce_call L.k17 L.l17 hr T.G17 T.F17.kp T.B17 rfl (ca_cons (ce_v 2 rfl (.inr (.inl rfl))) ca_nil)) ce_int (nomark _)) (ce_cmp ok_ne (op_neZ hr.units) (ce_v 12 rfl (.inl rfl)) (ce_tup cv_nil (lenZ rfl)) (nomark _)) (nomark _))))) (csW_cons (csW_of (cs_ret ce_bl)) csW_nil) csW_nil) (csW_cons (csW_ite (ct_cmp ok_IB op_lt (ce_call L.k17 L.l17 hr T.G17 T.F17.kp T.B17 rfl (ca_cons (ce_v 2 rfl (.inr (.inl rfl))) ca_nil)) ce_int (nomark _)) (csW_cons (csW_of (cs_ret ce_bl)) csW_nil) csW_nil) csW_nil))))) (fun a oe pn => (cs_cons (cs_set 10 ce_str sc29.nd rfl (.inl rfl)) cs_nil))) (cs_cons (cs_ite (ct_cmp ok_ne (op_neZ hr.units) (ce_cmp ok_eq (op_eqZ hr.units) (ce_v 10 rfl (.inl rfl)) ce_str (nomark _)) (ce_cmp ok_eq (op_eqZ hr.units) (ce_v 9 rfl (.inl rfl)) (ce_lst cv_nil (lenZ rfl)) (nomark _)) (nomark _)) (cs_cons (cs_ret ce_bl) cs_nil) cs_nil) (cs_cons (cs_par2 (i := 14) (j := 15) rfl sc29.nd rfl rfl (by decide) rfl rfl (cl_cons (ce_call L.k20 L.l20 hr T.G20 T.F20.kp T.B20 rfl (ca_cons (ce_v 1 rfl (.inl rfl)) (ca_cons (ce_v 3 rfl (.inl rfl)) ca_nil))) (cl_cons (ce_call L.k20 L.l20 hr T.G20 T.F20.kp T.B20 rfl (ca_cons (ce_v 1 rfl (.inl rfl)) (ca_cons ce_int ca_nil))) cl_nil)) rfl) (cs_cons (cs_set 16 (ce_lst (cv_cons (ce_v 14 rfl (.inl rfl)) cv_nil) (lenZ rfl)) sc29.nd rfl (.inl rfl)) (cs_cons (cs_for PassesOwn.never rfl (ci_range1 rfl T.z_range ce_int) (cg_n 17 sc29.nd rfl (.inl rfl)) (cs_cons (cs_app 16 rfl (.inl rfl) (by decide) (by decide) (ce_idx hr.units (fun _ _ => rfl) (ce_call L.k27 L.l27 hr T.G27 T.F27.kp T.B27 rfl (ca_cons (ce_v 2 rfl (.inr (.inl rfl))) (ca_cons (ce_tup cv_nil (lenZ rfl)) (ca_cons (ce_idx hr.units (fun _ _ => rfl) (ce_v 16 rfl (.inl rfl)) (ce_un ok_I1 un_neg ce_int)) ca_nil)))) ce_int)) cs_nil)) (cs_cons (cs_ite (ct_not (ct_of (fun _ h => pt_val h) (ce_call L.k21 L.l21 hr T.G21 T.F21.kp T.B21 rfl (ca_cons (ce_call L.k18 L.l18 hr T.G18 T.F18.kp T.B18 rfl (ca_cons (ce_v 2 rfl (.inr (.inl rfl))) (ca_cons (ce_v 14 rfl (.inl rfl)) (ca_cons (ce_v 15 rfl (.inl rfl)) ca_nil)))) (ca_cons (ce_ty1 ok_tupOf cr_tupOf (by decide +kernel) (by decide) (by decide) T.z_tuple rfl (ce_slT (ce_v 16 rfl (.inl rfl)) (ce_bin ok_add op_addZ (ce_v 15 rfl (.inl rfl)) ce_int))) ca_nil))))) (cs_cons (cs_ret ce_bl) cs_nil) cs_nil) (cs_cons (cs_set 18 (ce_lst (cv_cons (ce_idx hr.units (fun _ _ => rfl) (ce_v 16 rfl (.inl rfl)) ce_int) cv_nil) (lenZ rfl)) sc29.nd rfl (.inl rfl)) (cs_cons (cs_for PassesOwn.never rfl (ci_seq (ce_slF (ce_v 16 rfl (.inl rfl)) ce_int)) (cg_n 19 sc29.nd rfl (.inl rfl)) (cs_cons (cs_ite (ct_cmp ok_notIn (op_notInZD hr.units) (ce_v 19 rfl (.inl rfl)) (ce_v 18 rfl (.inl rfl)) (by with_unfolding_all rfl)) (cs_cons (cs_app 18 rfl (.inl rfl) (by decide) (by decide) (ce_v 19 rfl (.inl rfl))) cs_nil) cs_nil) cs_nil)) (cs_cons (cs_set 20 (ce_index hr.units (ce_v 18 rfl (.inl rfl)) (ca_cons (ce_b1 ok_minS (cr_minS rfl hr.units) (by decide +kernel) (by decide) (by decide) T.z_min rfl (ce_v 18 rfl (.inl rfl))) ca_nil)) sc29.nd rfl (.inl rfl)) (cs_cons (cs_ret (ce_call L.k21 L.l21 hr T.G21 T.F21.kp T.B21 rfl (ca_cons (ce_call L.k19 L.l19 hr T.G19 T.F19.kp T.B19 rfl (ca_cons (ce_v 2 rfl (.inr (.inl rfl))) (ca_cons (ce_v 14 rfl (.inl rfl)) ca_nil))) (ca_cons (ce_ty1 ok_tupOf cr_tupOf (by decide +kernel) (by decide) (by decide) T.z_tuple rfl (ce_bin ok_add op_addZ (ce_slF (ce_v 18 rfl (.inl rfl)) (ce_v 20 rfl (.inl rfl))) (ce_slT (ce_v 18 rfl (.inl rfl)) (ce_v 20 rfl (.inl rfl))))) ca_nil)))) cs_nil)))))))))))))))))))))))
theorem bodyX15 {T : Tops K mg} {n : Nat} (L : Lv P w K mg base T n) {cdv : Value} {A : Around} {outer : List Env} {s : Shared} {H : Hp} {E : XK} (hr : Room n (A.deeper (envOfC "need_against" (defScope s15) s.heap.objs.size T.a15 cdv))) :
    CSsW (cxOf (L2.CX P w) P w K mg base N15 "need_against" (defScope s15) T.a15 cdv A outer s H E) (fun cls d _ H => E cls d H) (run n) bf MM (defBody s15) b_need_against := by
  have tk : Takes (cxOf (L2.CX P w) P w K mg base N15 "need_against" (defScope s15) T.a15 cdv A outer s H E) (fun cls d _ H => E cls d H) := takes_of rfl rfl rfl rfl
  have hpo : PassesOwn (model P w) (A.deeper (envOfC "need_against" (defScope s15) s.heap.objs.size T.a15 cdv)) (cxOf (L2.CX P w) P w K mg base N15 "need_against" (defScope s15) T.a15 cdv A outer s H E).env (cxOf (L2.CX P w) P w K mg base N15 "need_against" (defScope s15) T.a15 cdv A outer s H E).xe := passes_of rfl
  exact (csW_cons (csW_of (cs_expr (ce_call L.k4 L.l4 hr T.G4 T.F4.kp T.B4 rfl (ca_cons (ce_v 0 rfl (.inl rfl)) ca_nil)))) (csW_cons (csW_ite (ct_not (ct_of (fun _ h => pt_val h) (ce_call L.k14 L.l14 hr T.G14 T.F14.kp T.B14 rfl (ca_cons (ce_v 0 rfl (.inl rfl)) ca_nil)))) (csW_cons (csW_raise rfl tk (pmk_own0 PySem.F.excBase_ValueError T.x_NotAgainst T.g_NotAgainst T.p_NotAgainst (raises_own T.b_NotAgainst T.t_NotAgainst) rfl) T.g_NotAgainst) csW_nil) csW_nil) csW_nil))
theorem bodyX16 {T : Tops K mg} {n : Nat} (L : Lv P w K mg base T n) {cdv : Value} {A : Around} {outer : List Env} {s : Shared} {H : Hp} {E : XK} (hr : Room n (A.deeper (envOfC "saddle" (defScope s16) s.heap.objs.size T.a16 cdv))) :
    CSsW (cxOf (L2.CX P w) P w K mg base N16 "saddle" (defScope s16) T.a16 cdv A outer s H E) (fun cls d _ H => E cls d H) (run n) bf MM (defBody s16) b_saddle := by
  have tk : Takes (cxOf (L2.CX P w) P w K mg base N16 "saddle" (defScope s16) T.a16 cdv A outer s H E) (fun cls d _ H => E cls d H) := takes_of rfl rfl rfl rfl
  have hpo : PassesOwn (model P w) (A.deeper (envOfC "saddle" (defScope s16) s.heap.objs.size T.a16 cdv)) (cxOf (L2.CX P w) P w K mg base N16 "saddle" (defScope s16) T.a16 cdv A outer s H E).env (cxOf (L2.CX P w) P w K mg base N16 "saddle" (defScope s16) T.a16 cdv A outer s H E).xe := passes_of rfl
  exact (csW_cons (csW_may (ld_expr (ld_call L.x15 L.xl15 tk hr T.G15 T.F15.kp T.B15 rfl (ca_cons (ce_v 0 rfl (.inl rfl)) ca_nil))) (csW_of (cs_expr (ce_call L.k15 L.l15 hr T.G15 T.F15.kp T.B15 rfl (ca_cons (ce_v 0 rfl (.inl rfl)) ca_nil))))) (csW_cons (csW_of (cs_set 1 (ce_call L.k10 L.l10 hr T.G10 T.F10.kp T.B10 rfl (ca_cons (ce_v 0 rfl (.inl rfl)) (ca_cons (ce_tup cv_nil (lenZ rfl)) ca_nil))) sc16.nd rfl (.inl rfl))) (csW_cons (csW_of (cs_ret (ce_ite (ct_cmp ok_ne (op_neZ hr.units) (ce_v 1 rfl (.inl rfl)) (ce_lst cv_nil (lenZ rfl)) (nomark _)) (ce_idx hr.units (fun _ _ => rfl) (ce_idx hr.units (fun _ _ => rfl) (ce_idx hr.units (fun _ _ => rfl) (ce_v 0 rfl (.inl rfl)) (ce_idx hr.units (fun _ _ => rfl) (ce_idx hr.units (fun _ _ => rfl) (ce_v 1 rfl (.inl rfl)) ce_int) ce_int)) (ce_bin ok_I2 op_sub (ce_idx hr.units (fun _ _ => rfl) (ce_idx hr.units (fun _ _ => rfl) (ce_v 1 rfl (.inl rfl)) ce_int) ce_int) (ce_b1 ok_len call_len (by decide +kernel) (by decide) (by decide) T.z_len rfl (ce_v 0 rfl (.inl rfl))))) ce_int) ce_non))) csW_nil)))
theorem bodyX17 {T : Tops K mg} {n : Nat} (L : Lv P w K mg base T n) {cdv : Value} {A : Around} {outer : List Env} {s : Shared} {H : Hp} {E : XK} (hr : Room n (A.deeper (envOfC "gap" (defScope s17) s.heap.objs.size T.a17 cdv))) :
    CSsW (cxOf (L2.CX P w) P w K mg base N17 "gap" (defScope s17) T.a17 cdv A outer s H E) (fun cls d _ H => E cls d H) (run n) bf MM (defBody s17) b_gap := by
  have tk : Takes (cxOf (L2.CX P w) P w K mg base N17 "gap" (defScope s17) T.a17 cdv A outer s H E) (fun cls d _ H => E cls d H) := takes_of rfl rfl rfl rfl
  have hpo : PassesOwn (model P w) (A.deeper (envOfC "gap" (defScope s17) s.heap.objs.size T.a17 cdv)) (cxOf (L2.CX P w) P w K mg base N17 "gap" (defScope s17) T.a17 cdv A outer s H E).env (cxOf (L2.CX P w) P w K mg base N17 "gap" (defScope s17) T.a17 cdv A outer s H E).xe := passes_of rfl
  exact (csW_cons (csW_may (ld_expr (ld_call L.x15 L.xl15 tk hr T.G15 T.F15.kp T.B15 rfl (ca_cons (ce_v 0 rfl (.inl rfl)) ca_nil))) (csW_of (cs_expr (ce_call L.k15 L.l15 hr T.G15 T.F15.kp T.B15 rfl (ca_cons (ce_v 0 rfl (.inl rfl)) ca_nil))))) (csW_cons (csW_of (cs_put (ce_call L.k11 L.l11 hr T.G11 T.F11.kp T.B11 rfl (ca_cons (ce_v 0 rfl (.inl rfl)) ca_nil)) (cg_t rfl (cg_n 1 sc17.nd rfl (.inl rfl)) (cg_n 2 sc17.nd rfl (.inl rfl))))) (csW_cons (csW_of (cs_ret (ce_bin ok_I2 op_sub (ce_un ok_I1 un_neg (ce_v 2 rfl (.inl rfl))) (ce_v 1 rfl (.inl rfl))))) csW_nil)))
theorem lv (T : Tops K mg) : ∀ n, Lv P w K mg base T n
  | 0 => ⟨fn_zero, fun _ _ e => (nomatch e), fn_zero, fun _ _ e => (nomatch e), fn_zero, fun _ _ e => (nomatch e), fn_zero, fun _ _ e => (nomatch e), fn_zero, fun _ _ e => (nomatch e), fn_zero, fun _ _ e => (nomatch e), fn_zero, fun _ _ e => (nomatch e), fn_zero, fun _ _ e => (nomatch e), fn_zero, fun _ _ e => (nomatch e), fn_zero, fun _ _ e => (nomatch e), fn_zero, fun _ _ e => (nomatch e), fn_zero, fun _ _ e => (nomatch e), fn_zero, fun _ _ e => (nomatch e), fn_zero, fun _ _ e => (nomatch e), fn_zero, fun _ _ e => (nomatch e), fn_zero, fun _ _ e => (nomatch e), fn_zero, fun _ _ e => (nomatch e), fn_zero, fun _ _ e => (nomatch e), fn_zero, fun _ _ e => (nomatch e), fn_zero, fun _ _ e => (nomatch e), fn_zero, fun _ _ e => (nomatch e), fn_zero, fun _ _ e => (nomatch e), fn_zero, fun _ _ e => (nomatch e), fn_zero, fun _ _ e => (nomatch e), fn_zero, fun _ _ e => (nomatch e), fn_zero, fun _ _ e => (nomatch e), fn_zero, fun _ _ e => (nomatch e), fn_zero, fun _ _ e => (nomatch e), fn_zero, fun _ _ e => (nomatch e), fn_zero, fun _ _ e => (nomatch e), fn_zeroX, fun _ _ e => (nomatch e), fn_zeroX, fun _ _ e => (nomatch e), fn_zeroX, fun _ _ e => (nomatch e)⟩
  | n + 1 => ⟨fn_ok T.F0 sc0 (fun _ _ _ _ _ _ hr => body0 (lv T n) hr) (fun _ _ e => e), fun _ _ e => callBody_len e,
      fn_ok T.F1 sc1 (fun _ _ _ _ _ _ hr => body1 (lv T n) hr) (fun _ _ e => e), fun _ _ e => callBody_len e,
      fn_ok T.F2 sc2 (fun _ _ _ _ _ _ hr => body2 (lv T n) hr) (fun _ _ e => e), fun _ _ e => callBody_len e,
      fn_ok T.F3 sc3 (fun _ _ _ _ _ _ hr => body3 (lv T n) hr) (fun _ _ e => e), fun _ _ e => callBody_len e,
      fn_ok T.F4 sc4 (fun _ _ _ _ _ _ hr => body4 (lv T n) hr) (fun _ _ e => e), fun _ _ e => callBody_len e,
      fn_ok T.F5 sc5 (fun _ _ _ _ _ _ hr => body5 (lv T n) hr) (fun _ _ e => e), fun _ _ e => callBody_len e,
      fn_ok T.F6 sc6 (fun _ _ _ _ _ _ hr => body6 (lv T n) hr) (fun _ _ e => e), fun _ _ e => callBody_len e,
      fn_ok T.F7 sc7 (fun _ _ _ _ _ _ hr => body7 (lv T n) hr) (fun _ _ e => e), fun _ _ e => callBody_len e,
      fn_ok T.F8 sc8 (fun _ _ _ _ _ _ hr => body8 (lv T n) hr) (fun _ _ e => e), fun _ _ e => callBody_len e,
      fn_ok T.F9 sc9 (fun _ _ _ _ _ _ hr => body9 (lv T n) hr) (fun _ _ e => e), fun _ _ e => callBody_len e,
      fn_ok T.F10 sc10 (fun _ _ _ _ _ _ hr => body10 (lv T n) hr) (fun _ _ e => e), fun _ _ e => callBody_len e,
      fn_ok T.F11 sc11 (fun _ _ _ _ _ _ hr => body11 (lv T n) hr) (fun _ _ e => e), fun _ _ e => callBody_len e,
      fn_ok T.F12 sc12 (fun _ _ _ _ _ _ hr => body12 (lv T n) hr) (fun _ _ e => e), fun _ _ e => callBody_len e,
      fn_ok T.F13 sc13 (fun _ _ _ _ _ _ hr => body13 (lv T n) hr) (fun _ _ e => e), fun _ _ e => callBody_len e,
      fn_ok T.F14 sc14 (fun _ _ _ _ _ _ hr => body14 (lv T n) hr) (fun _ _ e => e), fun _ _ e => callBody_len e,
      fn_ok T.F15 sc15 (fun _ _ _ _ _ _ hr => body15 (lv T n) hr) (fun _ _ e => e), fun _ _ e => callBody_len e,
      fn_ok T.F16 sc16 (fun _ _ _ _ _ _ hr => body16 (lv T n) hr) (fun _ _ e => e), fun _ _ e => callBody_len e,
      fn_ok T.F17 sc17 (fun _ _ _ _ _ _ hr => body17 (lv T n) hr) (fun _ _ e => e), fun _ _ e => callBody_len e,
      fn_ok T.F18 sc18 (fun _ _ _ _ _ _ hr => body18 (lv T n) hr) (fun _ _ e => e), fun _ _ e => callBody_len e,
      fn_ok T.F19 sc19 (fun _ _ _ _ _ _ hr => body19 (lv T n) hr) (fun _ _ e => e), fun _ _ e => callBody_len e,
      fn_ok T.F20 sc20 (fun _ _ _ _ _ _ hr => body20 (lv T n) hr) (fun _ _ e => e), fun _ _ e => callBody_len e,
      fn_ok T.F21 sc21 (fun _ _ _ _ _ _ hr => body21 (lv T n) hr) (fun _ _ e => e), fun _ _ e => callBody_len e,
      fn_ok T.F22 sc22 (fun _ _ _ _ _ _ hr => body22 (lv T n) hr) (fun _ _ e => e), fun _ _ e => callBody_len e,
      fn_ok T.F23 sc23 (fun _ _ _ _ _ _ hr => body23 (lv T n) hr) (fun _ _ e => e), fun _ _ e => callBody_len e,
      fn_ok T.F24 sc24 (fun _ _ _ _ _ _ hr => body24 (lv T n) hr) (fun _ _ e => e), fun _ _ e => callBody_len e,
      fn_ok T.F25 sc25 (fun _ _ _ _ _ _ hr => body25 (lv T n) hr) (fun _ _ e => e), fun _ _ e => callBody_len e,
      fn_ok T.F26 sc26 (fun _ _ _ _ _ _ hr => body26 (lv T n) hr) (fun _ _ e => e), fun _ _ e => callBody_len e,
      fn_ok T.F27 sc27 (fun _ _ _ _ _ _ hr => body27 (lv T n) hr) (fun _ _ e => e), fun _ _ e => callBody_len e,
      fn_ok T.F28 sc28 (fun _ _ _ _ _ _ hr => body28 (lv T n) hr) (fun _ _ e => e), fun _ _ e => callBody_len e,
      fn_ok T.F29 sc29 (fun _ _ _ _ _ _ hr => body29 (lv T n) hr) (fun _ _ e => e), fun _ _ e => callBody_len e,
      fnX_ok T.F15 sc15 (fun _ _ _ _ _ _ hr => bodyX15 (lv T n) hr) (fun _ _ e => e), fun _ _ e => xBody_len e,
      fnX_ok T.F16 sc16 (fun _ _ _ _ _ _ hr => bodyX16 (lv T n) hr) (fun _ _ e => e), fun _ _ e => xBody_len e,
      fnX_ok T.F17 sc17 (fun _ _ _ _ _ _ hr => bodyX17 (lv T n) hr) (fun _ _ e => e), fun _ _ e => xBody_len e⟩
end
end L2.Z.K08
namespace L2.Z.K08
open PySem PySem.Spec PyProof.Rows L2 L2.Z
theorem all_mk {l : PySem.W.OpenLaw} {w : World} {K : PySem.W.Frag} {h : Heap} {mg : Str → Option Value} {fa : Addr} (X : K.In h) (G : h.Ns mainGlobals mg) (hfa : mg "law" = some (.ref fa))
    {od0 an0 : Option Addr} {sl0 : Array (Option Value)} {oc0 kV0 dc0 pm0 cd0 ct0 : Value} {f0 : Addr}
    (a0 : PySem.W.nsIn K mainGlobals "is_int" = some (some (.ref f0))) (l0 : K.lookup f0 = some ⟨oc0, od0, .func (PySem.W.fnOf "is_int" "is_int" (defArgs s0) (defBody s0) (defScope s0) .none kV0 dc0 pm0 an0 cd0 ct0), sl0⟩) (c0 : PySem.W.codeIn K cd0 "is_int" = true) (k0 : PySem.W.keepIn K (.ref f0) = true)
    {od1 an1 : Option Addr} {sl1 : Array (Option Value)} {oc1 kV1 dc1 pm1 cd1 ct1 : Value} {f1 : Addr}
    (a1 : PySem.W.nsIn K mainGlobals "is_from" = some (some (.ref f1))) (l1 : K.lookup f1 = some ⟨oc1, od1, .func (PySem.W.fnOf "is_from" "is_from" (defArgs s1) (defBody s1) (defScope s1) .none kV1 dc1 pm1 an1 cd1 ct1), sl1⟩) (c1 : PySem.W.codeIn K cd1 "is_from" = true) (k1 : PySem.W.keepIn K (.ref f1) = true)
    {od2 an2 : Option Addr} {sl2 : Array (Option Value)} {oc2 kV2 dc2 pm2 cd2 ct2 : Value} {f2 : Addr}
    (a2 : PySem.W.nsIn K mainGlobals "need_from" = some (some (.ref f2))) (l2 : K.lookup f2 = some ⟨oc2, od2, .func (PySem.W.fnOf "need_from" "need_from" (defArgs s2) (defBody s2) (defScope s2) .none kV2 dc2 pm2 an2 cd2 ct2), sl2⟩) (c2 : PySem.W.codeIn K cd2 "need_from" = true) (k2 : PySem.W.keepIn K (.ref f2) = true)
    {od3 an3 : Option Addr} {sl3 : Array (Option Value)} {oc3 kV3 dc3 pm3 cd3 ct3 : Value} {f3 : Addr}
    (a3 : PySem.W.nsIn K mainGlobals "is_place" = some (some (.ref f3))) (l3 : K.lookup f3 = some ⟨oc3, od3, .func (PySem.W.fnOf "is_place" "is_place" (defArgs s3) (defBody s3) (defScope s3) .none kV3 dc3 pm3 an3 cd3 ct3), sl3⟩) (c3 : PySem.W.codeIn K cd3 "is_place" = true) (k3 : PySem.W.keepIn K (.ref f3) = true)
    {od4 an4 : Option Addr} {sl4 : Array (Option Value)} {oc4 kV4 dc4 pm4 cd4 ct4 : Value} {f4 : Addr}
    (a4 : PySem.W.nsIn K mainGlobals "need_board" = some (some (.ref f4))) (l4 : K.lookup f4 = some ⟨oc4, od4, .func (PySem.W.fnOf "need_board" "need_board" (defArgs s4) (defBody s4) (defScope s4) .none kV4 dc4 pm4 an4 cd4 ct4), sl4⟩) (c4 : PySem.W.codeIn K cd4 "need_board" = true) (k4 : PySem.W.keepIn K (.ref f4) = true)
    {od5 an5 : Option Addr} {sl5 : Array (Option Value)} {oc5 kV5 dc5 pm5 cd5 ct5 : Value} {f5 : Addr}
    (a5 : PySem.W.nsIn K mainGlobals "sides" = some (some (.ref f5))) (l5 : K.lookup f5 = some ⟨oc5, od5, .func (PySem.W.fnOf "sides" "sides" (defArgs s5) (defBody s5) (defScope s5) .none kV5 dc5 pm5 an5 cd5 ct5), sl5⟩) (c5 : PySem.W.codeIn K cd5 "sides" = true) (k5 : PySem.W.keepIn K (.ref f5) = true)
    {od6 an6 : Option Addr} {sl6 : Array (Option Value)} {oc6 kV6 dc6 pm6 cd6 ct6 : Value} {f6 : Addr}
    (a6 : PySem.W.nsIn K mainGlobals "lines_of" = some (some (.ref f6))) (l6 : K.lookup f6 = some ⟨oc6, od6, .func (PySem.W.fnOf "lines_of" "lines_of" (defArgs s6) (defBody s6) (defScope s6) .none kV6 dc6 pm6 an6 cd6 ct6), sl6⟩) (c6 : PySem.W.codeIn K cd6 "lines_of" = true) (k6 : PySem.W.keepIn K (.ref f6) = true)
    {od7 an7 : Option Addr} {sl7 : Array (Option Value)} {oc7 kV7 dc7 pm7 cd7 ct7 : Value} {f7 : Addr}
    (a7 : PySem.W.nsIn K mainGlobals "left_of" = some (some (.ref f7))) (l7 : K.lookup f7 = some ⟨oc7, od7, .func (PySem.W.fnOf "left_of" "left_of" (defArgs s7) (defBody s7) (defScope s7) .none kV7 dc7 pm7 an7 cd7 ct7), sl7⟩) (c7 : PySem.W.codeIn K cd7 "left_of" = true) (k7 : PySem.W.keepIn K (.ref f7) = true)
    {od8 an8 : Option Addr} {sl8 : Array (Option Value)} {oc8 kV8 dc8 pm8 cd8 ct8 : Value} {f8 : Addr}
    (a8 : PySem.W.nsIn K mainGlobals "numbers" = some (some (.ref f8))) (l8 : K.lookup f8 = some ⟨oc8, od8, .func (PySem.W.fnOf "numbers" "numbers" (defArgs s8) (defBody s8) (defScope s8) .none kV8 dc8 pm8 an8 cd8 ct8), sl8⟩) (c8 : PySem.W.codeIn K cd8 "numbers" = true) (k8 : PySem.W.keepIn K (.ref f8) = true)
    {od9 an9 : Option Addr} {sl9 : Array (Option Value)} {oc9 kV9 dc9 pm9 cd9 ct9 : Value} {f9 : Addr}
    (a9 : PySem.W.nsIn K mainGlobals "answers_of" = some (some (.ref f9))) (l9 : K.lookup f9 = some ⟨oc9, od9, .func (PySem.W.fnOf "answers_of" "answers_of" (defArgs s9) (defBody s9) (defScope s9) .none kV9 dc9 pm9 an9 cd9 ct9), sl9⟩) (c9 : PySem.W.codeIn K cd9 "answers_of" = true) (k9 : PySem.W.keepIn K (.ref f9) = true)
    {od10 an10 : Option Addr} {sl10 : Array (Option Value)} {oc10 kV10 dc10 pm10 cd10 ct10 : Value} {f10 : Addr}
    (a10 : PySem.W.nsIn K mainGlobals "bests_of" = some (some (.ref f10))) (l10 : K.lookup f10 = some ⟨oc10, od10, .func (PySem.W.fnOf "bests_of" "bests_of" (defArgs s10) (defBody s10) (defScope s10) .none kV10 dc10 pm10 an10 cd10 ct10), sl10⟩) (c10 : PySem.W.codeIn K cd10 "bests_of" = true) (k10 : PySem.W.keepIn K (.ref f10) = true)
    {od11 an11 : Option Addr} {sl11 : Array (Option Value)} {oc11 kV11 dc11 pm11 cd11 ct11 : Value} {f11 : Addr}
    (a11 : PySem.W.nsIn K mainGlobals "safe_numbers" = some (some (.ref f11))) (l11 : K.lookup f11 = some ⟨oc11, od11, .func (PySem.W.fnOf "safe_numbers" "safe_numbers" (defArgs s11) (defBody s11) (defScope s11) .none kV11 dc11 pm11 an11 cd11 ct11), sl11⟩) (c11 : PySem.W.codeIn K cd11 "safe_numbers" = true) (k11 : PySem.W.keepIn K (.ref f11) = true)
    {od12 an12 : Option Addr} {sl12 : Array (Option Value)} {oc12 kV12 dc12 pm12 cd12 ct12 : Value} {f12 : Addr}
    (a12 : PySem.W.nsIn K mainGlobals "safe_lines" = some (some (.ref f12))) (l12 : K.lookup f12 = some ⟨oc12, od12, .func (PySem.W.fnOf "safe_lines" "safe_lines" (defArgs s12) (defBody s12) (defScope s12) .none kV12 dc12 pm12 an12 cd12 ct12), sl12⟩) (c12 : PySem.W.codeIn K cd12 "safe_lines" = true) (k12 : PySem.W.keepIn K (.ref f12) = true)
    {od13 an13 : Option Addr} {sl13 : Array (Option Value)} {oc13 kV13 dc13 pm13 cd13 ct13 : Value} {f13 : Addr}
    (a13 : PySem.W.nsIn K mainGlobals "is_against" = some (some (.ref f13))) (l13 : K.lookup f13 = some ⟨oc13, od13, .func (PySem.W.fnOf "is_against" "is_against" (defArgs s13) (defBody s13) (defScope s13) .none kV13 dc13 pm13 an13 cd13 ct13), sl13⟩) (c13 : PySem.W.codeIn K cd13 "is_against" = true) (k13 : PySem.W.keepIn K (.ref f13) = true)
    {od14 an14 : Option Addr} {sl14 : Array (Option Value)} {oc14 kV14 dc14 pm14 cd14 ct14 : Value} {f14 : Addr}
    (a14 : PySem.W.nsIn K mainGlobals "adds_up" = some (some (.ref f14))) (l14 : K.lookup f14 = some ⟨oc14, od14, .func (PySem.W.fnOf "adds_up" "adds_up" (defArgs s14) (defBody s14) (defScope s14) .none kV14 dc14 pm14 an14 cd14 ct14), sl14⟩) (c14 : PySem.W.codeIn K cd14 "adds_up" = true) (k14 : PySem.W.keepIn K (.ref f14) = true)
    {od15 an15 : Option Addr} {sl15 : Array (Option Value)} {oc15 kV15 dc15 pm15 cd15 ct15 : Value} {f15 : Addr}
    (a15 : PySem.W.nsIn K mainGlobals "need_against" = some (some (.ref f15))) (l15 : K.lookup f15 = some ⟨oc15, od15, .func (PySem.W.fnOf "need_against" "need_against" (defArgs s15) (defBody s15) (defScope s15) .none kV15 dc15 pm15 an15 cd15 ct15), sl15⟩) (c15 : PySem.W.codeIn K cd15 "need_against" = true) (k15 : PySem.W.keepIn K (.ref f15) = true)
    {od16 an16 : Option Addr} {sl16 : Array (Option Value)} {oc16 kV16 dc16 pm16 cd16 ct16 : Value} {f16 : Addr}
    (a16 : PySem.W.nsIn K mainGlobals "saddle" = some (some (.ref f16))) (l16 : K.lookup f16 = some ⟨oc16, od16, .func (PySem.W.fnOf "saddle" "saddle" (defArgs s16) (defBody s16) (defScope s16) .none kV16 dc16 pm16 an16 cd16 ct16), sl16⟩) (c16 : PySem.W.codeIn K cd16 "saddle" = true) (k16 : PySem.W.keepIn K (.ref f16) = true)
    {od17 an17 : Option Addr} {sl17 : Array (Option Value)} {oc17 kV17 dc17 pm17 cd17 ct17 : Value} {f17 : Addr}
    (a17 : PySem.W.nsIn K mainGlobals "gap" = some (some (.ref f17))) (l17 : K.lookup f17 = some ⟨oc17, od17, .func (PySem.W.fnOf "gap" "gap" (defArgs s17) (defBody s17) (defScope s17) .none kV17 dc17 pm17 an17 cd17 ct17), sl17⟩) (c17 : PySem.W.codeIn K cd17 "gap" = true) (k17 : PySem.W.keepIn K (.ref f17) = true)
    {od18 an18 : Option Addr} {sl18 : Array (Option Value)} {oc18 kV18 dc18 pm18 cd18 ct18 : Value} {f18 : Addr}
    (a18 : PySem.W.nsIn K mainGlobals "answer_walk" = some (some (.ref f18))) (l18 : K.lookup f18 = some ⟨oc18, od18, .func (PySem.W.fnOf "answer_walk" "answer_walk" (defArgs s18) (defBody s18) (defScope s18) .none kV18 dc18 pm18 an18 cd18 ct18), sl18⟩) (c18 : PySem.W.codeIn K cd18 "answer_walk" = true) (k18 : PySem.W.keepIn K (.ref f18) = true)
    {od19 an19 : Option Addr} {sl19 : Array (Option Value)} {oc19 kV19 dc19 pm19 cd19 ct19 : Value} {f19 : Addr}
    (a19 : PySem.W.nsIn K mainGlobals "answer_ring" = some (some (.ref f19))) (l19 : K.lookup f19 = some ⟨oc19, od19, .func (PySem.W.fnOf "answer_ring" "answer_ring" (defArgs s19) (defBody s19) (defScope s19) .none kV19 dc19 pm19 an19 cd19 ct19), sl19⟩) (c19 : PySem.W.codeIn K cd19 "answer_ring" = true) (k19 : PySem.W.keepIn K (.ref f19) = true)
    {od20 an20 : Option Addr} {sl20 : Array (Option Value)} {oc20 kV20 dc20 pm20 cd20 ct20 : Value} {f20 : Addr}
    (a20 : PySem.W.nsIn K mainGlobals "_law_taken" = some (some (.ref f20))) (l20 : K.lookup f20 = some ⟨oc20, od20, .func (PySem.W.fnOf "_law_taken" "_law_taken" (defArgs s20) (defBody s20) (defScope s20) .none kV20 dc20 pm20 an20 cd20 ct20), sl20⟩) (c20 : PySem.W.codeIn K cd20 "_law_taken" = true) (k20 : PySem.W.keepIn K (.ref f20) = true)
    {od21 an21 : Option Addr} {sl21 : Array (Option Value)} {oc21 kV21 dc21 pm21 cd21 ct21 : Value} {f21 : Addr}
    (a21 : PySem.W.nsIn K mainGlobals "_law_alike" = some (some (.ref f21))) (l21 : K.lookup f21 = some ⟨oc21, od21, .func (PySem.W.fnOf "_law_alike" "_law_alike" (defArgs s21) (defBody s21) (defScope s21) .none kV21 dc21 pm21 an21 cd21 ct21), sl21⟩) (c21 : PySem.W.codeIn K cd21 "_law_alike" = true) (k21 : PySem.W.keepIn K (.ref f21) = true)
    {od22 an22 : Option Addr} {sl22 : Array (Option Value)} {oc22 kV22 dc22 pm22 cd22 ct22 : Value} {f22 : Addr}
    (a22 : PySem.W.nsIn K mainGlobals "_law_is" = some (some (.ref f22))) (l22 : K.lookup f22 = some ⟨oc22, od22, .func (PySem.W.fnOf "_law_is" "_law_is" (defArgs s22) (defBody s22) (defScope s22) .none kV22 dc22 pm22 an22 cd22 ct22), sl22⟩) (c22 : PySem.W.codeIn K cd22 "_law_is" = true) (k22 : PySem.W.keepIn K (.ref f22) = true)
    {od23 an23 : Option Addr} {sl23 : Array (Option Value)} {oc23 kV23 dc23 pm23 cd23 ct23 : Value} {f23 : Addr}
    (a23 : PySem.W.nsIn K mainGlobals "_law_board" = some (some (.ref f23))) (l23 : K.lookup f23 = some ⟨oc23, od23, .func (PySem.W.fnOf "_law_board" "_law_board" (defArgs s23) (defBody s23) (defScope s23) .none kV23 dc23 pm23 an23 cd23 ct23), sl23⟩) (c23 : PySem.W.codeIn K cd23 "_law_board" = true) (k23 : PySem.W.keepIn K (.ref f23) = true)
    {od24 an24 : Option Addr} {sl24 : Array (Option Value)} {oc24 kV24 dc24 pm24 cd24 ct24 : Value} {f24 : Addr}
    (a24 : PySem.W.nsIn K mainGlobals "_law_rows" = some (some (.ref f24))) (l24 : K.lookup f24 = some ⟨oc24, od24, .func (PySem.W.fnOf "_law_rows" "_law_rows" (defArgs s24) (defBody s24) (defScope s24) .none kV24 dc24 pm24 an24 cd24 ct24), sl24⟩) (c24 : PySem.W.codeIn K cd24 "_law_rows" = true) (k24 : PySem.W.keepIn K (.ref f24) = true)
    {od25 an25 : Option Addr} {sl25 : Array (Option Value)} {oc25 kV25 dc25 pm25 cd25 ct25 : Value} {f25 : Addr}
    (a25 : PySem.W.nsIn K mainGlobals "_law_columns" = some (some (.ref f25))) (l25 : K.lookup f25 = some ⟨oc25, od25, .func (PySem.W.fnOf "_law_columns" "_law_columns" (defArgs s25) (defBody s25) (defScope s25) .none kV25 dc25 pm25 an25 cd25 ct25), sl25⟩) (c25 : PySem.W.codeIn K cd25 "_law_columns" = true) (k25 : PySem.W.keepIn K (.ref f25) = true)
    {od26 an26 : Option Addr} {sl26 : Array (Option Value)} {oc26 kV26 dc26 pm26 cd26 ct26 : Value} {f26 : Addr}
    (a26 : PySem.W.nsIn K mainGlobals "_law_numbers" = some (some (.ref f26))) (l26 : K.lookup f26 = some ⟨oc26, od26, .func (PySem.W.fnOf "_law_numbers" "_law_numbers" (defArgs s26) (defBody s26) (defScope s26) .none kV26 dc26 pm26 an26 cd26 ct26), sl26⟩) (c26 : PySem.W.codeIn K cd26 "_law_numbers" = true) (k26 : PySem.W.keepIn K (.ref f26) = true)
    {od27 an27 : Option Addr} {sl27 : Array (Option Value)} {oc27 kV27 dc27 pm27 cd27 ct27 : Value} {f27 : Addr}
    (a27 : PySem.W.nsIn K mainGlobals "_law_answers" = some (some (.ref f27))) (l27 : K.lookup f27 = some ⟨oc27, od27, .func (PySem.W.fnOf "_law_answers" "_law_answers" (defArgs s27) (defBody s27) (defScope s27) .none kV27 dc27 pm27 an27 cd27 ct27), sl27⟩) (c27 : PySem.W.codeIn K cd27 "_law_answers" = true) (k27 : PySem.W.keepIn K (.ref f27) = true)
    {od28 an28 : Option Addr} {sl28 : Array (Option Value)} {oc28 kV28 dc28 pm28 cd28 ct28 : Value} {f28 : Addr}
    (a28 : PySem.W.nsIn K mainGlobals "_law_bests" = some (some (.ref f28))) (l28 : K.lookup f28 = some ⟨oc28, od28, .func (PySem.W.fnOf "_law_bests" "_law_bests" (defArgs s28) (defBody s28) (defScope s28) .none kV28 dc28 pm28 an28 cd28 ct28), sl28⟩) (c28 : PySem.W.codeIn K cd28 "_law_bests" = true) (k28 : PySem.W.keepIn K (.ref f28) = true)
    {od29 an29 : Option Addr} {sl29 : Array (Option Value)} {oc29 kV29 dc29 pm29 cd29 ct29 : Value} {f29 : Addr}
    (a29 : PySem.W.nsIn K mainGlobals "law" = some (some (.ref f29))) (l29 : K.lookup f29 = some ⟨oc29, od29, .func (PySem.W.fnOf "law" "law" (defArgs s29) (defBody s29) (defScope s29) .none kV29 dc29 pm29 an29 cd29 ct29), sl29⟩) (c29 : PySem.W.codeIn K cd29 "law" = true) (k29 : PySem.W.keepIn K (.ref f29) = true)
    (z_all : PySem.W.nsIn K mainGlobals "all" = some none)
    (z_bool : PySem.W.nsIn K mainGlobals "bool" = some none)
    (z_dict : PySem.W.nsIn K mainGlobals "dict" = some none)
    (z_enumerate : PySem.W.nsIn K mainGlobals "enumerate" = some none)
    (z_int : PySem.W.nsIn K mainGlobals "int" = some none)
    (z_isinstance : PySem.W.nsIn K mainGlobals "isinstance" = some none)
    (z_len : PySem.W.nsIn K mainGlobals "len" = some none)
    (z_list : PySem.W.nsIn K mainGlobals "list" = some none)
    (z_max : PySem.W.nsIn K mainGlobals "max" = some none)
    (z_min : PySem.W.nsIn K mainGlobals "min" = some none)
    (z_range : PySem.W.nsIn K mainGlobals "range" = some none)
    (z_sorted : PySem.W.nsIn K mainGlobals "sorted" = some none)
    (z_str : PySem.W.nsIn K mainGlobals "str" = some none)
    (z_sum : PySem.W.nsIn K mainGlobals "sum" = some none)
    (z_tuple : PySem.W.nsIn K mainGlobals "tuple" = some none)
    {t_MOST_SIDE : Tok} (y_MOST_SIDE : PySem.W.nsIn K mainGlobals "MOST_SIDE" = some (some (.int 6 t_MOST_SIDE)))
    {t_MOST_VALUE : Tok} (y_MOST_VALUE : PySem.W.nsIn K mainGlobals "MOST_VALUE" = some (some (.int 1000 t_MOST_VALUE)))
    {C_NotAgainst : Addr} (g_NotAgainst : PySem.W.nsIn K mainGlobals "NotAgainst" = some (some (.ref C_NotAgainst))) (p_NotAgainst : PySem.W.keepIn K (.ref C_NotAgainst) = true) (x_NotAgainst : PySem.W.excIn K C_NotAgainst [.type "ValueError", .type "Exception", .type "BaseException", .type "object"] "ValueError.__new__" = true) (b_NotAgainst : PySem.W.subIn K (.ref C_NotAgainst) (.type "BaseException") = some true) (t_NotAgainst : PySem.W.typeIn K (.ref C_NotAgainst) = some (.type "type")) (i_NotAgainst : PySem.W.isClsIn K C_NotAgainst = true) (s_NotAgainst : PySem.W.subIn K (.ref C_NotAgainst) (.ref C_NotAgainst) = some true) :
    ∃ fd : FuncData, (∀ (s : Shared) (v : Value), BindsTo s fd ⟨[v], []⟩ [("_law_script", v)]) ∧ ∀ base : Heap, K.In base → base.Ns mainGlobals mg → FnOk l.prog w K mg base CX0 LV fa fd ["_law_script"] (spLaw K) := by
  have e := hfa.symm.trans (PySem.W.mg_of X G a29)
  cases e
  refine ⟨PySem.W.fnOf "law" "law" (defArgs s29) (defBody s29) (defScope s29) .none kV29 dc29 pm29 an29 cd29 ct29, fun s v => .of_eq rfl, fun base _ _ => ?_⟩
  exact law_ok (lv (⟨f0, _, fun_mk (st := s0) l0 c0 k0, (fun_mk (st := s0) l0 c0 k0).binds (ps := P0) (fun _ _ _ _ _ _ us hl => match us, hl with | [_], _ => rfl), PySem.W.mg_of X G a0,
    f1, _, fun_mk (st := s1) l1 c1 k1, (fun_mk (st := s1) l1 c1 k1).binds (ps := P1) (fun _ _ _ _ _ _ us hl => match us, hl with | [_, _, _], _ => rfl), PySem.W.mg_of X G a1,
    f2, _, fun_mk (st := s2) l2 c2 k2, (fun_mk (st := s2) l2 c2 k2).binds (ps := P2) (fun _ _ _ _ _ _ us hl => match us, hl with | [_, _, _], _ => rfl), PySem.W.mg_of X G a2,
    f3, _, fun_mk (st := s3) l3 c3 k3, (fun_mk (st := s3) l3 c3 k3).binds (ps := P3) (fun _ _ _ _ _ _ us hl => match us, hl with | [_], _ => rfl), PySem.W.mg_of X G a3,
    f4, _, fun_mk (st := s4) l4 c4 k4, (fun_mk (st := s4) l4 c4 k4).binds (ps := P4) (fun _ _ _ _ _ _ us hl => match us, hl with | [_], _ => rfl), PySem.W.mg_of X G a4,
    f5, _, fun_mk (st := s5) l5 c5 k5, (fun_mk (st := s5) l5 c5 k5).binds (ps := P5) (fun _ _ _ _ _ _ us hl => match us, hl with | [_], _ => rfl), PySem.W.mg_of X G a5,
    f6, _, fun_mk (st := s6) l6 c6 k6, (fun_mk (st := s6) l6 c6 k6).binds (ps := P6) (fun _ _ _ _ _ _ us hl => match us, hl with | [_], _ => rfl), PySem.W.mg_of X G a6,
    f7, _, fun_mk (st := s7) l7 c7 k7, (fun_mk (st := s7) l7 c7 k7).binds (ps := P7) (fun _ _ _ _ _ _ us hl => match us, hl with | [_, _], _ => rfl), PySem.W.mg_of X G a7,
    f8, _, fun_mk (st := s8) l8 c8 k8, (fun_mk (st := s8) l8 c8 k8).binds (ps := P8) (fun _ _ _ _ _ _ us hl => match us, hl with | [_, _, _], _ => rfl), PySem.W.mg_of X G a8,
    f9, _, fun_mk (st := s9) l9 c9 k9, (fun_mk (st := s9) l9 c9 k9).binds (ps := P9) (fun _ _ _ _ _ _ us hl => match us, hl with | [_, _, _], _ => rfl), PySem.W.mg_of X G a9,
    f10, _, fun_mk (st := s10) l10 c10 k10, (fun_mk (st := s10) l10 c10 k10).binds (ps := P10) (fun _ _ _ _ _ _ us hl => match us, hl with | [_, _], _ => rfl), PySem.W.mg_of X G a10,
    f11, _, fun_mk (st := s11) l11 c11 k11, (fun_mk (st := s11) l11 c11 k11).binds (ps := P11) (fun _ _ _ _ _ _ us hl => match us, hl with | [_], _ => rfl), PySem.W.mg_of X G a11,
    f12, _, fun_mk (st := s12) l12 c12 k12, (fun_mk (st := s12) l12 c12 k12).binds (ps := P12) (fun _ _ _ _ _ _ us hl => match us, hl with | [_], _ => rfl), PySem.W.mg_of X G a12,
    f13, _, fun_mk (st := s13) l13 c13 k13, (fun_mk (st := s13) l13 c13 k13).binds (ps := P13) (fun _ _ _ _ _ _ us hl => match us, hl with | [_], _ => rfl), PySem.W.mg_of X G a13,
    f14, _, fun_mk (st := s14) l14 c14 k14, (fun_mk (st := s14) l14 c14 k14).binds (ps := P14) (fun _ _ _ _ _ _ us hl => match us, hl with | [_], _ => rfl), PySem.W.mg_of X G a14,
    f15, _, fun_mk (st := s15) l15 c15 k15, (fun_mk (st := s15) l15 c15 k15).binds (ps := P15) (fun _ _ _ _ _ _ us hl => match us, hl with | [_], _ => rfl), PySem.W.mg_of X G a15,
    f16, _, fun_mk (st := s16) l16 c16 k16, (fun_mk (st := s16) l16 c16 k16).binds (ps := P16) (fun _ _ _ _ _ _ us hl => match us, hl with | [_], _ => rfl), PySem.W.mg_of X G a16,
    f17, _, fun_mk (st := s17) l17 c17 k17, (fun_mk (st := s17) l17 c17 k17).binds (ps := P17) (fun _ _ _ _ _ _ us hl => match us, hl with | [_], _ => rfl), PySem.W.mg_of X G a17,
    f18, _, fun_mk (st := s18) l18 c18 k18, (fun_mk (st := s18) l18 c18 k18).binds (ps := P18) (fun _ _ _ _ _ _ us hl => match us, hl with | [_, _, _], _ => rfl), PySem.W.mg_of X G a18,
    f19, _, fun_mk (st := s19) l19 c19 k19, (fun_mk (st := s19) l19 c19 k19).binds (ps := P19) (fun _ _ _ _ _ _ us hl => match us, hl with | [_, _], _ => rfl), PySem.W.mg_of X G a19,
    f20, _, fun_mk (st := s20) l20 c20 k20, (fun_mk (st := s20) l20 c20 k20).binds (ps := P20) (fun _ _ _ _ _ _ us hl => match us, hl with | [_, _], _ => rfl), PySem.W.mg_of X G a20,
    f21, _, fun_mk (st := s21) l21 c21 k21, (fun_mk (st := s21) l21 c21 k21).binds (ps := P21) (fun _ _ _ _ _ _ us hl => match us, hl with | [_, _], _ => rfl), PySem.W.mg_of X G a21,
    f22, _, fun_mk (st := s22) l22 c22 k22, (fun_mk (st := s22) l22 c22 k22).binds (ps := P22) (fun _ _ _ _ _ _ us hl => match us, hl with | [_, _], _ => rfl), PySem.W.mg_of X G a22,
    f23, _, fun_mk (st := s23) l23 c23 k23, (fun_mk (st := s23) l23 c23 k23).binds (ps := P23) (fun _ _ _ _ _ _ us hl => match us, hl with | [_, _, _, _], _ => rfl), PySem.W.mg_of X G a23,
    f24, _, fun_mk (st := s24) l24 c24 k24, (fun_mk (st := s24) l24 c24 k24).binds (ps := P24) (fun _ _ _ _ _ _ us hl => match us, hl with | [_, _], _ => rfl), PySem.W.mg_of X G a24,
    f25, _, fun_mk (st := s25) l25 c25 k25, (fun_mk (st := s25) l25 c25 k25).binds (ps := P25) (fun _ _ _ _ _ _ us hl => match us, hl with | [_, _], _ => rfl), PySem.W.mg_of X G a25,
    f26, _, fun_mk (st := s26) l26 c26 k26, (fun_mk (st := s26) l26 c26 k26).binds (ps := P26) (fun _ _ _ _ _ _ us hl => match us, hl with | [_, _, _], _ => rfl), PySem.W.mg_of X G a26,
    f27, _, fun_mk (st := s27) l27 c27 k27, (fun_mk (st := s27) l27 c27 k27).binds (ps := P27) (fun _ _ _ _ _ _ us hl => match us, hl with | [_, _, _], _ => rfl), PySem.W.mg_of X G a27,
    f28, _, fun_mk (st := s28) l28 c28 k28, (fun_mk (st := s28) l28 c28 k28).binds (ps := P28) (fun _ _ _ _ _ _ us hl => match us, hl with | [_, _], _ => rfl), PySem.W.mg_of X G a28,
    fa, _, fun_mk (st := s29) l29 c29 k29, (fun_mk (st := s29) l29 c29 k29).binds (ps := P29) (fun _ _ _ _ _ _ us hl => match us, hl with | [_], _ => rfl), PySem.W.mg_of X G a29,
    PySem.W.mg_none_of X G z_all,
    PySem.W.mg_none_of X G z_bool,
    PySem.W.mg_none_of X G z_dict,
    PySem.W.mg_none_of X G z_enumerate,
    PySem.W.mg_none_of X G z_int,
    PySem.W.mg_none_of X G z_isinstance,
    PySem.W.mg_none_of X G z_len,
    PySem.W.mg_none_of X G z_list,
    PySem.W.mg_none_of X G z_max,
    PySem.W.mg_none_of X G z_min,
    PySem.W.mg_none_of X G z_range,
    PySem.W.mg_none_of X G z_sorted,
    PySem.W.mg_none_of X G z_str,
    PySem.W.mg_none_of X G z_sum,
    PySem.W.mg_none_of X G z_tuple,
    t_MOST_SIDE, PySem.W.mg_of X G y_MOST_SIDE,
    t_MOST_VALUE, PySem.W.mg_of X G y_MOST_VALUE,
    C_NotAgainst, PySem.W.mg_of X G g_NotAgainst, p_NotAgainst, x_NotAgainst, b_NotAgainst, t_NotAgainst, exm_self b_NotAgainst i_NotAgainst t_NotAgainst s_NotAgainst⟩ : Tops K mg) LV).k29 law_true
end L2.Z.K08
open PySem PySem.W PyProof.Rows
set_option maxHeartbeats 0 in
theorem PySem.Challenge.cw_struckboards_k08_whole_safe_numbers_holds : PySem.Challenge.rw_struckboards_k08_whole_safe_numbers.Holds := by
  w_on; o_law; k_head; (case hw => w_witness2)
  k_fill
  refine L2.walk_of (l := PySem.Challenge.rw_struckboards_k08_whole_safe_numbers) (n := 63) (k := L2.Z.K08.LV) (x := "_law_script") (CX := fun _ => L2.CX0) (sp := fun w => L2.Z.spLaw _) rfl (by decide) rfl ⟨rfl, by decide, by decide⟩ (fun w h Y => PySem.W.kIn_of Y) ?F (fun _ _ a ns hl _ hS => ⟨a, ns, rfl, hS, hl, fun _ => rfl⟩) (fun _ _ _ _ _ h => h)
  case F =>
    intro w mg fa h KX G hmg
    refine' L2.Z.K08.all_mk KX G hmg ?a0 ?l0 ?c0 ?k0 ?a1 ?l1 ?c1 ?k1 ?a2 ?l2 ?c2 ?k2 ?a3 ?l3 ?c3 ?k3 ?a4 ?l4 ?c4 ?k4 ?a5 ?l5 ?c5 ?k5 ?a6 ?l6 ?c6 ?k6 ?a7 ?l7 ?c7 ?k7 ?a8 ?l8 ?c8 ?k8 ?a9 ?l9 ?c9 ?k9 ?a10 ?l10 ?c10 ?k10 ?a11 ?l11 ?c11 ?k11 ?a12 ?l12 ?c12 ?k12 ?a13 ?l13 ?c13 ?k13 ?a14 ?l14 ?c14 ?k14 ?a15 ?l15 ?c15 ?k15 ?a16 ?l16 ?c16 ?k16 ?a17 ?l17 ?c17 ?k17 ?a18 ?l18 ?c18 ?k18 ?a19 ?l19 ?c19 ?k19 ?a20 ?l20 ?c20 ?k20 ?a21 ?l21 ?c21 ?k21 ?a22 ?l22 ?c22 ?k22 ?a23 ?l23 ?c23 ?k23 ?a24 ?l24 ?c24 ?k24 ?a25 ?l25 ?c25 ?k25 ?a26 ?l26 ?c26 ?k26 ?a27 ?l27 ?c27 ?k27 ?a28 ?l28 ?c28 ?k28 ?a29 ?l29 ?c29 ?k29 ?z_all ?z_bool ?z_dict ?z_enumerate ?z_int ?z_isinstance ?z_len ?z_list ?z_max ?z_min ?z_range ?z_sorted ?z_str ?z_sum ?z_tuple ?y_MOST_SIDE ?y_MOST_VALUE ?g_NotAgainst ?p_NotAgainst ?x_NotAgainst ?b_NotAgainst ?t_NotAgainst ?i_NotAgainst ?s_NotAgainst
    (case a0 => k_is); (case l0 => k_is); (case c0 => k_is); (case k0 => k_is); (case a1 => k_is); (case l1 => k_is); (case c1 => k_is); (case k1 => k_is); (case a2 => k_is); (case l2 => k_is); (case c2 => k_is); (case k2 => k_is); (case a3 => k_is); (case l3 => k_is); (case c3 => k_is); (case k3 => k_is); (case a4 => k_is); (case l4 => k_is); (case c4 => k_is); (case k4 => k_is); (case a5 => k_is); (case l5 => k_is); (case c5 => k_is); (case k5 => k_is); (case a6 => k_is); (case l6 => k_is); (case c6 => k_is); (case k6 => k_is); (case a7 => k_is); (case l7 => k_is); (case c7 => k_is); (case k7 => k_is); (case a8 => k_is); (case l8 => k_is); (case c8 => k_is); (case k8 => k_is); (case a9 => k_is); (case l9 => k_is); (case c9 => k_is); (case k9 => k_is); (case a10 => k_is); (case l10 => k_is); (case c10 => k_is); (case k10 => k_is); (case a11 => k_is); (case l11 => k_is); (case c11 => k_is); (case k11 => k_is); (case a12 => k_is); (case l12 => k_is); (case c12 => k_is); (case k12 => k_is); (case a13 => k_is); (case l13 => k_is); (case c13 => k_is); (case k13 => k_is); (case a14 => k_is); (case l14 => k_is); (case c14 => k_is); (case k14 => k_is); (case a15 => k_is); (case l15 => k_is); (case c15 => k_is); (case k15 => k_is); (case a16 => k_is); (case l16 => k_is); (case c16 => k_is); (case k16 => k_is); (case a17 => k_is); (case l17 => k_is); (case c17 => k_is); (case k17 => k_is); (case a18 => k_is); (case l18 => k_is); (case c18 => k_is); (case k18 => k_is); (case a19 => k_is); (case l19 => k_is); (case c19 => k_is); (case k19 => k_is); (case a20 => k_is); (case l20 => k_is); (case c20 => k_is); (case k20 => k_is); (case a21 => k_is); (case l21 => k_is); (case c21 => k_is); (case k21 => k_is); (case a22 => k_is); (case l22 => k_is); (case c22 => k_is); (case k22 => k_is); (case a23 => k_is); (case l23 => k_is); (case c23 => k_is); (case k23 => k_is); (case a24 => k_is); (case l24 => k_is); (case c24 => k_is); (case k24 => k_is); (case a25 => k_is); (case l25 => k_is); (case c25 => k_is); (case k25 => k_is); (case a26 => k_is); (case l26 => k_is); (case c26 => k_is); (case k26 => k_is); (case a27 => k_is); (case l27 => k_is); (case c27 => k_is); (case k27 => k_is); (case a28 => k_is); (case l28 => k_is); (case c28 => k_is); (case k28 => k_is); (case a29 => k_is); (case l29 => k_is); (case c29 => k_is); (case k29 => k_is); (case z_all => k_is); (case z_bool => k_is); (case z_dict => k_is); (case z_enumerate => k_is); (case z_int => k_is); (case z_isinstance => k_is); (case z_len => k_is); (case z_list => k_is); (case z_max => k_is); (case z_min => k_is); (case z_range => k_is); (case z_sorted => k_is); (case z_str => k_is); (case z_sum => k_is); (case z_tuple => k_is); (case y_MOST_SIDE => k_is); (case y_MOST_VALUE => k_is); (case g_NotAgainst => k_is); (case p_NotAgainst => k_is); (case x_NotAgainst => k_exc); (case b_NotAgainst => k_is); (case t_NotAgainst => k_is); (case i_NotAgainst => k_is); (case s_NotAgainst => first | rfl | k_is)
