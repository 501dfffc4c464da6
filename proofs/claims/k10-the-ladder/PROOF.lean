import PyProof.Rows.All
import Wide.All
import OpenK.AllK
import Wide.FinOn
import HandS.ForMost
import HandS.ForExc
import HandS.IsInst
import HandS.ExcIs
import HandS.ExcOwn
import HandS.TryOnly
import HandS.TryMany
import HandS.Flow
import HandS.Defaults
import HandS.TupAny
import HandS.TupMul
import HandS.HeadHook1
import HandS.Ends
import HandS.Head0
import HandS.Head1
import HandS.Head2
import HandS.HeadEnd
import HandS.HeadHook2
import PySem.Challenge.RW_loopladder_k10_the_ladder

set_option Elab.async false
set_option linter.all false
set_option maxRecDepth 100000
set_option maxHeartbeats 0
namespace Lad
open PySem PySem.Spec PyProof.Rows L2

/-! ### values, store, results -/
inductive DV where
  | dat (d : PyData)
  | frs (ds : List PyData)
  | hdl (h : Nat)
  | scr (ns : List Int)
inductive MO where
  | lst (ds : List PyData)
  | ins (c : Nat) (fs : List (Str × DV))
  | dead
def MO.live : MO → Bool
  | .dead => false
  | _ => true
abbrev Mem := List MO
inductive Res (β : Type) where
  | ok (a : β) (M : Mem)
  | err (c : Nat) (M : Mem)
  | stuck
@[simp] def Res.bind {β γ : Type} (r : Res β) (f : β → Mem → Res γ) : Res γ :=
  match r with
  | .ok a M => f a M
  | .err c M => .err c M
  | .stuck => .stuck
abbrev Rho := List (Option DV)
@[simp] def DV.settle : DV → DV
  | .frs ds => .dat (.list ds)
  | r => r
/-- what a value is, read as data -/
@[simp] def DV.view (M : Mem) : DV → Option PyData
  | .dat d => some d
  | .frs ds => some (.list ds)
  | .hdl h => match M[h]? with
    | some (.lst ds) => some (.list ds)
    | _ => none
  | .scr ns => some (.list (ns.map PyData.int))
/-- .. but of the script -/
@[simp] def DV.viewK (M : Mem) : DV → Option PyData
  | .scr _ => none
  | r => r.view M

structure Gx where
  K : PySem.W.Frag
  cls : Nat → Addr
  pin : List (Nat × V) := []

/-! ### data in a frozen heap -/
mutual
inductive Dq (K : PySem.W.Frag) (F : Hp) : V → PyData → Prop
  | non : Dq K F .non .none
  | bl (b : Bool) : Dq K F (.bl b) (.bool b)
  | int (i : Int) : Dq K F (.int i) (.int i)
  | str (x : Str) : Dq K F (.str x) (.str x)
  | lst {a : Addr} {xs : List V} {ds : List PyData} : F a = some (.lst xs) → DqAll K F xs ds → Dq K F (.ref a) (.list ds)
  | tup {a : Addr} {xs : List V} {ds : List PyData} : SqT K F a xs → DqAll K F xs ds → Dq K F (.ref a) (.tuple ds)
inductive DqAll (K : PySem.W.Frag) (F : Hp) : List V → List PyData → Prop
  | nil : DqAll K F [] []
  | cons {v : V} {vs : List V} {d : PyData} {ds : List PyData} : Dq K F v d → DqAll K F vs ds → DqAll K F (v :: vs) (d :: ds)
end
mutual
theorem dp_mono {K : PySem.W.Frag} {F F' : Hp} (e : Same F F') : ∀ {d : PyData} {v : V}, Dq K F v d → Dq K F' v d
  | .none, _, h => by cases h; exact .non
  | .bool b, _, h => by cases h; exact .bl b
  | .int i, _, h => by cases h; exact .int i
  | .str x, _, h => by cases h; exact .str x
  | .list ds, _, h => by
    cases h with
    | lst s a => exact .lst (e _ _ s) (dpAll_mono e a)
  | .tuple ds, _, h => by
    cases h with
    | tup s a =>
      refine .tup ?_ (dpAll_mono e a)
      rcases s with (s | ⟨o, s⟩) | s
      · exact .inl (.inl (e _ _ s))
      · exact .inl (.inr ⟨o, e _ _ s⟩)
      · exact .inr s
  | .dict _, _, h => by cases h
theorem dpAll_mono {K : PySem.W.Frag} {F F' : Hp} (e : Same F F') : ∀ {ds : List PyData} {vs : List V}, DqAll K F vs ds → DqAll K F' vs ds
  | [], _, h => by cases h; exact .nil
  | d :: ds, _, h => by
    cases h with
    | cons a b => exact .cons (dp_mono e a) (dpAll_mono e b)
end
mutual
theorem dq_dp {K : PySem.W.Frag} {F : Hp} : ∀ {d : PyData} {v : V}, Dq K F v d → Dp K F v d
  | .none, _, h => by cases h; exact .non
  | .bool b, _, h => by cases h; exact .bl b
  | .int i, _, h => by cases h; exact .int i
  | .str x, _, h => by cases h; exact .str x
  | .list ds, _, h => by
    cases h with
    | lst s a => exact .lst (SqL.of s) (dqAll_dp a)
  | .tuple ds, _, h => by
    cases h with
    | tup s a => exact .tup s (dqAll_dp a)
  | .dict _, _, h => by cases h
theorem dqAll_dp {K : PySem.W.Frag} {F : Hp} : ∀ {ds : List PyData} {vs : List V}, DqAll K F vs ds → DpAll K F vs ds
  | [], _, h => by cases h; exact .nil
  | d :: ds, _, h => by
    cases h with
    | cons a b => exact .cons (dq_dp a) (dqAll_dp b)
end
theorem same_sqT {K : PySem.W.Frag} {H H' : Hp} {a : Addr} {xs : List V} (e : Same H H') (h : SqT K H a xs) : SqT K H' a xs := by
  rcases h with (h | ⟨o, h⟩) | h
  · exact .inl (.inl (e _ _ h))
  · exact .inl (.inr ⟨o, e _ _ h⟩)
  · exact .inr h

def DatR (K : PySem.W.Frag) (F : Hp) (v : V) (d : PyData) : Prop := Dq K F v d ∧ d.canLay0 = true
def AllR (K : PySem.W.Frag) (F : Hp) (vs : List V) (ds : List PyData) : Prop := DqAll K F vs ds ∧ PyData.canLayAll0 ds = true
section
variable {K : PySem.W.Frag} {F F' : Hp}
theorem DatR.mono (e : Same F F') {v : V} {d : PyData} (h : DatR K F v d) : DatR K F' v d := ⟨dp_mono e h.1, h.2⟩
theorem AllR.mono (e : Same F F') {v : List V} {d : List PyData} (h : AllR K F v d) : AllR K F' v d := ⟨dpAll_mono e h.1, h.2⟩
theorem AllR.nil : AllR K F [] [] := ⟨.nil, rfl⟩
theorem AllR.cons {v : V} {d : PyData} {vs : List V} {ds : List PyData} (a : DatR K F v d) (b : AllR K F vs ds) : AllR K F (v :: vs) (d :: ds) :=
  ⟨.cons a.1 b.1, by simp only [PyData.canLayAll0, a.2, b.2, Bool.and_self]⟩
theorem AllR.cases {v : List V} {d : PyData} {ds : List PyData} (h : AllR K F v (d :: ds)) : ∃ x xs, v = x :: xs ∧ DatR K F x d ∧ AllR K F xs ds := by
  obtain ⟨h1, h2⟩ := h
  have h3 : d.canLay0 = true ∧ PyData.canLayAll0 ds = true := by simpa [PyData.canLayAll0] using h2
  cases h1 with
  | cons a b => exact ⟨_, _, rfl, ⟨a, h3.1⟩, ⟨b, h3.2⟩⟩
theorem AllR.cases_nil {v : List V} (h : AllR K F v []) : v = [] := by
  obtain ⟨h1, _⟩ := h
  cases h1
  rfl
theorem AllR.length : ∀ {ds : List PyData} {vs : List V}, AllR K F vs ds → vs.length = ds.length
  | [], _, h => by
    rw [h.cases_nil]
    rfl
  | d :: ds, _, h => by
    obtain ⟨x, xs, rfl, _, t⟩ := h.cases
    rw [List.length_cons, List.length_cons, t.length]
theorem AllR.get : ∀ {ds : List PyData} {vs : List V} {i : Nat} {d : PyData}, AllR K F vs ds → ds[i]? = some d → ∃ v, vs[i]? = some v ∧ DatR K F v d
  | [], _, i, d, _, e => by simp at e
  | d0 :: ds, _, 0, d, h, e => by
    obtain ⟨x, xs, rfl, q, t⟩ := h.cases
    have e' : d0 = d := by simpa using e
    subst e'
    exact ⟨x, rfl, q⟩
  | d0 :: ds, _, i + 1, d, h, e => by
    obtain ⟨x, xs, rfl, q, t⟩ := h.cases
    obtain ⟨v, e1, e2⟩ := t.get (i := i) (d := d) (by simpa using e)
    exact ⟨v, by simpa using e1, e2⟩
theorem AllR.get' : ∀ {ds : List PyData} {vs : List V} {i : Nat} {v : V}, AllR K F vs ds → vs[i]? = some v → ∃ d, ds[i]? = some d ∧ DatR K F v d
  | [], vs, i, v, h, e => by
    rw [h.cases_nil] at e
    simp at e
  | d0 :: ds, _, 0, v, h, e => by
    obtain ⟨x, xs, rfl, q, t⟩ := h.cases
    have e' : x = v := by simpa using e
    subst e'
    exact ⟨d0, rfl, q⟩
  | d0 :: ds, _, i + 1, v, h, e => by
    obtain ⟨x, xs, rfl, q, t⟩ := h.cases
    obtain ⟨d, e1, e2⟩ := t.get' (i := i) (v := v) (by simpa using e)
    exact ⟨d, by simpa using e1, e2⟩
theorem AllR.append : ∀ {ds es : List PyData} {vs us : List V}, AllR K F vs ds → AllR K F us es → AllR K F (vs ++ us) (ds ++ es)
  | [], _, _, _, h, q => by
    rw [h.cases_nil]
    exact q
  | d :: ds, es, _, us, h, q => by
    obtain ⟨x, xs, rfl, a, t⟩ := h.cases
    exact .cons a (t.append q)
theorem AllR.take : ∀ (n : Nat) {ds : List PyData} {vs : List V}, AllR K F vs ds → AllR K F (vs.take n) (ds.take n)
  | 0, _, _, _ => .nil
  | _ + 1, [], _, h => by
    rw [h.cases_nil]
    exact .nil
  | n + 1, d :: ds, _, h => by
    obtain ⟨x, xs, rfl, a, t⟩ := h.cases
    exact .cons a (t.take n)
theorem AllR.drop : ∀ (n : Nat) {ds : List PyData} {vs : List V}, AllR K F vs ds → AllR K F (vs.drop n) (ds.drop n)
  | 0, _, _, h => h
  | _ + 1, [], _, h => by
    rw [h.cases_nil]
    exact .nil
  | n + 1, d :: ds, _, h => by
    obtain ⟨x, xs, rfl, a, t⟩ := h.cases
    exact t.drop n
theorem AllR.set : ∀ {ds : List PyData} {vs : List V} (i : Nat) {v : V} {d : PyData}, AllR K F vs ds → DatR K F v d → AllR K F (vs.set i v) (ds.set i d)
  | [], _, _, _, _, h, _ => by
    rw [h.cases_nil]
    exact .nil
  | d0 :: ds, _, 0, _, _, h, q => by
    obtain ⟨x, xs, rfl, a, t⟩ := h.cases
    exact .cons q t
  | d0 :: ds, _, i + 1, _, _, h, q => by
    obtain ⟨x, xs, rfl, a, t⟩ := h.cases
    exact .cons a (t.set i q)
/-- ints alone -/
theorem AllR.ints : ∀ (ns : List Int), AllR K F (ns.map V.int) (ns.map PyData.int)
  | [] => .nil
  | n :: ns => .cons ⟨.int n, rfl⟩ (AllR.ints ns)
end

/-! ### the store in the heap -/
def SlotR (G : Gx) (F : Hp) (al : List Addr) (v : V) : DV → Prop
  | .dat d => DatR G.K F v d
  | .hdl h => ∃ a, al[h]? = some a ∧ v = .ref a
  | .scr ns => ∃ a, v = .ref a ∧ SqL G.K F a (ns.map V.int)
  | .frs _ => False
def ResR (G : Gx) (F : Hp) (al : List Addr) (H : Hp) (v : V) : DV → Prop
  | .dat d => DatR G.K F v d
  | .hdl h => ∃ a, al[h]? = some a ∧ v = .ref a
  | .scr ns => ∃ a, v = .ref a ∧ SqL G.K F a (ns.map V.int)
  | .frs ds => ∃ a xs, v = .ref a ∧ H a = some (.lst xs) ∧ F a = none ∧ a ∉ al ∧ AllR G.K F xs ds
def FldR (G : Gx) (F : Hp) (al : List Addr) (p : Str × V) (q : Str × DV) : Prop := p.1 = q.1 ∧ SlotR G F al p.2 q.2
def MOR (G : Gx) (F : Hp) (al : List Addr) (H : Hp) (a : Addr) : MO → Prop
  | .lst ds => ∃ xs, H a = some (.lst xs) ∧ AllR G.K F xs ds
  | .ins c fs => ∃ dx vs, H a = some (.ins (G.cls c) dx vs) ∧ Paired (FldR G F al) vs fs
  | .dead => ∃ o, H a = some o
structure WR (G : Gx) (F : Hp) (al : List Addr) (M : Mem) (H : Hp) : Prop where
  sub : Same F H
  len : al.length = M.length
  nd : al.Nodup
  off : ∀ (h : Nat) m a, M[h]? = some m → m.live = true → al[h]? = some a → F a = none
  obj : ∀ (h : Nat) m a, M[h]? = some m → al[h]? = some a → MOR G F al H a m
structure Ext (F F' : Hp) (al al' : List Addr) : Prop where
  fs : Same F F'
  pre : ∃ t, al' = al ++ t
structure SR (G : Gx) (F : Hp) (al : List Addr) (ρ : Rho) (σ : L2.St) : Prop where
  len : σ.length = ρ.length
  at_ : ∀ (i : Nat) dv, ρ[i]? = some (some dv) → ∃ v, σ[i]? = some (some v) ∧ SlotR G F al v dv
  pin : ∀ p ∈ G.pin, σ[p.1]? = some (some p.2)

section
variable {G : Gx} {F F' F'' : Hp} {al al' al'' : List Addr} {M M' : Mem} {H H' : Hp} {ρ : Rho} {σ : L2.St} {v : V} {r : DV}
theorem Ext.refl : Ext F F al al := ⟨Same.refl F, [], by simp⟩
theorem Ext.trans (a : Ext F F' al al') (b : Ext F' F'' al' al'') : Ext F F'' al al'' := by
  obtain ⟨s1, t1, e1⟩ := a
  obtain ⟨s2, t2, e2⟩ := b
  exact ⟨s1.trans s2, t1 ++ t2, by rw [e2, e1, List.append_assoc]⟩
theorem Ext.of (s : Same F F') : Ext F F' al al := ⟨s, [], by simp⟩
theorem Ext.get (e : Ext F F' al al') {h : Nat} {a : Addr} (q : al[h]? = some a) : al'[h]? = some a := by
  obtain ⟨t, rfl⟩ := e.pre
  rw [List.getElem?_append_left (List.getElem?_eq_some_iff.mp q).1]
  exact q
theorem SlotR.mono (e : Ext F F' al al') (h : SlotR G F al v r) : SlotR G F' al' v r := by
  cases r with
  | dat d => exact DatR.mono e.fs h
  | frs ds => exact h
  | hdl k =>
    obtain ⟨a, q, z⟩ := h
    exact ⟨a, e.get q, z⟩
  | scr ns =>
    obtain ⟨a, q, z⟩ := h
    exact ⟨a, q, e.fs.seq z⟩
theorem SlotR.res (h : SlotR G F al v r) : ResR G F al H v r := by
  cases r with
  | dat d => exact h
  | frs ds => exact h.elim
  | hdl k => exact h
  | scr ns => exact h
theorem SR.mono (e : Ext F F' al al') (s : SR G F al ρ σ) : SR G F' al' ρ σ := ⟨s.len, fun i dv q => by
  obtain ⟨v, h1, h2⟩ := s.at_ i dv q
  exact ⟨v, h1, h2.mono e⟩, s.pin⟩
theorem SR.set (s : SR G F al ρ σ) (i : Nat) (hp : ∀ p ∈ G.pin, p.1 ≠ i) (q : SlotR G F al v r) : SR G F al (ρ.set i (some r)) (σ.set i (some v)) := ⟨by simp [s.len], fun j dv e => by
  by_cases hj : i = j
  · subst hj
    by_cases hl : i < ρ.length
    · rw [List.getElem?_set_self hl] at e
      cases e
      exact ⟨v, by rw [List.getElem?_set_self (by rw [s.len]; exact hl)], q⟩
    · rw [List.getElem?_eq_none (by simpa using hl)] at e
      cases e
  · rw [List.getElem?_set_ne hj] at e ⊢
    exact s.at_ j dv e, fun p h => by
  rw [List.getElem?_set_ne (Ne.symm (hp p h))]
  exact s.pin p h⟩
theorem SR.unset (s : SR G F al ρ σ) (i : Nat) (hp : ∀ p ∈ G.pin, p.1 ≠ i) : SR G F al (ρ.set i none) (σ.set i none) := ⟨by simp [s.len], fun j dv e => by
  by_cases hj : i = j
  · subst hj
    by_cases hl : i < ρ.length
    · rw [List.getElem?_set_self hl] at e
      cases e
    · rw [List.getElem?_eq_none (by simpa using hl)] at e
      cases e
  · rw [List.getElem?_set_ne hj] at e ⊢
    exact s.at_ j dv e, fun p h => by
  rw [List.getElem?_set_ne (Ne.symm (hp p h))]
  exact s.pin p h⟩
/-- a slot of σ that ρ forgets may be anything -/
theorem SR.forget (s : SR G F al ρ σ) (i : Nat) (hp : ∀ p ∈ G.pin, p.1 ≠ i) (o : Option V) : SR G F al (ρ.set i none) (σ.set i o) := ⟨by simp [s.len], fun j dv e => by
  by_cases hj : i = j
  · subst hj
    by_cases hl : i < ρ.length
    · rw [List.getElem?_set_self hl] at e
      cases e
    · rw [List.getElem?_eq_none (by simpa using hl)] at e
      cases e
  · rw [List.getElem?_set_ne hj] at e ⊢
    exact s.at_ j dv e, fun p h => by
  rw [List.getElem?_set_ne (Ne.symm (hp p h))]
  exact s.pin p h⟩

theorem paired_mono {vs : List (Str × V)} {fs : List (Str × DV)} (e : Ext F F' al al') (h : Paired (FldR G F al) vs fs) : Paired (FldR G F' al') vs fs :=
  Paired.mapP h fun _ _ q => ⟨q.1, q.2.mono e⟩
theorem MOR.mono {a : Addr} {m : MO} (e : Ext F F' al al') (h : MOR G F al H a m) : MOR G F' al' H a m := by
  cases m with
  | lst ds =>
    obtain ⟨xs, q, z⟩ := h
    exact ⟨xs, q, z.mono e.fs⟩
  | ins c fs =>
    obtain ⟨dx, vs, q, z⟩ := h
    exact ⟨dx, vs, q, paired_mono e z⟩
  | dead => exact h
theorem MOR.heap {a : Addr} {m : MO} (k : ∀ o, H a = some o → H' a = some o) (h : MOR G F al H a m) : MOR G F al H' a m := by
  cases m with
  | lst ds =>
    obtain ⟨xs, q, z⟩ := h
    exact ⟨xs, k _ q, z⟩
  | ins c fs =>
    obtain ⟨dx, vs, q, z⟩ := h
    exact ⟨dx, vs, k _ q, z⟩
  | dead =>
    obtain ⟨o, q⟩ := h
    exact ⟨o, k _ q⟩
theorem MOR.some {a : Addr} {m : MO} (h : MOR G F al H a m) : ∃ o, H a = some o := by
  cases m with
  | lst ds =>
    obtain ⟨xs, q, z⟩ := h
    exact ⟨_, q⟩
  | ins c fs =>
    obtain ⟨dx, vs, q, z⟩ := h
    exact ⟨_, q⟩
  | dead => exact h
theorem WR.there (w : WR G F al M H) {a : Addr} (h : a ∈ al) : ∃ o, H a = some o := by
  obtain ⟨i, hi, e⟩ := List.mem_iff_getElem.mp h
  have hm : i < M.length := by rw [← w.len]; exact hi
  exact (w.obj i M[i] a (List.getElem?_eq_getElem hm) (by rw [List.getElem?_eq_getElem hi, e])).some
/-- a new object, not yet counted -/
theorem WR.alloc (w : WR G F al M H) {q : Addr} {o : HO} (n : H q = none) : WR G F al M (upd H q o) :=
  ⟨fun b u e => by
    have e1 := w.sub b u e
    rw [upd_ne (ne_of_none e1 n)]
    exact e1, w.len, w.nd, w.off, fun h m a e1 e2 => (w.obj h m a e1 e2).heap fun u e => by
      rw [upd_ne (ne_of_none e n)]
      exact e⟩
theorem WR.fresh (w : WR G F al M H) {q : Addr} (n : H q = none) : F q = none ∧ q ∉ al := by
  constructor
  · exact w.sub.free n
  · intro h
    obtain ⟨o, e⟩ := w.there h
    rw [n] at e
    cases e
theorem same_upd {q : Addr} {o : HO} (n : F q = none) : Same F (upd F q o) := fun b x e => by
  rw [upd_ne (ne_of_none e n)]
  exact e
/-- what stands uncounted is frozen -/
theorem WR.freeze (w : WR G F al M H) {q : Addr} {o : HO} (e : H q = some o) (n : F q = none) (na : q ∉ al) : WR G (upd F q o) al M H :=
  ⟨fun b u x => by
    by_cases hb : b = q
    · subst hb
      rw [upd_same] at x
      rw [← x]
      exact e
    · rw [upd_ne hb] at x
      exact w.sub b u x, w.len, w.nd, fun h m a e1 hl e2 => by
      rw [upd_ne (fun z : a = q => na (z ▸ List.mem_of_getElem? e2))]
      exact w.off h m a e1 hl e2, fun h m a e1 e2 => (w.obj h m a e1 e2).mono (Ext.of (same_upd n))⟩
theorem settle_ok (w : WR G F al M H) (h : ResR G F al H v r) : ∃ F', Same F F' ∧ WR G F' al M H ∧ SlotR G F' al v r.settle := by
  cases r with
  | dat d => exact ⟨F, Same.refl F, w, h⟩
  | hdl k => exact ⟨F, Same.refl F, w, h⟩
  | scr ns => exact ⟨F, Same.refl F, w, h⟩
  | frs ds =>
    obtain ⟨a, xs, rfl, e, n, na, q⟩ := h
    exact ⟨_, same_upd n, w.freeze e n na, .lst upd_same (dpAll_mono (same_upd n) q.1), by simpa [PyData.canLay0] using q.2⟩
theorem view_list {ds : List PyData} (w : WR G F al M H) (h : SlotR G F al v r) (e : r.view M = some (.list ds)) : ∃ a xs, v = .ref a ∧ SqL G.K H a xs ∧ AllR G.K F xs ds := by
  cases r with
  | dat d =>
    cases e
    obtain ⟨h1, h2⟩ := h
    cases h1 with
    | lst s q => exact ⟨_, _, rfl, SqL.of (w.sub _ _ s), q, by simpa [PyData.canLay0] using h2⟩
  | frs _ => exact h.elim
  | scr ns =>
    cases e
    obtain ⟨a, rfl, q⟩ := h
    exact ⟨a, _, rfl, w.sub.seq q, AllR.ints ns⟩
  | hdl k =>
    obtain ⟨a, q, rfl⟩ := h
    simp only [DV.view] at e
    cases hm : M[k]? with
    | none =>
      rw [hm] at e
      cases e
    | some m =>
      rw [hm] at e
      cases m with
      | lst es =>
        cases e
        obtain ⟨xs, z1, z2⟩ := w.obj k _ a hm q
        exact ⟨a, xs, rfl, SqL.of z1, z2⟩
      | ins _ _ => cases e
      | dead => cases e
theorem view_trk {ds : List PyData} (w : WR G F al M H) (h : SlotR G F al v r) (e : r.viewK M = some (.list ds)) : ∃ a xs, v = .ref a ∧ H a = some (.lst xs) ∧ AllR G.K F xs ds := by
  cases r with
  | dat d =>
    cases e
    obtain ⟨h1, h2⟩ := h
    cases h1 with
    | lst s q => exact ⟨_, _, rfl, w.sub _ _ s, q, by simpa [PyData.canLay0] using h2⟩
  | frs _ => exact h.elim
  | scr ns => cases e
  | hdl k =>
    obtain ⟨a, q, rfl⟩ := h
    simp only [DV.viewK, DV.view] at e
    cases hm : M[k]? with
    | none =>
      rw [hm] at e
      cases e
    | some m =>
      rw [hm] at e
      cases m with
      | lst es =>
        cases e
        obtain ⟨xs, z1, z2⟩ := w.obj k _ a hm q
        exact ⟨a, xs, rfl, z1, z2⟩
      | ins _ _ => cases e
      | dead => cases e
theorem view_tup {ds : List PyData} (w : WR G F al M H) (h : SlotR G F al v r) (e : r.view M = some (.tuple ds)) : ∃ a xs, v = .ref a ∧ SqT G.K F a xs ∧ AllR G.K F xs ds := by
  cases r with
  | dat d =>
    cases e
    obtain ⟨h1, h2⟩ := h
    cases h1 with
    | tup s q => exact ⟨_, _, rfl, s, q, by simpa [PyData.canLay0] using h2⟩
  | frs _ => exact h.elim
  | scr ns => cases e
  | hdl k =>
    simp only [DV.view] at e
    cases hm : M[k]? with
    | none =>
      rw [hm] at e
      cases e
    | some m =>
      rw [hm] at e
      cases m <;> cases e
theorem dp_ints {K : PySem.W.Frag} {H : Hp} : ∀ ns : List Int, DpAll K H (ns.map V.int) (ns.map PyData.int)
  | [] => .nil
  | n :: ns => .cons (.int n) (dp_ints ns)
theorem lay_ints : ∀ ns : List Int, PyData.canLayAll0 (ns.map PyData.int) = true
  | [] => rfl
  | n :: ns => by simp only [List.map_cons, PyData.canLayAll0, PyData.canLay0, lay_ints ns, Bool.and_self]
theorem view_dat {d : PyData} (w : WR G F al M H) (h : SlotR G F al v r) (e : r.view M = some d) : Dp G.K H v d ∧ d.canLay0 = true := by
  cases r with
  | dat d' =>
    cases e
    exact ⟨dq_dp (dp_mono w.sub h.1), h.2⟩
  | frs _ => exact h.elim
  | scr ns =>
    cases e
    obtain ⟨a, rfl, q⟩ := h
    exact ⟨.lst (w.sub.seq q) (dp_ints ns), by simpa [PyData.canLay0] using lay_ints ns⟩
  | hdl k =>
    obtain ⟨a, q, rfl⟩ := h
    simp only [DV.view] at e
    cases hm : M[k]? with
    | none =>
      rw [hm] at e
      cases e
    | some m =>
      rw [hm] at e
      cases m with
      | lst es =>
        cases e
        obtain ⟨xs, z1, z2⟩ := w.obj k _ a hm q
        exact ⟨.lst (SqL.of z1) (dqAll_dp (dpAll_mono w.sub z2.1)), by simpa [PyData.canLay0] using z2.2⟩
      | ins _ _ => cases e
      | dead => cases e
theorem view_int {i : Int} (w : WR G F al M H) (h : SlotR G F al v r) (e : r.view M = some (.int i)) : v = .int i := by
  obtain ⟨h1, _⟩ := view_dat w h e
  cases h1
  rfl
theorem view_str {i : Str} (w : WR G F al M H) (h : SlotR G F al v r) (e : r.view M = some (.str i)) : v = .str i ∧ PyData.strOk i = true := by
  obtain ⟨h1, h2⟩ := view_dat w h e
  cases h1
  exact ⟨rfl, by simpa [PyData.canLay0] using h2⟩
theorem view_bool {i : Bool} (w : WR G F al M H) (h : SlotR G F al v r) (e : r.view M = some (.bool i)) : v = .bl i := by
  obtain ⟨h1, _⟩ := view_dat w h e
  cases h1
  rfl
theorem view_none (w : WR G F al M H) (h : SlotR G F al v r) (e : r.view M = some .none) : v = .non := by
  obtain ⟨h1, _⟩ := view_dat w h e
  cases h1
  rfl
/-- a handle's object is changed -/
theorem WR.put (w : WR G F al M H) {k : Nat} {a : Addr} {o : HO} {m : MO} {m0 : MO} (e : al[k]? = some a) (hk0 : M[k]? = some m0) (hv : m0.live = true) (new : MOR G F al (upd H a o) a m) : WR G F al (M.set k m) (upd H a o) := by
  have hk : k < M.length := (List.getElem?_eq_some_iff.mp hk0).1
  have hF := w.off k m0 a hk0 hv e
  refine ⟨fun b u x => ?_, by simp [w.len], w.nd, fun h m' b e1 hl e2 => ?_, fun h m' b e1 e2 => ?_⟩
  · have hb : b ≠ a := fun z => by
      rw [z, hF] at x
      cases x
    rw [upd_ne hb]
    exact w.sub b u x
  · by_cases hh : h = k
    · subst hh
      rw [e] at e2
      cases e2
      exact hF
    · rw [List.getElem?_set_ne (Ne.symm hh)] at e1
      exact w.off h m' b e1 hl e2
  · by_cases hh : h = k
    · subst hh
      rw [e] at e2
      cases e2
      rw [List.getElem?_set_self hk] at e1
      cases e1
      exact new
    · rw [List.getElem?_set_ne (Ne.symm hh)] at e1
      have hb : b ≠ a := fun z => by
        subst z
        exact hh (nodup_ixA w.nd e2 e)
      exact (w.obj h m' b e1 e2).heap fun u z => by
        rw [upd_ne hb]
        exact z
where
  nodup_ixA {l : List Addr} (nd : l.Nodup) {i j : Nat} {x : Addr} (p : l[i]? = some x) (q : l[j]? = some x) : i = j := by
    obtain ⟨h1, e1⟩ := List.getElem?_eq_some_iff.mp p
    obtain ⟨h2, e2⟩ := List.getElem?_eq_some_iff.mp q
    exact (List.getElem_inj nd).mp (e1.trans e2.symm)
/-- a further handle -/
theorem WR.more (w : WR G F al M H) {a : Addr} {m : MO} (n : F a = none) (na : a ∉ al) (new : MOR G F (al ++ [a]) H a m) : WR G F (al ++ [a]) (M ++ [m]) H := by
  have ex : Ext F F al (al ++ [a]) := ⟨Same.refl F, [a], rfl⟩
  have pick : ∀ {h : Nat} {m' : MO} {b : Addr}, (M ++ [m])[h]? = some m' → (al ++ [a])[h]? = some b → (M[h]? = some m' ∧ al[h]? = some b) ∨ (m' = m ∧ b = a) := fun {h m' b} e1 e2 => by
    by_cases hh : h < M.length
    · rw [List.getElem?_append_left hh] at e1
      rw [List.getElem?_append_left (by rw [w.len]; exact hh)] at e2
      exact .inl ⟨e1, e2⟩
    · have hl : h = M.length := by
        have h3 := (List.getElem?_eq_some_iff.mp e1).1
        rw [List.length_append, List.length_singleton] at h3
        omega
      subst hl
      rw [List.getElem?_append_right (Nat.le_refl _)] at e1
      rw [List.getElem?_append_right (by rw [w.len]; exact Nat.le_refl _)] at e2
      have e1' : m = m' := by simpa using e1
      have e2' : a = b := by simpa [w.len] using e2
      exact .inr ⟨e1'.symm, e2'.symm⟩
  refine ⟨w.sub, by simp [w.len], ?_, fun h m' b e1 hl e2 => ?_, fun h m' b e1 e2 => ?_⟩
  · rw [List.nodup_append]
    exact ⟨w.nd, by simp, fun x hx y hy => by
      have : y = a := by simpa using hy
      subst this
      exact fun z => na (z ▸ hx)⟩
  · rcases pick e1 e2 with ⟨z1, z2⟩ | ⟨z1, z2⟩
    · exact w.off h m' b z1 hl z2
    · rw [z2]
      exact n
  · rcases pick e1 e2 with ⟨z1, z2⟩ | ⟨z1, z2⟩
    · exact (w.obj h m' b z1 z2).mono ex
    · subst z1 z2
      exact new
end

/-! ### readings by results -/
def PostE (G : Gx) (W : Nat → Hp → Prop) (Q : VK) (F : Hp) (al : List Addr) : Res DV → Prop
  | .ok r M' => ∀ v F' al' H', Ext F F' al al' → WR G F' al' M' H' → ResR G F' al' H' v r → Q v H'
  | .err c M' => ∀ F' al' H', Ext F F' al al' → WR G F' al' M' H' → W c H'
  | .stuck => False
abbrev FE := Rho → Mem → Res DV
/-- the reading of an expression of meaning f -/
def tD (G : Gx) (W : WX) (f : FE) : TE := fun σ H Q => ∃ F al M ρ, WR G F al M H ∧ SR G F al ρ σ ∧ PostE G (fun c H' => W (.ref (G.cls c)) none σ H') Q F al (f ρ M)
theorem PE.imp {X : Cx} {e : Expr} {t t' : TE} (h : PE X e t) (i : ∀ σ H Q, t' σ H Q → t σ H Q) : PE X e t' := ⟨fun pins s σ H Q I q => h.run pins s σ H Q I (i σ H Q q)⟩
theorem PT.imp {X : Cx} {e : Expr} {t t' : TT} (h : PT X e t) (i : ∀ σ H Q, t' σ H Q → t σ H Q) : PT X e t' := ⟨fun pins s σ H Q I q => h.run pins s σ H Q I (i σ H Q q)⟩
theorem PA.imp {X : Cx} {e : List Expr} {t t' : TA} (h : PA X e t) (i : ∀ σ H Q, t' σ H Q → t σ H Q) : PA X e t' := ⟨fun pos pins s σ H Q I q => h.run pos pins s σ H Q I (i σ H Q q)⟩
theorem PS.imp {X : Cx} {e : Stmt} {t t' : TS} (h : PS X e t) (i : ∀ D σ H, t' D σ H → t D σ H) : PS X e t' := ⟨fun pins s σ H D I q => h.run pins s σ H D I (i D σ H q)⟩
theorem PSs.imp {X : Cx} {e : List Stmt} {t t' : TS} (h : PSs X e t) (i : ∀ D σ H, t' D σ H → t D σ H) : PSs X e t' := ⟨fun pins s σ H D I q => h.run pins s σ H D I (i D σ H q)⟩
section
variable {G : Gx} {W : Nat → Hp → Prop} {Q : VK} {F F' : Hp} {al al' : List Addr} {M : Mem} {H : Hp} {r : DV}
theorem PostE.mono {x : Res DV} (e : Ext F F' al al') (p : PostE G W Q F al x) : PostE G W Q F' al' x := by
  cases x with
  | ok r M => exact fun v F2 al2 H2 e2 w q => p v F2 al2 H2 (e.trans e2) w q
  | err c M => exact fun F2 al2 H2 e2 w => p F2 al2 H2 (e.trans e2) w
  | stuck => exact p
/-- behind an expression, its value settled: the state, and what is left to do -/
structure Now (G : Gx) (WX0 : WX) (σ : L2.St) (v : V) (H : Hp) (Q : VK) (ρ : Rho) (r : DV) (M : Mem) (rest : Res DV) : Prop where
  ex : ∃ F al, WR G F al M H ∧ SR G F al ρ σ ∧ SlotR G F al v r ∧ PostE G (fun c H' => WX0 (.ref (G.cls c)) none σ H') Q F al rest
end
end Lad

noncomputable section
namespace Lad
open PySem PySem.Spec PyProof.Rows L2

abbrev wx (G : Gx) (W : WX) (σ : L2.St) : Nat → Hp → Prop := fun c H' => W (.ref (G.cls c)) none σ H'
def PostT (G : Gx) (W : Nat → Hp → Prop) (Q : Bool → Hp → Prop) (F : Hp) (al : List Addr) : Res Bool → Prop
  | .ok b M' => ∀ F' al' H', Ext F F' al al' → WR G F' al' M' H' → Q b H'
  | .err c M' => ∀ F' al' H', Ext F F' al al' → WR G F' al' M' H' → W c H'
  | .stuck => False
def PostA (G : Gx) (W : Nat → Hp → Prop) (Q : List V → Hp → Prop) (F : Hp) (al : List Addr) : Res (List DV) → Prop
  | .ok rs M' => ∀ vs F' al' H', Ext F F' al al' → WR G F' al' M' H' → Paired (SlotR G F' al') vs rs → Q vs H'
  | .err c M' => ∀ F' al' H', Ext F F' al al' → WR G F' al' M' H' → W c H'
  | .stuck => False
abbrev FT := Rho → Mem → Res Bool
abbrev FA := Rho → Mem → Res (List DV)
def tDT (G : Gx) (W : WX) (f : FT) : TT := fun σ H Q => ∃ F al M ρ, WR G F al M H ∧ SR G F al ρ σ ∧ PostT G (wx G W σ) Q F al (f ρ M)
def tDA (G : Gx) (W : WX) (f : FA) : TA := fun σ H Q => ∃ F al M ρ, WR G F al M H ∧ SR G F al ρ σ ∧ PostA G (wx G W σ) Q F al (f ρ M)

section
variable {G : Gx} {W : Nat → Hp → Prop} {F F' : Hp} {al al' : List Addr}
theorem PostT.mono {Q : Bool → Hp → Prop} {x : Res Bool} (e : Ext F F' al al') (p : PostT G W Q F al x) : PostT G W Q F' al' x := by
  cases x with
  | ok r M => exact fun F2 al2 H2 e2 w => p F2 al2 H2 (e.trans e2) w
  | err c M => exact fun F2 al2 H2 e2 w => p F2 al2 H2 (e.trans e2) w
  | stuck => exact p
theorem PostA.mono {Q : List V → Hp → Prop} {x : Res (List DV)} (e : Ext F F' al al') (p : PostA G W Q F al x) : PostA G W Q F' al' x := by
  cases x with
  | ok r M => exact fun v F2 al2 H2 e2 w q => p v F2 al2 H2 (e.trans e2) w q
  | err c M => exact fun F2 al2 H2 e2 w => p F2 al2 H2 (e.trans e2) w
  | stuck => exact p
end

/-! ### one step after another. The end is any predicate that errors reach and extensions keep -/
structure End (G : Gx) (W : Nat → Hp → Prop) (γ : Type) (P : Hp → List Addr → Res γ → Prop) : Prop where
  mono : ∀ {F F' al al'} {x : Res γ}, Ext F F' al al' → P F al x → P F' al' x
  err : ∀ {F al c M}, P F al (.err c M) → ∀ F' al' H', Ext F F' al al' → WR G F' al' M H' → W c H'
  stuck : ∀ {F al}, ¬ P F al .stuck
theorem endE {G : Gx} {W : Nat → Hp → Prop} {Q : VK} : End G W DV (PostE G W Q) := ⟨fun e p => p.mono e, fun p => p, fun p => p⟩
theorem endT {G : Gx} {W : Nat → Hp → Prop} {Q : Bool → Hp → Prop} : End G W Bool (PostT G W Q) := ⟨fun e p => p.mono e, fun p => p, fun p => p⟩
theorem endA {G : Gx} {W : Nat → Hp → Prop} {Q : List V → Hp → Prop} : End G W (List DV) (PostA G W Q) := ⟨fun e p => p.mono e, fun p => p, fun p => p⟩
section
variable {G : Gx} {W : WX} {σ : L2.St} {F : Hp} {al : List Addr} {M : Mem} {H : Hp} {ρ : Rho} {γ : Type} {P : Hp → List Addr → Res γ → Prop}
theorem step {f : FE} {g : DV → Mem → Res γ} {K : VK} (n : End G (wx G W σ) γ P) (w : WR G F al M H) (s : SR G F al ρ σ) (p : P F al ((f ρ M).bind fun r M' => g r.settle M'))
    (h : ∀ v H1 F' al' M' r, Ext F F' al al' → WR G F' al' M' H1 → SR G F' al' ρ σ → SlotR G F' al' v r → P F' al' (g r M') → K v H1) : tD G W f σ H K := by
  refine ⟨F, al, M, ρ, w, s, ?_⟩
  cases hf : f ρ M with
  | ok r M1 =>
    rw [hf] at p
    intro v F1 al1 H1 e1 w1 q1
    obtain ⟨F2, s2, w2, q2⟩ := settle_ok w1 q1
    have e2 := e1.trans (Ext.of (al := al1) s2)
    exact h v H1 F2 al1 M1 r.settle e2 w2 (s.mono e2) q2 (n.mono e2 p)
  | err c M1 =>
    rw [hf] at p
    exact n.err p
  | stuck =>
    rw [hf] at p
    exact n.stuck p
/-- the value as it comes, not settled -/
theorem stepR {f : FE} {g : DV → Mem → Res γ} {K : VK} (n : End G (wx G W σ) γ P) (w : WR G F al M H) (s : SR G F al ρ σ) (p : P F al ((f ρ M).bind g))
    (h : ∀ v H1 F' al' M' r, Ext F F' al al' → WR G F' al' M' H1 → SR G F' al' ρ σ → ResR G F' al' H1 v r → P F' al' (g r M') → K v H1) : tD G W f σ H K := by
  refine ⟨F, al, M, ρ, w, s, ?_⟩
  cases hf : f ρ M with
  | ok r M1 =>
    rw [hf] at p
    intro v F1 al1 H1 e1 w1 q1
    exact h v H1 F1 al1 M1 r e1 w1 (s.mono e1) q1 (n.mono e1 p)
  | err c M1 =>
    rw [hf] at p
    exact n.err p
  | stuck =>
    rw [hf] at p
    exact n.stuck p
theorem stepT {f : FT} {g : Bool → Mem → Res γ} {K : Bool → Hp → Prop} (n : End G (wx G W σ) γ P) (w : WR G F al M H) (s : SR G F al ρ σ) (p : P F al ((f ρ M).bind g))
    (h : ∀ b H1 F' al' M', Ext F F' al al' → WR G F' al' M' H1 → SR G F' al' ρ σ → P F' al' (g b M') → K b H1) : tDT G W f σ H K := by
  refine ⟨F, al, M, ρ, w, s, ?_⟩
  cases hf : f ρ M with
  | ok r M1 =>
    rw [hf] at p
    intro F1 al1 H1 e1 w1
    exact h r H1 F1 al1 M1 e1 w1 (s.mono e1) (n.mono e1 p)
  | err c M1 =>
    rw [hf] at p
    exact n.err p
  | stuck =>
    rw [hf] at p
    exact n.stuck p
theorem stepA {f : FA} {g : List DV → Mem → Res γ} {K : List V → Hp → Prop} (n : End G (wx G W σ) γ P) (w : WR G F al M H) (s : SR G F al ρ σ) (p : P F al ((f ρ M).bind g))
    (h : ∀ vs H1 F' al' M' rs, Ext F F' al al' → WR G F' al' M' H1 → SR G F' al' ρ σ → Paired (SlotR G F' al') vs rs → P F' al' (g rs M') → K vs H1) : tDA G W f σ H K := by
  refine ⟨F, al, M, ρ, w, s, ?_⟩
  cases hf : f ρ M with
  | ok r M1 =>
    rw [hf] at p
    intro v F1 al1 H1 e1 w1 q1
    exact h v H1 F1 al1 M1 r e1 w1 (s.mono e1) q1 (n.mono e1 p)
  | err c M1 =>
    rw [hf] at p
    exact n.err p
  | stuck =>
    rw [hf] at p
    exact n.stuck p
end

/-! ### ends -/
section
variable {G : Gx} {W : Nat → Hp → Prop} {Q : VK} {F : Hp} {al : List Addr} {M : Mem} {H : Hp}
theorem fin_dat {v : V} {d : PyData} (w : WR G F al M H) (p : PostE G W Q F al (.ok (.dat d) M)) (q : DatR G.K F v d) : Q v H := p v F al H Ext.refl w q
theorem fin_slot {v : V} {r : DV} (w : WR G F al M H) (p : PostE G W Q F al (.ok r M)) (q : SlotR G F al v r) : Q v H := p v F al H Ext.refl w q.res
theorem fin_int {i : Int} (w : WR G F al M H) (p : PostE G W Q F al (.ok (.dat (.int i)) M)) : Q (.int i) H := fin_dat w p ⟨.int i, rfl⟩
theorem fin_bl {b : Bool} (w : WR G F al M H) (p : PostE G W Q F al (.ok (.dat (.bool b)) M)) : Q (.bl b) H := fin_dat w p ⟨.bl b, rfl⟩
theorem fin_str {x : Str} (w : WR G F al M H) (p : PostE G W Q F al (.ok (.dat (.str x)) M)) (h : PyData.strOk x = true) : Q (.str x) H := fin_dat w p ⟨.str x, by simpa [PyData.canLay0] using h⟩
/-- a new tuple -/
theorem fin_tup {q : Addr} {xs : List V} {ds : List PyData} (w : WR G F al M H) (p : PostE G W Q F al (.ok (.dat (.tuple ds)) M)) (a : AllR G.K F xs ds) (n : H q = none) : Q (.ref q) (upd H q (.tup xs)) := by
  obtain ⟨nf, na⟩ := w.fresh n
  have w1 := (w.alloc (o := .tup xs) n).freeze upd_same nf na
  exact p (.ref q) _ al _ (Ext.of (same_upd nf)) w1 ⟨.tup (SqT.of upd_same) (dpAll_mono (same_upd nf) a.1), by simpa [PyData.canLay0] using a.2⟩
/-- a new list -/
theorem fin_lst {q : Addr} {xs : List V} {ds : List PyData} (w : WR G F al M H) (p : PostE G W Q F al (.ok (.frs ds) M)) (a : AllR G.K F xs ds) (n : H q = none) : Q (.ref q) (upd H q (.lst xs)) := by
  obtain ⟨nf, na⟩ := w.fresh n
  exact p (.ref q) F al _ Ext.refl (w.alloc n) ⟨q, xs, rfl, upd_same, nf, na, a⟩
end

/-! ### names, constants -/
section
variable {G : Gx} {W : WX} {X : Cx}
@[simp] def fVar (i : Nat) : FE := fun ρ M => match ρ[i]? with
  | some (some r) => .ok r M
  | _ => .stuck
theorem de_var {i : Nat} {x : Str} {pos : Pos} (hN : X.N[i]? = some x) (hv : Vis X.env.scope x) (hd : (x == ("__debug__" : Str)) = false) (hcd : (x == ("__classdict__" : Str)) = false) : PE X (.Name x pos) (tD G W (fVar i)) :=
  PE.imp (pe_var hN hv hd hcd) fun σ H Q ⟨F, al, M, ρ, w, s, p⟩ => by
    unfold fVar at p
    cases e : ρ[i]? with
    | none =>
      rw [e] at p
      exact p.elim
    | some o =>
      cases o with
      | none =>
        rw [e] at p
        exact p.elim
      | some r =>
        rw [e] at p
        obtain ⟨v, h1, h2⟩ := s.at_ i r e
        exact ⟨v, h1, fin_slot w p h2⟩
@[simp] def fCon (d : PyData) : FE := fun _ M => .ok (.dat d) M
theorem de_int {i j pos} : PE X (.Constant (.int i) j pos) (tD G W (fCon (.int i))) := PE.imp pe_int fun σ H Q ⟨F, al, M, ρ, w, s, p⟩ => fin_int w p
theorem de_bl {i j pos} : PE X (.Constant (.bool i) j pos) (tD G W (fCon (.bool i))) := PE.imp pe_bl fun σ H Q ⟨F, al, M, ρ, w, s, p⟩ => fin_bl w p
theorem de_non {j pos} : PE X (.Constant .none j pos) (tD G W (fCon .none)) := PE.imp pe_non fun σ H Q ⟨F, al, M, ρ, w, s, p⟩ => fin_dat w p ⟨.non, rfl⟩
theorem de_str {i j pos} (h : PyData.strOk i = true) : PE X (.Constant (.str i) j pos) (tD G W (fCon (.str i))) := PE.imp pe_str fun σ H Q ⟨F, al, M, ρ, w, s, p⟩ => fin_str w p h
theorem de_glob {x : Str} {v : V} {u : Value} {d : PyData} {pos : Pos} (hg : Gl X x) (hm : X.mg x = some u) (r : RelV v u) (hd : (x == ("__debug__" : Str)) = false) (q : ∀ F, DatR G.K F v d) : PE X (.Name x pos) (tD G W (fCon d)) :=
  PE.imp (pe_glob hg hm r hd) fun σ H Q ⟨F, al, M, ρ, w, s, p⟩ => fin_dat w p (q F)

/-! ### argument lists, displays -/
@[simp] def faNil : FA := fun _ M => .ok [] M
@[simp] def faCons (f : FE) (g : FA) : FA := fun ρ M => (f ρ M).bind fun r M1 => (g ρ M1).bind fun rs M2 => .ok (r.settle :: rs) M2
theorem paired_slot {F F' : Hp} {al al' : List Addr} (e : Ext F F' al al') {vs : List V} {rs : List DV} (h : Paired (SlotR G F al) vs rs) : Paired (SlotR G F' al') vs rs := Paired.mapP h fun _ _ q => q.mono e
theorem da_nil : PA X [] (tDA G W faNil) := PA.imp pa_nil fun σ H Q ⟨F, al, M, ρ, w, s, p⟩ => p [] F al H Ext.refl w .nil
theorem da_cons {e : Expr} {es : List Expr} {f : FE} {g : FA} (ha : PE X e (tD G W f)) (hb : PA X es (tDA G W g)) (hs : starEach (e :: es) X.env = (false, eval e X.env) :: starEach es X.env) : PA X (e :: es) (tDA G W (faCons f g)) :=
  PA.imp (pa_cons ha hb hs) fun σ H Q ⟨F, al, M, ρ, w, s, p⟩ => by
    refine step (g := fun r M1 => (g ρ M1).bind fun rs M2 => .ok (r :: rs) M2) endA w s p fun v H1 F1 al1 M1 r e1 w1 s1 x1 p1 => ?_
    refine stepA endA w1 s1 p1 fun vs H2 F2 al2 M2 rs e2 w2 s2 x2 p2 => ?_
    exact p2 (v :: vs) F2 al2 H2 Ext.refl w2 (.cons (x1.mono e2) x2)
/-- data of settled values -/
@[simp] def dats : List DV → Option (List PyData)
  | [] => some []
  | .dat d :: rs => (dats rs).map (d :: ·)
  | _ :: _ => none
theorem dats_ok {F : Hp} {al : List Addr} : ∀ {rs : List DV} {vs : List V} {ds : List PyData}, Paired (SlotR G F al) vs rs → dats rs = some ds → AllR G.K F vs ds
  | [], _, ds, h, e => by
    cases h
    cases e
    exact .nil
  | .dat d :: rs, _, ds, h, e => by
    cases h with
    | cons a b =>
      unfold dats at e
      cases q : dats rs with
      | none =>
        rw [q] at e
        cases e
      | some es =>
        rw [q] at e
        cases e
        exact .cons a (dats_ok b q)
  | .frs _ :: rs, _, ds, h, e => by cases e
  | .hdl _ :: rs, _, ds, h, e => by cases e
  | .scr _ :: rs, _, ds, h, e => by cases e
@[simp] def oTup (rs : List DV) (M : Mem) : Res DV := match dats rs with
  | some ds => if ds.length ≤ 1000000 then .ok (.dat (.tuple ds)) M else .stuck
  | none => .stuck
@[simp] def oLst (rs : List DV) (M : Mem) : Res DV := match dats rs with
  | some ds => if ds.length ≤ 1000000 then .ok (.frs ds) M else .stuck
  | none => .stuck
theorem mil {n : Nat} (h : n ≤ 1000000) : n ≤ sizeLine := Nat.le_trans h (by decide)
theorem de_tup {es : List Expr} {g : FA} {k : Nat} {pos : Pos} (h : PA X es (tDA G W g)) : PE X (.Tuple es k pos) (tD G W fun ρ M => (g ρ M).bind oTup) :=
  PE.imp (pe_tup h) fun σ H Q ⟨F, al, M, ρ, w, s, p⟩ => by
    refine stepA endE w s p fun vs H1 F1 al1 M1 rs e1 w1 s1 x1 p1 => ?_
    unfold oTup at p1
    cases hd : dats rs with
    | none =>
      rw [hd] at p1
      exact p1.elim
    | some ds =>
      rw [hd] at p1
      have a := dats_ok x1 hd
      dsimp only at p1
      by_cases hl : ds.length ≤ 1000000
      · rw [if_pos hl] at p1
        exact ⟨by rw [a.length]; exact mil hl, fun q n => fin_tup w1 p1 a n⟩
      · rw [if_neg hl] at p1
        exact p1.elim
theorem de_lst {es : List Expr} {g : FA} {pos : Pos} (h : PA X es (tDA G W g)) : PE X (.List es pos) (tD G W fun ρ M => (g ρ M).bind oLst) :=
  PE.imp (pe_lst h) fun σ H Q ⟨F, al, M, ρ, w, s, p⟩ => by
    refine stepA endE w s p fun vs H1 F1 al1 M1 rs e1 w1 s1 x1 p1 => ?_
    unfold oLst at p1
    cases hd : dats rs with
    | none =>
      rw [hd] at p1
      exact p1.elim
    | some ds =>
      rw [hd] at p1
      have a := dats_ok x1 hd
      dsimp only at p1
      by_cases hl : ds.length ≤ 1000000
      · rw [if_pos hl] at p1
        exact ⟨by rw [a.length]; exact mil hl, fun q n => fin_lst w1 p1 a n⟩
      · rw [if_neg hl] at p1
        exact p1.elim

/-! ### binary operations, by values -/
abbrev O2 := DV → DV → Mem → Res DV
/-- an operation's rule r bears the meaning o -/
def Bears (G : Gx) (r : R2) (o : O2) : Prop := ∀ (W : Nat → Hp → Prop) (Q : VK) (F : Hp) (al : List Addr) (M : Mem) (H : Hp) (x y : V) (a b : DV), WR G F al M H → SlotR G F al x a → SlotR G F al y b → PostE G W Q F al (o a b M) → r x y H Q
@[simp] def f2 (o : O2) (f g : FE) : FE := fun ρ M => (f ρ M).bind fun r M1 => (g ρ M1).bind fun r2 M2 => o r.settle r2.settle M2
theorem read2 {r : R2} {o : O2} {f g : FE} (hr : Bears G r o) : ∀ σ H Q, tD G W (f2 o f g) σ H Q → tOp r (tD G W f) (tD G W g) σ H Q := fun σ H Q ⟨F, al, M, ρ, w, s, p⟩ => by
  refine step (g := fun r M1 => (g ρ M1).bind fun r2 M2 => o r r2.settle M2) endE w s p fun v H1 F1 al1 M1 r1 e1 w1 s1 x1 p1 => ?_
  refine step (g := fun r2 M2 => o r1 r2 M2) endE w1 s1 p1 fun v2 H2 F2 al2 M2 r2 e2 w2 s2 x2 p2 => ?_
  exact hr _ _ F2 al2 M2 H2 v v2 r1 r2 w2 (x1.mono e2) x2 p2
theorem de_bin {a b : Expr} {f g : FE} {op : Operator} {r : R2} {o : O2} {pos : Pos} (ho : OpR X (binaryOp op) r) (hr : Bears G r o) (ha : PE X a (tD G W f)) (hb : PE X b (tD G W g)) : PE X (.BinOp a op b pos) (tD G W (f2 o f g)) :=
  PE.imp (pe_op ho ha hb) (read2 hr)
theorem de_cmp {a b : Expr} {f g : FE} {op : CmpOp} {r : R2} {o : O2} {pos : Pos} (ho : OpR X (compareOp op) r) (hr : Bears G r o) (ha : PE X a (tD G W f)) (hb : PE X b (tD G W g)) (hm : behindInMarks op b = false) : PE X (.Compare a [op] [b] pos) (tD G W (f2 o f g)) :=
  PE.imp (pe_cmpR ho ha hb hm) (read2 hr)
theorem de_ix {a b : Expr} {f g : FE} {r : R2} {o : O2} {pos : Pos} (ho : IxR X r) (hr : Bears G r o) (ha : PE X a (tD G W f)) (hb : PE X b (tD G W g)) (hs : PlainIx b) : PE X (.Subscript a b pos) (tD G W (f2 o f g)) :=
  PE.imp (pe_ix ho ha hb hs) (read2 hr)
/-- a value that must be a bool -/
@[simp] def asB (r : DV) (M : Mem) : Res Bool := match r with
  | .dat (.bool b) => .ok b M
  | _ => .stuck
theorem dt_of {t : TE} {f : FE} {e : Expr} (h : PT X e (tTest t)) (i : ∀ σ H Q, tD G W f σ H Q → t σ H Q) : PT X e (tDT G W fun ρ M => (f ρ M).bind asB) :=
  PT.imp h fun σ H Q ⟨F, al, M, ρ, w, s, p⟩ => by
    refine i σ H _ ?_
    refine stepR endT w s p fun v H1 F1 al1 M1 r e1 w1 s1 x1 p1 => ?_
    unfold asB at p1
    split at p1
    · rename_i b
      obtain ⟨z, _⟩ := x1
      cases z
      exact ⟨b, rfl, p1 F1 al1 H1 Ext.refl w1⟩
    · exact p1.elim
theorem dt_cmp {a b : Expr} {f g : FE} {op : CmpOp} {r : R2} {o : O2} {pos : Pos} (ho : OpR X (compareOp op) r) (hr : Bears G r o) (ha : PE X a (tD G W f)) (hb : PE X b (tD G W g)) (hm : behindInMarks op b = false) :
    PT X (.Compare a [op] [b] pos) (tDT G W fun ρ M => (f2 o f g ρ M).bind asB) := dt_of (pt_cmpR ho ha hb hm) (read2 hr)
end
end Lad
end

noncomputable section
namespace Lad
open PySem PySem.Spec PyProof.Rows L2

/-! ### comparisons that no kernel runs -/
def bLt (i j : Int) : Bool := @decide (i < j) (Classical.propDecidable _)
def bLe (i j : Int) : Bool := @decide (i ≤ j) (Classical.propDecidable _)
theorem bLt_eq (i j : Int) : bLt i j = decide (i < j) := by
  unfold bLt
  congr
theorem bLe_eq (i j : Int) : bLe i j = decide (i ≤ j) := by
  unfold bLe
  congr
@[simp] theorem bLt_t {i j : Int} (h : i < j) : bLt i j = true := by rw [bLt_eq]; exact decide_eq_true h
@[simp] theorem bLe_t {i j : Int} (h : i ≤ j) : bLe i j = true := by rw [bLe_eq]; exact decide_eq_true h
@[simp] theorem bLt_f {i j : Int} (h : ¬ i < j) : bLt i j = false := by rw [bLt_eq]; exact decide_eq_false h
@[simp] theorem bLe_f {i j : Int} (h : ¬ i ≤ j) : bLe i j = false := by rw [bLe_eq]; exact decide_eq_false h
theorem bLt_iff {i j : Int} : bLt i j = true ↔ i < j := by rw [bLt_eq]; exact decide_eq_true_iff
theorem bLe_iff {i j : Int} : bLe i j = true ↔ i ≤ j := by rw [bLe_eq]; exact decide_eq_true_iff
/-! ### ints -/
@[simp] def oInt (C : Int → Int → Bool) (g : Int → Int → PyData) : O2 := fun a b M => match a.view M, b.view M with
  | some (.int i), some (.int j) => if C i j = true then .ok (.dat (g i j)) M else .stuck
  | _, _ => .stuck
theorem oInt_cases {C : Int → Int → Bool} {g : Int → Int → PyData} {G : Gx} {W : Nat → Hp → Prop} {Q : VK} {F : Hp} {al : List Addr} {M : Mem} {H : Hp} {x y : V} {a b : DV} (w : WR G F al M H) (hx : SlotR G F al x a) (hy : SlotR G F al y b)
    (p : PostE G W Q F al (oInt C g a b M)) : ∃ i j, x = .int i ∧ y = .int j ∧ C i j = true ∧ PostE G W Q F al (.ok (.dat (g i j)) M) := by
  unfold oInt at p
  split at p
  · rename_i i j e1 e2
    by_cases hc : C i j = true
    · rw [if_pos hc] at p
      exact ⟨i, j, view_int w hx e1, view_int w hy e2, hc, p⟩
    · rw [if_neg hc] at p
      exact p.elim
  · exact p.elim
section
variable {G : Gx}
theorem bears_int {C : Int → Int → Bool} {C' : Int → Int → Prop} {g : Int → Int → Int} (hC : ∀ i j, C i j = true → C' i j) : Bears G (rI C' fun i j => .int (g i j)) (oInt C fun i j => .int (g i j)) :=
  fun W Q F al M H x y a b w hx hy p => by
    obtain ⟨i, j, rfl, rfl, hc, p⟩ := oInt_cases w hx hy p
    exact ⟨i, j, rfl, rfl, hC i j hc, fin_int w p⟩
theorem bears_int0 {g : Int → Int → Int} : Bears G (rI0 fun i j => .int (g i j)) (oInt (fun _ _ => true) fun i j => .int (g i j)) :=
  fun W Q F al M H x y a b w hx hy p => by
    obtain ⟨i, j, rfl, rfl, _, p⟩ := oInt_cases w hx hy p
    exact ⟨i, j, rfl, rfl, fin_int w p⟩
theorem bears_bl0 {g g' : Int → Int → Bool} (hg : ∀ i j, g' i j = g i j) : Bears G (rI0 fun i j => .bl (g i j)) (oInt (fun _ _ => true) fun i j => .bool (g' i j)) :=
  fun W Q F al M H x y a b w hx hy p => by
    obtain ⟨i, j, rfl, rfl, _, p⟩ := oInt_cases w hx hy p
    rw [hg] at p
    exact ⟨i, j, rfl, rfl, fin_bl w p⟩
end
/-- either of two meanings, by a look at the values -/
theorem bears_or {G : Gx} {r r' : R2} {o o' o2 : O2} (h : Bears G r o) (h' : Bears G r' o') (k : ∀ a b M, o2 a b M = .stuck ∨ o2 a b M = o a b M ∨ o2 a b M = o' a b M) : Bears G (fun x y H Q => r x y H Q ∨ r' x y H Q) o2 :=
  fun W Q F al M H x y a b w hx hy p => by
    rcases k a b M with e | e | e
    · rw [e] at p
      exact p.elim
    · rw [e] at p
      exact .inl (h W Q F al M H x y a b w hx hy p)
    · rw [e] at p
      exact .inr (h' W Q F al M H x y a b w hx hy p)

abbrev oSub : O2 := oInt (fun _ _ => true) fun i j => .int (i - j)
def cMul (i j : Int) : Bool := decide (i.natAbs < 18446744073709551616) || decide (j.natAbs < 18446744073709551616)
@[simp] def cDiv (_ j : Int) : Bool := bLt 0 j && bLt j 1073741824
@[simp] def cMod (_ j : Int) : Bool := bLt 0 j
def cPow (i j : Int) : Bool := bLe 0 j && (bLe j 1000000 && decide (i.natAbs < 18446744073709551616))
theorem cMul_r {i j : Int} (h : j.natAbs < 1000000000) : cMul i j = true := by
  simp only [cMul, Bool.or_eq_true, Bool.and_eq_true, decide_eq_true_eq]
  omega
theorem cMul_l {i j : Int} (h : i.natAbs < 1000000000) : cMul i j = true := by
  simp only [cMul, Bool.or_eq_true, Bool.and_eq_true, decide_eq_true_eq]
  omega
theorem cPow_ok {i j : Int} (h : i.natAbs < 1000000000) (h1 : 0 ≤ j) (h2 : j ≤ 1000000) : cPow i j = true := by
  simp only [cPow, Bool.and_eq_true, decide_eq_true_eq, bLe_iff]
  omega
abbrev oMulI : O2 := oInt cMul fun i j => .int (i * j)
abbrev oDiv : O2 := oInt cDiv fun i j => .int (i / j)
abbrev oMod : O2 := oInt cMod fun i j => .int (i % j)
abbrev oPow : O2 := oInt cPow fun i j => .int (i ^ j.toNat)
abbrev oLt : O2 := oInt (fun _ _ => true) fun i j => .bool (bLt i j)
abbrev oLe : O2 := oInt (fun _ _ => true) fun i j => .bool (bLe i j)
abbrev oGt : O2 := oInt (fun _ _ => true) fun i j => .bool (bLt j i)
abbrev oGe : O2 := oInt (fun _ _ => true) fun i j => .bool (bLe j i)
section
variable {G : Gx} {X : Cx}
theorem bears_mulI : Bears G (rI CMul fun i j => .int (i * j)) oMulI := bears_int fun i j h => by
  simp only [cMul, Bool.or_eq_true, decide_eq_true_eq] at h
  unfold CMul
  omega
theorem bears_div : Bears G (rI CDiv fun i j => .int (i / j)) oDiv := bears_int fun i j h => by
  simp only [cDiv, Bool.and_eq_true, bLt_iff] at h
  exact h
theorem bears_mod : Bears G (rI (fun _ j => 0 < j) fun i j => .int (i % j)) oMod := bears_int fun i j h => by
  simp only [cMod, bLt_iff] at h
  exact h
theorem bears_pow : Bears G (rI CPow fun i j => .int (i ^ j.toNat)) oPow := bears_int fun i j h => by
  simp only [cPow, Bool.and_eq_true, decide_eq_true_eq, bLe_iff] at h
  exact h

/-! ### + -/
theorem strOk_app {x y : Str} (hx : PyData.strOk x = true) (hy : PyData.strOk y = true) : PyData.strOk (x ++ y) = true := by
  show (x.cps ++ y.cps).all (· < 0x110000) = true
  rw [Array.all_append]
  exact Bool.and_eq_true_iff.mpr ⟨hx, hy⟩
@[simp] def oAddS : O2 := fun a b M => match a.view M, b.view M with
  | some (.str x), some (.str y) => if x.length + y.length ≤ 1000000 then .ok (.dat (.str (x ++ y))) M else .stuck
  | _, _ => .stuck
@[simp] def oAddL : O2 := fun a b M => match a.viewK M, b.viewK M with
  | some (.list x), some (.list y) => if x.length + y.length ≤ 1000000 then .ok (.frs (x ++ y)) M else .stuck
  | _, _ => .stuck
@[simp] def oAddT : O2 := fun a b M => match a.view M, b.view M with
  | some (.tuple x), some (.tuple y) => if x.length + y.length ≤ 1000000 then .ok (.dat (.tuple (x ++ y))) M else .stuck
  | _, _ => .stuck
abbrev oAddI : O2 := oInt (fun _ _ => true) fun i j => .int (i + j)
@[simp] def oAdd : O2 := fun a b M => match a.view M with
  | some (.int _) => oAddI a b M
  | some (.str _) => oAddS a b M
  | some (.list _) => oAddL a b M
  | some (.tuple _) => oAddT a b M
  | _ => .stuck
theorem bears_addS : Bears G (fun x y H Q => ∃ i j, x = .str i ∧ y = .str j ∧ i.length + j.length ≤ sizeLine ∧ Q (.str (i ++ j)) H) oAddS := fun W Q F al M H x y a b w hx hy p => by
  unfold oAddS at p
  split at p
  · rename_i i j e1 e2
    by_cases hc : i.length + j.length ≤ 1000000
    · rw [if_pos hc] at p
      obtain ⟨h1, k1⟩ := view_str w hx e1
      obtain ⟨h2, k2⟩ := view_str w hy e2
      exact ⟨i, j, h1, h2, mil hc, fin_str w p (strOk_app k1 k2)⟩
    · rw [if_neg hc] at p
      exact p.elim
  · exact p.elim
theorem bears_addL : Bears G rCat oAddL := fun W Q F al M H x y a b w hx hy p => by
  unfold oAddL at p
  split at p
  · rename_i i j e1 e2
    by_cases hc : i.length + j.length ≤ 1000000
    · rw [if_pos hc] at p
      obtain ⟨l1, xs, rfl, h1, k1⟩ := view_trk w hx e1
      obtain ⟨l2, ys, rfl, h2, k2⟩ := view_trk w hy e2
      exact ⟨l1, l2, xs, ys, rfl, rfl, h1, h2, by rw [k1.length, k2.length]; exact mil hc, fun q n => fin_lst w p (k1.append k2) n⟩
    · rw [if_neg hc] at p
      exact p.elim
  · exact p.elim
theorem bears_addT : Bears G (rCatA G.K) oAddT := fun W Q F al M H x y a b w hx hy p => by
  unfold oAddT at p
  split at p
  · rename_i i j e1 e2
    by_cases hc : i.length + j.length ≤ 1000000
    · rw [if_pos hc] at p
      obtain ⟨l1, xs, rfl, h1, k1⟩ := view_tup w hx e1
      obtain ⟨l2, ys, rfl, h2, k2⟩ := view_tup w hy e2
      refine ⟨l1, l2, xs, ys, rfl, rfl, same_sqT w.sub h1, same_sqT w.sub h2, by rw [k1.length, k2.length]; exact mil hc, fun z => ?_, fun _ z => ?_, fun _ _ q n => fin_tup w p (k1.append k2) n⟩
      · have e : i = [] := by
          have := k1.length
          rw [z] at this
          exact List.eq_nil_of_length_eq_zero this.symm
        rw [e, List.nil_append] at p
        exact fin_dat w p ⟨.tup h2 k2.1, by simpa [PyData.canLay0] using k2.2⟩
      · have e : j = [] := by
          have := k2.length
          rw [z] at this
          exact List.eq_nil_of_length_eq_zero this.symm
        rw [e, List.append_nil] at p
        exact fin_dat w p ⟨.tup h1 k1.1, by simpa [PyData.canLay0] using k1.2⟩
    · rw [if_neg hc] at p
      exact p.elim
  · exact p.elim
theorem op_addAll (hK : X.K = G.K) : ∃ r, OpR X (binaryOp .Add) r ∧ Bears G r oAdd := by
  refine ⟨_, OpR.or op_add (OpR.or op_add_str (OpR.or op_cat (hK ▸ op_catA))), fun W Q F al M H x y a b w hx hy p => ?_⟩
  unfold oAdd at p
  split at p
  · exact .inl (bears_int0 W Q F al M H x y a b w hx hy p)
  · exact .inr (.inl (bears_addS W Q F al M H x y a b w hx hy p))
  · exact .inr (.inr (.inl (bears_addL W Q F al M H x y a b w hx hy p)))
  · exact .inr (.inr (.inr (bears_addT W Q F al M H x y a b w hx hy p)))
  · exact p.elim

/-! ### * -/
theorem AllR.rep {K : PySem.W.Frag} {F : Hp} {vs : List V} {ds : List PyData} (h : AllR K F vs ds) : ∀ n : Nat, AllR K F (List.replicate n vs).flatten (List.replicate n ds).flatten
  | 0 => .nil
  | n + 1 => by
    rw [List.replicate_succ, List.replicate_succ, List.flatten_cons, List.flatten_cons]
    exact h.append (AllR.rep h n)
def okN (n : Int) : Bool := decide (n.natAbs < 4611686018427387904)
theorem okN_ok {n : Int} (h : okN n = true) : -(2 ^ 62) ≤ n ∧ n < 2 ^ 62 := by
  simp only [okN, decide_eq_true_eq] at h
  omega
theorem okN_of {n : Int} (h : n.natAbs < 1000000000) : okN n = true := by
  simp only [okN, decide_eq_true_eq]
  omega
theorem okN_nat {n : Nat} (h : n < 1000000000) : okN (n : Int) = true := okN_of (by omega)
@[simp] def oRepL : O2 := fun a b M => match a.viewK M, b.view M with
  | some (.list x), some (.int k) => if okN k && decide (x.length * k.toNat ≤ 1000000) then .ok (.frs (List.replicate k.toNat x).flatten) M else .stuck
  | _, _ => .stuck
@[simp] def oRepT : O2 := fun a b M => match a.view M, b.view M with
  | some (.tuple x), some (.int k) => if decide (x ≠ []) && (decide (2 ≤ k) && (decide (k ≤ 1000) && decide (x.length ≤ 1000))) then .ok (.dat (.tuple (List.replicate k.toNat x).flatten)) M else .stuck
  | _, _ => .stuck
@[simp] def oMul : O2 := fun a b M => match a.view M with
  | some (.int _) => oMulI a b M
  | some (.list _) => oRepL a b M
  | some (.tuple _) => oRepT a b M
  | _ => .stuck
theorem bears_repL : Bears G rRep oRepL := fun W Q F al M H x y a b w hx hy p => by
  unfold oRepL at p
  split at p
  · rename_i i k e1 e2
    split at p
    · rename_i hc
      obtain ⟨hk, hc⟩ := Bool.and_eq_true_iff.mp hc
      obtain ⟨q1, q2⟩ := okN_ok hk
      obtain ⟨l1, xs, rfl, h1, k1⟩ := view_trk w hx e1
      obtain rfl := view_int w hy e2
      exact ⟨l1, k, xs, rfl, rfl, h1, Int.le_trans (by decide) q1, Int.lt_trans q2 (by decide), by rw [k1.length]; exact mil (of_decide_eq_true hc), fun q n => fin_lst w p (k1.rep _) n⟩
    · exact p.elim
  · exact p.elim
theorem bears_repT : Bears G (rRepT G.K) oRepT := fun W Q F al M H x y a b w hx hy p => by
  unfold oRepT at p
  split at p
  · rename_i i k e1 e2
    split at p
    · rename_i hc
      simp only [Bool.and_eq_true, decide_eq_true_eq] at hc
      obtain ⟨l1, xs, rfl, h1, k1⟩ := view_tup w hx e1
      obtain rfl := view_int w hy e2
      refine ⟨l1, k, xs, rfl, rfl, same_sqT w.sub h1, fun z => hc.1 ?_, hc.2.1, hc.2.2.1, by rw [k1.length]; exact hc.2.2.2, fun q n => fin_tup w p (k1.rep _) n⟩
      have := k1.length
      rw [z] at this
      exact List.eq_nil_of_length_eq_zero this.symm
    · exact p.elim
  · exact p.elim
theorem op_mulAll (hK : X.K = G.K) : ∃ r, OpR X (binaryOp .Mult) r ∧ Bears G r oMul := by
  refine ⟨_, OpR.or op_mul (OpR.or op_rep (hK ▸ op_repT)), fun W Q F al M H x y a b w hx hy p => ?_⟩
  unfold oMul at p
  split at p
  · exact .inl (bears_mulI W Q F al M H x y a b w hx hy p)
  · exact .inr (.inl (bears_repL W Q F al M H x y a b w hx hy p))
  · exact .inr (.inr (bears_repT W Q F al M H x y a b w hx hy p))
  · exact p.elim

/-! ### == and != -/
@[simp] def oEqB (neg : Bool) : O2 := fun a b M => match a.view M, b.view M with
  | some d, some e => if min d.depth e.depth ≤ 64 then .ok (.dat (.bool (neg ^^ PyData.eqv d e))) M else .stuck
  | _, _ => .stuck
def rEqM (K : PySem.W.Frag) (neg : Bool) : R2 := fun x y H Q => ∃ d e, Dp K H x d ∧ Dp K H y e ∧ d.canLay0 = true ∧ e.canLay0 = true ∧ min d.depth e.depth ≤ 64 ∧ Q (.bl (neg ^^ PyData.eqv d e)) H
theorem op_eqM (hu : X.A.units + 64 < cLine) : OpR X (compareOp .Eq) (rEqM X.K false) := by
  intro pins s σ H x y v u Q I rx ry ⟨d, e, hd, he, sd, se, hm, q⟩
  obtain ⟨as, r1⟩ := Dp.reads I d x v hd rx
  obtain ⟨bs, r2⟩ := Dp.reads I e y u he ry
  refine SeqAt.compareEq_reads r1 r2 sd se (by omega) ⟨.bl _, H, I, rfl, ?_⟩
  rw [Bool.false_xor] at q
  exact q
theorem op_neM (hu : X.A.units + 64 < cLine) : OpR X (compareOp .NotEq) (rEqM X.K true) := by
  intro pins s σ H x y v u Q I rx ry ⟨d, e, hd, he, sd, se, hm, q⟩
  obtain ⟨as, r1⟩ := Dp.reads I d x v hd rx
  obtain ⟨bs, r2⟩ := Dp.reads I e y u he ry
  refine SeqAt.compareNe_reads r1 r2 sd se (by omega) ⟨.bl _, H, I, rfl, ?_⟩
  rw [Bool.true_xor] at q
  exact q
theorem bears_eq {neg : Bool} : Bears G (rEqM G.K neg) (oEqB neg) := fun W Q F al M H x y a b w hx hy p => by
  unfold oEqB at p
  split at p
  · rename_i d e e1 e2
    by_cases hc : min d.depth e.depth ≤ 64
    · rw [if_pos hc] at p
      obtain ⟨h1, k1⟩ := view_dat w hx e1
      obtain ⟨h2, k2⟩ := view_dat w hy e2
      exact ⟨d, e, h1, h2, k1, k2, hc, fin_bl w p⟩
    · rw [if_neg hc] at p
      exact p.elim
  · exact p.elim

/-! ### is None -/
@[simp] def isN : DV → Bool
  | .dat .none => true
  | _ => false
@[simp] def oIsN (neg : Bool) : O2 := fun a b M => match b with
  | .dat .none => .ok (.dat (.bool (neg ^^ isN a))) M
  | _ => .stuck
theorem isN_ok {F : Hp} {al : List Addr} {x : V} {a : DV} (h : SlotR G F al x a) : isN a = decide (x = .non) := by
  cases a with
  | dat d =>
    obtain ⟨h1, _⟩ := h
    cases h1 <;> rfl
  | frs ds => exact h.elim
  | hdl k =>
    obtain ⟨b, _, rfl⟩ := h
    rfl
  | scr ns =>
    obtain ⟨b, rfl, _⟩ := h
    rfl
theorem bears_isN : Bears G (fun x y H Q => y = .non ∧ Q (.bl (decide (x = .non))) H) (oIsN false) := fun W Q F al M H x y a b w hx hy p => by
  unfold oIsN at p
  split at p
  · obtain ⟨h1, _⟩ := hy
    cases h1
    rw [isN_ok hx, Bool.false_xor] at p
    exact ⟨rfl, fin_bl w p⟩
  · exact p.elim
theorem bears_notN : Bears G (fun x y H Q => y = .non ∧ Q (.bl (!decide (x = .non))) H) (oIsN true) := fun W Q F al M H x y a b w hx hy p => by
  unfold oIsN at p
  split at p
  · obtain ⟨h1, _⟩ := hy
    cases h1
    rw [isN_ok hx, Bool.true_xor] at p
    exact ⟨rfl, fin_bl w p⟩
  · exact p.elim

/-! ### in, not in -/
@[simp] def oInB (neg : Bool) : O2 := fun a b M => match a.view M, b.view M with
  | some d, some (.list xs) => if min (PyData.depthAll xs) d.depth ≤ 60 then .ok (.dat (.bool (neg ^^ xs.any fun y => PyData.eqv y d))) M else .stuck
  | some d, some (.tuple xs) => if min (PyData.depthAll xs) d.depth ≤ 60 then .ok (.dat (.bool (neg ^^ xs.any fun y => PyData.eqv y d))) M else .stuck
  | some (.str i), some (.str j) => .ok (.dat (.bool (neg ^^ !(Builtin.Str.occurrences j i 0 j.length 1).isEmpty))) M
  | _, _ => .stuck
def rInM (K : PySem.W.Frag) (neg : Bool) : R2 := fun x y H Q => (∃ d e xs, Dp K H x d ∧ Dp K H y e ∧ (e = .list xs ∨ e = .tuple xs) ∧ d.canLay0 = true ∧ PyData.canLayAll0 xs = true ∧ min (PyData.depthAll xs) d.depth ≤ 60 ∧ Q (.bl (neg ^^ xs.any fun y => PyData.eqv y d)) H) ∨
  ∃ i j, x = .str i ∧ y = .str j ∧ Q (.bl (neg ^^ !(Builtin.Str.occurrences j i 0 j.length 1).isEmpty)) H
theorem op_inM (hu : X.A.units + 64 < cLine) : OpR X (compareOp .In) (rInM X.K false) := by
  intro pins s σ H x y v u Q I rx ry h
  rcases h with ⟨d, e, xs, hd, he, ho, sd, se, hm, q⟩ | h
  · obtain ⟨as, r1⟩ := Dp.reads I d x v hd rx
    obtain ⟨bs, r2⟩ := Dp.reads I e y u he ry
    rw [Bool.false_xor] at q
    rcases ho with rfl | rfl
    · exact SeqAt.in_list_reads r2 r1 se sd (by omega) ⟨.bl _, H, I, rfl, q⟩
    · exact SeqAt.in_tuple_reads r2 r1 se sd (by omega) ⟨.bl _, H, I, rfl, q⟩
  · obtain ⟨i, j, rfl, rfl, q⟩ := h
    rw [Bool.false_xor] at q
    exact op_in_str pins s σ H _ _ v u Q I rx ry ⟨i, j, rfl, rfl, q⟩
theorem op_ninM (hu : X.A.units + 64 < cLine) : OpR X (compareOp .NotIn) (rInM X.K true) := by
  intro pins s σ H x y v u Q I rx ry h
  rcases h with ⟨d, e, xs, hd, he, ho, sd, se, hm, q⟩ | h
  · obtain ⟨as, r1⟩ := Dp.reads I d x v hd rx
    obtain ⟨bs, r2⟩ := Dp.reads I e y u he ry
    rw [Bool.true_xor] at q
    rcases ho with rfl | rfl
    · exact SeqAt.notIn_list_reads r2 r1 se sd (by omega) ⟨.bl _, H, I, rfl, q⟩
    · exact SeqAt.notIn_tuple_reads r2 r1 se sd (by omega) ⟨.bl _, H, I, rfl, q⟩
  · obtain ⟨i, j, rfl, rfl, q⟩ := h
    rw [Bool.true_xor] at q
    exact op_notin_str pins s σ H _ _ v u Q I rx ry ⟨i, j, rfl, rfl, q⟩
theorem bears_in {neg : Bool} : Bears G (rInM G.K neg) (oInB neg) := fun W Q F al M H x y a b w hx hy p => by
  unfold oInB at p
  split at p
  · rename_i d xs e1 e2
    by_cases hc : min (PyData.depthAll xs) d.depth ≤ 60
    · rw [if_pos hc] at p
      obtain ⟨h1, k1⟩ := view_dat w hx e1
      obtain ⟨h2, k2⟩ := view_dat w hy e2
      exact .inl ⟨d, _, xs, h1, h2, .inl rfl, k1, by simpa [PyData.canLay0] using k2, hc, fin_bl w p⟩
    · rw [if_neg hc] at p
      exact p.elim
  · rename_i d xs e1 e2
    by_cases hc : min (PyData.depthAll xs) d.depth ≤ 60
    · rw [if_pos hc] at p
      obtain ⟨h1, k1⟩ := view_dat w hx e1
      obtain ⟨h2, k2⟩ := view_dat w hy e2
      exact .inl ⟨d, _, xs, h1, h2, .inr rfl, k1, by simpa [PyData.canLay0] using k2, hc, fin_bl w p⟩
    · rw [if_neg hc] at p
      exact p.elim
  · rename_i i j e1 e2
    exact .inr ⟨i, j, (view_str w hx e1).1, (view_str w hy e2).1, fin_bl w p⟩
  · exact p.elim

/-! ### a[b] -/
@[simp] def oIx : O2 := fun a b M => match a.view M, b.view M with
  | some (.list xs), some (.int i) => match atI xs i with
    | some d => .ok (.dat d) M
    | none => .stuck
  | some (.tuple xs), some (.int i) => match atI xs i with
    | some d => .ok (.dat d) M
    | none => .stuck
  | some (.str z), some (.int i) => if z.length ≤ 1000000 then match atI z.cps.toList i with
    | some c => .ok (.dat (.str ⟨#[c]⟩)) M
    | none => .stuck else .stuck
  | _, _ => .stuck
theorem AllR.atI {K : PySem.W.Frag} {F : Hp} {vs : List V} {ds : List PyData} {i : Int} {d : PyData} (h : AllR K F vs ds) (e : L2.atI ds i = some d) : ∃ v, L2.atI vs i = some v ∧ DatR K F v d := by
  unfold L2.atI at e ⊢
  rw [h.length]
  cases q : ixN ds.length i with
  | none =>
    rw [q] at e
    cases e
  | some j =>
    rw [q] at e
    exact h.get e
theorem strOk_sign {z : Str} {i : Int} {c : Nat} (h : PyData.strOk z = true) (e : atI z.cps.toList i = some c) : PyData.strOk ⟨#[c]⟩ = true := by
  obtain ⟨j, _, h2, _⟩ := atI_get e
  have hm : c ∈ z.cps := by
    have := List.mem_of_getElem? h2
    simpa using this
  have h3 := Array.all_eq_true_iff_forall_mem.mp h c hm
  show (#[c] : Array Nat).all (· < 0x110000) = true
  simpa using h3
theorem bears_ix : Bears G (fun x y H Q => rIxL G.K x y H Q ∨ rIxT G.K x y H Q ∨ rIxS x y H Q) oIx := fun W Q F al M H x y a b w hx hy p => by
  unfold oIx at p
  split at p
  · rename_i xs i e1 e2
    cases he : atI xs i with
    | none =>
      rw [he] at p
      exact p.elim
    | some d =>
      rw [he] at p
      obtain ⟨l, vs, rfl, h1, k1⟩ := view_list w hx e1
      obtain rfl := view_int w hy e2
      obtain ⟨v, h2, q⟩ := k1.atI he
      exact .inl ⟨l, vs, i, v, rfl, rfl, h1, h2, fin_dat w p q⟩
  · rename_i xs i e1 e2
    cases he : atI xs i with
    | none =>
      rw [he] at p
      exact p.elim
    | some d =>
      rw [he] at p
      obtain ⟨l, vs, rfl, h1, k1⟩ := view_tup w hx e1
      obtain rfl := view_int w hy e2
      obtain ⟨v, h2, q⟩ := k1.atI he
      exact .inr (.inl ⟨l, vs, i, v, rfl, rfl, same_sqT w.sub h1, h2, fin_dat w p q⟩)
  · rename_i z i e1 e2
    by_cases hl : z.length ≤ 1000000
    · rw [if_pos hl] at p
      cases he : atI z.cps.toList i with
      | none =>
        rw [he] at p
        exact p.elim
      | some c =>
        rw [he] at p
        obtain ⟨rfl, k⟩ := view_str w hx e1
        obtain rfl := view_int w hy e2
        exact .inr (.inr ⟨z, i, c, rfl, rfl, mil hl, he, fin_str w p (strOk_sign k he)⟩)
    · rw [if_neg hl] at p
      exact p.elim
  · exact p.elim
theorem ix_all (hK : X.K = G.K) : IxR X (fun x y H Q => rIxL G.K x y H Q ∨ rIxT G.K x y H Q ∨ rIxS x y H Q) := by
  rw [← hK]
  exact IxR.or ix_list (IxR.or ix_tup ix_str)
end
end Lad
end

noncomputable section
namespace Lad
open PySem PySem.Spec PyProof.Rows L2

/-! ### truth -/
@[simp] def truD : PyData → Option Bool
  | .none => some false
  | .bool b => some b
  | .int i => some (i != 0)
  | .str x => if x.length ≤ 1000000 then some ((x.length : Int) != 0) else none
  | .list xs => some (!xs.isEmpty)
  | .tuple xs => some (!xs.isEmpty)
  | .dict _ => none
@[simp] def tru (r : DV) (M : Mem) : Option Bool := (r.view M).bind truD
section
variable {G : Gx} {W : WX} {X : Cx}
theorem AllR.empty {K : PySem.W.Frag} {F : Hp} {vs : List V} {ds : List PyData} (h : AllR K F vs ds) : (!ds.isEmpty) = !vs.isEmpty := by
  cases ds with
  | nil => rw [h.cases_nil]; rfl
  | cons d ds =>
    obtain ⟨x, xs, rfl, _, _⟩ := h.cases
    rfl
theorem tru_ok' {F : Hp} {al : List Addr} {M : Mem} {H : Hp} {v : V} {r : DV} {k : Bool} (w : WR G F al M H) (h : SlotR G F al v r) (e : tru r M = some k) : TruV G.K v H k := by
  unfold tru at e
  cases hv : r.view M with
  | none =>
    rw [hv] at e
    cases e
  | some d =>
    rw [hv] at e
    have e : truD d = some k := e
    cases d with
    | none =>
      obtain rfl := view_none w h hv
      cases e
      exact (rfl : false = false)
    | bool b =>
      obtain rfl := view_bool w h hv
      cases e
      exact (rfl : _ = _)
    | int i =>
      obtain rfl := view_int w h hv
      cases e
      exact (rfl : (i != 0) = (i != 0))
    | str x =>
      obtain ⟨rfl, _⟩ := view_str w h hv
      simp only [truD] at e
      split at e
      · rename_i hl
        cases e
        exact (⟨mil hl, rfl⟩ : x.length ≤ sizeLine ∧ ((x.length : Int) != 0) = ((x.length : Int) != 0))
      · cases e
    | list ds =>
      obtain ⟨a, xs, rfl, h1, k1⟩ := view_list w h hv
      cases e
      exact .inl ⟨xs, h1, k1.empty⟩
    | tuple ds =>
      obtain ⟨a, xs, rfl, h1, k1⟩ := view_tup w h hv
      cases e
      exact .inr (.inl ⟨xs, same_sqT w.sub h1, k1.empty⟩)
    | dict _ => cases e
@[simp] def oTru (r : DV) (M : Mem) : Res Bool := match tru r M with
  | some k => .ok k M
  | none => .stuck
theorem dt_truth {e : Expr} {f : FE} (hK : X.K = G.K) (ha : PE X e (tD G W f)) (he : ∀ whole, isTrue e X.env whole = (do let v ← whole; standAt e.pos; holding [v] (truthy v))) : PT X e (tDT G W fun ρ M => (f ρ M).bind fun r M1 => oTru r.settle M1) :=
  PT.imp (pt_truth ha he) fun σ H Q ⟨F, al, M, ρ, w, s, p⟩ => by
    refine step (g := oTru) endT w s p fun v H1 F1 al1 M1 r e1 w1 s1 x1 p1 => ?_
    unfold oTru at p1
    cases ht : tru r M1 with
    | none =>
      rw [ht] at p1
      exact p1.elim
    | some k =>
      rw [ht] at p1
      exact ⟨k, hK ▸ tru_ok' w1 x1 ht, p1 F1 al1 H1 Ext.refl w1⟩

/-! ### and, or, not as tests -/
@[simp] def gAnd (f g : FT) : FT := fun ρ M => (f ρ M).bind fun c M1 => if c = true then g ρ M1 else .ok false M1
@[simp] def gOr (f g : FT) : FT := fun ρ M => (f ρ M).bind fun c M1 => if c = true then .ok true M1 else g ρ M1
@[simp] def gNot (f : FT) : FT := fun ρ M => (f ρ M).bind fun c M1 => .ok (!c) M1
theorem PW.imp {e : Expr} {t t' : TT} (h : PW X e t) (i : ∀ σ H Q, t' σ H Q → t σ H Q) : PW X e t' := ⟨fun wh pins s σ H Q I q => h.run wh pins s σ H Q I (i σ H Q q)⟩
theorem dw_and {a b : Expr} {rest : List Expr} {f g : FT} {pos : Pos} (ha : PT X a (tDT G W f)) (hb : PW X (.BoolOp .And (b :: rest) pos) (tDT G W g)) : PW X (.BoolOp .And (a :: b :: rest) pos) (tDT G W (gAnd f g)) :=
  PW.imp (pw_and ha hb) fun σ H Q ⟨F, al, M, ρ, w, s, p⟩ => by
    refine stepT endT w s p fun c H1 F1 al1 M1 e1 w1 s1 p1 => ?_
    cases c with
    | true => exact iteT ⟨F1, al1, M1, ρ, w1, s1, p1⟩
    | false => exact iteF (p1 F1 al1 H1 Ext.refl w1)
theorem dw_or {a b : Expr} {rest : List Expr} {f g : FT} {pos : Pos} (ha : PT X a (tDT G W f)) (hb : PW X (.BoolOp .Or (b :: rest) pos) (tDT G W g)) : PW X (.BoolOp .Or (a :: b :: rest) pos) (tDT G W (gOr f g)) :=
  PW.imp (pw_or ha hb) fun σ H Q ⟨F, al, M, ρ, w, s, p⟩ => by
    refine stepT endT w s p fun c H1 F1 al1 M1 e1 w1 s1 p1 => ?_
    cases c with
    | true => exact iteT (p1 F1 al1 H1 Ext.refl w1)
    | false => exact iteF ⟨F1, al1, M1, ρ, w1, s1, p1⟩
theorem dt_not {a : Expr} {f : FT} {pos : Pos} (ha : PT X a (tDT G W f)) : PT X (.UnaryOp .Not a pos) (tDT G W (gNot f)) :=
  PT.imp (pt_not ha) fun σ H Q ⟨F, al, M, ρ, w, s, p⟩ => by
    refine stepT endT w s p fun c H1 F1 al1 M1 e1 w1 s1 p1 => ?_
    exact p1 F1 al1 H1 Ext.refl w1

/-! ### and, or, not as values; a if t else b; chains -/
@[simp] def fAnd (f g : FE) : FE := fun ρ M => (f ρ M).bind fun r M1 => match tru r.settle M1 with
  | some true => g ρ M1
  | some false => .ok r.settle M1
  | none => .stuck
@[simp] def fOr (f g : FE) : FE := fun ρ M => (f ρ M).bind fun r M1 => match tru r.settle M1 with
  | some true => .ok r.settle M1
  | some false => g ρ M1
  | none => .stuck
@[simp] def fNot (f : FE) : FE := fun ρ M => (f ρ M).bind fun r M1 => match tru r.settle M1 with
  | some k => .ok (.dat (.bool (!k))) M1
  | none => .stuck
theorem de_and {a b : Expr} {rest : List Expr} {f g : FE} {pos : Pos} (hK : X.K = G.K) (ha : PE X a (tD G W f)) (hb : PE X (.BoolOp .And (b :: rest) pos) (tD G W g)) : PE X (.BoolOp .And (a :: b :: rest) pos) (tD G W (fAnd f g)) :=
  PE.imp (pe_andT ha hb) fun σ H Q ⟨F, al, M, ρ, w, s, p⟩ => by
    refine step (g := fun r M1 => match tru r M1 with | some true => g ρ M1 | some false => .ok r M1 | none => .stuck) endE w s p fun v H1 F1 al1 M1 r e1 w1 s1 x1 p1 => ?_
    cases ht : tru r M1 with
    | none =>
      rw [ht] at p1
      exact p1.elim
    | some k =>
      rw [ht] at p1
      refine ⟨k, hK ▸ tru_ok' w1 x1 ht, ?_⟩
      cases k with
      | true => exact iteT ⟨F1, al1, M1, ρ, w1, s1, p1⟩
      | false => exact iteF (fin_slot w1 p1 x1)
theorem de_or {a b : Expr} {rest : List Expr} {f g : FE} {pos : Pos} (hK : X.K = G.K) (ha : PE X a (tD G W f)) (hb : PE X (.BoolOp .Or (b :: rest) pos) (tD G W g)) : PE X (.BoolOp .Or (a :: b :: rest) pos) (tD G W (fOr f g)) :=
  PE.imp (pe_orT ha hb) fun σ H Q ⟨F, al, M, ρ, w, s, p⟩ => by
    refine step (g := fun r M1 => match tru r M1 with | some true => .ok r M1 | some false => g ρ M1 | none => .stuck) endE w s p fun v H1 F1 al1 M1 r e1 w1 s1 x1 p1 => ?_
    cases ht : tru r M1 with
    | none =>
      rw [ht] at p1
      exact p1.elim
    | some k =>
      rw [ht] at p1
      refine ⟨k, hK ▸ tru_ok' w1 x1 ht, ?_⟩
      cases k with
      | true => exact iteT (fin_slot w1 p1 x1)
      | false => exact iteF ⟨F1, al1, M1, ρ, w1, s1, p1⟩
theorem de_not {a : Expr} {f : FE} {pos : Pos} (hK : X.K = G.K) (ha : PE X a (tD G W f)) : PE X (.UnaryOp .Not a pos) (tD G W (fNot f)) :=
  PE.imp (pe_notT ha) fun σ H Q ⟨F, al, M, ρ, w, s, p⟩ => by
    refine step (g := fun r M1 => match tru r M1 with | some k => .ok (.dat (.bool (!k))) M1 | none => .stuck) endE w s p fun v H1 F1 al1 M1 r e1 w1 s1 x1 p1 => ?_
    cases ht : tru r M1 with
    | none =>
      rw [ht] at p1
      exact p1.elim
    | some k =>
      rw [ht] at p1
      exact ⟨k, hK ▸ tru_ok' w1 x1 ht, fin_bl w1 p1⟩
@[simp] def fIf (c : FT) (f g : FE) : FE := fun ρ M => (c ρ M).bind fun b M1 => if b = true then f ρ M1 else g ρ M1
theorem de_if {c a b : Expr} {h : FT} {f g : FE} {pos : Pos} (hc : PT X c (tDT G W h)) (ha : PE X a (tD G W f)) (hb : PE X b (tD G W g)) : PE X (.IfExp c a b pos) (tD G W (fIf h f g)) :=
  PE.imp (pe_ifExp hc ha hb) fun σ H Q ⟨F, al, M, ρ, w, s, p⟩ => by
    refine stepT endE w s p fun c H1 F1 al1 M1 e1 w1 s1 p1 => ?_
    cases c with
    | true => exact iteT ⟨F1, al1, M1, ρ, w1, s1, p1⟩
    | false => exact iteF ⟨F1, al1, M1, ρ, w1, s1, p1⟩
/-- a o1 b o2 c, of ints -/
@[simp] def fChain (o1 o2 : Int → Int → Bool) (f g h : FE) : FE := fun ρ M => (f ρ M).bind fun r M1 => (g ρ M1).bind fun r2 M2 => match r.settle.view M2, r2.settle.view M2 with
  | some (.int i), some (.int j) => if o1 i j = true then (h ρ M2).bind fun r3 M3 => match r3.settle.view M3 with
    | some (.int k) => .ok (.dat (.bool (o2 j k))) M3
    | _ => .stuck else .ok (.dat (.bool false)) M2
  | _, _ => .stuck
theorem read_chain {o1 o2 : Int → Int → Bool} {f g h : FE} : ∀ σ H Q, tD G W (fChain o1 o2 f g h) σ H Q → tChain (rI0 fun i j => .bl (o1 i j)) (rI0 fun i j => .bl (o2 i j)) (tD G W f) (tD G W g) (tD G W h) σ H Q := fun σ H Q ⟨F, al, M, ρ, w, s, p⟩ => by
  refine step (g := fun r M1 => (g ρ M1).bind fun r2 M2 => match r.view M2, r2.settle.view M2 with
    | some (.int i), some (.int j) => if o1 i j = true then (h ρ M2).bind fun r3 M3 => match r3.settle.view M3 with
      | some (.int k) => .ok (.dat (.bool (o2 j k))) M3
      | _ => .stuck else .ok (.dat (.bool false)) M2
    | _, _ => .stuck) endE w s p fun v H1 F1 al1 M1 r1 e1 w1 s1 x1 p1 => ?_
  refine step (g := fun r2 M2 => match r1.view M2, r2.view M2 with
    | some (.int i), some (.int j) => if o1 i j = true then (h ρ M2).bind fun r3 M3 => match r3.settle.view M3 with
      | some (.int k) => .ok (.dat (.bool (o2 j k))) M3
      | _ => .stuck else .ok (.dat (.bool false)) M2
    | _, _ => .stuck) endE w1 s1 p1 fun v2 H2 F2 al2 M2 r2 e2 w2 s2 x2 p2 => ?_
  split at p2
  · rename_i i j q1 q2
    refine ⟨i, j, view_int w2 (x1.mono e2) q1, view_int w2 x2 q2, o1 i j, rfl, ?_⟩
    by_cases hc : o1 i j = true
    · rw [if_pos hc] at p2 ⊢
      refine step (g := fun r3 M3 => match r3.view M3 with
        | some (.int k) => .ok (.dat (.bool (o2 j k))) M3
        | _ => .stuck) endE w2 s2 p2 fun v3 H3 F3 al3 M3 r3 e3 w3 s3 x3 p3 => ?_
      split at p3
      · rename_i k q3
        exact ⟨j, k, view_int w2 x2 q2, view_int w3 x3 q3, fin_bl w3 p3⟩
      · exact p3.elim
    · rw [if_neg hc] at p2 ⊢
      exact fin_bl w2 p2
  · exact p2.elim
theorem de_neg {a : Expr} {f : FE} {pos : Pos} (ha : PE X a (tD G W f)) : PE X (.UnaryOp .USub a pos) (tD G W fun ρ M => (f ρ M).bind fun r M1 => match r.settle.view M1 with
    | some (.int i) => .ok (.dat (.int (-i))) M1
    | _ => .stuck) :=
  PE.imp (pe_un un_neg ha) fun σ H Q ⟨F, al, M, ρ, w, s, p⟩ => by
    refine step (g := fun r M1 => match r.view M1 with
      | some (.int i) => .ok (.dat (.int (-i))) M1
      | _ => .stuck) endE w s p fun v H1 F1 al1 M1 r e1 w1 s1 x1 p1 => ?_
    split at p1
    · rename_i i q
      exact ⟨i, view_int w1 x1 q, fin_int w1 p1⟩
    · exact p1.elim

/-! ### calls -/
/-- a def's promise, by its meaning -/
def spF (G : Gx) (sf : List DV → Mem → Res DV) : Sp := fun vs H Q E => ∃ F al M rs, WR G F al M H ∧ Paired (SlotR G F al) vs rs ∧ PostE G (fun c H' => E (.ref (G.cls c)) none H') Q F al (sf rs M)
theorem de_call {k : Nat} {f : Addr} {fd : FuncData} {ps : List Str} {sf : List DV → Mem → Res DV} {x : Str} {p pos : Pos} {e : Expr} {es : List Expr} {g : FA} (Fn : FnOk X.prog X.w X.K X.mg X.base (CX X.prog X.w) k f fd ps (spF G sf)) (hr : Room k X.A) (hg : Gl X x)
    (hm : X.mg x = some (.ref f)) (hk : PySem.W.keepIn X.K (.ref f) = true) (hb : Binds X.K fd ps []) (tk : Takes X W) (ha : PA X (e :: es) (tDA G W g)) (hdb : (x == ("__debug__" : Str)) = false)
    (he : starEach (e :: es) X.env = (false, eval e X.env) :: starEach es X.env) (hpl : (backTo pos (starEach es X.env)).any (·.1) = false) : PE X (.Call (.Name x p) (e :: es) [] pos) (tD G W fun ρ M => (g ρ M).bind sf) :=
  PE.imp (pe_callS (E := WE W) Fn hr hg hm hk hb (fun σ => passAt tk σ) ha hdb he hpl) fun σ H Q ⟨F, al, M, ρ, w, s, p⟩ => by
    refine stepA endE w s p fun vs H1 F1 al1 M1 rs e1 w1 s1 x1 p1 => ?_
    exact ⟨F1, al1, M1, rs, w1, x1, p1⟩
/-- a built-in by its name -/
def BearsC (G : Gx) (r : List V → Hp → VK → Prop) (o : List DV → Mem → Res DV) : Prop := ∀ (W : Nat → Hp → Prop) (Q : VK) (F : Hp) (al : List Addr) (M : Mem) (H : Hp) (vs : List V) (rs : List DV), WR G F al M H → Paired (SlotR G F al) vs rs → PostE G W Q F al (o rs M) → r vs H Q
theorem read_callB {r : List V → Hp → VK → Prop} {o : List DV → Mem → Res DV} {g : FA} (hr : BearsC G r o) : ∀ σ H Q, tD G W (fun ρ M => (g ρ M).bind o) σ H Q → tCB r (tDA G W g) σ H Q := fun σ H Q ⟨F, al, M, ρ, w, s, p⟩ => by
  refine stepA endE w s p fun vs H1 F1 al1 M1 rs e1 w1 s1 x1 p1 => ?_
  exact hr _ _ F1 al1 M1 H1 vs rs w1 x1 p1

/-! ### isinstance with a built-in class -/
@[simp] def tyD : PyData → String
  | .none => "NoneType"
  | .bool _ => "bool"
  | .int _ => "int"
  | .str _ => "str"
  | .list _ => "list"
  | .tuple _ => "tuple"
  | .dict _ => "dict"
@[simp] def isiS (T t : String) : Bool := t == T || (T == "int" && t == "bool")
@[simp] def isiD (T : String) (d : PyData) : Bool := isiS T (tyD d)
@[simp] def oIsi (T : String) (r : DV) (M : Mem) : Res DV := match r.view M with
  | some d => .ok (.dat (.bool (isiD T d))) M
  | none => .stuck
theorem ty_ok {F : Hp} {al : List Addr} {M : Mem} {H : Hp} {v : V} {r : DV} {d : PyData} (w : WR G F al M H) (h : SlotR G F al v r) (e : r.view M = some d) : TyX G.K H v (.type (tyD d)) := by
  have sl : ∀ {a : Addr} {xs : List V}, SqL G.K H a xs → TyX G.K H (.ref a) (.type "list") := fun {a xs} q => by
    rcases q with (q | ⟨o, q⟩) | ⟨o, its, n, h1, h2, _⟩
    · exact .base (.lst q)
    · exact .base (.frz q)
    · exact .kList h1 h2
  have st : ∀ {a : Addr} {xs : List V}, SqT G.K H a xs → TyX G.K H (.ref a) (.type "tuple") := fun {a xs} q => by
    rcases q with (q | ⟨o, q⟩) | ⟨o, its, n, h1, h2, _⟩
    · exact .base (.tup q)
    · exact .fTuple q
    · exact .kTuple h1 h2
  cases d with
  | none =>
    obtain rfl := view_none w h e
    exact .base .non
  | bool b =>
    obtain rfl := view_bool w h e
    exact .base (.bl b)
  | int i =>
    obtain rfl := view_int w h e
    exact .base (.int i)
  | str x =>
    obtain ⟨rfl, _⟩ := view_str w h e
    exact .base (.str x)
  | list ds =>
    obtain ⟨a, xs, rfl, h1, _⟩ := view_list w h e
    exact sl h1
  | tuple ds =>
    obtain ⟨a, xs, rfl, h1, _⟩ := view_tup w h e
    exact st (same_sqT w.sub h1)
  | dict _ =>
    obtain ⟨h1, _⟩ := view_dat w h e
    cases h1
def KitAll (T : String) : Prop := ∀ d : PyData, (∀ z, d ≠ .dict z) → kitB (tyD d) T = some (isiD T d)
theorem kit_six {T : String} (h : ∀ t ∈ ["NoneType", "bool", "int", "str", "list", "tuple"], kitB t T = some (isiS T t)) : KitAll T := fun d hd => by
  cases d with
  | none => exact h "NoneType" (by simp)
  | bool b => exact h "bool" (by simp)
  | int i => exact h "int" (by simp)
  | str x => exact h "str" (by simp)
  | list x => exact h "list" (by simp)
  | tuple x => exact h "tuple" (by simp)
  | dict z => exact absurd rfl (hd z)
theorem kit_int : KitAll "int" := kit_six (by decide +kernel)
theorem kit_bool : KitAll "bool" := kit_six (by decide +kernel)
theorem kit_str : KitAll "str" := kit_six (by decide +kernel)
theorem kit_list : KitAll "list" := kit_six (by decide +kernel)
theorem kit_tuple : KitAll "tuple" := kit_six (by decide +kernel)
theorem de_isi {a : Expr} {f : FE} {T : String} {x : Str} {p p2 pos : Pos} (hK : X.K = G.K) (hT : KitAll T) (hg : Gl X "isinstance") (hm : X.mg "isinstance" = none) (hg2 : Gl X x) (hm2 : X.mg x = none) (hv2 : bootBuiltins x = some (.type T)) (hn : x ≠ "__name__") (hd : (x == ("__debug__" : Str)) = false)
    (ha : PE X a (tD G W f)) (hs : starEach [a, .Name x p2] X.env = (false, eval a X.env) :: starEach [.Name x p2] X.env) : PE X (.Call (.Name "isinstance" p) [a, .Name x p2] [] pos) (tD G W fun ρ M => (f ρ M).bind fun r M1 => oIsi T r.settle M1) := by
  refine PE.imp (pe_callB (id := "isinstance") call_isi hg hm (by decide +kernel) (pa_cons ha (pa_cons (pe_bltn (v := .ty T) hg2 hm2 hv2 rfl hn hd) pa_nil) hs) (he := hs)) fun σ H Q ⟨F, al, M, ρ, w, s, p⟩ => ?_
  refine step (g := oIsi T) endE w s p fun v H1 F1 al1 M1 r e1 w1 s1 x1 p1 => ?_
  unfold oIsi at p1
  cases hv : r.view M1 with
  | none =>
    rw [hv] at p1
    exact p1.elim
  | some d =>
    rw [hv] at p1
    have ty := ty_ok w1 x1 hv
    refine ⟨v, .ty T, .type (tyD d), .type T, isiD T d, rfl, .ty T, hK ▸ ty, kit_ty (hT d fun z q => ?_), fin_bl w1 p1⟩
    subst q
    obtain ⟨h1, _⟩ := view_dat w1 x1 hv
    cases h1

/-! ### len -/
@[simp] def oLen (rs : List DV) (M : Mem) : Res DV := match rs with
  | [r] => match r.view M with
    | some (.list xs) => .ok (.dat (.int xs.length)) M
    | some (.tuple xs) => .ok (.dat (.int xs.length)) M
    | some (.str x) => if x.length ≤ 1000000 then .ok (.dat (.int x.length)) M else .stuck
    | _ => .stuck
  | _ => .stuck
theorem paired1 {F : Hp} {al : List Addr} {vs : List V} {r : DV} (h : Paired (SlotR G F al) vs [r]) : ∃ v, vs = [v] ∧ SlotR G F al v r := by
  cases h with
  | cons a b =>
    cases b
    exact ⟨_, rfl, a⟩
theorem paired2 {F : Hp} {al : List Addr} {vs : List V} {r r' : DV} (h : Paired (SlotR G F al) vs [r, r']) : ∃ v v', vs = [v, v'] ∧ SlotR G F al v r ∧ SlotR G F al v' r' := by
  cases h with
  | cons a b =>
    obtain ⟨v, rfl, q⟩ := paired1 b
    exact ⟨_, v, rfl, a, q⟩
theorem bears_len : BearsC G (fun xs H Q => ∃ x n, xs = [x] ∧ LenV G.K x H n ∧ Q (.int n) H) oLen := fun W Q F al M H vs rs w h p => by
  unfold oLen at p
  split at p
  · rename_i r
    obtain ⟨v, rfl, hx⟩ := paired1 h
    split at p
    · rename_i xs e
      obtain ⟨a, ys, rfl, h1, k1⟩ := view_list w hx e
      exact ⟨_, xs.length, rfl, .inl ⟨ys, h1, k1.length.symm⟩, fin_int w p⟩
    · rename_i xs e
      obtain ⟨a, ys, rfl, h1, k1⟩ := view_tup w hx e
      exact ⟨_, xs.length, rfl, .inr ⟨ys, same_sqT w.sub h1, k1.length.symm⟩, fin_int w p⟩
    · rename_i x e
      split at p
      · rename_i hl
        obtain ⟨rfl, _⟩ := view_str w hx e
        exact ⟨_, x.length, rfl, ⟨mil hl, rfl⟩, fin_int w p⟩
      · exact p.elim
    · exact p.elim
  · exact p.elim
end
end Lad
end

noncomputable section
namespace Lad
open PySem PySem.Spec PyProof.Rows L2

inductive RS where
  | nx (ρ : Rho) (M : Mem)
  | ret (r : DV) (M : Mem)
  | brk (ρ : Rho) (M : Mem)
  | cnt (ρ : Rho) (M : Mem)
  | err (c : Nat) (ρ : Rho) (M : Mem)
  | stuck
abbrev FS := Rho → Mem → RS
@[simp] def Res.toS {β : Type} (r : Res β) (ρ : Rho) (f : β → Mem → RS) : RS :=
  match r with
  | .ok a M => f a M
  | .err c M => .err c ρ M
  | .stuck => .stuck
def PostS (G : Gx) (W : WX) (D : Ends) (F : Hp) (al : List Addr) : RS → Prop
  | .nx ρ M => ∀ σ F' al' H', Ext F F' al al' → WR G F' al' M H' → SR G F' al' ρ σ → D.nx σ H'
  | .ret r M => ∀ v F' al' H', Ext F F' al al' → WR G F' al' M H' → ResR G F' al' H' v r → D.rt v H'
  | .brk ρ M => ∀ σ F' al' H', Ext F F' al al' → WR G F' al' M H' → SR G F' al' ρ σ → D.bk σ H'
  | .cnt ρ M => ∀ σ F' al' H', Ext F F' al al' → WR G F' al' M H' → SR G F' al' ρ σ → D.ct σ H'
  | .err c ρ M => ∀ σ F' al' H', Ext F F' al al' → WR G F' al' M H' → SR G F' al' ρ σ → W (.ref (G.cls c)) none σ H'
  | .stuck => False
def tS (G : Gx) (W : WX) (f : FS) : TS := fun D σ H => ∃ F al M ρ, WR G F al M H ∧ SR G F al ρ σ ∧ PostS G W D F al (f ρ M)
section
variable {G : Gx} {W : WX} {X : Cx} {D : Ends} {σ : L2.St} {F F' : Hp} {al al' : List Addr} {M : Mem} {H : Hp} {ρ : Rho}
theorem PostS.mono {x : RS} (e : Ext F F' al al') (p : PostS G W D F al x) : PostS G W D F' al' x := by
  cases x with
  | stuck => exact p
  | _ => exact fun a F2 al2 H2 e2 w q => p a F2 al2 H2 (e.trans e2) w q
theorem sstepR {f : FE} {g : DV → Mem → RS} {K : VK} (w : WR G F al M H) (s : SR G F al ρ σ) (p : PostS G W D F al ((f ρ M).toS ρ g))
    (h : ∀ v H1 F' al' M' r, Ext F F' al al' → WR G F' al' M' H1 → SR G F' al' ρ σ → ResR G F' al' H1 v r → PostS G W D F' al' (g r M') → K v H1) : tD G W f σ H K := by
  refine ⟨F, al, M, ρ, w, s, ?_⟩
  cases hf : f ρ M with
  | ok r M1 =>
    rw [hf] at p
    exact fun v F1 al1 H1 e1 w1 q1 => h v H1 F1 al1 M1 r e1 w1 (s.mono e1) q1 (p.mono e1)
  | err c M1 =>
    rw [hf] at p
    exact fun F1 al1 H1 e1 w1 => p σ F1 al1 H1 e1 w1 (s.mono e1)
  | stuck =>
    rw [hf] at p
    exact p
theorem sstep {f : FE} {g : DV → Mem → RS} {K : VK} (w : WR G F al M H) (s : SR G F al ρ σ) (p : PostS G W D F al ((f ρ M).toS ρ fun r M' => g r.settle M'))
    (h : ∀ v H1 F' al' M' r, Ext F F' al al' → WR G F' al' M' H1 → SR G F' al' ρ σ → SlotR G F' al' v r → PostS G W D F' al' (g r M') → K v H1) : tD G W f σ H K := by
  refine sstepR w s p fun v H1 F1 al1 M1 r e1 w1 s1 q1 p1 => ?_
  obtain ⟨F2, s2, w2, q2⟩ := settle_ok w1 q1
  have e2 : Ext F1 F2 al1 al1 := Ext.of s2
  exact h v H1 F2 al1 M1 r.settle (e1.trans e2) w2 (s1.mono e2) q2 (p1.mono e2)
theorem sstepT {f : FT} {g : Bool → Mem → RS} {K : Bool → Hp → Prop} (w : WR G F al M H) (s : SR G F al ρ σ) (p : PostS G W D F al ((f ρ M).toS ρ g))
    (h : ∀ b H1 F' al' M', Ext F F' al al' → WR G F' al' M' H1 → SR G F' al' ρ σ → PostS G W D F' al' (g b M') → K b H1) : tDT G W f σ H K := by
  refine ⟨F, al, M, ρ, w, s, ?_⟩
  cases hf : f ρ M with
  | ok r M1 =>
    rw [hf] at p
    exact fun F1 al1 H1 e1 w1 => h r H1 F1 al1 M1 e1 w1 (s.mono e1) (p.mono e1)
  | err c M1 =>
    rw [hf] at p
    exact fun F1 al1 H1 e1 w1 => p σ F1 al1 H1 e1 w1 (s.mono e1)
  | stuck =>
    rw [hf] at p
    exact p
theorem sstepA {f : FA} {g : List DV → Mem → RS} {K : List V → Hp → Prop} (w : WR G F al M H) (s : SR G F al ρ σ) (p : PostS G W D F al ((f ρ M).toS ρ g))
    (h : ∀ vs H1 F' al' M' rs, Ext F F' al al' → WR G F' al' M' H1 → SR G F' al' ρ σ → Paired (SlotR G F' al') vs rs → PostS G W D F' al' (g rs M') → K vs H1) : tDA G W f σ H K := by
  refine ⟨F, al, M, ρ, w, s, ?_⟩
  cases hf : f ρ M with
  | ok r M1 =>
    rw [hf] at p
    exact fun vs F1 al1 H1 e1 w1 q1 => h vs H1 F1 al1 M1 r e1 w1 (s.mono e1) q1 (p.mono e1)
  | err c M1 =>
    rw [hf] at p
    exact fun F1 al1 H1 e1 w1 => p σ F1 al1 H1 e1 w1 (s.mono e1)
  | stuck =>
    rw [hf] at p
    exact p
theorem fin_nx (w : WR G F al M H) (s : SR G F al ρ σ) (p : PostS G W D F al (.nx ρ M)) : D.nx σ H := p σ F al H Ext.refl w s
theorem fin_set {i : Nat} {v : V} {r : DV} (hp : ∀ p ∈ G.pin, p.1 ≠ i) (w : WR G F al M H) (s : SR G F al ρ σ) (q : SlotR G F al v r) (p : PostS G W D F al (.nx (ρ.set i (some r)) M)) : D.nx (σ.set i (some v)) H := p _ F al H Ext.refl w (s.set i hp q)

/-! ### blocks -/
@[simp] def sNil : FS := fun ρ M => .nx ρ M
@[simp] def sSeq (f g : FS) : FS := fun ρ M => match f ρ M with
  | .nx ρ1 M1 => g ρ1 M1
  | r => r
theorem dss_nil : PSs X [] (tS G W sNil) := PSs.imp pss_nil fun D σ H ⟨F, al, M, ρ, w, s, p⟩ => fin_nx w s p
theorem dss_cons {st : Stmt} {rest : List Stmt} {f g : FS} (h1 : PS X st (tS G W f)) (h2 : PSs X rest (tS G W g)) : PSs X (st :: rest) (tS G W (sSeq f g)) :=
  PSs.imp (pss_cons h1 h2) fun D σ H ⟨F, al, M, ρ, w, s, p⟩ => by
    refine ⟨F, al, M, ρ, w, s, ?_⟩
    unfold sSeq at p
    cases hf : f ρ M with
    | nx ρ1 M1 =>
      rw [hf] at p
      exact fun σ1 F1 al1 H1 e1 w1 s1 => ⟨F1, al1, M1, ρ1, w1, s1, p.mono e1⟩
    | ret r M1 =>
      rw [hf] at p
      exact p
    | brk r M1 =>
      rw [hf] at p
      exact p
    | cnt r M1 =>
      rw [hf] at p
      exact p
    | err c r M1 =>
      rw [hf] at p
      exact p
    | stuck =>
      rw [hf] at p
      exact p
theorem ds_pass {pos : Pos} : PS X (.Pass pos) (tS G W sNil) := PS.imp ps_pass fun D σ H ⟨F, al, M, ρ, w, s, p⟩ => fin_nx w s p

/-! ### small statements -/
@[simp] def sSet (i : Nat) (f : FE) : FS := fun ρ M => (f ρ M).toS ρ fun r M1 => .nx (ρ.set i (some r.settle)) M1
theorem ds_set {i : Nat} {x : Str} {e : Expr} {f : FE} {pos pos' : Pos} (hp : ∀ p ∈ G.pin, p.1 ≠ i) (hN : X.N.Nodup) (hi : X.N[i]? = some x) (hx : Loc X.env.scope x) (he : PE X e (tD G W f)) (hs : swapsWith e (some (.Name x pos')) pos.line X.env = pure false) (hf : X.fn x = true ∨ X.env.scope.names.lookup x = some .local) :
    PS X (.Assign [.Name x pos'] e pos) (tS G W (sSet i f)) :=
  PS.imp (ps_set hN hi hx he hs hf) fun D σ H ⟨F, al, M, ρ, w, s, p⟩ => by
    refine sstep (g := fun r M1 => .nx (ρ.set i (some r)) M1) w s p fun v H1 F1 al1 M1 r e1 w1 s1 x1 p1 => ?_
    exact fin_set hp w1 s1 x1 p1
/-- a fresh list becomes a handle -/
@[simp] def newH (r : DV) (M : Mem) : Option (DV × Mem) := match r with
  | .frs ds => some (.hdl M.length, M ++ [.lst ds])
  | _ => none
theorem newH_ok {v : V} {r r' : DV} {M' : Mem} (w : WR G F al M H) (q : ResR G F al H v r) (e : newH r M = some (r', M')) : ∃ al', Ext F F al al' ∧ WR G F al' M' H ∧ SlotR G F al' v r' := by
  unfold newH at e
  split at e
  · rename_i ds
    cases e
    obtain ⟨a, xs, rfl, h1, h2, h3, h4⟩ := q
    exact ⟨al ++ [a], ⟨Same.refl F, [a], rfl⟩, w.more h2 h3 ⟨xs, h1, h4⟩, a, by rw [← w.len]; simp, rfl⟩
  · cases e
@[simp] def sSetM (i : Nat) (f : FE) : FS := fun ρ M => (f ρ M).toS ρ fun r M1 => match newH r M1 with
  | some (r', M2) => .nx (ρ.set i (some r')) M2
  | none => .stuck
theorem ds_setM {i : Nat} {x : Str} {e : Expr} {f : FE} {pos pos' : Pos} (hp : ∀ p ∈ G.pin, p.1 ≠ i) (hN : X.N.Nodup) (hi : X.N[i]? = some x) (hx : Loc X.env.scope x) (he : PE X e (tD G W f)) (hs : swapsWith e (some (.Name x pos')) pos.line X.env = pure false) (hf : X.fn x = true ∨ X.env.scope.names.lookup x = some .local) :
    PS X (.Assign [.Name x pos'] e pos) (tS G W (sSetM i f)) :=
  PS.imp (ps_set hN hi hx he hs hf) fun D σ H ⟨F, al, M, ρ, w, s, p⟩ => by
    refine sstepR w s p fun v H1 F1 al1 M1 r e1 w1 s1 x1 p1 => ?_
    cases hn : newH r M1 with
    | none =>
      rw [hn] at p1
      exact p1.elim
    | some q =>
      obtain ⟨r', M2⟩ := q
      rw [hn] at p1
      obtain ⟨al2, e2, w2, x2⟩ := newH_ok w1 x1 hn
      exact fin_set hp w2 (s1.mono e2) x2 (p1.mono e2)
@[simp] def sExpr (f : FE) : FS := fun ρ M => (f ρ M).toS ρ fun _ M1 => .nx ρ M1
theorem ds_expr {e : Expr} {f : FE} {pos : Pos} (he : PE X e (tD G W f)) (hs : swapsWith e none pos.line X.env = pure false) : PS X (.Expr e pos) (tS G W (sExpr f)) :=
  PS.imp (ps_expr he hs) fun D σ H ⟨F, al, M, ρ, w, s, p⟩ => by
    refine sstepR w s p fun v H1 F1 al1 M1 r e1 w1 s1 x1 p1 => ?_
    exact fin_nx w1 s1 p1
@[simp] def sRet (f : FE) : FS := fun ρ M => (f ρ M).toS ρ fun r M1 => .ret r M1
theorem ds_ret {e : Expr} {f : FE} {pos : Pos} (he : PE X e (tD G W f)) : PS X (.Return (some e) pos) (tS G W (sRet f)) :=
  PS.imp (ps_ret he) fun D σ H ⟨F, al, M, ρ, w, s, p⟩ => by
    refine sstepR w s p fun v H1 F1 al1 M1 r e1 w1 s1 x1 p1 => ?_
    exact p1 v F1 al1 H1 Ext.refl w1 x1
@[simp] def sIf (c : FT) (f g : FS) : FS := fun ρ M => (c ρ M).toS ρ fun b M1 => if b = true then f ρ M1 else g ρ M1
theorem ds_if {c : Expr} {a b : List Stmt} {h : FT} {f g : FS} {pos : Pos} (hc : PT X c (tDT G W h)) (ha : PSs X a (tS G W f)) (hb : PSs X b (tS G W g)) : PS X (.If c a b pos) (tS G W (sIf h f g)) :=
  PS.imp (ps_if hc ha hb) fun D σ H ⟨F, al, M, ρ, w, s, p⟩ => by
    refine sstepT w s p fun c H1 F1 al1 M1 e1 w1 s1 p1 => ?_
    cases c with
    | true => exact iteT ⟨F1, al1, M1, ρ, w1, s1, p1⟩
    | false => exact iteF ⟨F1, al1, M1, ρ, w1, s1, p1⟩
/-- x += e, x -= e of ints -/
@[simp] def sAug (i : Nat) (o : Int → Int → Int) (f : FE) : FS := fun ρ M => match ρ[i]? with
  | some (some r0) => (f ρ M).toS ρ fun r M1 => match r0.view M1, r.settle.view M1 with
    | some (.int a), some (.int b) => .nx (ρ.set i (some (.dat (.int (o a b))))) M1
    | _, _ => .stuck
  | _ => .stuck
theorem ds_aug {i : Nat} {x : Str} {e : Expr} {f : FE} {op : Operator} {o : Int → Int → Int} {pos pos' : Pos} (hp : ∀ p ∈ G.pin, p.1 ≠ i) (hN : X.N.Nodup) (hi : X.N[i]? = some x) (hx : Loc X.env.scope x) (he : PE X e (tD G W f)) (ho : PIp X op (ipI o)) (hf : X.fn x = true ∨ X.env.scope.names.lookup x = some .local) :
    PS X (.AugAssign (.Name x pos') op e pos) (tS G W (sAug i o f)) :=
  PS.imp (ps_aug hN hi hx he ho hf) fun D σ H ⟨F, al, M, ρ, w, s, p⟩ => by
    unfold sAug at p
    cases e0 : ρ[i]? with
    | none =>
      rw [e0] at p
      exact p.elim
    | some o0 =>
      cases o0 with
      | none =>
        rw [e0] at p
        exact p.elim
      | some r0 =>
        rw [e0] at p
        obtain ⟨v0, h1, h2⟩ := s.at_ i r0 e0
        refine ⟨v0, h1, ?_⟩
        refine sstep (g := fun r M1 => match r0.view M1, r.view M1 with
          | some (.int a), some (.int b) => .nx (ρ.set i (some (.dat (.int (o a b))))) M1
          | _, _ => .stuck) w s p fun v H1 F1 al1 M1 r e1 w1 s1 x1 p1 => ?_
        split at p1
        · rename_i a b q1 q2
          exact ⟨a, b, view_int w1 (h2.mono e1) q1, view_int w1 x1 q2, fin_set (r := .dat (.int (o a b))) hp w1 s1 (show DatR G.K F1 _ _ from ⟨.int _, rfl⟩) p1⟩
        · exact p1.elim

/-! ### for -/
/-- what a loop over these items does -/
def forD (g : PyData → Rho → Option Rho) (b : FS) : List PyData → FS
  | [], ρ, M => .nx ρ M
  | d :: ds, ρ, M => match g d ρ with
    | none => .stuck
    | some ρ0 => match b ρ0 M with
      | .nx ρ1 M1 => forD g b ds ρ1 M1
      | .cnt ρ1 M1 => forD g b ds ρ1 M1
      | .brk ρ1 M1 => .nx ρ1 M1
      | r => r
/-- a target that takes data -/
def Takes1 (G : Gx) (tg : TG) (g : PyData → Rho → Option Rho) : Prop := ∀ (F : Hp) (al : List Addr) (M : Mem) (H : Hp) (ρ ρ' : Rho) (σ : L2.St) (v : V) (d : PyData) (Q : L2.St → Hp → Prop), WR G F al M H → SR G F al ρ σ → DatR G.K F v d → g d ρ = some ρ' →
  (∀ σ', SR G F al ρ' σ' → Q σ' H) → tg v σ H Q
@[simp] def gSlot (i : Nat) (d : PyData) (ρ : Rho) : Option Rho := some (ρ.set i (some (.dat d)))
theorem takes_name (i : Nat) (hp : ∀ p ∈ G.pin, p.1 ≠ i) : Takes1 G (gName i) (gSlot i) := fun F al M H ρ ρ' σ v d Q w s q e h => by
  cases e
  exact h _ (s.set i hp (r := .dat d) q)
/-- an iterator yields these data, whatever the store does -/
structure Feeds (G : Gx) (F : Hp) (J : It) (ds : List PyData) : Prop where
  go : ∀ (i : Nat) (F' : Hp) (H : Hp), Same F F' → Same F' H → i < ds.length → J.go i H
  yld : ∀ (i : Nat) (F' : Hp) (H : Hp) x H', Same F F' → Same F' H → (hi : i < ds.length) → J.yld i H x H' → H' = H ∧ DatR G.K F' x ds[i]
  stop : ∀ (F' : Hp) (H : Hp), Same F F' → Same F' H → J.stop ds.length H
theorem for_feeds {J : It} {ds : List PyData} {g : PyData → Rho → Option Rho} {tg : TG} {b : FS} (fd : Feeds G F J ds) (tk : Takes1 G tg g) (w : WR G F al M H) (s : SR G F al ρ σ) (p : PostS G W D F al (forD g b ds ρ M)) :
    ∃ Wn : Nat → Nat → L2.St → Hp → Prop, (∃ m, Wn 0 m σ H) ∧ ∀ i m σ H, Wn i m σ H →
      (J.stop i H ∧ D.nx σ H) ∨ (J.go i H ∧ ∃ N : L2.St → Hp → Prop, (∀ σ' H', N σ' H' → ∃ m', m' < m ∧ Wn (i + 1) m' σ' H') ∧ ∀ x H', J.yld i H x H' → tg x σ H' fun σ2 H2 => tS G W b { D with nx := N, ct := N, bk := D.nx } σ2 H2) := by
  refine ⟨fun i m σ H => m = ds.length - i ∧ i ≤ ds.length ∧ ∃ F1 al1 M1 ρ1, Ext F F1 al al1 ∧ WR G F1 al1 M1 H ∧ SR G F1 al1 ρ1 σ ∧ PostS G W D F1 al1 (forD g b (ds.drop i) ρ1 M1), ⟨ds.length, by simp, Nat.zero_le _, F, al, M, ρ, Ext.refl, w, s, p⟩, ?_⟩
  rintro i m σ1 H1 ⟨rfl, hi, F1, al1, M1, ρ1, e1, w1, s1, p1⟩
  by_cases hlt : i < ds.length
  · rw [List.drop_eq_getElem_cons hlt] at p1
    unfold forD at p1
    cases hg : g ds[i] ρ1 with
    | none =>
      rw [hg] at p1
      exact p1.elim
    | some ρ0 =>
      rw [hg] at p1
      dsimp only at p1
      refine .inr ⟨fd.go i F1 H1 e1.fs w1.sub hlt, fun σ' H' => ∃ F2 al2 M2 ρ2, Ext F F2 al al2 ∧ WR G F2 al2 M2 H' ∧ SR G F2 al2 ρ2 σ' ∧ PostS G W D F2 al2 (forD g b (ds.drop (i + 1)) ρ2 M2), fun σ' H' hN => ⟨ds.length - (i + 1), by omega, rfl, hlt, hN⟩, fun x H' y => ?_⟩
      obtain ⟨rfl, q⟩ := fd.yld i F1 H1 x H' e1.fs w1.sub hlt y
      refine tk F1 al1 M1 H' ρ1 ρ0 σ1 x ds[i] _ w1 s1 q hg fun σ2 s2 => ?_
      refine ⟨F1, al1, M1, ρ0, w1, s2, ?_⟩
      cases hb : b ρ0 M1 with
      | nx ρ2 M2 =>
        rw [hb] at p1
        exact fun σ3 F3 al3 H3 e3 w3 s3 => ⟨F3, al3, M2, ρ2, e1.trans e3, w3, s3, p1.mono e3⟩
      | cnt ρ2 M2 =>
        rw [hb] at p1
        exact fun σ3 F3 al3 H3 e3 w3 s3 => ⟨F3, al3, M2, ρ2, e1.trans e3, w3, s3, p1.mono e3⟩
      | brk ρ2 M2 =>
        rw [hb] at p1
        exact p1
      | ret r M2 =>
        rw [hb] at p1
        exact p1
      | err c ρ2 M2 =>
        rw [hb] at p1
        exact p1
      | stuck =>
        rw [hb] at p1
        exact p1
  · have e : i = ds.length := by omega
    subst e
    rw [List.drop_length] at p1
    exact .inl ⟨fd.stop F1 H1 e1.fs w1.sub, fin_nx w1 s1 p1⟩
def rangeD (lo : Int) (n : Nat) : List PyData := (List.range n).map fun (k : Nat) => PyData.int (lo + (k : Int))
theorem feeds_range (lo : Int) (n : Nat) : Feeds G F (Itr lo n) (rangeD lo n) where
  go := fun i F' H _ _ h => by
    have h2 : i < n := by simpa [rangeD] using h
    exact h2
  yld := fun i F' H x H' _ _ h y => by
    obtain ⟨e1, e2⟩ := y
    subst e1 e2
    refine ⟨rfl, ?_⟩
    have e : (rangeD lo n)[i] = .int (lo + i) := by simp [rangeD]
    rw [e]
    exact ⟨.int _, rfl⟩
  stop := fun F' H _ _ => by
    show n ≤ (rangeD lo n).length
    simp [rangeD]
theorem feeds_tup {K : PySem.W.Frag} {a : Addr} {xs : List V} {ds : List PyData} (hK : K = G.K) (h : SqT G.K F a xs) (q : AllR G.K F xs ds) : Feeds G F (Itt K a) ds where
  go := fun i F' H e1 e2 hi => by
    subst hK
    obtain ⟨v, h1, _⟩ := q.get (List.getElem?_eq_getElem hi)
    exact ⟨xs, v, same_sqT e2 (same_sqT e1 h), h1⟩
  yld := fun i F' H x H' e1 e2 hi y => by
    subst hK
    obtain ⟨e, y⟩ := y
    subst e
    obtain ⟨v, h1, h2⟩ := q.get (List.getElem?_eq_getElem hi)
    have h3 := y xs (same_sqT e2 (same_sqT e1 h))
    rw [h1] at h3
    cases h3
    exact ⟨rfl, h2.mono e1⟩
  stop := fun F' H e1 e2 => by
    subst hK
    exact ⟨xs, same_sqT e2 (same_sqT e1 h), by rw [q.length]; exact Nat.le_refl _⟩
theorem feeds_lst {K : PySem.W.Frag} {a : Addr} {xs : List V} {ds : List PyData} (hK : K = G.K) (h : SqL G.K F a xs) (q : AllR G.K F xs ds) : Feeds G F (Itl K a) ds where
  go := fun i F' H e1 e2 hi => by
    subst hK
    obtain ⟨v, h1, _⟩ := q.get (List.getElem?_eq_getElem hi)
    exact ⟨xs, v, e2.seq (e1.seq h), h1⟩
  yld := fun i F' H x H' e1 e2 hi y => by
    subst hK
    obtain ⟨e, y⟩ := y
    subst e
    obtain ⟨v, h1, h2⟩ := q.get (List.getElem?_eq_getElem hi)
    have h3 := y xs (e2.seq (e1.seq h))
    rw [h1] at h3
    cases h3
    exact ⟨rfl, h2.mono e1⟩
  stop := fun F' H e1 e2 => by
    subst hK
    exact ⟨xs, e2.seq (e1.seq h), by rw [q.length]; exact Nat.le_refl _⟩
/-- what is walked, as data: a frozen list, the script, a tuple -/
@[simp] def itD (r : DV) : Option (List PyData) := match r with
  | .dat (.list ds) => some ds
  | .dat (.tuple ds) => some ds
  | .scr ns => some (ns.map PyData.int)
  | _ => none
/-- an iterable's reading, by its data -/
def BearsI (G : Gx) (W : WX) (wi : TI) (f : Rho → Mem → Res (List PyData)) : Prop := ∀ (P : Hp → List Addr → Res (List PyData) → Prop) (σ : L2.St) (F : Hp) (al : List Addr) (M : Mem) (H : Hp) (ρ : Rho) (R : It → Hp → Prop),
  WR G F al M H → SR G F al ρ σ →
  (∀ c M1, f ρ M = .err c M1 → ∀ F1 al1 H1, Ext F F1 al al1 → WR G F1 al1 M1 H1 → W (.ref (G.cls c)) none σ H1) → (f ρ M ≠ .stuck) →
  (∀ ds M1, f ρ M = .ok ds M1 → ∀ F1 al1 H1 J, Ext F F1 al al1 → WR G F1 al1 M1 H1 → SR G F1 al1 ρ σ → Feeds G F1 J ds → R J H1) → wi σ H R
@[simp] def sFor (it : Rho → Mem → Res (List PyData)) (g : PyData → Rho → Option Rho) (b : FS) : FS := fun ρ M => (it ρ M).toS ρ fun ds M1 => forD g b ds ρ M1
theorem ds_for {tg iter : Expr} {body : List Stmt} {wi : TI} {g : TG} {it : Rho → Mem → Res (List PyData)} {gd : PyData → Rho → Option Rho} {b : FS} {pos : Pos} (hp : PassesOwn (model X.prog X.w) X.A X.env X.xe) (hc : X.calm = true) (hi : PI X tg iter wi) (hbi : BearsI G W wi it) (hg : PG X tg g) (htk : Takes1 G g gd)
    (hb : PSs X body (tS G W b)) (hs : ∀ x, foldedSetIterable iter X.env x = pure x) : PS X (.For tg iter body [] pos) (tS G W (sFor it gd b)) :=
  PS.imp (ps_for hp hc hi hg hb hs) fun D σ H ⟨F, al, M, ρ, w, s, p⟩ => by
    refine hbi (fun _ _ _ => True) σ F al M H ρ _ w s (fun c M1 e F1 al1 H1 e1 w1 => ?_) (fun e => ?_) (fun ds M1 e F1 al1 H1 J e1 w1 s1 fd => ?_)
    · unfold sFor at p
      rw [e] at p
      exact p σ F1 al1 H1 e1 w1 (s.mono e1)
    · unfold sFor at p
      rw [e] at p
      exact p
    · unfold sFor at p
      rw [e] at p
      exact for_feeds fd htk w1 s1 (p.mono e1)
/-- range(a) -/
@[simp] def iRange (f : FE) : Rho → Mem → Res (List PyData) := fun ρ M => (f ρ M).bind fun r M1 => match r.settle.view M1 with
  | some (.int n) => if okN n = true then .ok (rangeD 0 n.toNat) M1 else .stuck
  | _ => .stuck
theorem bears_range {f : FE} : BearsI G W (iRng1 (tDA G W (faCons f faNil))) (iRange f) := fun P σ F al M H ρ R w s he hst hok => by
  refine ⟨F, al, M, ρ, w, s, ?_⟩
  unfold faCons
  cases hf : f ρ M with
  | stuck => exact absurd (by unfold iRange; rw [hf]; rfl) hst
  | err c M1 => exact fun F1 al1 H1 e1 w1 => he c M1 (by unfold iRange; rw [hf]; rfl) F1 al1 H1 e1 w1
  | ok r M1 =>
    intro vs F1 al1 H1 e1 w1 q1
    obtain ⟨v, rfl, q⟩ := paired1 q1
    have ei : iRange f ρ M = match r.settle.view M1 with
        | some (.int n) => if okN n = true then .ok (rangeD 0 n.toNat) M1 else .stuck
        | _ => .stuck := by
      unfold iRange
      rw [hf]
      rfl
    rw [ei] at hst hok
    split at hst
    · rename_i n hn
      rw [hn] at hok
      split at hst
      · rename_i hc
        have hok := hok (rangeD 0 n.toNat) M1 (by simp only [hc]; rfl)
        obtain ⟨c1, c2⟩ := okN_ok hc
        exact ⟨n, by rw [view_int w1 q hn], c1, c2, hok F1 al1 H1 _ e1 w1 (s.mono e1) (feeds_range 0 n.toNat)⟩
      · exact absurd rfl hst
    · exact absurd rfl hst
/-- a list, a tuple -/
@[simp] def iData (f : FE) : Rho → Mem → Res (List PyData) := fun ρ M => (f ρ M).bind fun r M1 => match itD r.settle with
  | some ds => .ok ds M1
  | none => .stuck
theorem pi_seq {tg l : Expr} {tl : TE} (hl : PE X l tl) : PI X tg l (fun σ H R => tl σ H fun x H1 => ∃ a, x = .ref a ∧ ((∃ xs, SqL X.K H1 a xs) ∧ R (Itl X.K a) H1 ∨ (∃ xs, SqT X.K H1 a xs) ∧ R (Itt X.K a) H1)) := by
  refine ⟨fun pins s σ H R I h => ?_⟩
  refine thn (hl.run pins s σ H _ I h) fun v s1 ⟨x, H1, I1, r1, q1⟩ => ?_
  obtain ⟨a, rfl, q | q⟩ := q1
  · have pl : PE X l (fun _ _ _ => False) := ⟨fun _ _ _ _ _ _ z => z.elim⟩
    cases r1
    obtain ⟨⟨xs, hq⟩, q⟩ := q
    obtain ⟨its, rv, p, hz⟩ := I1.list hq
    refine wpAny_pyIter_list p.isList ⟨s1.heap.objs.size, [s1.heap.objs.size], _, _, H1, rfl, I1.kept (t' := s1.toks) fun b o e => Heap.get?_push_of_some _ e, turn_list a _, ⟨_, Heap.get?_push_size _ rfl, rfl, rfl⟩, fun b hb => ?_, q⟩
    obtain rfl : b = s1.heap.objs.size := by simpa using hb
    exact I1.fpOk (Nat.le_refl _) I1.fresh
  · cases r1
    obtain ⟨⟨xs, hq⟩, q⟩ := q
    obtain ⟨its, rv, p, hz⟩ := I1.tuple hq
    refine wpAny_pyIter_tuple (show s1.heap.IsTuple a its.toArray from p) ⟨s1.heap.objs.size, [s1.heap.objs.size], _, _, H1, rfl, I1.kept (t' := s1.toks) fun b o e => Heap.get?_push_of_some _ e, turn_tuple a _, ⟨_, Heap.get?_push_size _ rfl, rfl, rfl⟩, fun b hb => ?_, q⟩
    obtain rfl : b = s1.heap.objs.size := by simpa using hb
    exact I1.fpOk (Nat.le_refl _) I1.fresh
theorem bears_data {K : PySem.W.Frag} {f : FE} (hK : K = G.K) : BearsI G W (fun σ H R => tD G W f σ H fun x H1 => ∃ a, x = .ref a ∧ ((∃ xs, SqL K H1 a xs) ∧ R (Itl K a) H1 ∨ (∃ xs, SqT K H1 a xs) ∧ R (Itt K a) H1)) (iData f) := fun P σ F al M H ρ R w s he hst hok => by
  refine ⟨F, al, M, ρ, w, s, ?_⟩
  have ei : iData f ρ M = (f ρ M).bind fun r M1 => match itD r.settle with
    | some ds => .ok ds M1
    | none => .stuck := rfl
  rw [ei] at he hst hok
  cases hf : f ρ M with
  | stuck =>
    rw [hf] at hst
    exact absurd rfl hst
  | err c M1 =>
    rw [hf] at he
    exact fun F1 al1 H1 e1 w1 => he c M1 rfl F1 al1 H1 e1 w1
  | ok r M1 =>
    rw [hf] at hst hok
    intro v F1 al1 H1 e1 w1 q1
    obtain ⟨F2, s2, w2, q2⟩ := settle_ok w1 q1
    have e2 := e1.trans (Ext.of (al := al1) s2)
    have hst : (match itD r.settle with
      | some ds => Res.ok ds M1
      | none => .stuck) ≠ .stuck := hst
    cases hi : itD r.settle with
    | none =>
      rw [hi] at hst
      exact absurd rfl hst
    | some ds =>
      have hok := hok ds M1 (by show (match itD r.settle with | some ds => Res.ok ds M1 | none => .stuck) = _; rw [hi])
      unfold itD at hi
      split at hi
      · rename_i es he'
        cases hi
        rw [he'] at q2
        obtain ⟨z1, z2⟩ := q2
        cases z1 with
        | lst a b =>
          have a2 : SqL G.K F2 _ _ := SqL.of a
          exact ⟨_, rfl, .inl ⟨⟨_, hK ▸ w2.sub.seq a2⟩, hok F2 al1 H1 _ e2 w2 (s.mono e2) (feeds_lst hK a2 ⟨b, by simpa [PyData.canLay0] using z2⟩)⟩⟩
      · rename_i es he'
        cases hi
        rw [he'] at q2
        obtain ⟨z1, z2⟩ := q2
        cases z1 with
        | tup a b => exact ⟨_, rfl, .inr ⟨⟨_, hK ▸ same_sqT w2.sub a⟩, hok F2 al1 H1 _ e2 w2 (s.mono e2) (feeds_tup hK a ⟨b, by simpa [PyData.canLay0] using z2⟩)⟩⟩
      · rename_i ns he'
        cases hi
        rw [he'] at q2
        obtain ⟨a, rfl, z⟩ := q2
        exact ⟨a, rfl, .inl ⟨⟨_, hK ▸ w2.sub.seq z⟩, hok F2 al1 H1 _ e2 w2 (s.mono e2) (feeds_lst hK z (AllR.ints ns))⟩⟩
      · cases hi

/-! ### raise -/
@[simp] def sRaise (c : Nat) : FS := fun ρ M => .err c ρ M
theorem ds_raise {e : Expr} {c : Nat} {t : L2.St → Hp → XK → Prop} {pos : Pos} (hc : X.calm = true) (tk : Takes X W) (he : PMk X e t) (ht : ∀ σ H Q, Q (.ref (G.cls c)) none H → t σ H Q) : PS X (.Raise (some e) none pos) (tS G W (sRaise c)) :=
  PS.imp (ps_raise hc tk he) fun D σ H ⟨F, al, M, ρ, w, s, p⟩ => ht σ H _ (p σ F al H Ext.refl w s)
end
end Lad
end

noncomputable section
namespace Lad
open PySem PySem.Spec PyProof.Rows L2

abbrev WF : WX := fun _ _ _ _ => False
/-- within an except suite: slot i holds the error -/
abbrev Gx.at (G : Gx) (i : Nat) (a : Addr) : Gx := { G with pin := [(i, .ref a)] }
abbrev Gx.off (G : Gx) : Gx := { G with pin := [] }
section
variable {G : Gx} {W : WX} {X : Cx} {F : Hp} {al : List Addr} {M : Mem} {H : Hp} {ρ : Rho} {σ : L2.St} {i : Nat} {a : Addr} {ps : List (Nat × V)}
theorem SlotR.re {v : V} {r : DV} (h : SlotR G F al v r) : SlotR { G with pin := ps } F al v r := by
  cases r <;> exact h
theorem SlotR.er {v : V} {r : DV} (h : SlotR { G with pin := ps } F al v r) : SlotR G F al v r := by
  cases r <;> exact h
theorem ResR.re {v : V} {r : DV} (h : ResR G F al H v r) : ResR { G with pin := ps } F al H v r := by
  cases r <;> exact h
theorem ResR.er {v : V} {r : DV} (h : ResR { G with pin := ps } F al H v r) : ResR G F al H v r := by
  cases r <;> exact h
theorem MOR.re {a : Addr} {m : MO} (h : MOR G F al H a m) : MOR { G with pin := ps } F al H a m := by
  cases m with
  | lst ds => exact h
  | dead => exact h
  | ins c fs =>
    obtain ⟨dx, vs, q, z⟩ := h
    exact ⟨dx, vs, q, Paired.mapP z fun _ _ q => ⟨q.1, q.2.re⟩⟩
theorem MOR.er {a : Addr} {m : MO} (h : MOR { G with pin := ps } F al H a m) : MOR G F al H a m := by
  cases m with
  | lst ds => exact h
  | dead => exact h
  | ins c fs =>
    obtain ⟨dx, vs, q, z⟩ := h
    exact ⟨dx, vs, q, Paired.mapP z fun _ _ q => ⟨q.1, q.2.er⟩⟩
theorem WR.re (w : WR G F al M H) : WR { G with pin := ps } F al M H := ⟨w.sub, w.len, w.nd, w.off, fun h m a e1 e2 => (w.obj h m a e1 e2).re⟩
theorem WR.er (w : WR { G with pin := ps } F al M H) : WR G F al M H := ⟨w.sub, w.len, w.nd, w.off, fun h m a e1 e2 => (w.obj h m a e1 e2).er⟩
theorem SR.toSuite (h0 : G.pin = []) (s : SR G F al ρ σ) (hi : i < ρ.length) : SR (G.at i a) F al (ρ.set i none) (σ.set i (some (.ref a))) := by
  have s2 := s.forget i (fun p h => by rw [h0] at h; cases h) (some (.ref a))
  refine ⟨s2.len, fun j dv e => ?_, fun p hp => ?_⟩
  · obtain ⟨v, h1, h2⟩ := s2.at_ j dv e
    exact ⟨v, h1, h2.re⟩
  · obtain rfl : p = (i, .ref a) := by simpa using hp
    rw [List.getElem?_set_self (by rw [s.len]; exact hi)]
theorem SR.ofSuite (h0 : G.pin = []) (s : SR (G.at i a) F al ρ σ) : SR G F al (ρ.set i none) (σ.set i none) := by
  refine ⟨by simp [s.len], fun j dv e => ?_, fun p hp => by rw [h0] at hp; cases hp⟩
  by_cases hj : i = j
  · subst hj
    by_cases hl : i < ρ.length
    · rw [List.getElem?_set_self hl] at e
      cases e
    · rw [List.getElem?_eq_none (by simpa using hl)] at e
      cases e
  · rw [List.getElem?_set_ne hj] at e ⊢
    obtain ⟨v, h1, h2⟩ := s.at_ j dv e
    exact ⟨v, h1, h2.er⟩

/-! ### try: .. except C as e -/
@[simp] def endSuite (i : Nat) : RS → RS
  | .nx ρ M => .nx (ρ.set i none) M
  | .brk ρ M => .brk (ρ.set i none) M
  | .cnt ρ M => .cnt (ρ.set i none) M
  | .ret r M => .ret r M
  | .err _ _ _ => .stuck
  | .stuck => .stuck
@[simp] def sTryAs (i : Nat) (b : FS) (exm : Nat → Option Bool) (sf : Nat → FS) : FS := fun ρ M => match b ρ M with
  | .err c ρ1 M1 => match exm c with
    | some true => if i < ρ1.length then endSuite i (sf c (ρ1.set i none) M1) else .stuck
    | some false => .err c ρ1 M1
    | none => .stuck
  | r => r
theorem ds_tryAs {x n : Str} {cv : Value} {body suite : List Stmt} {b0 : Stmt} {np pos pos' : Pos} {b : FS} {exm : Nat → Option Bool} {sf : Nat → FS} (h0 : G.pin = []) (hs : X.stack = X.env :: X.outer) (hf : X.env.frame = some X.env.locals) (hN : X.N.Nodup) (hi : X.N[i]? = some n)
    (hln : X.env.kindOf n = some .local) (hc : Names X x cv) (tk : Takes X W) (hex : ∀ c k, exm c = some k → PySem.W.exmOne X.K (.ref (G.cls c)) cv = some k)
    (hb : ∀ (W : WX) (pn : List (Addr × Obj)) (xe : Value → Shared → Prop), Takes (X.tr pn xe) W → PassesOwn (model X.prog X.w) X.A X.env xe → PSs (X.tr pn xe) body (tS G W b))
    (hsu : ∀ (a : Addr) (oe : Obj) (c : Nat) (pn : List (Addr × Obj)), Zc (.ref (G.cls c)) none oe → (∃ vs, oe.data = .fields vs) → PSs (X.suite a ((a, oe) :: pn)) (b0 :: suite) (tS (G.at i a) WF (sf c))) :
    PS X (.Try body [.ExceptHandler (some (.Name x np)) (some n) (b0 :: suite) pos'] [] [] pos) (tS G W (sTryAs i b exm sf)) := by
  refine PS.imp (ps_try_as (tb := fun W => tS G W b) (ts := fun a cls d => fun D σ H => ∃ c, cls = .ref (G.cls c) ∧ d = none ∧ tS (G.at i a) WF (sf c) D σ H) hs hf hN hi hln hc tk hb ?_) fun D σ H ⟨F, al, M, ρ, w, s, p⟩ => ?_
  · intro a oe cls d pn hz hfl
    refine ⟨fun pins st σ H D I h => ?_⟩
    obtain ⟨c, rfl, rfl, h⟩ := h
    exact (hsu a oe c pn hz hfl).run pins st σ H D I h
  · refine ⟨F, al, M, ρ, w, s, ?_⟩
    unfold sTryAs at p
    cases hbr : b ρ M with
    | nx ρ1 M1 =>
      rw [hbr] at p
      exact p
    | ret r M1 =>
      rw [hbr] at p
      exact p
    | brk ρ1 M1 =>
      rw [hbr] at p
      exact p
    | cnt ρ1 M1 =>
      rw [hbr] at p
      exact p
    | stuck =>
      rw [hbr] at p
      exact p
    | err c ρ1 M1 =>
      rw [hbr] at p
      dsimp only at p
      intro σ1 F1 al1 H1 e1 w1 s1
      cases hk : exm c with
      | none =>
        rw [hk] at p
        exact p.elim
      | some k =>
        rw [hk] at p
        refine ⟨k, hex c k hk, fun z a na => ?_, fun z => ?_⟩
        · subst z
          dsimp only at p
          by_cases hl : i < ρ1.length
          · rw [if_pos hl] at p
            refine ⟨c, rfl, rfl, F1, al1, M1, _, w1.re, s1.toSuite h0 hl, ?_⟩
            have p := p.mono e1
            cases hsf : sf c (ρ1.set i none) M1 with
            | nx ρ2 M2 =>
              rw [hsf] at p
              exact fun σ2 F2 al2 H2 e2 w2 s2 => p (σ2.set i none) F2 al2 H2 e2 w2.er (s2.ofSuite h0)
            | brk ρ2 M2 =>
              rw [hsf] at p
              exact fun σ2 F2 al2 H2 e2 w2 s2 => p (σ2.set i none) F2 al2 H2 e2 w2.er (s2.ofSuite h0)
            | cnt ρ2 M2 =>
              rw [hsf] at p
              exact fun σ2 F2 al2 H2 e2 w2 s2 => p (σ2.set i none) F2 al2 H2 e2 w2.er (s2.ofSuite h0)
            | ret r M2 =>
              rw [hsf] at p
              exact fun v F2 al2 H2 e2 w2 q2 => p v F2 al2 H2 e2 w2.er q2.er
            | err c2 ρ2 M2 =>
              rw [hsf] at p
              exact p.elim
            | stuck =>
              rw [hsf] at p
              exact p.elim
          · rw [if_neg hl] at p
            exact p.elim
        · subst z
          exact p σ1 F1 al1 H1 e1 w1 s1

/-! ### try: .. except C: -/
@[simp] def endSuite0 : RS → RS
  | .err _ _ _ => .stuck
  | r => r
@[simp] def sTry (b : FS) (exm : Nat → Option Bool) (sf : Nat → FS) : FS := fun ρ M => match b ρ M with
  | .err c ρ1 M1 => match exm c with
    | some true => endSuite0 (sf c ρ1 M1)
    | some false => .err c ρ1 M1
    | none => .stuck
  | r => r
theorem ds_try {x : Str} {cv : Value} {body suite : List Stmt} {b0 : Stmt} {np pos pos' : Pos} {b : FS} {exm : Nat → Option Bool} {sf : Nat → FS} (hs : X.stack = X.env :: X.outer) (hf : X.env.frame = some X.env.locals)
    (hc : Names X x cv) (tk : Takes X W) (hex : ∀ c k, exm c = some k → PySem.W.exmOne X.K (.ref (G.cls c)) cv = some k)
    (hb : ∀ (W : WX) (pn : List (Addr × Obj)) (xe : Value → Shared → Prop), Takes (X.tr pn xe) W → PassesOwn (model X.prog X.w) X.A X.env xe → PSs (X.tr pn xe) body (tS G W b))
    (hsu : ∀ (a : Addr) (oe : Obj) (c : Nat) (pn : List (Addr × Obj)), Zc (.ref (G.cls c)) none oe → (∃ vs, oe.data = .fields vs) → PSs (X.suite a ((a, oe) :: pn)) (b0 :: suite) (tS G WF (sf c))) :
    PS X (.Try body [.ExceptHandler (some (.Name x np)) none (b0 :: suite) pos'] [] [] pos) (tS G W (sTry b exm sf)) := by
  refine PS.imp (ps_try_only (tb := fun W => tS G W b) (ts := fun a cls d => fun D σ H => ∃ c, cls = .ref (G.cls c) ∧ d = none ∧ tS G WF (sf c) D σ H) hs hf hc tk hb ?_) fun D σ H ⟨F, al, M, ρ, w, s, p⟩ => ?_
  · intro a oe cls d pn hz hfl
    refine ⟨fun pins st σ H D I h => ?_⟩
    obtain ⟨c, rfl, rfl, h⟩ := h
    exact (hsu a oe c pn hz hfl).run pins st σ H D I h
  · refine ⟨F, al, M, ρ, w, s, ?_⟩
    unfold sTry at p
    cases hbr : b ρ M with
    | nx ρ1 M1 =>
      rw [hbr] at p
      exact p
    | ret r M1 =>
      rw [hbr] at p
      exact p
    | brk ρ1 M1 =>
      rw [hbr] at p
      exact p
    | cnt ρ1 M1 =>
      rw [hbr] at p
      exact p
    | stuck =>
      rw [hbr] at p
      exact p
    | err c ρ1 M1 =>
      rw [hbr] at p
      dsimp only at p
      intro σ1 F1 al1 H1 e1 w1 s1
      cases hk : exm c with
      | none =>
        rw [hk] at p
        exact p.elim
      | some k =>
        rw [hk] at p
        refine ⟨k, hex c k hk, fun z a na => ?_, fun z => ?_⟩
        · subst z
          dsimp only at p
          refine ⟨c, rfl, rfl, F1, al1, M1, _, w1, s1, ?_⟩
          have p := p.mono e1
          cases hsf : sf c ρ1 M1 with
          | err c2 ρ2 M2 =>
            rw [hsf] at p
            exact p.elim
          | stuck =>
            rw [hsf] at p
            exact p
          | nx ρ2 M2 =>
            rw [hsf] at p
            exact p
          | brk ρ2 M2 =>
            rw [hsf] at p
            exact p
          | cnt ρ2 M2 =>
            rw [hsf] at p
            exact p
          | ret r M2 =>
            rw [hsf] at p
            exact p
        · subst z
          exact p σ1 F1 al1 H1 e1 w1 s1

/-! ### isinstance(e, C), e the error at hand -/
theorem de_isE {x y : Str} {a : Addr} {c : Nat} {k : Bool} {v : V} {u : Value} {p p1 p2 pos : Pos} (hN : X.N[i]? = some x) (hv : Vis X.env.scope x) (hd : (x == ("__debug__" : Str)) = false) (hcd : (x == ("__classdict__" : Str)) = false) (hpin : (i, V.ref a) ∈ G.pin)
    (hK : X.K = G.K) (hg : Gl X "isinstance") (hm : X.mg "isinstance" = none) (hy : PE X (.Name y p2) (tC v)) (hvu : ∀ z, RelV v z → z = u) (hkit : PySem.W.kitOne X.K (.ref (G.cls c)) u = some k) (hcall : CallR X (.builtin "isinstance") (rIsE X.K (G.cls c) a)) :
    PE X (.Call (.Name "isinstance" p) [.Name x p1, .Name y p2] [] pos) (tD G W fun _ M => .ok (.dat (.bool k)) M) := by
  refine PE.imp (pe_callB (id := "isinstance") hcall hg hm (by decide +kernel) (pa_cons (pe_var hN hv hd hcd) (pa_cons hy pa_nil))) fun σ H Q ⟨F, al, M, ρ, w, s, p⟩ => ?_
  exact ⟨.ref a, s.pin _ hpin, v, u, k, rfl, hvu, hkit, fin_bl w p⟩
end
end Lad
end

noncomputable section
namespace Lad
open PySem PySem.Spec PyProof.Rows L2

/-! ### the small language -/
inductive Bop where | add | sub | mul | mod | div | pow
inductive Cop where | eq | ne | lt | le | gt | ge | isN | notN | inn | nin
inductive Ty5 where | int | bool | str | list | tuple
inductive Bi where | len
mutual
inductive IE where
  | var (i : Nat)
  | con (d : PyData)
  | glo (k : Nat)
  | tup (es : IEs)
  | lst (es : IEs)
  | bin (o : Bop) (a b : IE)
  | neg (a : IE)
  | idx (a b : IE)
  | cmp (o : Cop) (a b : IE)
  | chain (o p : Cop) (a b c : IE)
  | andv (es : IEs)
  | orv (es : IEs)
  | notv (a : IE)
  | ife (c : IT) (a b : IE)
  | call (f : Nat) (es : IEs)
  | bi (b : Bi) (es : IEs)
  | isi (t : Ty5) (a : IE)
  | isE (i y : Nat)
  | isVE (i : Nat)
inductive IEs where
  | nil
  | cons (e : IE) (es : IEs)
inductive IT where
  | tru (e : IE)
  | cmp (o : Cop) (a b : IE)
  | chain (o p : Cop) (a b c : IE)
  | and (ts : ITs)
  | or (ts : ITs)
  | not (t : IT)
inductive ITs where
  | one (t : IT)
  | cons (t : IT) (ts : ITs)
end
inductive II where
  | range (e : IE)
  | data (e : IE)
mutual
inductive IS where
  | pass
  | set (i : Nat) (e : IE)
  | setM (i : Nat) (e : IE)
  | expr (e : IE)
  | ret (e : IE)
  | cond (c : IT) (a b : ISs)
  | aug (i : Nat) (o : Bool) (e : IE)
  | for_ (i : Nat) (it : II) (b : ISs)
  | raise (c : Nat)
  | tryAs (i y : Nat) (b s : ISs)
  | try_ (y : Nat) (b s : ISs)
inductive ISs where
  | nil
  | cons (s : IS) (ss : ISs)
end
structure Fi where
  name : Str
  N : List Str
  ps : List Str
  body : ISs
structure Tab where
  fn : Nat → Option Fi
  glob : Nat → Option (Str × PyData)
  cls : Nat → Option Str
  exm : Nat → Nat → Option Bool
  isa : Nat → Nat → Option Bool

/-! ### meaning -/
structure Ev where
  T : Tab
  call : Nat → List DV → Mem → Res DV
  exc : Option Nat
@[simp] def Bop.o : Bop → O2
  | .add => oAdd
  | .sub => oSub
  | .mul => oMul
  | .mod => oMod
  | .div => oDiv
  | .pow => oPow
@[simp] def Cop.o : Cop → O2
  | .eq => oEqB false
  | .ne => oEqB true
  | .lt => oLt
  | .le => oLe
  | .gt => oGt
  | .ge => oGe
  | .isN => oIsN false
  | .notN => oIsN true
  | .inn => oInB false
  | .nin => oInB true
@[simp] def Cop.z : Cop → Int → Int → Bool
  | .lt => fun i j => bLt i j
  | .le => fun i j => bLe i j
  | _ => fun _ _ => false
@[simp] def Ty5.s : Ty5 → String
  | .int => "int"
  | .bool => "bool"
  | .str => "str"
  | .list => "list"
  | .tuple => "tuple"
@[simp] def Bi.o : Bi → List DV → Mem → Res DV
  | .len => oLen
mutual
@[simp] def denE (V : Ev) : IE → FE
  | .var i => fVar i
  | .con d => fCon d
  | .glo k => fun _ M => match V.T.glob k with
    | some (_, d) => .ok (.dat d) M
    | none => .stuck
  | .tup es => fun ρ M => (denEs V es ρ M).bind oTup
  | .lst es => fun ρ M => (denEs V es ρ M).bind oLst
  | .bin o a b => f2 o.o (denE V a) (denE V b)
  | .neg a => fun ρ M => (denE V a ρ M).bind fun r M1 => match r.settle.view M1 with
    | some (.int i) => .ok (.dat (.int (-i))) M1
    | _ => .stuck
  | .idx a b => f2 oIx (denE V a) (denE V b)
  | .cmp o a b => f2 o.o (denE V a) (denE V b)
  | .chain o p a b c => fChain o.z p.z (denE V a) (denE V b) (denE V c)
  | .andv es => denAnd V es
  | .orv es => denOr V es
  | .notv a => fNot (denE V a)
  | .ife c a b => fIf (denT V c) (denE V a) (denE V b)
  | .call f es => fun ρ M => (denEs V es ρ M).bind (V.call f)
  | .bi b es => fun ρ M => (denEs V es ρ M).bind b.o
  | .isi t a => fun ρ M => (denE V a ρ M).bind fun r M1 => oIsi t.s r.settle M1
  | .isE _ y => fun _ M => match V.exc.bind fun c => (V.T.cls c).bind fun _ => V.T.isa c y with
    | some k => .ok (.dat (.bool k)) M
    | none => .stuck
  | .isVE _ => fun _ M => match V.exc.bind fun c => V.T.cls c with
    | some _ => .ok (.dat (.bool true)) M
    | none => .stuck
@[simp] def denEs (V : Ev) : IEs → FA
  | .nil => faNil
  | .cons e es => faCons (denE V e) (denEs V es)
@[simp] def denAnd (V : Ev) : IEs → FE
  | .nil => fun _ _ => .stuck
  | .cons e .nil => denE V e
  | .cons e es => fAnd (denE V e) (denAnd V es)
@[simp] def denOr (V : Ev) : IEs → FE
  | .nil => fun _ _ => .stuck
  | .cons e .nil => denE V e
  | .cons e es => fOr (denE V e) (denOr V es)
@[simp] def denT (V : Ev) : IT → FT
  | .tru e => fun ρ M => (denE V e ρ M).bind fun r M1 => oTru r.settle M1
  | .cmp o a b => fun ρ M => (f2 o.o (denE V a) (denE V b) ρ M).bind asB
  | .chain o p a b c => fun ρ M => (fChain o.z p.z (denE V a) (denE V b) (denE V c) ρ M).bind asB
  | .and ts => denTA V ts
  | .or ts => denTO V ts
  | .not t => gNot (denT V t)
@[simp] def denTA (V : Ev) : ITs → FT
  | .one t => denT V t
  | .cons t ts => gAnd (denT V t) (denTA V ts)
@[simp] def denTO (V : Ev) : ITs → FT
  | .one t => denT V t
  | .cons t ts => gOr (denT V t) (denTO V ts)
end
@[simp] def denI (V : Ev) : II → Rho → Mem → Res (List PyData)
  | .range e => iRange (denE V e)
  | .data e => iData (denE V e)
mutual
@[simp] def denS (V : Ev) : IS → FS
  | .pass => sNil
  | .set i e => sSet i (denE V e)
  | .setM i e => sSetM i (denE V e)
  | .expr e => sExpr (denE V e)
  | .ret e => sRet (denE V e)
  | .cond c a b => sIf (denT V c) (denSs V a) (denSs V b)
  | .aug i o e => sAug i (if o = true then fun a b => a + b else fun a b => a - b) (denE V e)
  | .for_ i it b => sFor (denI V it) (gSlot i) (denSs V b)
  | .raise c => sRaise c
  | .tryAs i y b s => sTryAs i (denSs V b) (fun c => V.T.exm c y) (fun c => denSs { V with exc := some c } s)
  | .try_ y b s => sTry (denSs V b) (fun c => V.T.exm c y) (fun c => denSs { V with exc := some c } s)
@[simp] def denSs (V : Ev) : ISs → FS
  | .nil => sNil
  | .cons s ss => sSeq (denS V s) (denSs V ss)
end
/-- what goes with a frame -/
def closedV (n : Nat) : DV → Bool
  | .hdl h => decide (h < n)
  | _ => true
def closedM (n : Nat) : MO → Bool
  | .ins _ fs => fs.all fun p => closedV n p.2
  | _ => true
def gc (n : Nat) (r : DV) (M : Mem) : Res DV :=
  if (M.take n).all (closedM n) = true then
    if closedV n r = true then .ok r (M.take n)
    else match r with
      | .hdl h => match M[h]? with
        | some (.lst ds) => .ok (.frs ds) (M.take n)
        | _ => .ok r M
      | _ => .ok r M
  else .ok r M
def gcE (n : Nat) (c : Nat) (M : Mem) : Res DV := if (M.take n).all (closedM n) = true then .err c (M.take n) else .err c M
def leave (n : Nat) : RS → Res DV
  | .nx _ M => gc n (.dat .none) M
  | .ret r M => gc n r M
  | .err c _ M => gcE n c M
  | _ => .stuck
@[simp] def start0 (N : List Str) (rs : List DV) : Rho := rs.map some ++ List.replicate (N.length - rs.length) none
def sem (T : Tab) : Nat → Nat → List DV → Mem → Res DV
  | 0, _, _, _ => .stuck
  | k + 1, f, rs, M => match T.fn f with
    | some fi => if rs.length = fi.ps.length then leave M.length (denSs ⟨T, sem T k, none⟩ fi.body (start0 fi.N rs) M) else .stuck
    | none => .stuck

/-! ### a text and its meaning -/
structure Mx where
  T : Tab
  N : List Str
  sc : Scope
  calm : Bool
  px : Option Nat
def Mx.gl (m : Mx) (x : Str) : Bool := m.sc.names.lookup x == some .globalImplicit
def Mx.vis (m : Mx) (x : Str) : Bool := match m.sc.names.lookup x with
  | some .local => true
  | some .cell => true
  | some .free => true
  | _ => false
def Mx.loc (m : Mx) (x : Str) : Bool := match m.sc.names.lookup x with
  | some .local => true
  | some .cell => true
  | _ => false
def okName (x : Str) : Bool := !(x == ("__debug__" : Str)) && (!(x == ("__classdict__" : Str)) && !(x == ("__name__" : Str)))
def Mx.slot (m : Mx) (i : Nat) (x : Str) : Bool := (m.N[i]? == some x) && (m.vis x && okName x)
def noStar : Expr → Bool
  | .Starred _ _ => false
  | _ => true
def plainTest : Expr → Bool
  | .Name _ _ => true
  | .Call _ _ _ _ => true
  | .Subscript _ _ _ => true
  | .ListComp _ _ _ _ => true
  | .Attribute _ _ _ => true
  | _ => false
def plainIx : Expr → Bool
  | .Name _ _ => true
  | .Call _ _ _ _ => true
  | .Subscript _ _ _ => true
  | .BinOp _ _ _ _ => true
  | .Constant (.int _) _ _ => true
  | .UnaryOp _ _ _ => true
  | .Attribute _ _ _ => true
  | _ => false
def noSet : Expr → Bool
  | .Set _ _ _ => false
  | _ => true
def noComp : Expr → Bool
  | .ListComp _ _ _ _ => false
  | .SetComp _ _ _ _ => false
  | .DictComp _ _ _ _ _ => false
  | _ => true
def Bop.m : Bop → Operator → Bool
  | .add, .Add => true
  | .sub, .Sub => true
  | .mul, .Mult => true
  | .mod, .Mod => true
  | .div, .FloorDiv => true
  | .pow, .Pow => true
  | _, _ => false
def Cop.m : Cop → CmpOp → Bool
  | .eq, .Eq => true
  | .ne, .NotEq => true
  | .lt, .Lt => true
  | .le, .LtE => true
  | .gt, .Gt => true
  | .ge, .GtE => true
  | .isN, .Is => true
  | .notN, .IsNot => true
  | .inn, .In => true
  | .nin, .NotIn => true
  | _, _ => false
def Cop.lin : Cop → Bool
  | .lt => true
  | .le => true
  | _ => false
def mCon : PyData → Expr → Bool
  | .int i, .Constant (.int j) _ _ => i == j
  | .bool i, .Constant (.bool j) _ _ => i == j
  | .str i, .Constant (.str j) _ _ => i == j && PyData.strOk i
  | .none, .Constant .none _ _ => true
  | _, _ => false
def Bi.nm : Bi → Str
  | .len => "len"
mutual
def mE (m : Mx) : IE → Expr → Bool
  | .var i, e => match e with
    | .Name x _ => m.slot i x
    | _ => false
  | .con d, e => mCon d e
  | .glo k, e => match e, m.T.glob k with
    | .Name x _, some (y, _) => x == y && (m.gl x && okName x)
    | _, _ => false
  | .tup es, e => match e with
    | .Tuple xs _ _ => mEs m es xs
    | _ => false
  | .lst es, e => match e with
    | .List xs _ => mEs m es xs
    | _ => false
  | .bin o a b, e => match e with
    | .BinOp x op y _ => o.m op && (mE m a x && mE m b y)
    | _ => false
  | .neg a, e => match e with
    | .UnaryOp .USub x _ => mE m a x
    | _ => false
  | .idx a b, e => match e with
    | .Subscript x y _ => plainIx y && (mE m a x && mE m b y)
    | _ => false
  | .cmp o a b, e => match e with
    | .Compare x [op] [y] _ => o.m op && (noSet y && (mE m a x && mE m b y))
    | _ => false
  | .chain o p a b c, e => match e with
    | .Compare x [op, op2] [y, z] _ => (o.lin && p.lin) && ((o.m op && p.m op2) && ((noSet y && noSet z) && (mE m a x && (mE m b y && mE m c z))))
    | _ => false
  | .andv es, e => match e with
    | .BoolOp .And xs _ => mEs m es xs
    | _ => false
  | .orv es, e => match e with
    | .BoolOp .Or xs _ => mEs m es xs
    | _ => false
  | .notv a, e => match e with
    | .UnaryOp .Not x _ => mE m a x
    | _ => false
  | .ife c a b, e => match e with
    | .IfExp z x y _ => mT m c z && (mE m a x && mE m b y)
    | _ => false
  | .call f es, e => match e, m.T.fn f with
    | .Call (.Name x _) (y :: ys) [] _, some fi => m.calm && (x == fi.name && (m.gl x && (okName x && mEs m es (y :: ys))))
    | _, _ => false
  | .bi b es, e => match e with
    | .Call (.Name x _) (y :: ys) [] _ => x == b.nm && (m.gl x && mEs m es (y :: ys))
    | _ => false
  | .isi t a, e => match e with
    | .Call (.Name x _) [y, .Name z _] [] _ => x == "isinstance" && (m.gl x && (z == Str.ofString t.s && (m.gl z && (noStar y && mE m a y))))
    | _ => false
  | .isE i y, e => match e, m.T.cls y with
    | .Call (.Name x _) [.Name z _, .Name c _] [] _, some cn => x == "isinstance" && (m.gl x && (m.slot i z && (m.px == some i && (c == cn && (m.gl c && okName c)))))
    | _, _ => false
  | .isVE i, e => match e with
    | .Call (.Name x _) [.Name z _, .Name c _] [] _ => x == "isinstance" && (m.gl x && (m.slot i z && (m.px == some i && (c == "ValueError" && m.gl c))))
    | _ => false
def mEs (m : Mx) : IEs → List Expr → Bool
  | .nil, es => es.isEmpty
  | .cons e es, xs => match xs with
    | y :: ys => noStar y && (mE m e y && mEs m es ys)
    | [] => false
def mT (m : Mx) : IT → Expr → Bool
  | .tru a, e => plainTest e && mE m a e
  | .cmp o a b, e => match e with
    | .Compare x [op] [y] _ => o.m op && (noSet y && (mE m a x && mE m b y))
    | _ => false
  | .chain o p a b c, e => match e with
    | .Compare x [op, op2] [y, z] _ => (o.lin && p.lin) && ((o.m op && p.m op2) && ((noSet y && noSet z) && (mE m a x && (mE m b y && mE m c z))))
    | _ => false
  | .and ts, e => match e with
    | .BoolOp .And xs _ => mTs m ts xs
    | _ => false
  | .or ts, e => match e with
    | .BoolOp .Or xs _ => mTs m ts xs
    | _ => false
  | .not t, e => match e with
    | .UnaryOp .Not x _ => mT m t x
    | _ => false
def mTs (m : Mx) : ITs → List Expr → Bool
  | .one t, xs => match xs with
    | [y] => mT m t y
    | _ => false
  | .cons t ts, xs => match xs with
    | y :: z :: ys => mT m t y && mTs m ts (z :: ys)
    | _ => false
end
def mI (m : Mx) : II → Expr → Bool
  | .range a, e => match e with
    | .Call (.Name x _) [y] [] _ => x == "range" && (m.gl x && (noStar y && mE m a y))
    | _ => false
  | .data a, e => noSet e && mE m a e
def Mx.stores (m : Mx) (i : Nat) (x : Str) : Bool := (m.N[i]? == some x) && (m.loc x && !(m.px == some i))
mutual
def mS (m : Mx) : IS → Stmt → Bool
  | .pass, s => match s with
    | .Pass _ => true
    | _ => false
  | .set i a, s => match s with
    | .Assign [.Name x _] e _ => m.stores i x && (noComp e && mE m a e)
    | _ => false
  | .setM i a, s => match s with
    | .Assign [.Name x _] e _ => m.stores i x && (noComp e && mE m a e)
    | _ => false
  | .expr a, s => match s with
    | .Expr e _ => noComp e && mE m a e
    | _ => false
  | .ret a, s => match s with
    | .Return (some e) _ => mE m a e
    | _ => false
  | .cond c a b, s => match s with
    | .If e x y _ => mT m c e && (mSs m a x && mSs m b y)
    | _ => false
  | .aug i o a, s => match s with
    | .AugAssign (.Name x _) op e _ => m.stores i x && ((match o, op with | true, .Add => true | false, .Sub => true | _, _ => false) && mE m a e)
    | _ => false
  | .for_ i it b, s => match s with
    | .For (.Name x _) e ys [] _ => m.calm && (m.stores i x && (mI m it e && mSs m b ys))
    | _ => false
  | .raise c, s => match s, m.T.cls c with
    | .Raise (some (.Call (.Name x _) [.Constant (.str _) _ _] [] _)) none _, some cn => m.calm && (x == cn && (m.gl x && okName x))
    | _, _ => false
  | .tryAs i y b s', s => match s, m.T.cls y with
    | .Try body [.ExceptHandler (some (.Name x _)) (some n) (b0 :: suite) _] [] [] _, some cn => (m.calm && m.px.isNone) && ((m.N[i]? == some n && m.sc.names.lookup n == some .local) && ((x == cn && (m.gl x && okName x)) && (mSs m b body && mSs { m with calm := false, px := some i } s' (b0 :: suite))))
    | _, _ => false
  | .try_ y b s', s => match s, m.T.cls y with
    | .Try body [.ExceptHandler (some (.Name x _)) none (b0 :: suite) _] [] [] _, some cn => (m.calm && m.px.isNone) && ((x == cn && (m.gl x && okName x)) && (mSs m b body && mSs { m with calm := false } s' (b0 :: suite)))
    | _, _ => false
def mSs (m : Mx) : ISs → List Stmt → Bool
  | .nil, ss => ss.isEmpty
  | .cons s ss, xs => match xs with
    | y :: ys => mS m s y && mSs m ss ys
    | [] => false
end
end Lad
end

noncomputable section
namespace Lad
open PySem PySem.Spec PyProof.Rows L2

/-- what the head tells of an own class of errors -/
structure ErrC (K : PySem.W.Frag) (C : Addr) : Prop where
  ex : PySem.W.excIn K C He.veBase "ValueError.__new__" = true
  kp : PySem.W.keepIn K (.ref C) = true
  sb : PySem.W.subIn K (.ref C) (.type "BaseException") = some true
  ty : PySem.W.typeIn K (.ref C) = some (.type "type")
  cc : ExcC K C
  ve : PySem.W.kitOne K (.ref C) (.type "ValueError") = some true
/-- names that must be the built-in ones -/
def bnames : List Str := ["isinstance", "int", "bool", "str", "list", "tuple", "len", "range", "ValueError"]
structure CxOk (m : Mx) (G : Gx) (V : Ev) (X : Cx) (W : WX) (k : Nat) : Prop where
  vT : V.T = m.T
  K : X.K = G.K
  N : X.N = m.N
  nd : X.N.Nodup
  sc : X.env.scope = m.sc
  fn : ∀ x, X.fn x = true
  hu : X.A.units + 64 < cLine
  room : m.calm = true → Room k X.A
  calm : m.calm = true → X.calm = true
  tk : Takes X W
  po : PassesOwn (model X.prog X.w) X.A X.env X.xe
  stk : X.stack = X.env :: X.outer
  frm : X.env.frame = some X.env.locals
  bl : ∀ x ∈ bnames, X.mg x = none
  fns : ∀ f fi, m.T.fn f = some fi → ∃ a fd, X.mg fi.name = some (.ref a) ∧ PySem.W.keepIn X.K (.ref a) = true ∧ Binds X.K fd fi.ps [] ∧ FnOk X.prog X.w X.K X.mg X.base (CX X.prog X.w) k a fd fi.ps (spF G.off (V.call f))
  glob : ∀ j x d, m.T.glob j = some (x, d) → ∃ v u, X.mg x = some u ∧ RelV v u ∧ ∀ F, DatR G.K F v d
  cls : ∀ c x, m.T.cls c = some x → X.mg x = some (.ref (G.cls c)) ∧ ErrC X.K (G.cls c)
  exm : ∀ c y b, m.T.exm c y = some b → PySem.W.exmOne X.K (.ref (G.cls c)) (.ref (G.cls y)) = some b
  isa : ∀ c y b, m.T.isa c y = some b → PySem.W.kitOne X.K (.ref (G.cls c)) (.ref (G.cls y)) = some b
  pin0 : m.px = none → G.pin = []
  pin1 : ∀ i, m.px = some i → ∃ a, G.pin = [(i, .ref a)] ∧ ∀ c, V.exc = some c → (m.T.cls c).isSome = true → CallR X (.builtin "isinstance") (rIsE X.K (G.cls c) a)

section
variable {m : Mx} {G : Gx} {V : Ev} {X : Cx} {W : WX} {k : Nat}
theorem an {a b : Bool} (h : (a && b) = true) : a = true ∧ b = true := Bool.and_eq_true_iff.mp h
theorem CxOk.gl (c : CxOk m G V X W k) {x : Str} (h : m.gl x = true) : Gl X x := by
  unfold Mx.gl at h
  have h2 := eq_of_beq h
  show X.env.scope.names.lookup x = _
  rw [c.sc]
  exact h2
theorem CxOk.vis (c : CxOk m G V X W k) {x : Str} (h : m.vis x = true) : Vis X.env.scope x := by
  unfold Mx.vis at h
  unfold Vis
  rw [c.sc]
  split at h
  · exact .inl (by assumption)
  · exact .inr (.inl (by assumption))
  · exact .inr (.inr (by assumption))
  · cases h
theorem CxOk.loc (c : CxOk m G V X W k) {x : Str} (h : m.loc x = true) : L2.Loc X.env.scope x := by
  unfold Mx.loc at h
  unfold L2.Loc
  rw [c.sc]
  split at h
  · exact .inl (by assumption)
  · exact .inr (by assumption)
  · cases h
theorem okName_d {x : Str} (h : okName x = true) : (x == ("__debug__" : Str)) = false ∧ (x == ("__classdict__" : Str)) = false ∧ x ≠ "__name__" := by
  unfold okName at h
  obtain ⟨h1, h⟩ := an h
  obtain ⟨h2, h3⟩ := an h
  refine ⟨by simpa using h1, by simpa using h2, fun z => ?_⟩
  subst z
  simp at h3
theorem CxOk.slot (c : CxOk m G V X W k) {i : Nat} {x : Str} (h : m.slot i x = true) : X.N[i]? = some x ∧ Vis X.env.scope x ∧ (x == ("__debug__" : Str)) = false ∧ (x == ("__classdict__" : Str)) = false := by
  unfold Mx.slot at h
  obtain ⟨h1, h⟩ := an h
  obtain ⟨h2, h3⟩ := an h
  obtain ⟨d1, d2, _⟩ := okName_d h3
  exact ⟨by rw [c.N]; exact eq_of_beq h1, c.vis h2, d1, d2⟩
theorem star_cons {e : Expr} {es : List Expr} {env : Env} (h : noStar e = true) : starEach (e :: es) env = (false, eval e env) :: starEach es env := by
  cases e <;> first | rfl | cases h
theorem test_plain {e : Expr} {env : Env} (h : plainTest e = true) : ∀ whole, isTrue e env whole = (do let v ← whole; standAt e.pos; holding [v] (truthy v)) := by
  intro whole
  cases e <;> first | rfl | cases h
theorem ix_plain {e : Expr} (h : plainIx e = true) : PlainIx e := by
  intro o i
  cases e with
  | Constant c _ _ => cases c <;> first | rfl | cases h
  | _ => first | rfl | cases h
theorem marks {e : Expr} {op : CmpOp} (h : noSet e = true) : behindInMarks op e = false := by
  cases e <;> first | rfl | cases h
theorem folded {e : Expr} {env : Env} (h : noSet e = true) : ∀ x, foldedSetIterable e env x = pure x := by
  intro x
  cases e <;> first | rfl | cases h
theorem swaps {e : Expr} {t : Option Expr} {l : Nat} {env : Env} (h : noComp e = true) : swapsWith e t l env = pure false := by
  cases e <;> first | rfl | cases h
/-- all of an argument list is plain -/
def allPlain : List Expr → Bool
  | [] => true
  | e :: es => noStar e && allPlain es
theorem any_plain {pos : Pos} {env : Env} : ∀ {es : List Expr}, allPlain es = true → (backTo pos (starEach es env)).any (·.1) = false
  | [], _ => rfl
  | e :: es, h => by
    obtain ⟨h1, h2⟩ := an h
    rw [star_cons h1]
    show (false || (backTo pos (starEach es env)).any (·.1)) = false
    rw [any_plain h2]
    rfl
theorem mEs_plain : ∀ {es : IEs} {xs : List Expr}, mEs m es xs = true → allPlain xs = true
  | .nil, xs, h => by
    unfold mEs at h
    cases xs with
    | nil => rfl
    | cons a b => cases h
  | .cons e es, xs, h => by
    unfold mEs at h
    cases xs with
    | nil => cases h
    | cons a b =>
      obtain ⟨h1, h⟩ := an h
      obtain ⟨_, h2⟩ := an h
      show (noStar a && allPlain b) = true
      rw [h1, mEs_plain h2]
      rfl

theorem opB_ok (c : CxOk m G V X W k) {o : Bop} {op : Operator} (h : o.m op = true) : ∃ r, OpR X (binaryOp op) r ∧ Bears G r o.o := by
  cases o <;> cases op <;> first | cases h | skip
  · exact op_addAll c.K
  · exact ⟨_, op_sub, bears_int0⟩
  · exact op_mulAll c.K
  · exact ⟨_, op_mod, bears_mod⟩
  · exact ⟨_, op_fdiv, bears_div⟩
  · exact ⟨_, op_pow, bears_pow⟩
theorem opC_ok (c : CxOk m G V X W k) {o : Cop} {op : CmpOp} (h : o.m op = true) : ∃ r, OpR X (compareOp op) r ∧ Bears G r o.o := by
  cases o <;> cases op <;> first | cases h | skip
  · exact ⟨_, op_eqM c.hu, c.K ▸ bears_eq⟩
  · exact ⟨_, op_neM c.hu, c.K ▸ bears_eq⟩
  · exact ⟨_, op_lt, bears_bl0 bLt_eq⟩
  · exact ⟨_, op_le, bears_bl0 bLe_eq⟩
  · exact ⟨_, op_gt, bears_bl0 fun i j => bLt_eq j i⟩
  · exact ⟨_, op_ge, bears_bl0 fun i j => bLe_eq j i⟩
  · exact ⟨_, op_isN, bears_isN⟩
  · exact ⟨_, op_notN, bears_notN⟩
  · exact ⟨_, op_inM c.hu, c.K ▸ bears_in⟩
  · exact ⟨_, op_ninM c.hu, c.K ▸ bears_in⟩
theorem opL_ok {o : Cop} {op : CmpOp} (h : o.m op = true) (l : o.lin = true) : OpR X (compareOp op) (rI0 fun i j => .bl (o.z i j)) := by
  cases o with
  | lt => cases op <;> first | (simp only [Cop.z, bLt_eq]; exact op_lt) | cases h
  | le => cases op <;> first | (simp only [Cop.z, bLe_eq]; exact op_le) | cases h
  | _ => cases l
theorem ty_all (t : Ty5) : KitAll t.s := by
  cases t
  · exact kit_int
  · exact kit_bool
  · exact kit_str
  · exact kit_list
  · exact kit_tuple
theorem ty_boot (t : Ty5) : bootBuiltins (Str.ofString t.s) = some (.type t.s) ∧ Str.ofString t.s ≠ "__name__" ∧ (Str.ofString t.s == ("__debug__" : Str)) = false ∧ Str.ofString t.s ∈ bnames := by
  cases t <;> exact ⟨by decide +kernel, by decide +kernel, by decide +kernel, by decide +kernel⟩
theorem bi_ok (c : CxOk m G V X W k) (b : Bi) : ∃ (id : String) (r : List L2.V → Hp → VK → Prop), CallR X (.builtin id) r ∧ BearsC G r b.o ∧ bootBuiltins b.nm = some (.builtin id) ∧ b.nm ∈ bnames ∧ b.nm ≠ "__name__" ∧ (b.nm == ("__debug__" : Str)) = false := by
  cases b
  · exact ⟨"len", _, call_len, c.K ▸ bears_len, by decide +kernel, by decide +kernel, by decide +kernel, by decide +kernel⟩

theorem soCon {d : PyData} {e : Expr} (h : mCon d e = true) : PE X e (tD G W (fCon d)) := by
  unfold mCon at h
  split at h
  · obtain rfl := eq_of_beq h
    exact de_int
  · obtain rfl := eq_of_beq h
    exact de_bl
  · obtain ⟨h1, h2⟩ := an h
    obtain rfl := eq_of_beq h1
    exact de_str h2
  · exact de_non
  · cases h
end
theorem chain_marks {op op2 : CmpOp} {y z : Expr} (h : noSet z = true) : lastMarks [op, op2] [y, z] = false := by
  show behindInMarks op2 z = false
  exact marks h
theorem spF_off {G : Gx} {ps : List (Nat × V)} {sf : List DV → Mem → Res DV} : spF { G with pin := ps } sf = spF G.off sf ∨ True := .inr trivial
theorem spF_of {G : Gx} {sf : List DV → Mem → Res DV} {vs : List V} {H : Hp} {Q : VK} {E : XK} (h : spF G sf vs H Q E) : spF G.off sf vs H Q E := by
  obtain ⟨F, al, M, rs, w, x, p⟩ := h
  refine ⟨F, al, M, rs, w.re, Paired.mapP x fun _ _ q => q.re, ?_⟩
  cases hs : sf rs M with
  | ok r M1 =>
    rw [hs] at p
    exact fun v F1 al1 H1 e1 w1 q1 => p v F1 al1 H1 e1 w1.er q1.er
  | err c M1 =>
    rw [hs] at p
    exact fun F1 al1 H1 e1 w1 => p F1 al1 H1 e1 w1.er
  | stuck =>
    rw [hs] at p
    exact p
section
variable {m : Mx} {G : Gx} {V : Ev} {X : Cx} {W : WX} {k : Nat}
mutual
theorem soE (c : CxOk m G V X W k) : ∀ (a : IE) (e : Expr), mE m a e = true → PE X e (tD G W (denE V a))
  | .var i, e, h => by
    unfold mE at h
    split at h
    · obtain ⟨h1, h2, h3, h4⟩ := c.slot h
      unfold denE
      exact de_var h1 h2 h3 h4
    · cases h
  | .con d, e, h => by
    unfold mE at h
    unfold denE
    exact soCon h
  | .glo j, e, h => by
    unfold mE at h
    split at h
    · rename_i x _ y d hg
      obtain ⟨h1, h⟩ := an h
      obtain ⟨h2, h3⟩ := an h
      obtain rfl := eq_of_beq h1
      obtain ⟨v, u, g1, g2, g3⟩ := c.glob j x d hg
      have e1 : denE V (.glo j) = fCon d := by
        funext ρ M
        unfold denE
        rw [c.vT, hg]
        rfl
      rw [e1]
      exact de_glob (c.gl h2) g1 g2 (okName_d h3).1 g3
    · cases h
  | .tup es, e, h => by
    unfold mE at h
    split at h
    · unfold denE
      exact de_tup (soEs c es _ h)
    · cases h
  | .lst es, e, h => by
    unfold mE at h
    split at h
    · unfold denE
      exact de_lst (soEs c es _ h)
    · cases h
  | .bin o a b, e, h => by
    unfold mE at h
    split at h
    · obtain ⟨h1, h⟩ := an h
      obtain ⟨h2, h3⟩ := an h
      obtain ⟨r, q1, q2⟩ := opB_ok c h1
      unfold denE
      exact de_bin q1 q2 (soE c a _ h2) (soE c b _ h3)
    · cases h
  | .neg a, e, h => by
    unfold mE at h
    split at h
    · unfold denE
      exact de_neg (soE c a _ h)
    · cases h
  | .idx a b, e, h => by
    unfold mE at h
    split at h
    · obtain ⟨h1, h⟩ := an h
      obtain ⟨h2, h3⟩ := an h
      unfold denE
      exact de_ix (ix_all c.K) bears_ix (soE c a _ h2) (soE c b _ h3) (ix_plain h1)
    · cases h
  | .cmp o a b, e, h => by
    unfold mE at h
    split at h
    · obtain ⟨h1, h⟩ := an h
      obtain ⟨h2, h⟩ := an h
      obtain ⟨h3, h4⟩ := an h
      obtain ⟨r, q1, q2⟩ := opC_ok c h1
      unfold denE
      exact de_cmp q1 q2 (soE c a _ h3) (soE c b _ h4) (marks h2)
    · cases h
  | .chain o p a b d, e, h => by
    unfold mE at h
    split at h
    · obtain ⟨h1, h⟩ := an h
      obtain ⟨l1, l2⟩ := an h1
      obtain ⟨h2, h⟩ := an h
      obtain ⟨k1, k2⟩ := an h2
      obtain ⟨h3, h⟩ := an h
      obtain ⟨_, z⟩ := an h3
      obtain ⟨h4, h⟩ := an h
      obtain ⟨h5, h6⟩ := an h
      unfold denE
      exact PE.imp (pe_chain (opL_ok k1 l1) (opL_ok k2 l2) (soE c a _ h4) (soE c b _ h5) (soE c d _ h6) (chain_marks z)) read_chain
    · cases h
  | .andv es, e, h => by
    unfold mE at h
    split at h
    · unfold denE
      exact soAnd c es _ _ h
    · cases h
  | .orv es, e, h => by
    unfold mE at h
    split at h
    · unfold denE
      exact soOr c es _ _ h
    · cases h
  | .notv a, e, h => by
    unfold mE at h
    split at h
    · unfold denE
      exact de_not c.K (soE c a _ h)
    · cases h
  | .ife t a b, e, h => by
    unfold mE at h
    split at h
    · obtain ⟨h1, h⟩ := an h
      obtain ⟨h2, h3⟩ := an h
      unfold denE
      exact de_if (soT c t _ h1) (soE c a _ h2) (soE c b _ h3)
    · cases h
  | .call f es, e, h => by
    unfold mE at h
    split at h
    · rename_i x _ y ys _ fi hf
      obtain ⟨h1, h⟩ := an h
      obtain ⟨h2, h⟩ := an h
      obtain ⟨h3, h⟩ := an h
      obtain ⟨h4, h5⟩ := an h
      obtain rfl := eq_of_beq h2
      obtain ⟨a, fd, g1, g2, g3, g4⟩ := c.fns f fi hf
      have pl := mEs_plain h5
      obtain ⟨p1, p2⟩ := an (show (noStar y && allPlain ys) = true from pl)
      unfold denE
      exact de_call (g4.imp fun _ _ _ _ q => spF_of q) (c.room h1) (c.gl h3) g1 g2 g3 c.tk (soEs c es _ h5) (okName_d h4).1 (star_cons p1) (any_plain p2)
    · cases h
  | .bi b es, e, h => by
    unfold mE at h
    split at h
    · rename_i x _ y ys _
      obtain ⟨h1, h⟩ := an h
      obtain ⟨h2, h3⟩ := an h
      obtain rfl := eq_of_beq h1
      obtain ⟨id, r, q1, q2, q3, q4, q5, q6⟩ := bi_ok c b
      have pl := mEs_plain h3
      obtain ⟨p1, p2⟩ := an (show (noStar y && allPlain ys) = true from pl)
      unfold denE
      exact PE.imp (pe_callB q1 (c.gl h2) (c.bl _ q4) q3 (soEs c es _ h3) q5 q6 (star_cons p1) (any_plain p2)) (read_callB q2)
    · cases h
  | .isi t a, e, h => by
    unfold mE at h
    split at h
    · obtain ⟨h1, h⟩ := an h
      obtain ⟨h2, h⟩ := an h
      obtain ⟨h3, h⟩ := an h
      obtain ⟨h4, h⟩ := an h
      obtain ⟨h5, h6⟩ := an h
      obtain rfl := eq_of_beq h1
      obtain rfl := eq_of_beq h3
      obtain ⟨t1, t2, t3, t4⟩ := ty_boot t
      unfold denE
      exact de_isi c.K (ty_all t) (c.gl h2) (c.bl _ (by decide +kernel)) (c.gl h4) (c.bl _ t4) t1 t2 t3 (soE c a _ h6) (star_cons h5)
    · cases h
  | .isE i y, e, h => by
    unfold mE at h
    split at h
    · rename_i x _ z _ w _ _ cn hc
      obtain ⟨h1, h⟩ := an h
      obtain ⟨h2, h⟩ := an h
      obtain ⟨h3, h⟩ := an h
      obtain ⟨h4, h⟩ := an h
      obtain ⟨h5, h⟩ := an h
      obtain ⟨h6, h7⟩ := an h
      obtain rfl := eq_of_beq h1
      obtain rfl := eq_of_beq h5
      obtain ⟨s1, s2, s3, s4⟩ := c.slot h3
      obtain ⟨a, g1, g2⟩ := c.pin1 i (eq_of_beq h4)
      obtain ⟨k1, k2⟩ := c.cls y _ hc
      unfold denE
      cases hx : V.exc with
      | none => exact ⟨fun pins st σ H Q I q => by
          obtain ⟨F, al, M, ρ, w, s, p⟩ := q
          exact p.elim⟩
      | some cc =>
        cases hcc : m.T.cls cc with
        | none =>
          refine ⟨fun pins st σ H Q I q => ?_⟩
          obtain ⟨F, al, M, ρ, w, s, p⟩ := q
          simp only [Option.bind_some, c.vT, hcc, Option.bind_none] at p
          exact p.elim
        | some cx =>
          cases hi : m.T.isa cc y with
          | none =>
            refine ⟨fun pins st σ H Q I q => ?_⟩
            obtain ⟨F, al, M, ρ, w, s, p⟩ := q
            simp only [Option.bind_some, c.vT, hcc, hi] at p
            exact p.elim
          | some kk =>
            simp only [Option.bind_some, c.vT, hcc, hi]
            exact de_isE (a := a) (c := cc) (u := .ref (G.cls y)) (v := .ref (G.cls y)) s1 s2 s3 s4 (by rw [g1]; exact List.mem_cons_self) c.K (c.gl h2) (c.bl _ (by decide +kernel)) (pe_glob (c.gl h6) k1 rfl (okName_d h7).1) (fun z hz => hz) (c.isa cc y kk hi) (g2 cc hx (by rw [hcc]; rfl))
    · cases h
  | .isVE i, e, h => by
    unfold mE at h
    split at h
    · obtain ⟨h1, h⟩ := an h
      obtain ⟨h2, h⟩ := an h
      obtain ⟨h3, h⟩ := an h
      obtain ⟨h4, h⟩ := an h
      obtain ⟨h5, h6⟩ := an h
      obtain rfl := eq_of_beq h1
      obtain rfl := eq_of_beq h5
      obtain ⟨s1, s2, s3, s4⟩ := c.slot h3
      obtain ⟨a, g1, g2⟩ := c.pin1 i (eq_of_beq h4)
      unfold denE
      cases hx : V.exc with
      | none => exact ⟨fun pins st σ H Q I q => by
          obtain ⟨F, al, M, ρ, w, s, p⟩ := q
          exact p.elim⟩
      | some cc =>
        cases hcc : m.T.cls cc with
        | none =>
          refine ⟨fun pins st σ H Q I q => ?_⟩
          obtain ⟨F, al, M, ρ, w, s, p⟩ := q
          simp only [Option.bind_some, c.vT, hcc] at p
          exact p.elim
        | some cx =>
          simp only [Option.bind_some, c.vT, hcc]
          obtain ⟨k1, k2⟩ := c.cls cc _ hcc
          exact de_isE (a := a) (c := cc) (u := .type "ValueError") (v := .ty "ValueError") s1 s2 s3 s4 (by rw [g1]; exact List.mem_cons_self) c.K (c.gl h2) (c.bl _ (by decide +kernel)) (pe_bltn (c.gl h6) (c.bl _ (by decide +kernel)) (by decide +kernel) rfl (by decide +kernel) (by decide +kernel)) (fun z hz => hz) k2.ve (g2 cc hx (by rw [hcc]; rfl))
    · cases h
theorem soEs (c : CxOk m G V X W k) : ∀ (es : IEs) (xs : List Expr), mEs m es xs = true → PA X xs (tDA G W (denEs V es))
  | .nil, xs, h => by
    unfold mEs at h
    cases xs with
    | nil =>
      unfold denEs
      exact da_nil
    | cons a b => cases h
  | .cons e es, xs, h => by
    unfold mEs at h
    cases xs with
    | nil => cases h
    | cons a b =>
      obtain ⟨h1, h⟩ := an h
      obtain ⟨h2, h3⟩ := an h
      unfold denEs
      exact da_cons (soE c e a h2) (soEs c es b h3) (star_cons h1)
theorem soAnd (c : CxOk m G V X W k) : ∀ (es : IEs) (xs : List Expr) (pos : Pos), mEs m es xs = true → PE X (.BoolOp .And xs pos) (tD G W (denAnd V es))
  | .nil, xs, pos, h => by
    unfold denAnd
    exact ⟨fun pins st σ H Q I q => by
      obtain ⟨F, al, M, ρ, w, s, p⟩ := q
      exact p.elim⟩
  | .cons e .nil, xs, pos, h => by
    unfold mEs at h
    cases xs with
    | nil => cases h
    | cons a b =>
      obtain ⟨h1, h⟩ := an h
      obtain ⟨h2, h3⟩ := an h
      unfold mEs at h3
      cases b with
      | nil =>
        unfold denAnd
        exact pe_one (soE c e a h2)
      | cons _ _ => cases h3
  | .cons e (.cons e2 es), xs, pos, h => by
    unfold mEs at h
    cases xs with
    | nil => cases h
    | cons a b =>
      obtain ⟨h1, h⟩ := an h
      obtain ⟨h2, h3⟩ := an h
      cases b with
      | nil =>
        unfold mEs at h3
        cases h3
      | cons a2 b2 =>
        unfold denAnd
        exact de_and c.K (soE c e a h2) (soAnd c (.cons e2 es) (a2 :: b2) pos h3)
theorem soOr (c : CxOk m G V X W k) : ∀ (es : IEs) (xs : List Expr) (pos : Pos), mEs m es xs = true → PE X (.BoolOp .Or xs pos) (tD G W (denOr V es))
  | .nil, xs, pos, h => by
    unfold denOr
    exact ⟨fun pins st σ H Q I q => by
      obtain ⟨F, al, M, ρ, w, s, p⟩ := q
      exact p.elim⟩
  | .cons e .nil, xs, pos, h => by
    unfold mEs at h
    cases xs with
    | nil => cases h
    | cons a b =>
      obtain ⟨h1, h⟩ := an h
      obtain ⟨h2, h3⟩ := an h
      unfold mEs at h3
      cases b with
      | nil =>
        unfold denOr
        exact pe_one (soE c e a h2)
      | cons _ _ => cases h3
  | .cons e (.cons e2 es), xs, pos, h => by
    unfold mEs at h
    cases xs with
    | nil => cases h
    | cons a b =>
      obtain ⟨h1, h⟩ := an h
      obtain ⟨h2, h3⟩ := an h
      cases b with
      | nil =>
        unfold mEs at h3
        cases h3
      | cons a2 b2 =>
        unfold denOr
        exact de_or c.K (soE c e a h2) (soOr c (.cons e2 es) (a2 :: b2) pos h3)
theorem soT (c : CxOk m G V X W k) : ∀ (t : IT) (e : Expr), mT m t e = true → PT X e (tDT G W (denT V t))
  | .tru a, e, h => by
    unfold mT at h
    obtain ⟨h1, h2⟩ := an h
    unfold denT
    exact dt_truth c.K (soE c a e h2) (test_plain h1)
  | .cmp o a b, e, h => by
    unfold mT at h
    split at h
    · obtain ⟨h1, h⟩ := an h
      obtain ⟨h2, h⟩ := an h
      obtain ⟨h3, h4⟩ := an h
      obtain ⟨r, q1, q2⟩ := opC_ok c h1
      unfold denT
      exact dt_cmp q1 q2 (soE c a _ h3) (soE c b _ h4) (marks h2)
    · cases h
  | .chain o p a b d, e, h => by
    unfold mT at h
    split at h
    · obtain ⟨h1, h⟩ := an h
      obtain ⟨l1, l2⟩ := an h1
      obtain ⟨h2, h⟩ := an h
      obtain ⟨k1, k2⟩ := an h2
      obtain ⟨h3, h⟩ := an h
      obtain ⟨_, z⟩ := an h3
      obtain ⟨h4, h⟩ := an h
      obtain ⟨h5, h6⟩ := an h
      unfold denT
      exact dt_of (pt_chain (opL_ok k1 l1) (opL_ok k2 l2) (soE c a _ h4) (soE c b _ h5) (soE c d _ h6) (chain_marks z)) read_chain
    · cases h
  | .and ts, e, h => by
    unfold mT at h
    split at h
    · unfold denT
      exact PW.pt (soTA c ts _ _ h)
    · cases h
  | .or ts, e, h => by
    unfold mT at h
    split at h
    · unfold denT
      exact PW.pt (soTO c ts _ _ h)
    · cases h
  | .not t, e, h => by
    unfold mT at h
    split at h
    · unfold denT
      exact dt_not (soT c t _ h)
    · cases h
theorem soTA (c : CxOk m G V X W k) : ∀ (ts : ITs) (xs : List Expr) (pos : Pos), mTs m ts xs = true → PW X (.BoolOp .And xs pos) (tDT G W (denTA V ts))
  | .one t, xs, pos, h => by
    unfold mTs at h
    split at h
    · unfold denTA
      exact pw_and1 (soT c t _ h)
    · cases h
  | .cons t ts, xs, pos, h => by
    unfold mTs at h
    split at h
    · obtain ⟨h1, h2⟩ := an h
      unfold denTA
      exact dw_and (soT c t _ h1) (soTA c ts _ pos h2)
    · cases h
theorem soTO (c : CxOk m G V X W k) : ∀ (ts : ITs) (xs : List Expr) (pos : Pos), mTs m ts xs = true → PW X (.BoolOp .Or xs pos) (tDT G W (denTO V ts))
  | .one t, xs, pos, h => by
    unfold mTs at h
    split at h
    · unfold denTO
      exact pw_or1 (soT c t _ h)
    · cases h
  | .cons t ts, xs, pos, h => by
    unfold mTs at h
    split at h
    · obtain ⟨h1, h2⟩ := an h
      unfold denTO
      exact dw_or (soT c t _ h1) (soTO c ts _ pos h2)
    · cases h
end
end
end Lad
end

noncomputable section
namespace Lad
open PySem PySem.Spec PyProof.Rows L2

section
variable {m : Mx} {G : Gx} {V : Ev} {X : Cx} {W : WX} {k : Nat}
theorem CxOk.stores (c : CxOk m G V X W k) {i : Nat} {x : Str} (h : m.stores i x = true) : X.N[i]? = some x ∧ L2.Loc X.env.scope x ∧ ∀ p ∈ G.pin, p.1 ≠ i := by
  unfold Mx.stores at h
  obtain ⟨h1, h⟩ := an h
  obtain ⟨h2, h3⟩ := an h
  refine ⟨by rw [c.N]; exact eq_of_beq h1, c.loc h2, fun p hp => ?_⟩
  cases hx : m.px with
  | none =>
    rw [c.pin0 hx] at hp
    cases hp
  | some j =>
    obtain ⟨a, e, _⟩ := c.pin1 j hx
    rw [e] at hp
    obtain rfl : p = (j, .ref a) := by simpa using hp
    rw [hx] at h3
    intro z
    have z' : j = i := z
    subst z'
    simp at h3
theorem CxOk.toTry (c : CxOk m G V X W k) {W' : WX} {pn : List (Addr × Obj)} {xe : Value → Shared → Prop} (tk : Takes (X.tr pn xe) W') (po : PassesOwn (model X.prog X.w) X.A X.env xe) (h0 : m.px = none) : CxOk m G V (X.tr pn xe) W' k where
  vT := c.vT
  K := c.K
  N := c.N
  nd := c.nd
  sc := c.sc
  fn := c.fn
  hu := c.hu
  room := c.room
  calm := c.calm
  tk := tk
  po := po
  stk := c.stk
  frm := c.frm
  bl := c.bl
  fns := c.fns
  glob := c.glob
  cls := c.cls
  exm := c.exm
  isa := c.isa
  pin0 := c.pin0
  pin1 := fun i e => by rw [h0] at e; cases e
theorem takesF {X : Cx} : Takes X WF := fun u s' ⟨a, B, sI, pins, σ, H, cls, d, e, I, nb, up, sky, na, os, ag, w⟩ => w.elim
theorem CxOk.toSuiteAs (c : CxOk m G V X W k) (i : Nat) (a : Addr) (oe : Obj) (cc : Nat) (pn : List (Addr × Obj)) (hz : Zc (.ref (G.cls cc)) none oe) (hf : ∃ vs, oe.data = .fields vs) :
    CxOk { m with calm := false, px := some i } (G.at i a) { V with exc := some cc } (X.suite a ((a, oe) :: pn)) WF k where
  vT := c.vT
  K := c.K
  N := c.N
  nd := c.nd
  sc := c.sc
  fn := c.fn
  hu := c.hu
  room := fun z => by cases z
  calm := fun z => by cases z
  tk := takesF
  po := PassesOwn.never
  stk := c.stk
  frm := c.frm
  bl := c.bl
  fns := c.fns
  glob := c.glob
  cls := c.cls
  exm := c.exm
  isa := c.isa
  pin0 := fun z => by cases z
  pin1 := fun j e => by
    cases e
    refine ⟨a, rfl, fun c2 e2 h2 => ?_⟩
    have e2 : cc = c2 := Option.some.inj e2
    subst e2
    obtain ⟨x, hx⟩ := Option.isSome_iff_exists.mp h2
    obtain ⟨_, q⟩ := c.cls cc x hx
    exact call_isE (X := X) q.cc hz hf
theorem CxOk.toSuite (c : CxOk m G V X W k) (a : Addr) (oe : Obj) (cc : Nat) (pn : List (Addr × Obj)) (h0 : m.px = none) :
    CxOk { m with calm := false } G { V with exc := some cc } (X.suite a ((a, oe) :: pn)) WF k where
  vT := c.vT
  K := c.K
  N := c.N
  nd := c.nd
  sc := c.sc
  fn := c.fn
  hu := c.hu
  room := fun z => by cases z
  calm := fun z => by cases z
  tk := takesF
  po := PassesOwn.never
  stk := c.stk
  frm := c.frm
  bl := c.bl
  fns := c.fns
  glob := c.glob
  cls := c.cls
  exm := c.exm
  isa := c.isa
  pin0 := c.pin0
  pin1 := fun j e => by
    have e' : m.px = some j := e
    rw [h0] at e'
    cases e'
theorem soI (c : CxOk m G V X W k) (it : II) {tg e : Expr} (h : mI m it e = true) : ∃ wi, PI X tg e wi ∧ BearsI G W wi (denI V it) := by
  cases it with
  | range a =>
    dsimp only [mI] at h
    split at h
    · obtain ⟨h1, h⟩ := an h
      obtain ⟨h2, h⟩ := an h
      obtain ⟨h3, h4⟩ := an h
      obtain rfl := eq_of_beq h1
      unfold denI
      exact ⟨_, pi_range1 (c.gl h2) (c.bl _ (by decide +kernel)) (da_cons (soE c a _ h4) da_nil (star_cons h3)) (by rw [star_cons h3]; rfl), bears_range⟩
    · cases h
  | data a =>
    dsimp only [mI] at h
    obtain ⟨h1, h2⟩ := an h
    unfold denI
    exact ⟨_, pi_seq (soE c a e h2), bears_data c.K⟩
theorem mI_set {it : II} {e : Expr} (h : mI m it e = true) : noSet e = true := by
  cases it with
  | range a =>
    dsimp only [mI] at h
    split at h
    · rfl
    · cases h
  | data a =>
    dsimp only [mI] at h
    exact (an h).1
end
mutual
theorem soS : ∀ (s : IS) {m : Mx} {G : Gx} {V : Ev} {X : Cx} {W : WX} {k : Nat} (_ : CxOk m G V X W k) (st : Stmt), mS m s st = true → PS X st (tS G W (denS V s))
  | .pass, m, G, V, X, W, k, c, st, h => by
    unfold mS at h
    split at h
    · unfold denS
      exact ds_pass
    · cases h
  | .set i a, m, G, V, X, W, k, c, st, h => by
    unfold mS at h
    split at h
    · obtain ⟨h1, h⟩ := an h
      obtain ⟨h2, h3⟩ := an h
      obtain ⟨s1, s2, s3⟩ := c.stores h1
      unfold denS
      exact ds_set s3 c.nd s1 s2 (soE c a _ h3) (swaps h2) (.inl (c.fn _))
    · cases h
  | .setM i a, m, G, V, X, W, k, c, st, h => by
    unfold mS at h
    split at h
    · obtain ⟨h1, h⟩ := an h
      obtain ⟨h2, h3⟩ := an h
      obtain ⟨s1, s2, s3⟩ := c.stores h1
      unfold denS
      exact ds_setM s3 c.nd s1 s2 (soE c a _ h3) (swaps h2) (.inl (c.fn _))
    · cases h
  | .expr a, m, G, V, X, W, k, c, st, h => by
    unfold mS at h
    split at h
    · obtain ⟨h1, h2⟩ := an h
      unfold denS
      exact ds_expr (soE c a _ h2) (swaps h1)
    · cases h
  | .ret a, m, G, V, X, W, k, c, st, h => by
    unfold mS at h
    split at h
    · unfold denS
      exact ds_ret (soE c a _ h)
    · cases h
  | .cond t a b, m, G, V, X, W, k, c, st, h => by
    unfold mS at h
    split at h
    · obtain ⟨h1, h⟩ := an h
      obtain ⟨h2, h3⟩ := an h
      unfold denS
      exact ds_if (soT c t _ h1) (soSs a c _ h2) (soSs b c _ h3)
    · cases h
  | .aug i o a, m, G, V, X, W, k, c, st, h => by
    unfold mS at h
    split at h
    · obtain ⟨h1, h⟩ := an h
      obtain ⟨h2, h3⟩ := an h
      obtain ⟨s1, s2, s3⟩ := c.stores h1
      unfold denS
      split at h2
      · exact ds_aug s3 c.nd s1 s2 (soE c a _ h3) ip_add (.inl (c.fn _))
      · exact ds_aug s3 c.nd s1 s2 (soE c a _ h3) ip_sub (.inl (c.fn _))
      · cases h2
    · cases h
  | .for_ i it b, m, G, V, X, W, k, c, st, h => by
    unfold mS at h
    split at h
    · obtain ⟨h1, h⟩ := an h
      obtain ⟨h2, h⟩ := an h
      obtain ⟨h3, h4⟩ := an h
      obtain ⟨s1, s2, s3⟩ := c.stores h2
      obtain ⟨wi, q1, q2⟩ := soI c it h3
      unfold denS
      exact ds_for c.po (c.calm h1) q1 q2 (pg_name c.nd s1 s2 (.inl (c.fn _))) (takes_name i s3) (soSs b c _ h4) (folded (mI_set h3))
    · cases h
  | .raise cl, m, G, V, X, W, k, c, st, h => by
    unfold mS at h
    split at h
    · rename_i x _ _ _ _ _ _ cn hc
      obtain ⟨h1, h⟩ := an h
      obtain ⟨h2, h⟩ := an h
      obtain ⟨h3, h4⟩ := an h
      obtain rfl := eq_of_beq h2
      obtain ⟨g, q⟩ := c.cls cl _ hc
      unfold denS
      exact ds_raise (c.calm h1) c.tk (pmk_own PySem.F.excBase_ValueError q.ex g q.kp (raises_own q.sb q.ty) (c.gl h3) (okName_d h4).1) fun _ _ _ z => z
    · cases h
  | .tryAs i y b s', m, G, V, X, W, k, c, st, h => by
    unfold mS at h
    split at h
    · rename_i cn hc
      obtain ⟨h1, h⟩ := an h
      obtain ⟨h1a, h1b⟩ := an h1
      obtain ⟨h2, h⟩ := an h
      obtain ⟨h2a, h2b⟩ := an h2
      obtain ⟨h3, h⟩ := an h
      obtain ⟨h3a, h3⟩ := an h3
      obtain ⟨h3b, h3c⟩ := an h3
      obtain ⟨h4, h5⟩ := an h
      obtain rfl := eq_of_beq h3a
      have hp : m.px = none := by simpa using h1b
      obtain ⟨g, q⟩ := c.cls y _ hc
      unfold denS
      refine ds_tryAs (c.pin0 hp) c.stk c.frm c.nd (by rw [c.N]; exact eq_of_beq h2a) (show X.env.scope.names.lookup _ = _ by rw [c.sc]; exact eq_of_beq h2b) ⟨c.gl h3b, (okName_d h3c).1, .inl g⟩ c.tk (fun cc kk e => c.exm cc y kk (by rw [← c.vT]; exact e)) (fun W' pn xe tk po => soSs b (c.toTry tk po hp) _ h4) fun a oe cc pn hz hf => ?_
      exact soSs s' (c.toSuiteAs i a oe cc pn hz hf) _ h5
    · cases h
  | .try_ y b s', m, G, V, X, W, k, c, st, h => by
    unfold mS at h
    split at h
    · rename_i cn hc
      obtain ⟨h1, h⟩ := an h
      obtain ⟨h1a, h1b⟩ := an h1
      obtain ⟨h3, h⟩ := an h
      obtain ⟨h3a, h3⟩ := an h3
      obtain ⟨h3b, h3c⟩ := an h3
      obtain ⟨h4, h5⟩ := an h
      obtain rfl := eq_of_beq h3a
      have hp : m.px = none := by simpa using h1b
      obtain ⟨g, q⟩ := c.cls y _ hc
      unfold denS
      refine ds_try c.stk c.frm ⟨c.gl h3b, (okName_d h3c).1, .inl g⟩ c.tk (fun cc kk e => c.exm cc y kk (by rw [← c.vT]; exact e)) (fun W' pn xe tk po => soSs b (c.toTry tk po hp) _ h4) fun a oe cc pn hz hf => ?_
      exact soSs s' (c.toSuite a oe cc pn hp) _ h5
    · cases h
theorem soSs : ∀ (ss : ISs) {m : Mx} {G : Gx} {V : Ev} {X : Cx} {W : WX} {k : Nat} (_ : CxOk m G V X W k) (xs : List Stmt), mSs m ss xs = true → PSs X xs (tS G W (denSs V ss))
  | .nil, m, G, V, X, W, k, c, xs, h => by
    unfold mSs at h
    cases xs with
    | nil =>
      unfold denSs
      exact dss_nil
    | cons a b => cases h
  | .cons s ss, m, G, V, X, W, k, c, xs, h => by
    unfold mSs at h
    cases xs with
    | nil => cases h
    | cons a b =>
      obtain ⟨h1, h2⟩ := an h
      unfold denSs
      exact dss_cons (soS s c a h1) (soSs ss c b h2)
end

/-! ### leaving a frame -/
section
variable {G : Gx} {F : Hp} {al t : List Addr} {M : Mem} {H : Hp} {n : Nat}
theorem get_pre {h : Nat} {a : Addr} (hn : al.length = n) (hh : h < n) (e : (al ++ t)[h]? = some a) : al[h]? = some a := by
  rw [List.getElem?_append_left (by omega)] at e
  exact e
theorem SlotR.cut {v : V} {r : DV} (hn : al.length = n) (q : SlotR G F (al ++ t) v r) (c : closedV n r = true) : SlotR G F al v r := by
  cases r with
  | dat d => exact q
  | frs d => exact q
  | scr d => exact q
  | hdl h =>
    obtain ⟨a, e, z⟩ := q
    exact ⟨a, get_pre hn (of_decide_eq_true c) e, z⟩
theorem ResR.cut {v : V} {r : DV} (hn : al.length = n) (q : ResR G F (al ++ t) H v r) (c : closedV n r = true) : ResR G F al H v r := by
  cases r with
  | dat d => exact q
  | scr d => exact q
  | hdl h =>
    obtain ⟨a, e, z⟩ := q
    exact ⟨a, get_pre hn (of_decide_eq_true c) e, z⟩
  | frs d =>
    obtain ⟨a, xs, h1, h2, h3, h4, h5⟩ := q
    exact ⟨a, xs, h1, h2, h3, fun z => h4 (List.mem_append_left _ z), h5⟩
theorem MOR.cut {a : Addr} {m : MO} (hn : al.length = n) (q : MOR G F (al ++ t) H a m) (c : closedM n m = true) : MOR G F al H a m := by
  cases m with
  | lst ds => exact q
  | dead => exact q
  | ins c' fs =>
    obtain ⟨dx, vs, h1, h2⟩ := q
    refine ⟨dx, vs, h1, ?_⟩
    have c2 : (fs.all fun p => closedV n p.2) = true := c
    clear h1 c
    revert c2
    induction h2 with
    | nil => exact fun _ => .nil
    | cons a b ih =>
      intro c
      simp only [List.all_cons, Bool.and_eq_true] at c
      exact .cons ⟨a.1, a.2.cut hn c.1⟩ (ih c.2)
theorem WR.cut (w : WR G F (al ++ t) M H) (hn : al.length = n) (c : (M.take n).all (closedM n) = true) : WR G F al (M.take n) H := by
  have hl : n ≤ M.length := by
    have := w.len
    rw [List.length_append] at this
    omega
  have pick : ∀ {h : Nat} {m : MO}, (M.take n)[h]? = some m → h < n ∧ M[h]? = some m := fun {h m} e => by
    have h1 : h < (M.take n).length := (List.getElem?_eq_some_iff.mp e).1
    rw [List.length_take] at h1
    have h2 : h < n := by omega
    rw [List.getElem?_take_of_lt h2] at e
    exact ⟨h2, e⟩
  have put : ∀ {h : Nat} {a : Addr}, al[h]? = some a → (al ++ t)[h]? = some a := fun {h a} e => by
    rw [List.getElem?_append_left (List.getElem?_eq_some_iff.mp e).1]
    exact e
  refine ⟨w.sub, by rw [List.length_take]; omega, (List.nodup_append.mp w.nd).1, fun h m a e1 hv e2 => ?_, fun h m a e1 e2 => ?_⟩
  · exact w.off h m a (pick e1).2 hv (put e2)
  · exact (w.obj h m a (pick e1).2 (put e2)).cut hn (List.all_eq_true.mp c m (List.mem_of_getElem? e1))
end
section
variable {G : Gx} {W : WX} {E : Nat → Hp → Prop} {F : Hp} {al : List Addr} {Q : VK} {n : Nat}
theorem gc_ok (hn : al.length = n) {r : DV} {M : Mem} (p : PostE G E Q F al (gc n r M)) : PostE G E Q F al (.ok r M) := by
  unfold gc at p
  split at p
  · rename_i hc
    split at p
    · rename_i hr
      intro v F' al' H' e w q
      obtain ⟨t, rfl⟩ := e.pre
      exact p v F' al H' ⟨e.fs, [], by simp⟩ (w.cut hn hc) (q.cut hn hr)
    · rename_i hr
      split at p
      · rename_i h
        split at p
        · rename_i ds hm
          intro v F' al' H' e w q
          obtain ⟨t, rfl⟩ := e.pre
          obtain ⟨a, e1, rfl⟩ := q
          obtain ⟨xs, z1, z2⟩ := w.obj h _ a hm e1
          refine p _ F' al H' ⟨e.fs, [], by simp⟩ (w.cut hn hc) ⟨a, xs, rfl, z1, w.off h _ a hm rfl e1, fun hin => ?_, z2⟩
          have hh : ¬ h < n := fun z => hr (decide_eq_true z)
          have hlt : h < (al ++ t).length := (List.getElem?_eq_some_iff.mp e1).1
          rw [List.getElem?_append_right (by omega)] at e1
          exact (List.nodup_append.mp w.nd).2.2 a hin a (List.mem_of_getElem? e1) rfl
        · exact p
      · exact p
  · exact p
theorem gcE_ok (hn : al.length = n) {c : Nat} {M : Mem} (p : PostE G E Q F al (gcE n c M)) : PostE G E Q F al (.err c M) := by
  unfold gcE at p
  split at p
  · rename_i hc
    intro F' al' H' e w
    obtain ⟨t, rfl⟩ := e.pre
    exact p F' al H' ⟨e.fs, [], by simp⟩ (w.cut hn hc)
  · exact p
theorem leave_ok (hn : al.length = n) {x : RS} {Ex : XK} (p : PostE G (fun c H' => Ex (.ref (G.cls c)) none H') Q F al (leave n x)) : PostS G (fun cls d _ H => Ex cls d H) { nx := fun _ H' => Q .non H', rt := Q } F al x := by
  cases x with
  | nx ρ M =>
    have p := gc_ok hn p
    exact fun σ F' al' H' e w s => p .non F' al' H' e w ⟨.non, rfl⟩
  | ret r M => exact gc_ok hn p
  | err c ρ M =>
    have p := gcE_ok hn p
    exact fun σ F' al' H' e w s => p F' al' H' e w
  | brk _ _ => exact p.elim
  | cnt _ _ => exact p.elim
  | stuck => exact p
end

/-! ### every def of the table keeps its promise -/
structure DefOk (T : Tab) (K : PySem.W.Frag) (mg : Str → Option Value) (fi : Fi) (a : Addr) (fd : FuncData) : Prop where
  ex : ∃ (x qual : Str) (params : Arguments) (body : List Stmt) (scope : Scope), FunD K x qual params body scope [] [] a fd ∧ FnScope fi.N fi.ps scope ∧ mSs ⟨T, fi.N, scope, true, none⟩ fi.body body = true
  ba : ∀ (s : Shared) (us : List Value), us.length = fi.ps.length → BindsTo s fd ⟨us, []⟩ (fi.ps.zip us)
theorem DefOk.bd {T : Tab} {K : PySem.W.Frag} {mg : Str → Option Value} {fi : Fi} {a : Addr} {fd : FuncData} (d : DefOk T K mg fi a fd) : Binds K fd fi.ps [] := fun s us _ hl => by
  rw [List.append_nil] at hl ⊢
  exact d.ba s us hl
structure TabOk (T : Tab) (G : Gx) (mg : Str → Option Value) : Prop where
  pin : G.pin = []
  bl : ∀ x ∈ bnames, mg x = none
  fns : ∀ f fi, T.fn f = some fi → ∃ a fd, mg fi.name = some (.ref a) ∧ DefOk T G.K mg fi a fd
  glob : ∀ j x d, T.glob j = some (x, d) → ∃ v u, mg x = some u ∧ RelV v u ∧ ∀ F, DatR G.K F v d
  cls : ∀ c x, T.cls c = some x → mg x = some (.ref (G.cls c)) ∧ ErrC G.K (G.cls c)
  exm : ∀ c y b, T.exm c y = some b → PySem.W.exmOne G.K (.ref (G.cls c)) (.ref (G.cls y)) = some b
  isa : ∀ c y b, T.isa c y = some b → PySem.W.kitOne G.K (.ref (G.cls c)) (.ref (G.cls y)) = some b
theorem Paired.len {α β : Type} {R : α → β → Prop} : ∀ {l : List α} {r : List β}, Paired R l r → l.length = r.length
  | _, _, .nil => rfl
  | _, _, .cons _ t => by rw [List.length_cons, List.length_cons, Paired.len t]
theorem start_ok {G : Gx} {F : Hp} {al : List Addr} {N : List Str} {vs : List V} {rs : List DV} (h0 : G.pin = []) (h : Paired (SlotR G F al) vs rs) : SR G F al (start0 N rs) (start N vs) := by
  have hl := Paired.len h
  refine ⟨by simp [L2.start, start0, hl], fun i dv e => ?_, fun p hp => by rw [h0] at hp; cases hp⟩
  unfold start0 at e
  by_cases hi : i < rs.length
  · rw [List.getElem?_append_left (by simpa using hi), List.getElem?_map] at e
    have e2 : rs[i]? = some dv := by
      cases q : rs[i]? with
      | none =>
        rw [q] at e
        cases e
      | some z =>
        rw [q] at e
        cases e
        rfl
    obtain ⟨v, h1, h2⟩ := pget h e2
    refine ⟨v, ?_, h2⟩
    unfold L2.start
    rw [List.getElem?_append_left (by simpa [hl] using hi), List.getElem?_map, h1]
    rfl
  · rw [List.getElem?_append_right (by simpa using hi), List.getElem?_replicate] at e
    split at e <;> cases e
where
  pget : ∀ {vs : List V} {rs : List DV} {i : Nat} {dv : DV}, Paired (SlotR G F al) vs rs → rs[i]? = some dv → ∃ v, vs[i]? = some v ∧ SlotR G F al v dv
    | _, _, i, dv, .nil, e => by simp at e
    | _, _, 0, dv, .cons a b, e => by
      simp at e
      subst e
      exact ⟨_, rfl, a⟩
    | _, _, i + 1, dv, .cons a b, e => by
      obtain ⟨v, h1, h2⟩ := pget (i := i) (dv := dv) b (by simpa using e)
      exact ⟨v, by simpa using h1, h2⟩
theorem sound {T : Tab} {G : Gx} {mg : Str → Option Value} {P : Program} {w : World} {base : Heap} (tab : TabOk T G mg) : ∀ (k : Nat) (f : Nat) (fi : Fi) (a : Addr) (fd : FuncData), T.fn f = some fi → DefOk T G.K mg fi a fd →
    FnOk P w G.K mg base (CX P w) k a fd fi.ps (spF G.off (sem T k f))
  | 0, f, fi, a, fd, hf, d => by
    refine ⟨fun vs H Q E h => ?_, fun A outer s H args us vs Q E hr e0 hb hv h => ?_⟩
    · obtain ⟨F, al, M, rs, w, x, p⟩ := h
      exact p.elim
    · obtain ⟨F, al, M, rs, w, x, p⟩ := h
      exact p.elim
  | k + 1, f, fi, a, fd, hf, d => by
    obtain ⟨x, qual, params, body, scope, Fd, S, hm⟩ := d.ex
    have lenOk : ∀ vs H Q E, spF G.off (sem T (k + 1) f) vs H Q E → vs.length = fi.ps.length := fun vs H Q E h => by
      obtain ⟨F, al, M, rs, w, x, p⟩ := h
      rw [Paired.len x]
      unfold sem at p
      rw [hf] at p
      dsimp only at p
      split at p
      · assumption
      · exact p.elim
    refine Fd.ok S lenOk fun cdv A outer s H vs Q E hr h => ?_
    have hl := lenOk vs H Q E h
    obtain ⟨F, al, M, rs, w0, xs, p⟩ := h
    have g0 : G.off = G := by
      obtain ⟨K, cls, pin⟩ := G
      have : pin = [] := tab.pin
      subst this
      rfl
    rw [g0] at w0 xs p
    have hN : fi.N.Nodup := S.nd
    refine ⟨_, soSs fi.body (k := k) (m := ⟨T, fi.N, scope, true, none⟩) (G := G) (V := ⟨T, sem T k, none⟩) (W := fun cls d _ H => E cls d H) ⟨rfl, rfl, rfl, hN, rfl, fun _ => rfl, hr.units, fun _ => hr, fun _ => rfl, takes_of rfl rfl rfl rfl, passes_of rfl, rfl, rfl, tab.bl, fun f' fi' hf' => ?_, tab.glob, tab.cls, tab.exm, tab.isa, fun _ => tab.pin, fun i e => by cases e⟩ body hm, ?_⟩
    · obtain ⟨a', fd', q1, q2⟩ := tab.fns f' fi' hf'
      obtain ⟨_, _, _, _, _, Fd', _, _⟩ := q2.ex
      exact ⟨a', fd', q1, Fd'.kp, q2.bd, sound tab k f' fi' a' fd' hf' q2⟩
    · refine ⟨F, al, M, start0 fi.N rs, w0, start_ok tab.pin xs, ?_⟩
      unfold sem at p
      rw [hf] at p
      dsimp only at p
      rw [if_pos (by rw [← Paired.len xs]; exact hl)] at p
      exact leave_ok w0.len p
end Lad
end

noncomputable section
namespace Lad
open PySem PySem.Spec PyProof.Rows L2

/-! ### the head's facts -/
def errB (K : PySem.W.Frag) (x : Str) : Bool :=
  (He.Fa.exc x).ok K &&
  (He.eqO (PySem.W.findIn K (.ref (He.ga K x)) "__getattribute__") (some (some (.builtin "BaseException.__getattribute__"))) &&
  (He.eqO (PySem.W.findIn K (.ref (He.ga K x)) "__getattr__") (some none) &&
  (PySem.W.hasDictIn K (He.ga K x) &&
  (He.eqO (PySem.W.findIn K (.ref (He.ga K x)) "__class__") (some (some (.builtin "object.__class__"))) &&
  (He.eqO (PySem.W.specialIn K (.builtin "object.__class__") "__get__") (some (some (.builtin "getset_descriptor.__get__"))) &&
  (decide (PySem.W.takesIn K (.builtin "object.__class__") = some true) &&
  (decide (PySem.W.mroIn K (He.ga K x) (.type "object") = some true) &&
  decide (PySem.W.kitOne K (.ref (He.ga K x)) (.type "ValueError") = some true))))))))
theorem errB_ok {K : PySem.W.Frag} {x : Str} (h : errB K x = true) : ErrC K (He.ga K x) := by
  obtain ⟨h1, h⟩ := an h
  obtain ⟨h2, h⟩ := an h
  obtain ⟨h3, h⟩ := an h
  obtain ⟨h4, h⟩ := an h
  obtain ⟨h5, h⟩ := an h
  obtain ⟨h6, h⟩ := an h
  obtain ⟨h7, h⟩ := an h
  obtain ⟨h8, h9⟩ := an h
  obtain ⟨e1, e2, e3, e4⟩ := He.exc_ok h1
  exact ⟨e1, e2, e3, e4, ⟨He.eqO_ok h2, He.eqO_ok h3, e3, h4, He.eqO_ok h5, He.eqO_ok h6, of_decide_eq_true h7, of_decide_eq_true h8⟩, of_decide_eq_true h9⟩
/-- the hook: He's facts, and one more look -/
abbrev AlL : Type := Bool × List He.FnW
def obsL (fa : List He.Fa) (fn : List He.DefD) (ex : PySem.W.Frag → Bool) (K : PySem.W.Frag) : AlL := (((fa.all fun f => f.ok K) && fn.all fun d => d.ok K) && ex K, fn.map fun d => He.fnW K d.at_)
def lookL (n : Nat) (fa : List He.Fa) (fn : List He.DefD) (ex : PySem.W.Frag → Bool) (g : Addr → Option Obj) : AlL := obsL fa fn ex (He.frG g (He.asD g n))
structure SaysL (fa : List He.Fa) (fn : List He.DefD) (ex : PySem.W.Frag → Bool) (K : PySem.W.Frag) : Prop where
  d : He.SaysD fa fn K
  m : ex K = true
theorem saysL_of {fa : List He.Fa} {fn : List He.DefD} {ex : PySem.W.Frag → Bool} {K : PySem.W.Frag} (e : obsL fa fn ex K = (true, fn.map He.DefD.val)) : SaysL fa fn ex K := by
  have e1 : (((fa.all fun f => f.ok K) && fn.all fun d => d.ok K) && ex K) = true := congrArg (fun z : AlL => z.1) e
  have e2 : fn.map (fun d => He.fnW K d.at_) = fn.map He.DefD.val := congrArg (fun z : AlL => z.2) e
  obtain ⟨h1, h2⟩ := an e1
  refine ⟨?_, h2⟩
  unfold He.SaysD He.obsD He.valD
  rw [h1, e2]
def hookL (n : Nat) (fa : List He.Fa) (fn : List He.DefD) (ex : PySem.W.Frag → Bool) : PySem.W.Hook where
  α := AlL
  obs := fun s => lookL n fa fn ex s.heap.get?
  val := fun _ => (true, fn.map He.DefD.val)
  says := fun _ h => ∃ K : PySem.W.Frag, K.In h ∧ SaysL fa fn ex K
  of := fun _ _ e => ⟨_, He.frG_in, saysL_of e⟩
  keeps := fun _ _ _ ⟨K, hK, c⟩ k => ⟨K, PySem.W.Frag.In.keeps hK k, c⟩
theorem lookL_eq {n : Nat} {fa : List He.Fa} {fn : List He.DefD} {ex : PySem.W.Frag → Bool} {g : Addr → Option Obj} {s : Shared} (h : ∀ a, g a = s.heap.get? a) : lookL n fa fn ex g = (hookL n fa fn ex).obs s := by
  have e : g = s.heap.get? := funext h
  subst e
  rfl
theorem lookup_mem {β : Type} : ∀ {l : List (Nat × β)} {n : Nat} {b : β}, l.lookup n = some b → (n, b) ∈ l
  | (k, v) :: r, n, b, e => by
    rw [List.lookup_cons] at e
    cases h : n == k with
    | true =>
      rw [h] at e
      cases e
      rw [eq_of_beq h]
      exact List.mem_cons_self
    | false =>
      rw [h] at e
      exact List.mem_cons_of_mem _ (lookup_mem e)
/-- all of a def's facts, from its datum of the head -/
theorem def_of {fa : List He.Fa} {fn : List He.DefD} {ex : PySem.W.Frag → Bool} {K : PySem.W.Frag} {h : Heap} {mg : Str → Option Value} {T : Tab} {fi : Fi} (X : K.In h) (Gm : h.Ns mainGlobals mg) (c : SaysL fa fn ex K) (i j : Nat) {d : He.DefD} (hd : fn[i]? = some d) (hg : fa[j]? = some (.glo fi.name))
    (hat : d.at_ = (fi.name, none)) (h1 : d.dfl = []) (h2 : d.kwd = []) (S : FnScope fi.N fi.ps d.scope) (hm : mSs ⟨T, fi.N, d.scope, true, none⟩ fi.body d.body = true)
    (hb : ∀ (kV doc pm : Value) (an : Option Addr) (cdv ct : Value) (us : List Value), us.length = fi.ps.length → bindArgs (PySem.W.fnOf d.name d.qual d.params d.body d.scope .none kV doc pm an cdv ct) ⟨us, []⟩ = pure (fi.ps.zip us)) :
    ∃ a fd, mg fi.name = some (.ref a) ∧ DefOk T K mg fi a fd := by
  obtain ⟨fd, F⟩ := c.d.def_ i hd
  have e1 : d.dvs K = [] := by
    unfold He.DefD.dvs
    rw [h1]
    rfl
  have e2 : d.kws K = [] := by
    unfold He.DefD.kws
    rw [h2]
    rfl
  rw [e1, e2, hat] at F
  exact ⟨He.ga K fi.name, fd, He.glo_ok X Gm (c.d.fact j hg), ⟨⟨_, _, _, _, _, F, S, hm⟩, F.bindsA hb⟩⟩

/-! ### tables by lists -/
structure TL where
  fns : List (Nat × Fi)
  globs : List (Nat × Str × PyData)
  cls : List (Nat × Str)
  exm : List ((Nat × Nat) × Bool)
def TL.tab (t : TL) : Tab where
  fn := fun f => t.fns.lookup f
  glob := fun j => t.globs.lookup j
  cls := fun c => t.cls.lookup c
  exm := fun c y => t.exm.lookup (c, y)
  isa := fun c y => t.exm.lookup (c, y)
def TL.adr (t : TL) (K : PySem.W.Frag) (c : Nat) : Addr := match t.cls.lookup c with
  | some x => He.ga K x
  | none => 0
mutual
def datV (K : PySem.W.Frag) : PyData → Value → Bool
  | .none, u => match u with
    | .none => true
    | _ => false
  | .bool b, u => match u with
    | .bool c => b == c
    | _ => false
  | .int i, u => match u with
    | .int j _ => decide (i = j)
    | _ => false
  | .str x, u => match u with
    | .str y _ => decide (x = y) && PyData.strOk x
    | _ => false
  | .tuple ds, u => match u with
    | .ref a => match K.lookup a with
      | some ⟨.type c, _, .seq its _, _⟩ => decide (c = "tuple") && (decide (its.size ≤ sizeLine) && datVs K ds its.toList)
      | _ => false
    | _ => false
  | .list _, _ => false
  | .dict _, _ => false
def datVs (K : PySem.W.Frag) : List PyData → List Value → Bool
  | [], us => us.isEmpty
  | d :: ds, us => match us with
    | u :: us => datV K d u && datVs K ds us
    | [] => false
end
mutual
theorem datV_ok {K : PySem.W.Frag} : ∀ {d : PyData} {u : Value}, datV K d u = true → ∃ v, RelV v u ∧ ∀ F, DatR K F v d
  | .none, u, h => by
    unfold datV at h
    split at h
    · exact ⟨.non, rfl, fun F => ⟨.non, rfl⟩⟩
    · cases h
  | .bool b, u, h => by
    unfold datV at h
    split at h
    · obtain rfl := eq_of_beq h
      exact ⟨.bl b, rfl, fun F => ⟨.bl b, rfl⟩⟩
    · cases h
  | .int i, u, h => by
    unfold datV at h
    split at h
    · obtain rfl := of_decide_eq_true h
      exact ⟨.int i, ⟨_, rfl⟩, fun F => ⟨.int i, rfl⟩⟩
    · cases h
  | .str x, u, h => by
    unfold datV at h
    split at h
    · obtain ⟨h1, h2⟩ := an h
      obtain rfl := of_decide_eq_true h1
      exact ⟨.str x, ⟨_, rfl⟩, fun F => ⟨.str x, by simpa [PyData.canLay0] using h2⟩⟩
    · cases h
  | .tuple ds, u, h => by
    unfold datV at h
    split at h
    · rename_i a
      split at h
      · rename_i c od its n sl hk
        obtain ⟨h1, h⟩ := an h
        obtain ⟨h2, h3⟩ := an h
        obtain ⟨vs, r, q⟩ := datVs_ok h3
        have e1 := of_decide_eq_true h1
        subst e1
        exact ⟨.ref a, rfl, fun F => ⟨.tup (.inr ⟨_, its, n, hk, rfl, rfl, of_decide_eq_true h2, r⟩) (q F).1, by simpa [PyData.canLay0] using (q F).2⟩⟩
      · cases h
    · cases h
  | .list _, _, h => by
    unfold datV at h
    cases h
  | .dict _, _, h => by
    unfold datV at h
    cases h
theorem datVs_ok {K : PySem.W.Frag} : ∀ {ds : List PyData} {us : List Value}, datVs K ds us = true → ∃ vs, Vals vs us ∧ ∀ F, AllR K F vs ds
  | [], us, h => by
    unfold datVs at h
    cases us with
    | nil => exact ⟨[], .nil, fun F => .nil⟩
    | cons _ _ => cases h
  | d :: ds, us, h => by
    unfold datVs at h
    cases us with
    | nil => cases h
    | cons u us =>
      obtain ⟨h1, h2⟩ := an h
      obtain ⟨v, r, q⟩ := datV_ok h1
      obtain ⟨vs, rs, qs⟩ := datVs_ok h2
      exact ⟨v :: vs, .cons r rs, fun F => .cons (q F) (qs F)⟩
end
def globB (K : PySem.W.Frag) (x : Str) (d : PyData) : Bool := match PySem.W.nsIn K mainGlobals x with
  | some (some u) => datV K d u
  | _ => false
def exL (t : TL) (K : PySem.W.Frag) : Bool :=
  (t.globs.all fun p => globB K p.2.1 p.2.2) &&
  ((t.cls.all fun p => (He.Fa.glo p.2).ok K && errB K p.2) &&
  ((t.exm.all fun p => decide (PySem.W.exmOne K (.ref (t.adr K p.1.1)) (.ref (t.adr K p.1.2)) = some p.2) && decide (PySem.W.kitOne K (.ref (t.adr K p.1.1)) (.ref (t.adr K p.1.2)) = some p.2)) &&
  bnames.all fun x => (He.Fa.free x).ok K))
theorem lookup_mem' {α β : Type} [BEq α] [LawfulBEq α] : ∀ {l : List (α × β)} {n : α} {b : β}, l.lookup n = some b → (n, b) ∈ l
  | (k, v) :: r, n, b, e => by
    rw [List.lookup_cons] at e
    cases h : n == k with
    | true =>
      rw [h] at e
      cases e
      rw [eq_of_beq h]
      exact List.mem_cons_self
    | false =>
      rw [h] at e
      exact List.mem_cons_of_mem _ (lookup_mem' e)
theorem tab_of {t : TL} {K : PySem.W.Frag} {h : Heap} {mg : Str → Option Value} (X : K.In h) (Gm : h.Ns mainGlobals mg) (e : exL t K = true) (hf : ∀ p ∈ t.fns, ∃ a fd, mg p.2.name = some (.ref a) ∧ DefOk t.tab K mg p.2 a fd) : TabOk t.tab ⟨K, t.adr K, []⟩ mg := by
  obtain ⟨e1, e⟩ := an e
  obtain ⟨e2, e⟩ := an e
  obtain ⟨e3, e4⟩ := an e
  refine ⟨rfl, fun x hx => He.free_ok X Gm (List.all_eq_true.mp e4 x hx), fun f fi q => hf _ (lookup_mem q), fun j x d q => ?_, fun c x q => ?_, fun c y b q => ?_, fun c y b q => ?_⟩
  · have z := List.all_eq_true.mp e1 _ (lookup_mem q)
    have z : globB K x d = true := z
    unfold globB at z
    split at z
    · rename_i u hu
      obtain ⟨v, r, k⟩ := datV_ok z
      exact ⟨v, u, PySem.W.mg_of X Gm hu, r, k⟩
    · cases z
  · have z := List.all_eq_true.mp e2 _ (lookup_mem q)
    obtain ⟨z1, z2⟩ := an z
    have ea : t.adr K c = He.ga K x := by
      unfold TL.adr
      have q : t.cls.lookup c = some x := q
      rw [q]
    show mg x = some (.ref (t.adr K c)) ∧ ErrC K (t.adr K c)
    rw [ea]
    exact ⟨He.glo_ok X Gm z1, errB_ok z2⟩
  · have z := List.all_eq_true.mp e3 _ (lookup_mem' q)
    exact of_decide_eq_true (an z).1
  · have z := List.all_eq_true.mp e3 _ (lookup_mem' q)
    exact of_decide_eq_true (an z).2

/-! ### the end -/
theorem cx_none {P : Program} {w : World} {H : Hp} {s s' : Shared} {e : Value} (h : L2.CX P w [] H s (fun _ _ _ => False) e s') : False := by
  obtain ⟨a, B, H', cls, d, _, _, _, _, _, _, _, z⟩ := h
  exact z
theorem walkL {l : PySem.W.OpenLaw} {n k : Nat} {q : Program} {loose : List Str} {XP : (Str → Option Value) → Heap → Prop} {YP : World → Heap → Prop} {d : DefRec} {T : Tab} {f : Nat} {fi : Fi} (hn : l.most = some n) (hn2 : n ≤ sizeLine) (hdf : d.params.defaults = []) (hr : Room k callerA)
    (hf : T.fn f = some fi) (hps : fi.ps = [Str.ofString "script"]) (hnm : d.name = fi.name)
    (hT : ∀ (w : World) (mg : Str → Option Value) (h : Heap), YP w h → h.Ns mainGlobals mg → ∃ G : Gx, G.K.In h ∧ TabOk T G mg)
    (main : ∀ ns : List Int, ns.length ≤ n → ∃ M, sem T k f [.scr ns] [] = .ok (.dat (.bool true)) M) : PySem.W.WalkO q loose XP YP l.row.toRowW d [] (fun f vs => PySem.call f vs) := by
  refine Att.attach_call hn hdf fun w s0 s1 mg mb fa o pm cd doc a vs ns Gr Y ho hd hcd hmg hobj hints hlen hg => ?_
  obtain ⟨G, KX, tab⟩ := hT w mg _ Y Gr.T.g
  obtain ⟨fa', fd, e1, dok⟩ := tab.fns f fi hf
  have e2 : fa' = fa := by
    rw [hnm, e1] at hmg
    injection hmg with hmg
    injection hmg
  subst e2
  refine law_call (x := Str.ofString "script") (fd := fd) (CX := CX l.prog w) (sp := spF G.off (sem T k f)) KX Gr.T.g Gr.T.b Gr.T.builtins Gr.T.nolimit hg hobj hints (Nat.le_trans hlen hn2) hr (fun base _ _ => ?_) (fun s u => ?_) (fun H _ hS => ?_) fun H e s' z => cx_none z
  · rw [← hps]
    exact sound tab k f fi fa' fd hf dok
  · have z := dok.ba s [u] (by rw [hps]; rfl)
    rw [hps] at z
    exact z
  · obtain ⟨M, hM⟩ := main ns hlen
    refine ⟨H, [], [], [.scr ns], ⟨Same.refl H, rfl, List.nodup_nil, fun _ _ _ e => by simp at e, fun _ _ _ e => by simp at e⟩, .cons ⟨a, rfl, hS⟩ .nil, ?_⟩
    rw [hM]
    intro v F' al' H' _ _ qv
    obtain ⟨z, _⟩ := qv
    cases z
    rfl
end Lad
end

noncomputable section
namespace Lad
open PySem PySem.Spec PyProof.Rows L2
theorem sem_succ {T : Tab} {f k : Nat} {fi : Fi} {rs : List DV} {M : Mem} (h : T.fn f = some fi) (hl : rs.length = fi.ps.length) : sem T (k + 1) f rs M = leave M.length (denSs ⟨T, sem T k, none⟩ fi.body (start0 fi.N rs) M) := by
  rw [sem, h]
  dsimp only
  rw [if_pos hl]
theorem gc_self {r : DV} {M : Mem} (h : closedV M.length r = true) : gc M.length r M = .ok r M := by
  unfold gc
  rw [List.take_length, if_pos h]
  split <;> rfl
@[simp] theorem leave_dat {d : PyData} {M : Mem} : leave M.length (.ret (.dat d) M) = .ok (.dat d) M := gc_self rfl
@[simp] theorem leave_frs {d : List PyData} {M : Mem} : leave M.length (.ret (.frs d) M) = .ok (.frs d) M := gc_self rfl
@[simp] theorem leave_nx {ρ : Rho} {M : Mem} : leave M.length (.nx ρ M) = .ok (.dat .none) M := gc_self rfl
@[simp] theorem leave_err {c : Nat} {ρ : Rho} {M : Mem} : leave M.length (.err c ρ M) = .err c M := by
  show gcE M.length c M = _
  unfold gcE
  rw [List.take_length]
  split <;> rfl
@[simp] theorem forD_nil {g : PyData → Rho → Option Rho} {b : FS} {ρ : Rho} {M : Mem} : forD g b [] ρ M = .nx ρ M := rfl
mutual
theorem eqv_same : ∀ d : PyData, d.canLay0 = true → PyData.eqv d d = true
  | .none, _ => rfl
  | .bool b, _ => by simp [PyData.eqv]
  | .int i, _ => by simp [PyData.eqv]
  | .str x, _ => by simp [PyData.eqv]
  | .list xs, h => by
    unfold PyData.eqv
    exact eqvAll_same xs (by simpa [PyData.canLay0] using h)
  | .tuple xs, h => by
    unfold PyData.eqv
    exact eqvAll_same xs (by simpa [PyData.canLay0] using h)
  | .dict _, h => by simp [PyData.canLay0] at h
theorem eqvAll_same : ∀ ds : List PyData, PyData.canLayAll0 ds = true → PyData.eqvAll ds ds = true
  | [], _ => rfl
  | d :: ds, h => by
    have h2 : d.canLay0 = true ∧ PyData.canLayAll0 ds = true := by simpa [PyData.canLayAll0] using h
    unfold PyData.eqvAll
    rw [eqv_same d h2.1, eqvAll_same ds h2.2]
    rfl
end
/-! ### a block in two parts -/
@[simp] def takeS : Nat → ISs → ISs
  | 0, _ => .nil
  | _ + 1, .nil => .nil
  | n + 1, .cons s ss => .cons s (takeS n ss)
@[simp] def dropS : Nat → ISs → ISs
  | 0, ss => ss
  | _ + 1, .nil => .nil
  | n + 1, .cons _ ss => dropS n ss
theorem den_split (V : Ev) : ∀ (n : Nat) (ss : ISs) (ρ : Rho) (M : Mem), denSs V ss ρ M = match denSs V (takeS n ss) ρ M with
    | .nx ρ1 M1 => denSs V (dropS n ss) ρ1 M1
    | r => r
  | 0, ss, ρ, M => by simp
  | n + 1, .nil, ρ, M => by simp
  | n + 1, .cons s ss, ρ, M => by
    simp only [takeS, dropS, denSs, sSeq]
    cases denS V s ρ M with
    | nx ρ1 M1 => exact den_split V n ss ρ1 M1
    | _ => rfl
def within (d : PyData) (lo hi : Int) : Bool := match d with
  | .int i => bLe lo i && bLe i hi
  | _ => false
theorem within_int {i lo hi : Int} (h1 : lo ≤ i) (h2 : i ≤ hi) : within (.int i) lo hi = true := by simp [within, h1, h2]
theorem within_low {i lo hi : Int} (h1 : ¬ lo ≤ i) : within (.int i) lo hi = false := by simp [within, h1]
theorem within_high {i lo hi : Int} (h1 : ¬ i ≤ hi) : within (.int i) lo hi = false := by simp [within, h1]
end Lad
end

namespace Law
open PySem PySem.Spec PyProof.Rows L2 Lad
def f_is_within : Fi := ⟨"is_within", ["thing", "low", "high"], ["thing", "low", "high"],
  (.cons (.ret (.andv (.cons (.isi .int (.var 0)) (.cons (.notv (.isi .bool (.var 0))) (.cons (.chain .le .le (.var 1) (.var 0) (.var 2)) .nil))))) .nil)⟩
def b_climbed_0 : ISs := (.cons (.set 3 (.call 106 (.cons (.var 0) (.cons (.var 3) .nil)))) (.cons (.cond (.cmp .isN (.var 3) (.con .none)) (.cons (.ret (.con .none)) .nil) .nil) .nil))
def f_climbed : Fi := ⟨"climbed", ["rung", "often", "number", "found", "time"], ["rung", "often", "number"],
  (.cons (.set 3 (.var 2)) (.cons (.for_ 4 (.range (.var 1)) b_climbed_0) (.cons (.ret (.var 3)) .nil)))⟩
def f_quick : Fi := ⟨"quick", ["rung", "number", "found"], ["rung", "number"],
  (.cons (.cond (.cmp .eq (.var 0) (.con (.int 0))) (.cons (.set 2 (.bin .add (.var 1) (.con (.int 1)))) .nil) (.cons (.cond (.cmp .eq (.var 0) (.con (.int 1))) (.cons (.set 2 (.bin .add (.bin .mul (.con (.int 2)) (.var 1)) (.con (.int 1)))) .nil) (.cons (.ret (.call 77 (.cons (.bin .sub (.var 0) (.con (.int 1))) (.cons (.bin .add (.var 1) (.con (.int 1))) (.cons (.var 1) .nil))))) .nil)) .nil)) (.cons (.ret (.ife (.cmp .le (.var 2) (.glo 23)) (.var 2) (.con .none))) .nil))⟩
def f_climb : Fi := ⟨"climb", ["rung", "often", "number"], ["rung", "often", "number"],
  (.cons (.cond (.or (.cons (.not (.tru (.call 84 (.cons (.var 0) (.cons (.con (.int 0)) (.cons (.glo 16) .nil)))))) (.cons (.not (.tru (.call 84 (.cons (.var 1) (.cons (.con (.int 0)) (.cons (.glo 16) .nil)))))) (.one (.not (.tru (.call 84 (.cons (.var 2) (.cons (.con (.int 0)) (.cons (.glo 23) .nil)))))))))) (.cons (.raise 2) .nil) .nil) (.cons (.ret (.call 77 (.cons (.var 0) (.cons (.var 1) (.cons (.var 2) .nil))))) .nil))⟩
def f_l_law_cell : Fi := ⟨"_law_cell", ["script", "k"], ["script", "k"],
  (.cons (.cond (.cmp .lt (.var 1) (.bi .len (.cons (.var 0) .nil))) (.cons (.ret (.idx (.var 0) (.var 1))) .nil) .nil) (.cons (.ret (.con (.int 0))) .nil))⟩
def b_l_law_rung_0 : ISs := (.cons (.cond (.or (.cons (.cmp .isN (.var 2) (.con .none)) (.one (.cmp .gt (.var 3) (.con (.int 40)))))) (.cons (.ret (.con .none)) .nil) .nil) (.cons (.set 2 (.call 58 (.cons (.bin .sub (.var 0) (.con (.int 1))) (.cons (.var 2) .nil)))) .nil))
def f_l_law_rung : Fi := ⟨"_law_rung", ["rung", "number", "found", "time"], ["rung", "number"],
  (.cons (.cond (.cmp .eq (.var 0) (.con (.int 0))) (.cons (.ret (.ife (.cmp .lt (.var 1) (.con (.int 1000000))) (.bin .add (.var 1) (.con (.int 1))) (.con .none))) .nil) .nil) (.cons (.cond (.cmp .eq (.var 0) (.con (.int 1))) (.cons (.ret (.ife (.cmp .lt (.var 1) (.con (.int 500000))) (.bin .add (.bin .mul (.con (.int 2)) (.var 1)) (.con (.int 1))) (.con .none))) .nil) .nil) (.cons (.set 2 (.var 1)) (.cons (.for_ 3 (.range (.bin .add (.var 1) (.con (.int 1)))) b_l_law_rung_0) (.cons (.ret (.var 2)) .nil)))))⟩
def f_l_law_told_k10 : Fi := ⟨"_law_told", ["rung", "often", "number", "e"], ["rung", "often", "number"],
  (.cons (.tryAs 3 0 (.cons (.ret (.call 76 (.cons (.var 0) (.cons (.var 1) (.cons (.var 2) .nil))))) .nil) (.cons (.ret (.lst (.cons (.isE 3 2) (.cons (.isVE 3) .nil)))) .nil)) .nil)⟩
def b_law_k10_0 : ISs := (.cons (.cond (.cmp .notN (.var 4) (.con .none)) (.cons (.set 4 (.call 58 (.cons (.var 1) (.cons (.var 4) .nil)))) .nil) .nil) .nil)
def f_law_k10 : Fi := ⟨"law", ["script", "rung", "often", "number", "found", "time", "odd", "some"], ["script"],
  (.cons (.set 1 (.bin .mod (.call 27 (.cons (.var 0) (.cons (.con (.int 0)) .nil))) (.con (.int 6)))) (.cons (.set 2 (.bin .mod (.call 27 (.cons (.var 0) (.cons (.con (.int 1)) .nil))) (.con (.int 5)))) (.cons (.set 3 (.bin .mod (.call 27 (.cons (.var 0) (.cons (.con (.int 2)) .nil))) (.con (.int 41)))) (.cons (.cond (.cmp .eq (.bin .mod (.bin .div (.call 27 (.cons (.var 0) (.cons (.con (.int 0)) .nil))) (.con (.int 6))) (.con (.int 4))) (.con (.int 1))) (.cons (.set 1 (.bin .mod (.call 27 (.cons (.var 0) (.cons (.con (.int 1)) .nil))) (.con (.int 100)))) (.cons (.set 3 (.bin .mod (.call 27 (.cons (.var 0) (.cons (.con (.int 2)) .nil))) (.con (.int 3)))) .nil)) .nil) (.cons (.cond (.cmp .eq (.bin .mod (.bin .div (.call 27 (.cons (.var 0) (.cons (.con (.int 0)) .nil))) (.con (.int 6))) (.con (.int 4))) (.con (.int 2))) (.cons (.set 1 (.bin .mod (.call 27 (.cons (.var 0) (.cons (.con (.int 1)) .nil))) (.con (.int 2)))) (.cons (.set 2 (.bin .mod (.call 27 (.cons (.var 0) (.cons (.con (.int 0)) .nil))) (.con (.int 100)))) (.cons (.set 3 (.bin .mod (.bin .add (.bin .mul (.call 27 (.cons (.var 0) (.cons (.con (.int 2)) .nil))) (.con (.int 997))) (.call 27 (.cons (.var 0) (.cons (.con (.int 1)) .nil)))) (.con (.int 1000001)))) .nil))) .nil) (.cons (.cond (.cmp .eq (.bin .mod (.call 27 (.cons (.var 0) (.cons (.con (.int 0)) .nil))) (.con (.int 6))) (.con (.int 5))) (.cons (.set 6 (.idx (.lst (.cons (.con .none) (.cons (.neg (.con (.int 1))) (.cons (.con (.int 1000001)) (.cons (.con (.bool true)) (.cons (.con (.str "1")) (.cons (.lst (.cons (.con (.int 1)) .nil)) (.cons (.bin .add (.con (.int 1000001)) (.var 3)) (.cons (.tup (.cons (.con (.int 0)) .nil)) .nil))))))))) (.bin .mod (.call 27 (.cons (.var 0) (.cons (.con (.int 2)) .nil))) (.con (.int 8))))) (.cons (.set 7 (.lst (.cons (.call 63 (.cons (.var 6) (.cons (.var 2) (.cons (.var 3) .nil)))) (.cons (.call 63 (.cons (.var 1) (.cons (.var 6) (.cons (.var 3) .nil)))) (.cons (.call 63 (.cons (.var 1) (.cons (.var 2) (.cons (.var 6) .nil)))) .nil))))) (.cons (.set 7 (.bin .add (.var 7) (.lst (.cons (.call 63 (.cons (.con (.int 100)) (.cons (.con (.int 0)) (.cons (.con (.int 0)) .nil)))) (.cons (.call 63 (.cons (.con (.int 0)) (.cons (.con (.int 100)) (.cons (.con (.int 0)) .nil)))) .nil))))) (.cons (.ret (.cmp .eq (.var 7) (.bin .mul (.lst (.cons (.lst (.cons (.con (.bool true)) (.cons (.con (.bool true)) .nil))) .nil)) (.con (.int 5))))) .nil)))) .nil) (.cons (.set 4 (.var 3)) (.cons (.for_ 5 (.range (.var 2)) b_law_k10_0) (.cons (.ret (.cmp .eq (.call 63 (.cons (.var 1) (.cons (.var 2) (.cons (.var 3) .nil)))) (.var 4))) .nil)))))))))⟩
def tl : TL where
  fns := [(84, f_is_within), (77, f_climbed), (106, f_quick), (76, f_climb), (27, f_l_law_cell), (58, f_l_law_rung), (63, f_l_law_told_k10), (85, f_law_k10)]
  globs := [(16, "MOST_RUNG", (.int 99)), (23, "TOP", (.int 1000000))]
  cls := [(0, "LoopError"), (2, "BadNumbers")]
  exm := [((0, 0), true), ((0, 2), false), ((2, 0), true), ((2, 2), true)]
abbrev T : Tab := tl.tab
end Law

namespace Law
open PySem PySem.Spec PyProof.Rows L2 Lad
/-! mathematics -/
def iterO (f : Nat → Option Nat) : Nat → Nat → Option Nat
  | 0, n => some n
  | o + 1, n => (f n).bind (iterO f o)
def quickM : Nat → Nat → Option Nat
  | 0, n => if n + 1 ≤ 1000000 then some (n + 1) else none
  | 1, n => if 2 * n + 1 ≤ 1000000 then some (2 * n + 1) else none
  | r + 2, n => iterO (quickM (r + 1)) (n + 1) n
def encO : Option Nat → PyData
  | some n => .int n
  | none => .none
def cell (ns : List Int) (i : Nat) : Int := ns.getD i 0
/-! the walk -/
section
variable {T : Tab} {k : Nat} {M : Mem}
theorem sem_is_within (h : T.fn 84 = some f_is_within) (d : PyData) (lo hi : Int) : sem T (k + 1) 84 [.dat d, .dat (.int lo), .dat (.int hi)] M = .ok (.dat (.bool (within d lo hi))) M := by
  rw [sem_succ h rfl]
  cases d with
  | int i => by_cases hc : lo ≤ i <;> simp [f_is_within, within, hc]
  | _ => simp [f_is_within, within]
theorem sem_cell (h : T.fn 27 = some f_l_law_cell) (ns : List Int) (i : Nat) : sem T (k + 1) 27 [.scr ns, .dat (.int i)] M = .ok (.dat (.int (cell ns i))) M := by
  unfold cell
  rw [sem_succ h rfl]
  by_cases hi : i < ns.length
  · have e : atI (List.map PyData.int ns) (i : Int) = some (.int ns[i]) := atI_nat (by simp [hi])
    simp [f_l_law_cell, hi, e]
  · simp [f_l_law_cell, hi]
theorem climbed_loop (f : Nat → Option Nat) (r : DV) (b : FS) (hb : ∀ (n : Nat) x a2 a3 M, b [some r, a2, a3, some (.dat (.int n)), some (.dat x)] M = match f n with
      | some m => .nx [some r, a2, a3, some (.dat (.int m)), some (.dat x)] M
      | none => .ret (.dat .none) M) : ∀ (l : List PyData) (n : Nat) (a2 a3 e : Option DV) (M : Mem),
    ∃ e', forD (gSlot 4) b l [some r, a2, a3, some (.dat (.int n)), e] M =
      match iterO f l.length n with
      | some m => .nx [some r, a2, a3, some (.dat (.int m)), e'] M
      | none => .ret (.dat .none) M
  | [], n, a2, a3, e, M => ⟨e, by simp [iterO]⟩
  | x :: l, n, a2, a3, e, M => by
    cases hf : f n with
    | none =>
      refine ⟨e, ?_⟩
      simp [forD, hb, hf, iterO]
    | some m =>
      obtain ⟨e', he⟩ := climbed_loop f r b hb l m a2 a3 (some (.dat x)) M
      refine ⟨e', ?_⟩
      simp [forD, hb, hf, iterO]
      exact he
theorem rangeD_len (lo : Int) (n : Nat) : (rangeD lo n).length = n := by simp [rangeD]
theorem sem_climbed (h : T.fn 77 = some f_climbed) (f : Nat → Option Nat) (r : Nat) (hq : ∀ (n : Nat) M, sem T k 106 [.dat (.int r), .dat (.int n)] M = .ok (.dat (encO (f n))) M) (o n : Nat) (ho : o < 1000000000) :
    sem T (k + 1) 77 [.dat (.int r), .dat (.int o), .dat (.int n)] M = .ok (.dat (encO (iterO f o n))) M := by
  rw [sem_succ h rfl]
  have hb : ∀ (n : Nat) x a2 a3 M, denSs ⟨T, sem T k, none⟩ b_climbed_0 [some (.dat (.int r)), a2, a3, some (.dat (.int n)), some (.dat x)] M = match f n with
      | some m => .nx [some (.dat (.int r)), a2, a3, some (.dat (.int m)), some (.dat x)] M
      | none => .ret (.dat .none) M := by
    intro n x a2 a3 M
    cases hf : f n <;> simp [b_climbed_0, hq, hf, encO]
  obtain ⟨e', hl⟩ := climbed_loop f _ _ hb (rangeD 0 o) n (some (.dat (.int o))) (some (.dat (.int n))) none M
  rw [rangeD_len] at hl
  simp [f_climbed, okN_nat ho]
  rw [hl]
  cases iterO f o n <;> simp [encO]
/-- all the ladder's defs at their levels -/
structure HasLadder (T : Tab) : Prop where
  c : T.fn 77 = some f_climbed
  q : T.fn 106 = some f_quick
  b : T.fn 76 = some f_climb
  w : T.fn 84 = some f_is_within
  g : T.glob 23 = some (Str.ofString "TOP", PyData.int 1000000)
  r : T.glob 16 = some (Str.ofString "MOST_RUNG", PyData.int 99)
theorem iterO_le {f : Nat → Option Nat} (hf : ∀ n m, f n = some m → m ≤ 1000000) : ∀ (o n m : Nat), n ≤ 1000000 → iterO f o n = some m → m ≤ 1000000
  | 0, n, m, hn, e => by
    cases e
    exact hn
  | o + 1, n, m, hn, e => by
    unfold iterO at e
    cases h : f n with
    | none =>
      rw [h] at e
      cases e
    | some x =>
      rw [h] at e
      exact iterO_le hf o x m (hf n x h) e
theorem quickM_le : ∀ (r n m : Nat), n ≤ 1000000 → quickM r n = some m → m ≤ 1000000
  | 0, n, m, _, e => by
    unfold quickM at e
    split at e
    · cases e
      assumption
    · cases e
  | 1, n, m, _, e => by
    unfold quickM at e
    split at e
    · cases e
      assumption
    · cases e
  | r + 2, n, m, hn, e => by
    unfold quickM at e
    -- quickM (r+1) keeps below from any start below
    have aux : ∀ (o n m : Nat), n ≤ 1000000 → iterO (quickM (r + 1)) o n = some m → m ≤ 1000000 := by
      intro o
      induction o with
      | zero =>
        intro n m hn e
        cases e
        exact hn
      | succ o ih =>
        intro n m hn e
        unfold iterO at e
        cases h : quickM (r + 1) n with
        | none =>
          rw [h] at e
          cases e
        | some x =>
          rw [h] at e
          exact ih x m (quickM_le (r + 1) n x hn h) e
    exact aux _ _ _ hn e
theorem iterO_congr {f g : Nat → Option Nat} (hg : ∀ n m, n ≤ 1000000 → f n = some m → m ≤ 1000000) (e : ∀ n, n ≤ 1000000 → f n = g n) : ∀ (o n : Nat), n ≤ 1000000 → iterO f o n = iterO g o n
  | 0, n, _ => rfl
  | o + 1, n, hn => by
    unfold iterO
    rw [← e n hn]
    cases h : f n with
    | none => rfl
    | some x => exact iterO_congr hg e o x (hg n x hn h)
theorem climbed_loop' (f : Nat → Option Nat) (hf : ∀ n m, n ≤ 1000000 → f n = some m → m ≤ 1000000) (r : DV) (b : FS) (hb : ∀ (n : Nat) x a2 a3 M, n ≤ 1000000 → b [some r, a2, a3, some (.dat (.int n)), some (.dat x)] M = match f n with
      | some m => .nx [some r, a2, a3, some (.dat (.int m)), some (.dat x)] M
      | none => .ret (.dat .none) M) : ∀ (l : List PyData) (n : Nat) (a2 a3 e : Option DV) (M : Mem), n ≤ 1000000 →
    ∃ e', forD (gSlot 4) b l [some r, a2, a3, some (.dat (.int n)), e] M =
      match iterO f l.length n with
      | some m => .nx [some r, a2, a3, some (.dat (.int m)), e'] M
      | none => .ret (.dat .none) M
  | [], n, a2, a3, e, M, _ => ⟨e, by simp [iterO]⟩
  | x :: l, n, a2, a3, e, M, hn => by
    cases hfn : f n with
    | none =>
      refine ⟨e, ?_⟩
      simp [forD, hb n x a2 a3 M hn, hfn, iterO]
    | some m =>
      obtain ⟨e', he⟩ := climbed_loop' f hf r b hb l m a2 a3 (some (.dat x)) M (hf n m hn hfn)
      refine ⟨e', ?_⟩
      simp [forD, hb n x a2 a3 M hn, hfn, iterO]
      exact he
theorem sem_climbed' (H : HasLadder T) (r : Nat) (hq : ∀ (n : Nat) M, n ≤ 1000000 → sem T k 106 [.dat (.int r), .dat (.int n)] M = .ok (.dat (encO (quickM r n))) M) (o n : Nat) (ho : o < 1000000000) (hn : n ≤ 1000000) :
    sem T (k + 1) 77 [.dat (.int r), .dat (.int o), .dat (.int n)] M = .ok (.dat (encO (iterO (quickM r) o n))) M := by
  rw [sem_succ H.c rfl]
  have hb : ∀ (n : Nat) x a2 a3 M, n ≤ 1000000 → denSs ⟨T, sem T k, none⟩ b_climbed_0 [some (.dat (.int r)), a2, a3, some (.dat (.int n)), some (.dat x)] M = match quickM r n with
      | some m => .nx [some (.dat (.int r)), a2, a3, some (.dat (.int m)), some (.dat x)] M
      | none => .ret (.dat .none) M := by
    intro n x a2 a3 M hn
    cases hf : quickM r n <;> simp [b_climbed_0, hq n M hn, hf, encO]
  obtain ⟨e', hl⟩ := climbed_loop' (quickM r) (fun n m => quickM_le r n m) _ _ hb (rangeD 0 o) n (some (.dat (.int o))) (some (.dat (.int n))) none M hn
  rw [rangeD_len] at hl
  simp [f_climbed, okN_nat ho]
  rw [hl]
  cases iterO (quickM r) o n <;> simp [encO]
theorem sem_quick (H : HasLadder T) : ∀ (r : Nat) (k : Nat), 2 * r + 1 ≤ k → ∀ (n : Nat) (M : Mem), n ≤ 1000000 → sem T k 106 [.dat (.int r), .dat (.int n)] M = .ok (.dat (encO (quickM r n))) M
  | 0, k, hk, n, M, hn => by
    obtain ⟨k, rfl⟩ : ∃ j, k = j + 1 := ⟨k - 1, by omega⟩
    rw [sem_succ H.q rfl]
    by_cases hc : n + 1 ≤ 1000000
    · have hc2 : (n : Int) + 1 ≤ 1000000 := by omega
      simp [f_quick, H.g, PyData.eqv, PyData.depth, quickM, hc, hc2, encO]
    · have hc2 : ¬ (n : Int) + 1 ≤ 1000000 := by omega
      simp [f_quick, H.g, PyData.eqv, PyData.depth, quickM, hc, hc2, encO]
  | 1, k, hk, n, M, hn => by
    obtain ⟨k, rfl⟩ : ∃ j, k = j + 1 := ⟨k - 1, by omega⟩
    rw [sem_succ H.q rfl]
    by_cases hc : 2 * n + 1 ≤ 1000000
    · have hc2 : 2 * (n : Int) + 1 ≤ 1000000 := by omega
      simp [f_quick, H.g, PyData.eqv, PyData.depth, quickM, hc, hc2, encO, cMul_l]
    · have hc2 : ¬ 2 * (n : Int) + 1 ≤ 1000000 := by omega
      simp [f_quick, H.g, PyData.eqv, PyData.depth, quickM, hc, hc2, encO, cMul_l]
  | r + 2, k, hk, n, M, hn => by
    obtain ⟨k, rfl⟩ : ∃ j, k = j + 2 := ⟨k - 2, by omega⟩
    rw [sem_succ H.q rfl]
    have hq : ∀ (n : Nat) M, n ≤ 1000000 → sem T k 106 [.dat (.int ((r + 1 : Nat) : Int)), .dat (.int n)] M = .ok (.dat (encO (quickM (r + 1) n))) M := fun n M hn => sem_quick H (r + 1) k (by omega) n M hn
    have hc := sem_climbed' (M := M) H (r + 1) hq (n + 1) n (by omega) hn
    have e1 : ((r + 2 : Nat) : Int) - 1 = ((r + 1 : Nat) : Int) := by omega
    have e2 : (n : Int) + 1 = ((n + 1 : Nat) : Int) := by omega
    have n0 : ¬ ((r + 2 : Nat) : Int) = 0 := by omega
    have n1 : ¬ ((r + 2 : Nat) : Int) = 1 := by omega
    have e3 : quickM (r + 2) n = iterO (quickM (r + 1)) (n + 1) n := by rw [quickM]
    rw [e3]
    generalize iterO (quickM (r + 1)) (n + 1) n = z at hc
    generalize ((r + 2 : Nat) : Int) = R at e1 n0 n1 ⊢
    generalize ((r + 1 : Nat) : Int) = R1 at e1 hc
    generalize ((n + 1 : Nat) : Int) = N1 at e2 hc
    simp [f_quick, PyData.eqv, PyData.depth, n0, n1, e1, e2, hc]
theorem sem_climb_bad (H : HasLadder T) (a b c : PyData) (hw : (within a 0 99 && (within b 0 99 && within c 0 1000000)) = false) : sem T (k + 2) 76 [.dat a, .dat b, .dat c] M = .err 2 M := by
  rw [sem_succ H.b rfl]
  have h1 := fun M => sem_is_within (k := k) (M := M) H.w a 0 99
  have h2 := fun M => sem_is_within (k := k) (M := M) H.w b 0 99
  have h3 := fun M => sem_is_within (k := k) (M := M) H.w c 0 1000000
  cases e1 : within a 0 99 <;> cases e2 : within b 0 99 <;> cases e3 : within c 0 1000000 <;> simp_all [f_climb, H.g, H.r, h1, h2, h3, e1, e2, e3]
theorem sem_climb (H : HasLadder T) (r o n : Nat) (hr : r ≤ 99) (ho : o ≤ 99) (hn : n ≤ 1000000) (hk : 2 * r + 3 ≤ k) : sem T k 76 [.dat (.int r), .dat (.int o), .dat (.int n)] M = .ok (.dat (encO (iterO (quickM r) o n))) M := by
  obtain ⟨k, rfl⟩ : ∃ j, k = j + 2 := ⟨k - 2, by omega⟩
  rw [sem_succ H.b rfl]
  have w1 : within (.int r) 0 99 = true := within_int (by omega) (by omega)
  have w2 : within (.int o) 0 99 = true := within_int (by omega) (by omega)
  have w3 : within (.int n) 0 1000000 = true := within_int (by omega) (by omega)
  have h1 := fun M => sem_is_within (k := k) (M := M) H.w (.int r) 0 99
  have h2 := fun M => sem_is_within (k := k) (M := M) H.w (.int o) 0 99
  have h3 := fun M => sem_is_within (k := k) (M := M) H.w (.int n) 0 1000000
  have h4 := fun M => sem_climbed' (k := k) (M := M) H r (fun n M hn => sem_quick H r k (by omega) n M hn) o n (by omega) hn
  simp [f_climb, H.g, H.r, h1, h2, h3, w1, w2, w3, h4]
theorem sem_told_bad (H : HasLadder T) (h : T.fn 63 = some f_l_law_told_k10) (hx : T.exm 2 0 = some true) (hc : T.cls 2 = some (Str.ofString "BadNumbers")) (hi : T.isa 2 2 = some true) (a b c : PyData) (hw : (within a 0 99 && (within b 0 99 && within c 0 1000000)) = false) :
    sem T (k + 3) 63 [.dat a, .dat b, .dat c] M = .ok (.frs [.bool true, .bool true]) M := by
  rw [sem_succ h rfl]
  simp [f_l_law_told_k10, sem_climb_bad H a b c hw, hx, hc, hi]
theorem sem_told (H : HasLadder T) (h : T.fn 63 = some f_l_law_told_k10) (r o n : Nat) (hr : r ≤ 99) (ho : o ≤ 99) (hn : n ≤ 1000000) (hk : 2 * r + 3 ≤ k) : sem T (k + 1) 63 [.dat (.int r), .dat (.int o), .dat (.int n)] M = .ok (.dat (encO (iterO (quickM r) o n))) M := by
  rw [sem_succ h rfl]
  simp [f_l_law_told_k10, sem_climb H r o n hr ho hn hk]
/-! the law's own rungs -/
end
def loopR (f : Nat → Option Nat) : Nat → Nat → Option Nat → Option Nat
  | 0, _, x => x
  | s + 1, t, x => match x with
    | none => none
    | some n => if t > 40 then none else loopR f s (t + 1) (f n)
theorem loopR_small (f : Nat → Option Nat) : ∀ (s t n : Nat), t + s ≤ 41 → loopR f s t (some n) = iterO f s n
  | 0, t, n, h => rfl
  | s + 1, t, n, h => by
    unfold loopR iterO
    dsimp only
    rw [if_neg (by omega)]
    cases hf : f n with
    | none =>
      cases s <;> rfl
    | some m => exact loopR_small f s (t + 1) m (by omega)
theorem quick_grow : ∀ (r n m : Nat), quickM (r + 1) n = some m → 2 * n + 1 ≤ m ∧ m ≤ 1000000
  | 0, n, m, e => by
    unfold quickM at e
    split at e
    · cases e
      omega
    · cases e
  | r + 1, n, m, e => by
    unfold quickM at e
    unfold iterO at e
    have ih := quick_grow r
    cases h : quickM (r + 1) n with
    | none =>
      rw [h] at e
      cases e
    | some x =>
      rw [h] at e
      have e : iterO (quickM (r + 1)) n x = some m := e
      obtain ⟨h1, h2⟩ := ih n x h
      -- the rest never falls
      have rest : ∀ (o x m : Nat), x ≤ 1000000 → iterO (quickM (r + 1)) o x = some m → x ≤ m ∧ m ≤ 1000000 := by
        intro o
        induction o with
        | zero =>
          intro x m hx e
          cases e
          omega
        | succ o io =>
          intro x m hx e
          unfold iterO at e
          cases h : quickM (r + 1) x with
          | none =>
            rw [h] at e
            cases e
          | some y =>
            rw [h] at e
            obtain ⟨g1, g2⟩ := ih x y h
            obtain ⟨g3, g4⟩ := io y m g2 e
            omega
      obtain ⟨h3, h4⟩ := rest n x m h2 e
      omega
theorem iter_none (r : Nat) : ∀ (o n : Nat), 2 ^ o * (n + 1) > 1000001 → iterO (quickM (r + 1)) o n = none ∨ n > 1000000
  | 0, n, h => .inr (by omega)
  | o + 1, n, h => by
    unfold iterO
    cases hq : quickM (r + 1) n with
    | none => exact .inl rfl
    | some m =>
      obtain ⟨h1, h2⟩ := quick_grow r n m hq
      have h3 : 2 ^ o * (m + 1) > 1000001 := by
        have : 2 ^ o * (2 * (n + 1)) ≤ 2 ^ o * (m + 1) := Nat.mul_le_mul_left _ (by omega)
        have e : 2 ^ (o + 1) * (n + 1) = 2 ^ o * (2 * (n + 1)) := by rw [Nat.pow_succ, Nat.mul_assoc]
        omega
      rcases iter_none r o m h3 with h4 | h4
      · exact .inl h4
      · omega
def rungL : Nat → Nat → Option Nat
  | 0, n => if n < 1000000 then some (n + 1) else none
  | 1, n => if n < 500000 then some (2 * n + 1) else none
  | r + 2, n => loopR (rungL (r + 1)) (n + 1) 0 (some n)
theorem loopR_congr {f g : Nat → Option Nat} (hg : ∀ n m, n ≤ 1000000 → f n = some m → m ≤ 1000000) (e : ∀ n, n ≤ 1000000 → f n = g n) : ∀ (s t n : Nat), n ≤ 1000000 → loopR f s t (some n) = loopR g s t (some n)
  | 0, t, n, _ => rfl
  | s + 1, t, n, hn => by
    unfold loopR
    dsimp only
    split
    · rfl
    · rw [← e n hn]
      cases h : f n with
      | none => cases s <;> rfl
      | some m => exact loopR_congr hg e s (t + 1) m (hg n m hn h)
/-- beyond 41 turns nothing is left -/
theorem loopR_none (f : Nat → Option Nat) : ∀ (s t n : Nat), t ≤ 41 → 41 < t + s → loopR f s t (some n) = none ∨ ∃ m, iterO f (41 - t) n = some m ∧ loopR f s t (some n) = none
  | 0, t, n, h1, h2 => by omega
  | s + 1, t, n, h1, h2 => by
    left
    unfold loopR
    dsimp only
    split
    · rfl
    · rename_i ht
      cases f n with
      | none => cases s <;> rfl
      | some m =>
        rcases loopR_none f s (t + 1) m (by omega) (by omega) with h | ⟨_, _, h⟩
        · exact h
        · exact h
theorem rungL_eq : ∀ (r n : Nat), n ≤ 1000000 → rungL r n = quickM r n
  | 0, n, _ => by
    unfold rungL quickM
    by_cases h : n < 1000000
    · rw [if_pos h, if_pos (by omega)]
    · rw [if_neg h, if_neg (by omega)]
  | 1, n, _ => by
    unfold rungL quickM
    by_cases h : n < 500000
    · rw [if_pos h, if_pos (by omega)]
    · rw [if_neg h, if_neg (by omega)]
  | r + 2, n, hn => by
    unfold rungL quickM
    have hk : ∀ n m, n ≤ 1000000 → rungL (r + 1) n = some m → m ≤ 1000000 := fun n m hn e => by
      rw [rungL_eq (r + 1) n hn] at e
      exact quickM_le (r + 1) n m hn e
    rw [loopR_congr (g := quickM (r + 1)) hk (fun n hn => rungL_eq (r + 1) n hn) (n + 1) 0 n hn]
    by_cases h : n + 1 ≤ 41
    · exact loopR_small _ _ _ _ (by omega)
    · have h1 : loopR (quickM (r + 1)) (n + 1) 0 (some n) = none := by
        rcases loopR_none (quickM (r + 1)) (n + 1) 0 n (by omega) (by omega) with q | ⟨_, _, q⟩
        · exact q
        · exact q
      rw [h1]
      have h2 : 2 ^ (n + 1) * (n + 1) > 1000001 := by
        have h3 : 2 ^ 41 ≤ 2 ^ (n + 1) := Nat.pow_le_pow_right (by decide) (by omega)
        have h4 : 2 ^ 41 * 1 ≤ 2 ^ (n + 1) * (n + 1) := Nat.mul_le_mul h3 (by omega)
        have h5 : (2 : Nat) ^ 41 = 2199023255552 := by decide
        omega
      rcases iter_none r (n + 1) n h2 with q | q
      · exact q.symm
      · omega
section
variable {T : Tab} {k : Nat} {M : Mem}
theorem rung_loop (f : Nat → Option Nat) (hf : ∀ n m, n ≤ 1000000 → f n = some m → m ≤ 1000000) (r : DV) (a1 : Option DV) (b : FS)
    (hb : ∀ (x : Option Nat) (t : Nat) M, (∀ m, x = some m → m ≤ 1000000) → b [some r, a1, some (.dat (encO x)), some (.dat (.int t))] M = match x with
      | none => .ret (.dat .none) M
      | some n => if t > 40 then .ret (.dat .none) M else .nx [some r, a1, some (.dat (encO (f n))), some (.dat (.int t))] M) : ∀ (s t : Nat) (x : Option Nat) (e : Option DV) (M : Mem), (∀ m, x = some m → m ≤ 1000000) →
    (∃ e', forD (gSlot 3) b ((List.range' t s).map fun (j : Nat) => PyData.int (j : Int)) [some r, a1, some (.dat (encO x)), e] M = .nx [some r, a1, some (.dat (encO (loopR f s t x))), e'] M) ∨
    (loopR f s t x = none ∧ forD (gSlot 3) b ((List.range' t s).map fun (j : Nat) => PyData.int (j : Int)) [some r, a1, some (.dat (encO x)), e] M = .ret (.dat .none) M)
  | 0, t, x, e, M, _ => .inl ⟨e, by simp [loopR]⟩
  | s + 1, t, x, e, M, hx => by
    rw [List.range'_succ, List.map_cons]
    have h1 := hb x t M hx
    cases x with
    | none =>
      right
      refine ⟨rfl, ?_⟩
      simp only [forD, gSlot, List.set, h1]
    | some n =>
      dsimp only at h1
      by_cases ht : t > 40
      · rw [if_pos ht] at h1
        right
        refine ⟨by simp [loopR, ht], ?_⟩
        simp only [forD, gSlot, List.set, h1]
      · rw [if_neg ht] at h1
        have e1 : loopR f (s + 1) t (some n) = loopR f s (t + 1) (f n) := by simp [loopR, ht]
        rw [e1]
        rcases rung_loop f hf r a1 b hb s (t + 1) (f n) (some (.dat (.int t))) M (fun m e => hf n m (hx n rfl) e) with ⟨e', h2⟩ | ⟨h2, h3⟩
        · left
          refine ⟨e', ?_⟩
          simp only [forD, gSlot, List.set, h1]
          exact h2
        · right
          refine ⟨h2, ?_⟩
          simp only [forD, gSlot, List.set, h1]
          exact h3
theorem rangeD_nat (n : Nat) : rangeD 0 n = (List.range' 0 n).map fun (j : Nat) => PyData.int (j : Int) := by
  unfold rangeD
  rw [List.range_eq_range']
  congr 1
  funext j
  simp
theorem rungL_le (r n m : Nat) (hn : n ≤ 1000000) (e : rungL r n = some m) : m ≤ 1000000 := by
  rw [rungL_eq r n hn] at e
  exact quickM_le r n m hn e
theorem sem_rung (h : T.fn 58 = some f_l_law_rung) : ∀ (r k n : Nat) (M : Mem), r + 1 ≤ k → n ≤ 1000000 → sem T k 58 [.dat (.int r), .dat (.int n)] M = .ok (.dat (encO (rungL r n))) M
  | 0, k, n, M, hk, hn => by
    obtain ⟨k, rfl⟩ : ∃ j, k = j + 1 := ⟨k - 1, by omega⟩
    rw [sem_succ h rfl]
    by_cases hc : n < 1000000
    · have hc2 : (n : Int) < 1000000 := by omega
      simp [f_l_law_rung, PyData.eqv, PyData.depth, rungL, hc, hc2, encO]
    · have hc2 : ¬ (n : Int) < 1000000 := by omega
      simp [f_l_law_rung, PyData.eqv, PyData.depth, rungL, hc, hc2, encO]
  | 1, k, n, M, hk, hn => by
    obtain ⟨k, rfl⟩ : ∃ j, k = j + 1 := ⟨k - 1, by omega⟩
    rw [sem_succ h rfl]
    by_cases hc : n < 500000
    · have hc2 : (n : Int) < 500000 := by omega
      simp [f_l_law_rung, PyData.eqv, PyData.depth, rungL, hc, hc2, encO, cMul_l]
    · have hc2 : ¬ (n : Int) < 500000 := by omega
      simp [f_l_law_rung, PyData.eqv, PyData.depth, rungL, hc, hc2, encO, cMul_l]
  | r + 2, k, n, M, hk, hn => by
    obtain ⟨k, rfl⟩ : ∃ j, k = j + 1 := ⟨k - 1, by omega⟩
    rw [sem_succ h rfl]
    have e1 : ((r + 2 : Nat) : Int) - 1 = ((r + 1 : Nat) : Int) := by omega
    have n0 : ¬ ((r + 2 : Nat) : Int) = 0 := by omega
    have n1 : ¬ ((r + 2 : Nat) : Int) = 1 := by omega
    have hc : ∀ (n : Nat) M, n ≤ 1000000 → sem T k 58 [.dat (.int ((r + 1 : Nat) : Int)), .dat (.int n)] M = .ok (.dat (encO (rungL (r + 1) n))) M := fun n M hn => sem_rung h (r + 1) k n M (by omega) hn
    have e3 : rungL (r + 2) n = loopR (rungL (r + 1)) (n + 1) 0 (some n) := by rw [rungL]
    rw [e3]
    generalize ((r + 2 : Nat) : Int) = R at e1 n0 n1 ⊢
    generalize ((r + 1 : Nat) : Int) = R1 at e1 hc
    have hb : ∀ (x : Option Nat) (t : Nat) M, (∀ m, x = some m → m ≤ 1000000) → denSs ⟨T, sem T k, none⟩ b_l_law_rung_0 [some (.dat (.int R)), some (.dat (.int n)), some (.dat (encO x)), some (.dat (.int t))] M = match x with
      | none => .ret (.dat .none) M
      | some n' => if t > 40 then .ret (.dat .none) M else .nx [some (.dat (.int R)), some (.dat (.int n)), some (.dat (encO (rungL (r + 1) n'))), some (.dat (.int t))] M := by
      intro x t M hx
      cases x with
      | none => simp [b_l_law_rung_0, encO]
      | some m =>
        by_cases ht : t > 40
        · have ht2 : (40 : Int) < t := by omega
          simp [b_l_law_rung_0, encO, ht, ht2]
        · have ht2 : ¬ (40 : Int) < t := by omega
          have h5 := hc m M (hx m rfl)
          simp [b_l_law_rung_0, encO, ht, ht2, e1, h5]
    have e2 : ((n : Int) + 1).toNat = n + 1 := by omega
    have o1 : okN ((n : Int) + 1) = true := okN_of (by omega)
    have lp := rung_loop (rungL (r + 1)) (fun n m hn e => rungL_le (r + 1) n m hn e) (.dat (.int R)) (some (.dat (.int n))) _ hb (n + 1) 0 (some n) none M (fun m e => by cases e; exact hn)
    rw [← rangeD_nat] at lp
    rcases lp with ⟨e', lp⟩ | ⟨lp0, lp⟩
    · simp only [encO] at lp
      simp [f_l_law_rung, PyData.eqv, PyData.depth, n0, n1, o1, e2, lp]
      rfl
    · rw [lp0]
      simp only [encO] at lp
      simp [f_l_law_rung, PyData.eqv, PyData.depth, n0, n1, o1, e2, lp, encO]
/-! the law -/
theorem law_loop (f : Nat → Option Nat) (hf : ∀ n m, n ≤ 1000000 → f n = some m → m ≤ 1000000) (b : FS) (a0 a1 a2 a3 a6 a7 : Option DV)
    (hb : ∀ (x : Option Nat) t M, (∀ m, x = some m → m ≤ 1000000) → b [a0, a1, a2, a3, some (.dat (encO x)), some (.dat t), a6, a7] M = .nx [a0, a1, a2, a3, some (.dat (encO (x.bind f))), some (.dat t), a6, a7] M) :
    ∀ (l : List PyData) (x : Option Nat) (e : Option DV) (M : Mem), (∀ m, x = some m → m ≤ 1000000) → ∃ e', forD (gSlot 5) b l [a0, a1, a2, a3, some (.dat (encO x)), e, a6, a7] M = .nx [a0, a1, a2, a3, some (.dat (encO (x.bind (iterO f l.length)))), e', a6, a7] M
  | [], x, e, M, hx => ⟨e, by cases x <;> simp [iterO]⟩
  | d :: l, x, e, M, hx => by
    obtain ⟨e', h⟩ := law_loop f hf b a0 a1 a2 a3 a6 a7 hb l (x.bind f) (some (.dat d)) M (fun m q => by
      cases x with
      | none => cases q
      | some n => exact hf n m (hx n rfl) q)
    refine ⟨e', ?_⟩
    simp only [forD, gSlot, List.set, hb x d M hx, h]
    cases x <;> rfl
theorem encO_eq (x : Option Nat) : PyData.eqv (encO x) (encO x) = true := by
  cases x <;> simp [encO, PyData.eqv]
theorem encO_depth (x : Option Nat) : (encO x).depth = 0 := by
  cases x <;> rfl
structure HasK10 (T : Tab) : Prop where
  ld : HasLadder T
  cell : T.fn 27 = some f_l_law_cell
  rung : T.fn 58 = some f_l_law_rung
  told : T.fn 63 = some f_l_law_told_k10
  law : T.fn 85 = some f_law_k10
  hx : T.exm 2 0 = some true
  hc : T.cls 2 = some (Str.ofString "BadNumbers")
  hi : T.isa 2 2 = some true
def odds (n : Int) : List PyData := [.none, .int (-1), .int 1000001, .bool true, .str "1", .list [.int 1], .int (1000001 + n), .tuple [.int 0]]
theorem odds_bad (n : Int) (hn : 0 ≤ n) (d : PyData) (h : d ∈ odds n) : within d 0 99 = false ∧ within d 0 1000000 = false := by
  simp only [odds, List.mem_cons, List.not_mem_nil, or_false] at h
  rcases h with rfl | rfl | rfl | rfl | rfl | rfl | rfl | rfl <;> first | exact ⟨rfl, rfl⟩ | exact ⟨within_low (by omega), within_low (by omega)⟩ | exact ⟨within_high (by omega), within_high (by omega)⟩
theorem tail_odd (H : HasK10 T) (ns : List Int) (R O N : Nat) (h5 : cell ns 0 % 6 = 5) (hN : N ≤ 1000000) (M : Mem) : denSs ⟨T, sem T (k + 5), none⟩ (dropS 5 f_law_k10.body) [some (.scr ns), some (.dat (.int R)), some (.dat (.int O)), some (.dat (.int N)), none, none, none, none] M = .ret (.dat (.bool true)) M := by
  have c0 : ∀ M, sem T (k + 5) 27 [.scr ns, .dat (.int 0)] M = .ok (.dat (.int (cell ns 0))) M := fun M => sem_cell H.cell ns 0
  have c2 : ∀ M, sem T (k + 5) 27 [.scr ns, .dat (.int 2)] M = .ok (.dat (.int (cell ns 2))) M := fun M => sem_cell H.cell ns 2
  obtain ⟨j, hj1, hj2⟩ : ∃ j : Nat, j < 8 ∧ cell ns 2 % 8 = (j : Int) := ⟨(cell ns 2 % 8).toNat, by omega, by omega⟩
  have hlen : (odds N).length = 8 := rfl
  have hat : atI (odds N) (j : Int) = some ((odds N)[j]'(by omega)) := atI_nat (by rw [List.getElem?_eq_getElem])
  have hb := odds_bad N (by omega) ((odds N)[j]'(by omega)) (List.getElem_mem _)
  generalize hd : (odds N)[j]'(by omega) = d at hat hb
  obtain ⟨b1, b2⟩ := hb
  have t1 := fun M => sem_told_bad (k := k + 2) (M := M) H.ld H.told H.hx H.hc H.hi d (.int O) (.int N) (by simp [b1])
  have t2 := fun M => sem_told_bad (k := k + 2) (M := M) H.ld H.told H.hx H.hc H.hi (.int R) d (.int N) (by simp [b1])
  have t3 := fun M => sem_told_bad (k := k + 2) (M := M) H.ld H.told H.hx H.hc H.hi (.int R) (.int O) d (by simp [b2])
  have t4 := fun M => sem_told_bad (k := k + 2) (M := M) H.ld H.told H.hx H.hc H.hi (.int 100) (.int 0) (.int 0) (by simp [within])
  have t5 := fun M => sem_told_bad (k := k + 2) (M := M) H.ld H.told H.hx H.hc H.hi (.int 0) (.int 100) (.int 0) (by simp [within])
  unfold odds at hat
  simp [f_law_k10, c0, c2, h5, hj2, hat, t1, t2, t3, t4, t5, PyData.eqv, PyData.eqvAll, PyData.depth, PyData.depthAll, List.replicate, okN_of]
theorem tail_good (H : HasK10 T) (ns : List Int) (R O N : Nat) (h5 : ¬ cell ns 0 % 6 = 5) (hR : R ≤ 99) (hO : O ≤ 99) (hN : N ≤ 1000000) (hk : 2 * R + 4 ≤ k) (M : Mem) : denSs ⟨T, sem T (k + 1), none⟩ (dropS 5 f_law_k10.body) [some (.scr ns), some (.dat (.int R)), some (.dat (.int O)), some (.dat (.int N)), none, none, none, none] M = .ret (.dat (.bool true)) M := by
  have c0 : ∀ M, sem T (k + 1) 27 [.scr ns, .dat (.int 0)] M = .ok (.dat (.int (cell ns 0))) M := fun M => sem_cell H.cell ns 0
  have hb : ∀ (x : Option Nat) t M, (∀ m, x = some m → m ≤ 1000000) → denSs ⟨T, sem T (k + 1), none⟩ b_law_k10_0 [some (.scr ns), some (.dat (.int R)), some (.dat (.int O)), some (.dat (.int N)), some (.dat (encO x)), some (.dat t), none, none] M = .nx [some (.scr ns), some (.dat (.int R)), some (.dat (.int O)), some (.dat (.int N)), some (.dat (encO (x.bind (rungL R)))), some (.dat t), none, none] M := by
    intro x t M hx
    cases x with
    | none => simp [b_law_k10_0, encO]
    | some m =>
      have h1 := sem_rung H.rung R (k + 1) m M (by omega) (hx m rfl)
      simp [b_law_k10_0, encO, h1]
  obtain ⟨e', lp⟩ := law_loop (rungL R) (fun n m hn e => rungL_le R n m hn e) _ _ _ _ _ _ _ hb (rangeD 0 O) (some N) none M (fun m e => by cases e; exact hN)
  rw [rangeD_len] at lp
  have e1 : (some N).bind (iterO (rungL R) O) = iterO (quickM R) O N := iterO_congr (fun n m hn e => rungL_le R n m hn e) (fun n hn => rungL_eq R n hn) O N hN
  rw [e1] at lp
  have t1 := fun M => sem_told (k := k) (M := M) H.ld H.told R O N hR hO hN (by omega)
  simp only [encO] at lp
  simp [f_law_k10, c0, h5, PyData.eqv, PyData.depth, okN_of, okN_nat (show O < 1000000000 by omega), lp, t1, encO_eq, encO_depth]
  exact encO_eq _
end
theorem main (ns : List Int) (h : ns.length ≤ 63) : ∃ M, sem T 231 85 [.scr ns] [] = .ok (.dat (.bool true)) M := by
  have H : HasK10 T := ⟨⟨rfl, rfl, rfl, rfl, rfl, rfl⟩, rfl, rfl, rfl, rfl, rfl, rfl, rfl⟩
  refine ⟨[], ?_⟩
  rw [sem_succ H.law rfl, den_split _ 5]
  have c0 : ∀ M, sem T 230 27 [.scr ns, .dat (.int 0)] M = .ok (.dat (.int (cell ns 0))) M := fun M => sem_cell H.cell ns 0
  have c1 : ∀ M, sem T 230 27 [.scr ns, .dat (.int 1)] M = .ok (.dat (.int (cell ns 1))) M := fun M => sem_cell H.cell ns 1
  have c2 : ∀ M, sem T 230 27 [.scr ns, .dat (.int 2)] M = .ok (.dat (.int (cell ns 2))) M := fun M => sem_cell H.cell ns 2
  have pre : ∃ R O N : Nat, R ≤ 99 ∧ O ≤ 99 ∧ N ≤ 1000000 ∧ denSs ⟨T, sem T 230, none⟩ (takeS 5 f_law_k10.body) (start0 f_law_k10.N [.scr ns]) [] = .nx [some (.scr ns), some (.dat (.int R)), some (.dat (.int O)), some (.dat (.int N)), none, none, none, none] [] := by
    have h6 : (6 : Int) ≠ 0 := by decide
    by_cases h1 : cell ns 0 / 6 % 4 = 1
    · refine ⟨(cell ns 1 % 100).toNat, (cell ns 1 % 5).toNat, (cell ns 2 % 3).toNat, by omega, by omega, by omega, ?_⟩
      have e1 : ((cell ns 1 % 100).toNat : Int) = cell ns 1 % 100 := by omega
      have e2 : ((cell ns 1 % 5).toNat : Int) = cell ns 1 % 5 := by omega
      have e3 : ((cell ns 2 % 3).toNat : Int) = cell ns 2 % 3 := by omega
      simp only [e1, e2, e3]
      simp [f_law_k10, c0, c1, c2, h1, PyData.eqv, PyData.depth]
    · by_cases h2 : cell ns 0 / 6 % 4 = 2
      · refine ⟨(cell ns 1 % 2).toNat, (cell ns 0 % 100).toNat, ((cell ns 2 * 997 + cell ns 1) % 1000001).toNat, by omega, by omega, by omega, ?_⟩
        have e1 : ((cell ns 1 % 2).toNat : Int) = cell ns 1 % 2 := by omega
        have e2 : ((cell ns 0 % 100).toNat : Int) = cell ns 0 % 100 := by omega
        have e3 : (((cell ns 2 * 997 + cell ns 1) % 1000001).toNat : Int) = (cell ns 2 * 997 + cell ns 1) % 1000001 := by omega
        simp only [e1, e2, e3]
        simp [f_law_k10, c0, c1, c2, h1, h2, PyData.eqv, PyData.depth, cMul_r]
      · refine ⟨(cell ns 0 % 6).toNat, (cell ns 1 % 5).toNat, (cell ns 2 % 41).toNat, by omega, by omega, by omega, ?_⟩
        have e1 : ((cell ns 0 % 6).toNat : Int) = cell ns 0 % 6 := by omega
        have e2 : ((cell ns 1 % 5).toNat : Int) = cell ns 1 % 5 := by omega
        have e3 : ((cell ns 2 % 41).toNat : Int) = cell ns 2 % 41 := by omega
        simp only [e1, e2, e3]
        simp [f_law_k10, c0, c1, c2, h1, h2, PyData.eqv, PyData.depth]
  obtain ⟨R, O, N, hR, hO, hN, e⟩ := pre
  rw [e]
  dsimp only
  by_cases h5 : cell ns 0 % 6 = 5
  · rw [tail_odd (k := 225) H ns R O N h5 hN []]
    exact leave_dat (M := [])
  · rw [tail_good (k := 229) H ns R O N h5 hR hO hN (by omega) []]
    exact leave_dat (M := [])
end Law

namespace Law
open PySem PySem.Spec PyProof.Rows L2 Lad
def top (i : Nat) : Stmt := PySem.Challenge.pw_loopladder_k10_the_ladder.main.body.getD i (.Pass ⟨0, 0, 0, 0⟩)
def inCls (i j : Nat) : Stmt := match top i with
  | .ClassDef (body := b) .. => b.getD j (.Pass ⟨0, 0, 0, 0⟩)
  | _ => .Pass ⟨0, 0, 0, 0⟩
def stm (i : Nat) (j : Option Nat) : Stmt := match j with
  | none => top i
  | some k => inCls i k
def defds : List He.DefD := [
  ⟨("is_within", none), "is_within", "is_within", defArgs (stm 4 none), defBody (stm 4 none), defScope (stm 4 none), [], []⟩,
  ⟨("climbed", none), "climbed", "climbed", defArgs (stm 8 none), defBody (stm 8 none), defScope (stm 8 none), [], []⟩,
  ⟨("quick", none), "quick", "quick", defArgs (stm 9 none), defBody (stm 9 none), defScope (stm 9 none), [], []⟩,
  ⟨("climb", none), "climb", "climb", defArgs (stm 10 none), defBody (stm 10 none), defScope (stm 10 none), [], []⟩,
  ⟨("_law_cell", none), "_law_cell", "_law_cell", defArgs (stm 12 none), defBody (stm 12 none), defScope (stm 12 none), [], []⟩,
  ⟨("_law_rung", none), "_law_rung", "_law_rung", defArgs (stm 13 none), defBody (stm 13 none), defScope (stm 13 none), [], []⟩,
  ⟨("_law_told", none), "_law_told", "_law_told", defArgs (stm 14 none), defBody (stm 14 none), defScope (stm 14 none), [], []⟩,
  ⟨("law", none), "law", "law", defArgs (stm 15 none), defBody (stm 15 none), defScope (stm 15 none), [], []⟩]
def facts : List He.Fa := [.glo "is_within", .glo "climbed", .glo "quick", .glo "climb", .glo "_law_cell", .glo "_law_rung", .glo "_law_told", .glo "law"]
def loose : List Str := (["LoopError", "BadNumbers", "is_within", "MOST_RUNG", "TOP", "climbed", "quick", "climb", "_law_cell", "_law_rung", "_law_told"] : List Str)
abbrev R : PySem.W.OpenRow := PySem.W.OpenLaw.row PySem.Challenge.rw_loopladder_k10_the_ladder
abbrev hk : PySem.W.Hook := hookL 5 facts defds (exL tl)
def ob (s : PySem.W.SharedT) : AlL := lookL 5 facts defds (exL tl) (HandSHeadRun.getT s)
theorem ob_eq (s : PySem.W.SharedT) : ob s = hk.obs s.abs := lookL_eq (HandSHeadRun.getT_eq s)
theorem run (w : World) : HandSHeadRun.RunEq R (PySem.W.view R.prog [15]) hk ob 20000 loose w := by
  intro os
  kernel_rfl
theorem sc_0 : FnScope f_is_within.N f_is_within.ps (defScope (stm 4 none)) := ⟨rfl, rfl, rfl, by decide +kernel, rfl, by decide +kernel, by decide +kernel⟩
theorem mt_0 : mSs ⟨T, f_is_within.N, defScope (stm 4 none), true, none⟩ f_is_within.body (defBody (stm 4 none)) = true := by decide +kernel
theorem sc_1 : FnScope f_climbed.N f_climbed.ps (defScope (stm 8 none)) := ⟨rfl, rfl, rfl, by decide +kernel, rfl, by decide +kernel, by decide +kernel⟩
theorem mt_1 : mSs ⟨T, f_climbed.N, defScope (stm 8 none), true, none⟩ f_climbed.body (defBody (stm 8 none)) = true := by decide +kernel
theorem sc_2 : FnScope f_quick.N f_quick.ps (defScope (stm 9 none)) := ⟨rfl, rfl, rfl, by decide +kernel, rfl, by decide +kernel, by decide +kernel⟩
theorem mt_2 : mSs ⟨T, f_quick.N, defScope (stm 9 none), true, none⟩ f_quick.body (defBody (stm 9 none)) = true := by decide +kernel
theorem sc_3 : FnScope f_climb.N f_climb.ps (defScope (stm 10 none)) := ⟨rfl, rfl, rfl, by decide +kernel, rfl, by decide +kernel, by decide +kernel⟩
theorem mt_3 : mSs ⟨T, f_climb.N, defScope (stm 10 none), true, none⟩ f_climb.body (defBody (stm 10 none)) = true := by decide +kernel
theorem sc_4 : FnScope f_l_law_cell.N f_l_law_cell.ps (defScope (stm 12 none)) := ⟨rfl, rfl, rfl, by decide +kernel, rfl, by decide +kernel, by decide +kernel⟩
theorem mt_4 : mSs ⟨T, f_l_law_cell.N, defScope (stm 12 none), true, none⟩ f_l_law_cell.body (defBody (stm 12 none)) = true := by decide +kernel
theorem sc_5 : FnScope f_l_law_rung.N f_l_law_rung.ps (defScope (stm 13 none)) := ⟨rfl, rfl, rfl, by decide +kernel, rfl, by decide +kernel, by decide +kernel⟩
theorem mt_5 : mSs ⟨T, f_l_law_rung.N, defScope (stm 13 none), true, none⟩ f_l_law_rung.body (defBody (stm 13 none)) = true := by decide +kernel
theorem sc_6 : FnScope f_l_law_told_k10.N f_l_law_told_k10.ps (defScope (stm 14 none)) := ⟨rfl, rfl, rfl, by decide +kernel, rfl, by decide +kernel, by decide +kernel⟩
theorem mt_6 : mSs ⟨T, f_l_law_told_k10.N, defScope (stm 14 none), true, none⟩ f_l_law_told_k10.body (defBody (stm 14 none)) = true := by decide +kernel
theorem sc_7 : FnScope f_law_k10.N f_law_k10.ps (defScope (stm 15 none)) := ⟨rfl, rfl, rfl, by decide +kernel, rfl, by decide +kernel, by decide +kernel⟩
theorem mt_7 : mSs ⟨T, f_law_k10.N, defScope (stm 15 none), true, none⟩ f_law_k10.body (defBody (stm 15 none)) = true := by decide +kernel
theorem fns_ok {K : PySem.W.Frag} {h : Heap} {mg : Str → Option Value} (X : K.In h) (Gm : h.Ns mainGlobals mg) (c : SaysL facts defds (exL tl) K) : ∀ p ∈ tl.fns, ∃ a fd, mg p.2.name = some (.ref a) ∧ DefOk T K mg p.2 a fd := by
  refine List.forall_mem_cons.mpr ⟨def_of X Gm c 0 0 rfl rfl rfl rfl rfl sc_0 mt_0 fun _ _ _ _ _ _ us hl => (match us, hl with | [_, _, _], _ => rfl), ?_⟩
  refine List.forall_mem_cons.mpr ⟨def_of X Gm c 1 1 rfl rfl rfl rfl rfl sc_1 mt_1 fun _ _ _ _ _ _ us hl => (match us, hl with | [_, _, _], _ => rfl), ?_⟩
  refine List.forall_mem_cons.mpr ⟨def_of X Gm c 2 2 rfl rfl rfl rfl rfl sc_2 mt_2 fun _ _ _ _ _ _ us hl => (match us, hl with | [_, _], _ => rfl), ?_⟩
  refine List.forall_mem_cons.mpr ⟨def_of X Gm c 3 3 rfl rfl rfl rfl rfl sc_3 mt_3 fun _ _ _ _ _ _ us hl => (match us, hl with | [_, _, _], _ => rfl), ?_⟩
  refine List.forall_mem_cons.mpr ⟨def_of X Gm c 4 4 rfl rfl rfl rfl rfl sc_4 mt_4 fun _ _ _ _ _ _ us hl => (match us, hl with | [_, _], _ => rfl), ?_⟩
  refine List.forall_mem_cons.mpr ⟨def_of X Gm c 5 5 rfl rfl rfl rfl rfl sc_5 mt_5 fun _ _ _ _ _ _ us hl => (match us, hl with | [_, _], _ => rfl), ?_⟩
  refine List.forall_mem_cons.mpr ⟨def_of X Gm c 6 6 rfl rfl rfl rfl rfl sc_6 mt_6 fun _ _ _ _ _ _ us hl => (match us, hl with | [_, _, _], _ => rfl), ?_⟩
  refine List.forall_mem_cons.mpr ⟨def_of X Gm c 7 7 rfl rfl rfl rfl rfl sc_7 mt_7 fun _ _ _ _ _ _ us hl => (match us, hl with | [_], _ => rfl), ?_⟩
  exact fun _ h => nomatch h
end Law

open PySem PySem.W PySem.Calls PyProof.Rows Law

theorem PySem.Challenge.cw_loopladder_k10_the_ladder_holds : PySem.Challenge.rw_loopladder_k10_the_ladder.Holds := by
  w_on; o_law
  refine HandSHeadRun.head_any (r := OpenLaw.row PySem.Challenge.rw_loopladder_k10_the_ladder) (q := view (OpenLaw.row PySem.Challenge.rw_loopladder_k10_the_ladder).prog [15]) (H := Law.hk) (ob := Law.ob) (M := 20000) (loose := Law.loose) (d := HandSHeadRun.topDef (OpenLaw.row PySem.Challenge.rw_loopladder_k10_the_ladder).prog 15) (kwd := []) Law.ob_eq (by kernel_rfl) (fun s => by kernel_rfl) Law.run (by kernel_rfl) (by kernel_rfl) (by kernel_rfl) (by rfl) (by first | assumption | decide +kernel) (by decide +kernel) ⟨rfl, rfl, rfl, rfl, rfl, by decide +kernel⟩ ?hw ?hc
  case hw => w_witness2
  case hc =>
    refine Lad.walkL (T := Law.T) (f := 85) (fi := f_law_k10) (n := 63) (k := 231) rfl (by decide) (by kernel_rfl) ⟨rfl, by decide, by decide⟩ rfl rfl (by kernel_rfl) (fun w mg h Y Gm => ?_) Law.main
    obtain ⟨K, KX, c⟩ := Y
    exact ⟨⟨K, Law.tl.adr K, []⟩, KX, Lad.tab_of KX Gm c.m (Law.fns_ok KX Gm c)⟩
